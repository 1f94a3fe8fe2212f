import PyProof.Rows.All
import Wide.All
import OpenK.AllK
import Wide.FinOn
import HandS.Words
import HandS.HeadHook1
import HandS.HeadHook2
import PySem.Challenge.RW_gridmetric_k23_whole_alike_or_not
import KE.KStateDown
import HandS.Head0
import HandS.Head1
import HandS.Head2
import HandS.Head3
import HandS.HeadEnd
import HandS.HeadHook3
import HandS.HeadHook4
import HandS.ForMost
import HandS.TupAny
import HandS.TupLe
import HandS.IsInst
import HandS.Defaults
import HandS.OwnEq
import HandS.Conv
import KE.GoesEnum
import KE.GoesMore
import PyProof.InstNe
import KE.KMathG
import HandS.TupMul
import HandS.CallRecv
import KE.SortData
import KE.DataMinMax
import PyProof.EnumMake
import HandS.More
import KE.KDictKeyed
import KE.KDictSum
import KE.KDictCopyH
import Flt.RightSqrt
import KE.OsSortAny
/-! Ta -/
section
set_option Elab.async false
set_option linter.all false
set_option maxRecDepth 100000
set_option maxHeartbeats 4000000
namespace Gm
open PySem PySem.Spec PyProof.Rows L2
def top (i : Nat) : Stmt := PySem.Challenge.pw_gridmetric_k23_whole_alike_or_not.main.body.getD i (.Pass ⟨0, 0, 0, 0⟩)
abbrev sTimesRow : Stmt := top 3
abbrev sLess : Stmt := top 4
abbrev sLeastPlace : Stmt := top 6
abbrev sTurned : Stmt := top 7
abbrev sSwap : Stmt := top 8
abbrev sSwapItems : Stmt := top 9
abbrev sClearColumn : Stmt := top 10
abbrev sIsClear : Stmt := top 11
abbrev sUnfit : Stmt := top 12
abbrev sSmithRows : Stmt := top 13
abbrev sIsInteger : Stmt := top 19
abbrev sRootFloor : Stmt := top 20
abbrev sUpper : Stmt := top 21
abbrev sLower : Stmt := top 22
abbrev sDot : Stmt := top 23
abbrev sChecked : Stmt := top 25
abbrev sUnitRows : Stmt := top 26
abbrev sDeterminant : Stmt := top 27
abbrev sMinor : Stmt := top 28
abbrev sGridInit : Stmt := inClass (top 29) 0
abbrev sGridLen : Stmt := inClass (top 29) 1
abbrev sGridEq : Stmt := inClass (top 29) 3
abbrev sGridSub : Stmt := inClass (top 29) 5
abbrev sGridMul : Stmt := inClass (top 29) 6
abbrev sGridScaled : Stmt := inClass (top 29) 8
abbrev sGridTransposed : Stmt := inClass (top 29) 9
abbrev sGridTimes : Stmt := inClass (top 29) 10
abbrev sGridIsSquare : Stmt := inClass (top 29) 13
abbrev sGridDeterminant : Stmt := inClass (top 29) 14
abbrev sGridAdjugate : Stmt := inClass (top 29) 15
abbrev sGridIsUnimodular : Stmt := inClass (top 29) 16
abbrev sGridInverse : Stmt := inClass (top 29) 17
abbrev sGridSmith : Stmt := inClass (top 29) 20
abbrev sGridFactors : Stmt := inClass (top 29) 21
abbrev sGridIsPrimitive : Stmt := inClass (top 29) 22
abbrev sSquareRows : Stmt := top 34
abbrev sCheckSymmetric : Stmt := top 35
abbrev sLatticeInit : Stmt := inClass (top 36) 0
abbrev sLatticeEq : Stmt := inClass (top 36) 1
abbrev sLatticeContains : Stmt := inClass (top 36) 3
abbrev sLatticeRank : Stmt := inClass (top 36) 5
abbrev sLatticeProduct : Stmt := inClass (top 36) 9
abbrev sLatticeNorm : Stmt := inClass (top 36) 10
abbrev sTailMatrix : Stmt := top 38
abbrev sIsPoint : Stmt := top 39
abbrev sHeadDeterminants : Stmt := top 40
abbrev sChoices : Stmt := top 41
abbrev sNearVectors : Stmt := top 42
abbrev sShortVectors : Stmt := top 43
abbrev sMarkOf : Stmt := top 45
abbrev sIsPrimitive : Stmt := top 46
abbrev sLeastContinued : Stmt := top 47
abbrev sLevels : Stmt := top 48
abbrev sLeastBases : Stmt := top 49
abbrev sGramOfMarks : Stmt := top 50
abbrev sForm : Stmt := top 51
abbrev sAllMaps : Stmt := top 53
abbrev sAlike : Stmt := top 54
abbrev sFindMap : Stmt := top 55
abbrev sLState : Stmt := top 57
abbrev sLTake : Stmt := top 58
abbrev sLGram : Stmt := top 59
abbrev sLUnimodular : Stmt := top 60
abbrev sLProduct : Stmt := top 61
abbrev sLMoved : Stmt := top 62
abbrev sLMinor : Stmt := top 63
abbrev sLDeterminant : Stmt := top 64
abbrev sLRoot : Stmt := top 65
abbrev sLNear : Stmt := top 66
abbrev sLMaps : Stmt := top 67
abbrev sLWider : Stmt := top 68
abbrev sLExchanged : Stmt := top 69
abbrev sL : Stmt := top 70
end Gm
end
/-! Hd -/
section
set_option Elab.async false
set_option linter.all false
set_option maxRecDepth 100000
set_option maxHeartbeats 0
/-! the head: what the module's top leaves -/
namespace Gm
open PySem PySem.Spec PyProof.Rows L2
def dTimesRow : He.DefD := ⟨("_times_row", none), "_times_row", "_times_row", defArgs sTimesRow, defBody sTimesRow, defScope sTimesRow, [], []⟩
def dLess : He.DefD := ⟨("_less", none), "_less", "_less", defArgs sLess, defBody sLess, defScope sLess, [], []⟩
def dLeastPlace : He.DefD := ⟨("_least_place", none), "_least_place", "_least_place", defArgs sLeastPlace, defBody sLeastPlace, defScope sLeastPlace, [], []⟩
def dTurned : He.DefD := ⟨("_turned", none), "_turned", "_turned", defArgs sTurned, defBody sTurned, defScope sTurned, [], []⟩
def dSwap : He.DefD := ⟨("_swap", none), "_swap", "_swap", defArgs sSwap, defBody sSwap, defScope sSwap, [], []⟩
def dSwapItems : He.DefD := ⟨("_swap_items", none), "_swap_items", "_swap_items", defArgs sSwapItems, defBody sSwapItems, defScope sSwapItems, [], []⟩
def dClearColumn : He.DefD := ⟨("_clear_column", none), "_clear_column", "_clear_column", defArgs sClearColumn, defBody sClearColumn, defScope sClearColumn, [], []⟩
def dIsClear : He.DefD := ⟨("_is_clear", none), "_is_clear", "_is_clear", defArgs sIsClear, defBody sIsClear, defScope sIsClear, [], []⟩
def dUnfit : He.DefD := ⟨("_unfit", none), "_unfit", "_unfit", defArgs sUnfit, defBody sUnfit, defScope sUnfit, [], []⟩
def dSmithRows : He.DefD := ⟨("smith_rows", none), "smith_rows", "smith_rows", defArgs sSmithRows, defBody sSmithRows, defScope sSmithRows, [], []⟩
def dIsInteger : He.DefD := ⟨("is_integer", none), "is_integer", "is_integer", defArgs sIsInteger, defBody sIsInteger, defScope sIsInteger, [], []⟩
def dRootFloor : He.DefD := ⟨("root_floor", none), "root_floor", "root_floor", defArgs sRootFloor, defBody sRootFloor, defScope sRootFloor, [], []⟩
def dUpper : He.DefD := ⟨("upper", none), "upper", "upper", defArgs sUpper, defBody sUpper, defScope sUpper, [], []⟩
def dLower : He.DefD := ⟨("lower", none), "lower", "lower", defArgs sLower, defBody sLower, defScope sLower, [], []⟩
def dDot : He.DefD := ⟨("dot", none), "dot", "dot", defArgs sDot, defBody sDot, defScope sDot, [], []⟩
def dChecked : He.DefD := ⟨("_checked", none), "_checked", "_checked", defArgs sChecked, defBody sChecked, defScope sChecked, [], []⟩
def dUnitRows : He.DefD := ⟨("_unit_rows", none), "_unit_rows", "_unit_rows", defArgs sUnitRows, defBody sUnitRows, defScope sUnitRows, [], []⟩
def dDeterminant : He.DefD := ⟨("_determinant", none), "_determinant", "_determinant", defArgs sDeterminant, defBody sDeterminant, defScope sDeterminant, [], []⟩
def dMinor : He.DefD := ⟨("_minor", none), "_minor", "_minor", defArgs sMinor, defBody sMinor, defScope sMinor, [], []⟩
def dGridInit : He.DefD := ⟨("Grid", some "__init__"), "__init__", "Grid.__init__", defArgs sGridInit, defBody sGridInit, defScope sGridInit, [.non], []⟩
def dGridLen : He.DefD := ⟨("Grid", some "__len__"), "__len__", "Grid.__len__", defArgs sGridLen, defBody sGridLen, defScope sGridLen, [], []⟩
def dGridEq : He.DefD := ⟨("Grid", some "__eq__"), "__eq__", "Grid.__eq__", defArgs sGridEq, defBody sGridEq, defScope sGridEq, [], []⟩
def dGridSub : He.DefD := ⟨("Grid", some "__sub__"), "__sub__", "Grid.__sub__", defArgs sGridSub, defBody sGridSub, defScope sGridSub, [], []⟩
def dGridMul : He.DefD := ⟨("Grid", some "__mul__"), "__mul__", "Grid.__mul__", defArgs sGridMul, defBody sGridMul, defScope sGridMul, [], []⟩
def dGridScaled : He.DefD := ⟨("Grid", some "scaled"), "scaled", "Grid.scaled", defArgs sGridScaled, defBody sGridScaled, defScope sGridScaled, [], []⟩
def dGridTransposed : He.DefD := ⟨("Grid", some "transposed"), "transposed", "Grid.transposed", defArgs sGridTransposed, defBody sGridTransposed, defScope sGridTransposed, [], []⟩
def dGridTimes : He.DefD := ⟨("Grid", some "times"), "times", "Grid.times", defArgs sGridTimes, defBody sGridTimes, defScope sGridTimes, [], []⟩
def dGridIsSquare : He.DefD := ⟨("Grid", some "is_square"), "is_square", "Grid.is_square", defArgs sGridIsSquare, defBody sGridIsSquare, defScope sGridIsSquare, [], []⟩
def dGridDeterminant : He.DefD := ⟨("Grid", some "determinant"), "determinant", "Grid.determinant", defArgs sGridDeterminant, defBody sGridDeterminant, defScope sGridDeterminant, [], []⟩
def dGridAdjugate : He.DefD := ⟨("Grid", some "adjugate"), "adjugate", "Grid.adjugate", defArgs sGridAdjugate, defBody sGridAdjugate, defScope sGridAdjugate, [], []⟩
def dGridIsUnimodular : He.DefD := ⟨("Grid", some "is_unimodular"), "is_unimodular", "Grid.is_unimodular", defArgs sGridIsUnimodular, defBody sGridIsUnimodular, defScope sGridIsUnimodular, [], []⟩
def dGridInverse : He.DefD := ⟨("Grid", some "inverse"), "inverse", "Grid.inverse", defArgs sGridInverse, defBody sGridInverse, defScope sGridInverse, [], []⟩
def dGridSmith : He.DefD := ⟨("Grid", some "smith"), "smith", "Grid.smith", defArgs sGridSmith, defBody sGridSmith, defScope sGridSmith, [], []⟩
def dGridFactors : He.DefD := ⟨("Grid", some "factors"), "factors", "Grid.factors", defArgs sGridFactors, defBody sGridFactors, defScope sGridFactors, [], []⟩
def dGridIsPrimitive : He.DefD := ⟨("Grid", some "is_primitive"), "is_primitive", "Grid.is_primitive", defArgs sGridIsPrimitive, defBody sGridIsPrimitive, defScope sGridIsPrimitive, [], []⟩
def dSquareRows : He.DefD := ⟨("square_rows", none), "square_rows", "square_rows", defArgs sSquareRows, defBody sSquareRows, defScope sSquareRows, [], []⟩
def dCheckSymmetric : He.DefD := ⟨("check_symmetric", none), "check_symmetric", "check_symmetric", defArgs sCheckSymmetric, defBody sCheckSymmetric, defScope sCheckSymmetric, [], []⟩
def dLatticeInit : He.DefD := ⟨("Lattice", some "__init__"), "__init__", "Lattice.__init__", defArgs sLatticeInit, defBody sLatticeInit, defScope sLatticeInit, [], []⟩
def dLatticeEq : He.DefD := ⟨("Lattice", some "__eq__"), "__eq__", "Lattice.__eq__", defArgs sLatticeEq, defBody sLatticeEq, defScope sLatticeEq, [], []⟩
def dLatticeContains : He.DefD := ⟨("Lattice", some "__contains__"), "__contains__", "Lattice.__contains__", defArgs sLatticeContains, defBody sLatticeContains, defScope sLatticeContains, [], []⟩
def dLatticeRank : He.DefD := ⟨("Lattice", some "rank"), "rank", "Lattice.rank", defArgs sLatticeRank, defBody sLatticeRank, defScope sLatticeRank, [], []⟩
def dLatticeProduct : He.DefD := ⟨("Lattice", some "product"), "product", "Lattice.product", defArgs sLatticeProduct, defBody sLatticeProduct, defScope sLatticeProduct, [], []⟩
def dLatticeNorm : He.DefD := ⟨("Lattice", some "norm"), "norm", "Lattice.norm", defArgs sLatticeNorm, defBody sLatticeNorm, defScope sLatticeNorm, [], []⟩
def dTailMatrix : He.DefD := ⟨("tail_matrix", none), "tail_matrix", "tail_matrix", defArgs sTailMatrix, defBody sTailMatrix, defScope sTailMatrix, [], []⟩
def dIsPoint : He.DefD := ⟨("is_point", none), "is_point", "is_point", defArgs sIsPoint, defBody sIsPoint, defScope sIsPoint, [], []⟩
def dHeadDeterminants : He.DefD := ⟨("head_determinants", none), "head_determinants", "head_determinants", defArgs sHeadDeterminants, defBody sHeadDeterminants, defScope sHeadDeterminants, [], []⟩
def dChoices : He.DefD := ⟨("choices", none), "choices", "choices", defArgs sChoices, defBody sChoices, defScope sChoices, [], []⟩
def dNearVectors : He.DefD := ⟨("near_vectors", none), "near_vectors", "near_vectors", defArgs sNearVectors, defBody sNearVectors, defScope sNearVectors, [], []⟩
def dShortVectors : He.DefD := ⟨("short_vectors", none), "short_vectors", "short_vectors", defArgs sShortVectors, defBody sShortVectors, defScope sShortVectors, [], []⟩
def dMarkOf : He.DefD := ⟨("mark_of", none), "mark_of", "mark_of", defArgs sMarkOf, defBody sMarkOf, defScope sMarkOf, [], []⟩
def dIsPrimitive : He.DefD := ⟨("is_primitive", none), "is_primitive", "is_primitive", defArgs sIsPrimitive, defBody sIsPrimitive, defScope sIsPrimitive, [], []⟩
def dLeastContinued : He.DefD := ⟨("least_continued", none), "least_continued", "least_continued", defArgs sLeastContinued, defBody sLeastContinued, defScope sLeastContinued, [], []⟩
def dLevels : He.DefD := ⟨("levels", none), "levels", "levels", defArgs sLevels, defBody sLevels, defScope sLevels, [], []⟩
def dLeastBases : He.DefD := ⟨("least_bases", none), "least_bases", "least_bases", defArgs sLeastBases, defBody sLeastBases, defScope sLeastBases, [], []⟩
def dGramOfMarks : He.DefD := ⟨("gram_of_marks", none), "gram_of_marks", "gram_of_marks", defArgs sGramOfMarks, defBody sGramOfMarks, defScope sGramOfMarks, [], []⟩
def dForm : He.DefD := ⟨("form", none), "form", "form", defArgs sForm, defBody sForm, defScope sForm, [], []⟩
def dAllMaps : He.DefD := ⟨("all_maps", none), "all_maps", "all_maps", defArgs sAllMaps, defBody sAllMaps, defScope sAllMaps, [], []⟩
def dAlike : He.DefD := ⟨("alike", none), "alike", "alike", defArgs sAlike, defBody sAlike, defScope sAlike, [], []⟩
def dFindMap : He.DefD := ⟨("find_map", none), "find_map", "find_map", defArgs sFindMap, defBody sFindMap, defScope sFindMap, [], []⟩
def dLState : He.DefD := ⟨("_law_state", none), "_law_state", "_law_state", defArgs sLState, defBody sLState, defScope sLState, [], []⟩
def dLTake : He.DefD := ⟨("_law_take", none), "_law_take", "_law_take", defArgs sLTake, defBody sLTake, defScope sLTake, [], []⟩
def dLGram : He.DefD := ⟨("_law_gram", none), "_law_gram", "_law_gram", defArgs sLGram, defBody sLGram, defScope sLGram, [], []⟩
def dLUnimodular : He.DefD := ⟨("_law_unimodular", none), "_law_unimodular", "_law_unimodular", defArgs sLUnimodular, defBody sLUnimodular, defScope sLUnimodular, [], []⟩
def dLProduct : He.DefD := ⟨("_law_product", none), "_law_product", "_law_product", defArgs sLProduct, defBody sLProduct, defScope sLProduct, [], []⟩
def dLMoved : He.DefD := ⟨("_law_moved", none), "_law_moved", "_law_moved", defArgs sLMoved, defBody sLMoved, defScope sLMoved, [], []⟩
def dLMinor : He.DefD := ⟨("_law_minor", none), "_law_minor", "_law_minor", defArgs sLMinor, defBody sLMinor, defScope sLMinor, [], []⟩
def dLDeterminant : He.DefD := ⟨("_law_determinant", none), "_law_determinant", "_law_determinant", defArgs sLDeterminant, defBody sLDeterminant, defScope sLDeterminant, [], []⟩
def dLRoot : He.DefD := ⟨("_law_root", none), "_law_root", "_law_root", defArgs sLRoot, defBody sLRoot, defScope sLRoot, [], []⟩
def dLNear : He.DefD := ⟨("_law_near", none), "_law_near", "_law_near", defArgs sLNear, defBody sLNear, defScope sLNear, [], []⟩
def dLMaps : He.DefD := ⟨("_law_maps", none), "_law_maps", "_law_maps", defArgs sLMaps, defBody sLMaps, defScope sLMaps, [], []⟩
def dLWider : He.DefD := ⟨("_law_wider", none), "_law_wider", "_law_wider", defArgs sLWider, defBody sLWider, defScope sLWider, [], []⟩
def dLExchanged : He.DefD := ⟨("_law_exchanged", none), "_law_exchanged", "_law_exchanged", defArgs sLExchanged, defBody sLExchanged, defScope sLExchanged, [], []⟩
def dL : He.DefD := ⟨("law", none), "law", "law", defArgs sL, defBody sL, defScope sL, [], []⟩
def fn : List He.DefD := [dTimesRow, dLess, dLeastPlace, dTurned, dSwap, dSwapItems, dClearColumn, dIsClear, dUnfit, dSmithRows, dIsInteger, dRootFloor, dUpper, dLower, dDot, dChecked, dUnitRows, dDeterminant, dMinor, dGridInit, dGridLen, dGridEq, dGridSub, dGridMul, dGridScaled, dGridTransposed, dGridTimes, dGridIsSquare, dGridDeterminant, dGridAdjugate, dGridIsUnimodular, dGridInverse, dGridSmith, dGridFactors, dGridIsPrimitive, dSquareRows, dCheckSymmetric, dLatticeInit, dLatticeEq, dLatticeContains, dLatticeRank, dLatticeProduct, dLatticeNorm, dTailMatrix, dIsPoint, dHeadDeterminants, dChoices, dNearVectors, dShortVectors, dMarkOf, dIsPrimitive, dLeastContinued, dLevels, dLeastBases, dGramOfMarks, dForm, dAllMaps, dAlike, dFindMap, dLState, dLTake, dLGram, dLUnimodular, dLProduct, dLMoved, dLMinor, dLDeterminant, dLRoot, dLNear, dLMaps, dLWider, dLExchanged, dL]
def fa : List He.Fa := [.glo "_times_row", .glo "_less", .glo "_least_place", .glo "_turned", .glo "_swap", .glo "_swap_items", .glo "_clear_column", .glo "_is_clear", .glo "_unfit", .glo "smith_rows", .glo "is_integer", .glo "root_floor", .glo "upper", .glo "lower", .glo "dot", .glo "_checked", .glo "_unit_rows", .glo "_determinant", .glo "_minor", .glo "square_rows", .glo "check_symmetric", .glo "tail_matrix", .glo "is_point", .glo "head_determinants", .glo "choices", .glo "near_vectors", .glo "short_vectors", .glo "mark_of", .glo "is_primitive", .glo "least_continued", .glo "levels", .glo "least_bases", .glo "gram_of_marks", .glo "form", .glo "all_maps", .glo "alike", .glo "find_map", .glo "_law_state", .glo "_law_take", .glo "_law_gram", .glo "_law_unimodular", .glo "_law_product", .glo "_law_moved", .glo "_law_minor", .glo "_law_determinant", .glo "_law_root", .glo "_law_near", .glo "_law_maps", .glo "_law_wider", .glo "_law_exchanged", .glo "law", .glo "Grid", .cls "Grid", .mkr "Grid", .keep "Grid", .meth "Grid" "__len__", .meth "Grid" "__eq__", .meth "Grid" "__sub__", .meth "Grid" "__mul__", .meth "Grid" "scaled", .meth "Grid" "transposed", .meth "Grid" "times", .meth "Grid" "is_square", .meth "Grid" "determinant", .meth "Grid" "adjugate", .meth "Grid" "is_unimodular", .meth "Grid" "inverse", .meth "Grid" "smith", .meth "Grid" "factors", .meth "Grid" "is_primitive", .glo "Lattice", .cls "Lattice", .mkr "Lattice", .keep "Lattice", .meth "Lattice" "__eq__", .meth "Lattice" "__contains__", .meth "Lattice" "rank", .meth "Lattice" "product", .meth "Lattice" "norm", .noat "Grid" "rows", .noat "Grid" "width", .noat "Lattice" "gram", .int "MOST_RANK" 4, .int "MOST_ITEM" 10000, .free "range", .free "len", .free "abs", .free "min", .free "isinstance", .free "int", .free "list", .free "tuple", .free "sum", .free "sorted", .free "zip", .free "enumerate", .free "all", .free "bool"]
/-- an own class, for isinstance -/
def oB (K : PySem.W.Frag) (C : Addr) : Bool := He.eqO (PySem.W.findIn K (.ref C) "__class__") (some (some (.builtin "object.__class__"))) &&
  (He.eqO (PySem.W.specialIn K (.builtin "object.__class__") "__get__") (some (some (.builtin "getset_descriptor.__get__"))) && (decide (PySem.W.takesIn K (.builtin "object.__class__") = some true) &&
  (decide (PySem.W.mroIn K C (.type "object") = some true) && (decide (PySem.W.kitOne K (.ref C) (.ref C) = some true) && decide (PySem.W.kitOne K (.type "list") (.ref C) = some false)))))
def ex (K : PySem.W.Frag) : Bool := He.eqO (PySem.W.nsIn K mainGlobals "isqrt") (some (some (.builtin "math.isqrt"))) && (oB K (He.ga K "Grid") && (oB K (He.ga K "Lattice") && (PySem.W.selfFirst K (He.ga K "Grid") &&
  (He.eqO (PySem.W.findIn K (.ref (He.ga K "Lattice")) "__ne__") (some (some (.builtin "object.__ne__"))) && decide (PySem.W.subIn K (.ref (He.ga K "Lattice")) (.type "object") = some true)))))
abbrev R : PySem.W.OpenRow := PySem.W.OpenLaw.row PySem.Challenge.rw_gridmetric_k23_whole_alike_or_not
abbrev hk : PySem.W.Hook := He.hookX 4 fa fn [] [] ex
def ob (s : PySem.W.SharedT) : He.AlX := He.obsX 4 fa fn [] [] ex (HandSHeadRun.getT s)
def kx (s : PySem.W.SharedT) : PySem.W.Frag := He.frT (HandSHeadRun.getT s) (He.asD (HandSHeadRun.getT s) 4)
theorem ob_eq (s : PySem.W.SharedT) : ob s = hk.obs s.abs := He.obsX_eq (HandSHeadRun.getT_eq s)
def loose0 : List PySem.Str := ["_wall", "_times_row", "_less", "hermite_rows", "_least_place", "_turned", "_swap", "_swap_items", "_clear_column", "_is_clear", "_unfit", "smith_rows", "Fault", "Malformed", "Refused", "is_integer", "root_floor", "upper", "lower", "dot"]
def loose1 : List PySem.Str := ["_checked", "_unit_rows", "_determinant", "_minor", "Grid", "blocks", "MOST_RANK", "MOST_ITEM", "square_rows", "check_symmetric", "Lattice", "tail_matrix", "is_point", "head_determinants", "choices", "near_vectors", "short_vectors", "mark_of", "is_primitive", "least_continued"]
def loose2 : List PySem.Str := ["levels", "least_bases", "gram_of_marks", "form", "all_maps", "alike", "find_map", "_law_state", "_law_take", "_law_gram", "_law_unimodular", "_law_product", "_law_moved", "_law_minor", "_law_determinant", "_law_root", "_law_near", "_law_maps", "_law_wider", "_law_exchanged"]
def loose : List PySem.Str := loose0 ++ loose1 ++ loose2
noncomputable def Wx (w : World) : Option (Shared × PySem.W.SharedT) := HandSHeadRun.wholeF (fun p => HandSHeadRun.stepQ (HandSHeadRun.denQ HandSHeadRun.tabQ) p w) HandSHeadRun.fenceQ 6000 R.prog
abbrev vw : Program := PySem.W.view R.prog [0, 70]
def f2 (x : Shared × PySem.W.SharedT) : Bool := HandSHeadRun.looksF R.prog x.1.heap x.2.abs
end Gm
end
/-! Hd5 -/
section
set_option Elab.async false
set_option linter.all false
set_option maxRecDepth 100000
set_option maxHeartbeats 0
namespace Gm
open PySem PySem.Spec PyProof.Rows L2
theorem hdT5 (w : World) : (Wx w).map (fun x => fa.all fun f => f.ok (kx x.2)) = some true := by
  kernel_rfl
end Gm
end
/-! Hd7 -/
section
set_option Elab.async false
set_option linter.all false
set_option maxRecDepth 100000
set_option maxHeartbeats 0
namespace Gm
open PySem PySem.Spec PyProof.Rows L2
theorem hdT7 (w : World) : (Wx w).map (fun x => fn.all fun d => d.ok (kx x.2)) = some true := by
  kernel_rfl
end Gm
end
/-! Hd6 -/
section
set_option Elab.async false
set_option linter.all false
set_option maxRecDepth 100000
set_option maxHeartbeats 0
namespace Gm
open PySem PySem.Spec PyProof.Rows L2
theorem hdT6 (w : World) : (Wx w).map (fun x => (ob x.2).1.1.2) = some (fn.map He.DefD.val) := by
  kernel_rfl
end Gm
end
/-! Hd4 -/
section
set_option Elab.async false
set_option linter.all false
set_option maxRecDepth 100000
set_option maxHeartbeats 0
namespace Gm
open PySem PySem.Spec PyProof.Rows L2
theorem hdT4 (w : World) : (Wx w).map (fun x => (ob x.2).2) = some true := by
  kernel_rfl
end Gm
end
/-! Hd3 -/
section
set_option Elab.async false
set_option linter.all false
set_option maxRecDepth 100000
set_option maxHeartbeats 0
namespace Gm
open PySem PySem.Spec PyProof.Rows L2
theorem hdT3 (w : World) : (Wx w).map (fun x => HandSHeadRun.seenQ vw loose (importedModules R.prog.main.body) (fun s => PySem.W.xlAt vw [] s && PySem.W.recOk R.toRowW.records s) x.2.abs) = some (PySem.W.openGood vw loose) := by
  kernel_rfl
end Gm
end
/-! Hd2 -/
section
set_option Elab.async false
set_option linter.all false
set_option maxRecDepth 100000
set_option maxHeartbeats 0
namespace Gm
open PySem PySem.Spec PyProof.Rows L2
theorem hdT2 (w : World) : (Wx w).map f2 = some true := by
  kernel_rfl
end Gm
end
/-! Hd1 -/
section
set_option Elab.async false
set_option linter.all false
set_option maxRecDepth 100000
set_option maxHeartbeats 0
namespace Gm
open PySem PySem.Spec PyProof.Rows L2
theorem hdT1 (w : World) : (Wx w).isSome = true := by
  kernel_rfl
end Gm
end
/-! A -/
section
set_option Elab.async false
set_option linter.all false
set_option maxRecDepth 100000
set_option maxHeartbeats 4000000
/-! DL: a layer of plain data over the hand layer: values as trees D, a store of changing lists and instances, readings without a heap. -/
namespace DL
open PySem PySem.Spec PyProof.Rows L2

/-- plain data; adr p: a bare reference to what the store holds at p; sq: a list that is only read (the script) -/
inductive D where
  | int (i : Int)
  | bl (b : Bool)
  | non
  | adr (p : Addr)
  | tup (xs : List D)
  | lst (xs : List D)
  | sq (xs : List D)
  | ins (C : Addr) (fs : List (Str × D))

mutual
inductive At (K : PySem.W.Frag) (G : Hp) : V → D → Prop where
  | int (i : Int) : At K G (.int i) (.int i)
  | bl (b : Bool) : At K G (.bl b) (.bl b)
  | non : At K G .non .non
  | adr (p : Addr) : At K G (.ref p) (.adr p)
  | tup {a : Addr} {vs : List V} {ds : List D} : G a = some (.tup vs) → Ats K G vs ds → At K G (.ref a) (.tup ds)
  | lst {a : Addr} {vs : List V} {ds : List D} : G a = some (.lst vs) → Ats K G vs ds → At K G (.ref a) (.lst ds)
  | sq {a : Addr} {vs : List V} {ds : List D} : SqL K G a vs → Ats K G vs ds → At K G (.ref a) (.sq ds)
  | ins {a C dx : Addr} {gs : List (Str × V)} {fs : List (Str × D)} : G a = some (.ins C dx gs) → AtF K G gs fs → At K G (.ref a) (.ins C fs)
inductive Ats (K : PySem.W.Frag) (G : Hp) : List V → List D → Prop where
  | nil : Ats K G [] []
  | cons {v : V} {d : D} {vs : List V} {ds : List D} : At K G v d → Ats K G vs ds → Ats K G (v :: vs) (d :: ds)
inductive AtF (K : PySem.W.Frag) (G : Hp) : List (Str × V) → List (Str × D) → Prop where
  | nil : AtF K G [] []
  | cons {x : Str} {v : V} {d : D} {gs : List (Str × V)} {fs : List (Str × D)} : At K G v d → AtF K G gs fs → AtF K G ((x, v) :: gs) ((x, d) :: fs)
end

section
variable {K : PySem.W.Frag} {G G' : Hp}
mutual
theorem At.mono (s : Same G G') : ∀ {v : V} {d : D}, At K G v d → At K G' v d
  | _, _, .int i => .int i
  | _, _, .bl b => .bl b
  | _, _, .non => .non
  | _, _, .adr p => .adr p
  | _, _, .tup h t => .tup (s _ _ h) (Ats.mono s t)
  | _, _, .lst h t => .lst (s _ _ h) (Ats.mono s t)
  | _, _, .sq h t => .sq (Same.seq s h) (Ats.mono s t)
  | _, _, .ins h t => .ins (s _ _ h) (AtF.mono s t)
theorem Ats.mono (s : Same G G') : ∀ {vs : List V} {ds : List D}, Ats K G vs ds → Ats K G' vs ds
  | _, _, .nil => .nil
  | _, _, .cons h t => .cons (At.mono s h) (Ats.mono s t)
theorem AtF.mono (s : Same G G') : ∀ {gs : List (Str × V)} {fs : List (Str × D)}, AtF K G gs fs → AtF K G' gs fs
  | _, _, .nil => .nil
  | _, _, .cons h t => .cons (At.mono s h) (AtF.mono s t)
end
theorem Ats.length : ∀ {vs : List V} {ds : List D}, Ats K G vs ds → vs.length = ds.length
  | _, _, .nil => rfl
  | _, _, .cons _ t => congrArg (· + 1) (Ats.length t)
theorem Ats.get : ∀ {vs : List V} {ds : List D} {i : Nat} {d : D}, Ats K G vs ds → ds[i]? = some d → ∃ v, vs[i]? = some v ∧ At K G v d
  | _, _, _, _, .nil, e => by simp at e
  | _, _, 0, _, .cons h _, e => ⟨_, rfl, (Option.some.inj e) ▸ h⟩
  | _, _, i + 1, _, .cons _ t, e => Ats.get (i := i) t (by simpa using e)
theorem Ats.get' {vs : List V} {ds : List D} {i : Nat} {v : V} (t : Ats K G vs ds) (e : vs[i]? = some v) : ∃ d, ds[i]? = some d ∧ At K G v d := by
  have hl := t.length
  have hi : i < ds.length := hl ▸ (List.getElem?_eq_some_iff.mp e).1
  obtain ⟨w, hw, a⟩ := t.get (List.getElem?_eq_getElem hi)
  rw [e] at hw
  cases hw
  exact ⟨_, List.getElem?_eq_getElem hi, a⟩
theorem Ats.set {v : V} {d : D} (h : At K G v d) : ∀ {vs : List V} {ds : List D} (i : Nat), Ats K G vs ds → Ats K G (vs.set i v) (ds.set i d)
  | _, _, _, .nil => .nil
  | _, _, 0, .cons _ t => .cons h t
  | _, _, i + 1, .cons q t => .cons q (Ats.set h i t)
theorem Ats.append : ∀ {vs ws : List V} {ds es : List D}, Ats K G vs ds → Ats K G ws es → Ats K G (vs ++ ws) (ds ++ es)
  | _, _, _, _, .nil, s => s
  | _, _, _, _, .cons h t, s => .cons h (Ats.append t s)
theorem Ats.take : ∀ {vs : List V} {ds : List D} (n : Nat), Ats K G vs ds → Ats K G (vs.take n) (ds.take n)
  | _, _, 0, _ => .nil
  | _, _, _ + 1, .nil => .nil
  | _, _, n + 1, .cons h t => .cons h (Ats.take n t)
theorem Ats.drop : ∀ {vs : List V} {ds : List D} (n : Nat), Ats K G vs ds → Ats K G (vs.drop n) (ds.drop n)
  | _, _, 0, t => t
  | _, _, _ + 1, .nil => .nil
  | _, _, n + 1, .cons _ t => Ats.drop n t
theorem Ats.snoc {vs : List V} {ds : List D} {v : V} {d : D} (t : Ats K G vs ds) (h : At K G v d) : Ats K G (vs ++ [v]) (ds ++ [d]) := t.append (.cons h .nil)
theorem Ats.ints : ∀ {vs : List V} {ns : List Int}, Ats K G vs (ns.map D.int) → vs = ns.map V.int
  | _, [], .nil => rfl
  | _, n :: ns, .cons h t => by
    cases h
    rw [Ats.ints (ns := ns) t]
    rfl
theorem Ats.of_ints : ∀ (ns : List Int), Ats K G (ns.map V.int) (ns.map D.int)
  | [] => .nil
  | n :: ns => .cons (.int n) (Ats.of_ints ns)
theorem AtF.look : ∀ {gs : List (Str × V)} {fs : List (Str × D)} {f : Str} {d : D}, AtF K G gs fs → fs.lookup f = some d → ∃ v, gs.lookup f = some v ∧ At K G v d
  | _, _, _, _, .nil, e => by simp at e
  | _, _, f, d, .cons (x := x) h t, e => by
    rw [List.lookup_cons] at e ⊢
    cases q : f == x with
    | true =>
      rw [q] at e
      cases e
      exact ⟨_, rfl, h⟩
    | false =>
      rw [q] at e
      exact AtF.look t e
theorem AtF.none : ∀ {gs : List (Str × V)} {fs : List (Str × D)} {f : Str}, AtF K G gs fs → fs.lookup f = Option.none → gs.lookup f = Option.none
  | _, _, _, .nil, _ => rfl
  | _, _, f, .cons (x := x) h t, e => by
    rw [List.lookup_cons] at e ⊢
    cases q : f == x with
    | true =>
      rw [q] at e
      cases e
    | false =>
      rw [q] at e
      exact AtF.none t e
theorem AtF.length : ∀ {gs : List (Str × V)} {fs : List (Str × D)}, AtF K G gs fs → gs.length = fs.length
  | _, _, .nil => rfl
  | _, _, .cons _ t => congrArg (· + 1) (AtF.length t)
end

/-- what the store holds at an address -/
inductive MO where
  | lst (ds : List D)
  | ins (C : Addr) (fs : List (Str × D))
  | ext (o : HO) (Φ : Hp → Prop)
abbrev Sto := Addr → Option MO
def Sto.put (μ : Sto) (p : Addr) (o : MO) : Sto := fun b => if b = p then some o else μ b
def Sto.del (μ : Sto) (p : Addr) : Sto := fun b => if b = p then none else μ b
theorem Sto.put_same {μ : Sto} {p : Addr} {o : MO} : μ.put p o p = some o := if_pos rfl
theorem Sto.put_ne {μ : Sto} {p b : Addr} {o : MO} (h : b ≠ p) : μ.put p o b = μ b := if_neg h
theorem Sto.del_same {μ : Sto} {p : Addr} : μ.del p p = none := if_pos rfl
theorem Sto.del_ne {μ : Sto} {p b : Addr} (h : b ≠ p) : μ.del p b = μ b := if_neg h
theorem Sto.put_put {μ : Sto} {p : Addr} {o u : MO} : (μ.put p o).put p u = μ.put p u := by
  funext b
  unfold Sto.put
  split <;> rfl
theorem Sto.del_put {μ : Sto} {p : Addr} {o : MO} (h : μ p = none) : (μ.put p o).del p = μ := by
  funext b
  by_cases e : b = p
  · rw [e, Sto.del_same, h]
  · rw [Sto.del_ne e, Sto.put_ne e]
theorem Sto.put_comm {μ : Sto} {p q : Addr} {o u : MO} (h : p ≠ q) : (μ.put p o).put q u = (μ.put q u).put p o := by
  funext b
  unfold Sto.put
  by_cases e : b = q
  · rw [if_pos e]
    by_cases e2 : b = p
    · exact absurd (e2.symm.trans e) h
    · rw [if_neg e2, if_pos e]
  · rw [if_neg e]
    by_cases e2 : b = p
    · rw [if_pos e2, if_pos e2]
    · rw [if_neg e2, if_neg e2, if_neg e]

def MoAt (K : PySem.W.Frag) (G H : Hp) (p : Addr) : MO → Prop
  | .lst ds => ∃ vs, H p = some (.lst vs) ∧ Ats K G vs ds
  | .ins C fs => ∃ dx gs, H p = some (.ins C dx gs) ∧ AtF K G gs fs
  | .ext o Φ => H p = some o ∧ ∀ G', Same G G' → Φ G'

/-- the heap in three parts: G what never changes again, F the surroundings, μ the store -/
structure S (K : PySem.W.Frag) (G H F : Hp) (μ : Sto) : Prop where
  gh : Same G H
  fh : Same F H
  fg : ∀ p o, F p = some o → G p = none ∧ μ p = none
  st : ∀ p o, μ p = some o → G p = none ∧ MoAt K G H p o

section
variable {K : PySem.W.Frag} {G G' H H' F : Hp} {μ : Sto}
theorem Same.upd {H : Hp} {p : Addr} {o : HO} (h : H p = none) : Same H (upd H p o) := fun b u e => by
  rw [upd_ne (ne_of_none e h)]
  exact e
theorem MoAt.mono {p : Addr} {o : MO} (g : Same G G') (h : H p = H' p) (m : MoAt K G H p o) : MoAt K G' H' p o := by
  cases o with
  | lst ds =>
    obtain ⟨vs, e, t⟩ := m
    exact ⟨vs, h ▸ e, t.mono g⟩
  | ins C fs =>
    obtain ⟨dx, gs, e, t⟩ := m
    exact ⟨dx, gs, h ▸ e, t.mono g⟩
  | ext o Φ => exact ⟨h ▸ m.1, fun G2 g2 => m.2 G2 (g.trans g2)⟩
theorem MoAt.there {p : Addr} {o : MO} (m : MoAt K G H p o) : H p ≠ none := by
  cases o with
  | lst ds =>
    obtain ⟨vs, e, _⟩ := m
    rw [e]
    exact fun z => nomatch z
  | ins C fs =>
    obtain ⟨dx, gs, e, _⟩ := m
    rw [e]
    exact fun z => nomatch z
  | ext o Φ =>
    rw [m.1]
    exact fun z => nomatch z
theorem S.fresh {p : Addr} (s : S K G H F μ) (h : H p = none) : G p = none ∧ F p = none ∧ μ p = none := by
  refine ⟨?_, ?_, ?_⟩
  · cases e : G p with
    | none => rfl
    | some o =>
      have := s.gh p o e
      rw [h] at this
      cases this
  · cases e : F p with
    | none => rfl
    | some o =>
      have := s.fh p o e
      rw [h] at this
      cases this
  · cases e : μ p with
    | none => rfl
    | some o => exact absurd h (s.st p o e).2.there
/-- a new thing that never changes -/
theorem S.new {p : Addr} {o : HO} (s : S K G H F μ) (h : H p = none) : S K (upd G p o) (upd H p o) F μ := by
  obtain ⟨h1, h2, h3⟩ := s.fresh h
  refine ⟨fun b u e => ?_, s.fh.trans (Same.upd h), fun b u e => ?_, fun b u e => ?_⟩
  · by_cases hb : b = p
    · subst hb
      rw [upd_same] at e ⊢
      exact e
    · rw [upd_ne hb] at e ⊢
      exact s.gh b u e
  · have hb : b ≠ p := fun z => by
      rw [z, h2] at e
      cases e
    rw [upd_ne hb]
    exact s.fg b u e
  · have hb : b ≠ p := fun z => by
      rw [z, h3] at e
      cases e
    rw [upd_ne hb]
    exact ⟨(s.st b u e).1, (s.st b u e).2.mono (Same.upd h1) (upd_ne hb).symm⟩
/-- a new list of the store -/
theorem S.newLst {p : Addr} {vs : List V} {ds : List D} (s : S K G H F μ) (h : H p = none) (t : Ats K G vs ds) : S K G (upd H p (.lst vs)) F (μ.put p (.lst ds)) := by
  obtain ⟨h1, h2, h3⟩ := s.fresh h
  refine ⟨s.gh.trans (Same.upd h), s.fh.trans (Same.upd h), fun b u e => ?_, fun b u e => ?_⟩
  · have hb : b ≠ p := fun z => by
      rw [z, h2] at e
      cases e
    rw [Sto.put_ne hb]
    exact s.fg b u e
  · by_cases hb : b = p
    · subst hb
      rw [Sto.put_same] at e
      cases e
      exact ⟨h1, vs, upd_same, t⟩
    · rw [Sto.put_ne hb] at e
      exact ⟨(s.st b u e).1, (s.st b u e).2.mono (Same.refl _) (upd_ne hb).symm⟩
/-- what the store holds at p is changed -/
theorem S.write {p : Addr} {o : HO} {m m' : MO} (s : S K G H F μ) (h : μ p = some m) (t : MoAt K G (upd H p o) p m') : S K G (upd H p o) F (μ.put p m') := by
  obtain ⟨h1, h2⟩ := s.st p m h
  have nf : F p = none := by
    cases e : F p with
    | none => rfl
    | some u =>
      have := (s.fg p u e).2
      rw [h] at this
      cases this
  have keep : ∀ (M : Hp), M p = none → Same M H → Same M (upd H p o) := fun M n k b u e => by
    have hb : b ≠ p := fun z => by
      rw [z, n] at e
      cases e
    rw [upd_ne hb]
    exact k b u e
  refine ⟨keep G h1 s.gh, keep F nf s.fh, fun b u e => ?_, fun b u e => ?_⟩
  · have hb : b ≠ p := fun z => by
      rw [z, nf] at e
      cases e
    rw [Sto.put_ne hb]
    exact s.fg b u e
  · by_cases hb : b = p
    · subst hb
      rw [Sto.put_same] at e
      cases e
      exact ⟨h1, t⟩
    · rw [Sto.put_ne hb] at e
      exact ⟨(s.st b u e).1, (s.st b u e).2.mono (Same.refl _) (upd_ne hb).symm⟩
/-- a list of the store never changes again -/
theorem S.freeze {p : Addr} {ds : List D} (s : S K G H F μ) (h : μ p = some (.lst ds)) : ∃ vs, Same G (upd G p (.lst vs)) ∧ S K (upd G p (.lst vs)) H F (μ.del p) ∧ At K (upd G p (.lst vs)) (.ref p) (.lst ds) := by
  obtain ⟨h1, vs, e1, t⟩ := s.st p _ h
  have sg : Same G (upd G p (.lst vs)) := Same.upd h1
  refine ⟨vs, sg, ⟨fun b u e => ?_, s.fh, fun b u e => ?_, fun b u e => ?_⟩, .lst upd_same (t.mono sg)⟩
  · by_cases hb : b = p
    · subst hb
      rw [upd_same] at e
      cases e
      exact e1
    · rw [upd_ne hb] at e
      exact s.gh b u e
  · obtain ⟨f1, f2⟩ := s.fg b u e
    have hb : b ≠ p := fun z => by
      rw [z, h] at f2
      cases f2
    rw [upd_ne hb, Sto.del_ne hb]
    exact ⟨f1, f2⟩
  · have hb : b ≠ p := fun z => by
      rw [z, Sto.del_same] at e
      cases e
    rw [Sto.del_ne hb] at e
    rw [upd_ne hb]
    exact ⟨(s.st b u e).1, (s.st b u e).2.mono sg rfl⟩
/-- an instance of the store never changes again -/
theorem S.freezeI {p C : Addr} {fs : List (Str × D)} (s : S K G H F μ) (h : μ p = some (.ins C fs)) : ∃ o, Same G (upd G p o) ∧ S K (upd G p o) H F (μ.del p) ∧ At K (upd G p o) (.ref p) (.ins C fs) := by
  obtain ⟨h1, dx, gs, e1, t⟩ := s.st p _ h
  have sg : Same G (upd G p (.ins C dx gs)) := Same.upd h1
  refine ⟨_, sg, ⟨fun b u e => ?_, s.fh, fun b u e => ?_, fun b u e => ?_⟩, .ins upd_same (t.mono sg)⟩
  · by_cases hb : b = p
    · subst hb
      rw [upd_same] at e
      cases e
      exact e1
    · rw [upd_ne hb] at e
      exact s.gh b u e
  · obtain ⟨f1, f2⟩ := s.fg b u e
    have hb : b ≠ p := fun z => by
      rw [z, h] at f2
      cases f2
    rw [upd_ne hb, Sto.del_ne hb]
    exact ⟨f1, f2⟩
  · have hb : b ≠ p := fun z => by
      rw [z, Sto.del_same] at e
      cases e
    rw [Sto.del_ne hb] at e
    rw [upd_ne hb]
    exact ⟨(s.st b u e).1, (s.st b u e).2.mono sg rfl⟩
/-- one thing more in the surroundings, and back -/
theorem S.frame {p : Addr} {o : HO} (s : S K G H F μ) (h : H p = none) : S K G (upd H p o) (upd F p o) μ := by
  obtain ⟨h1, h2, h3⟩ := s.fresh h
  refine ⟨s.gh.trans (Same.upd h), fun b u e => ?_, fun b u e => ?_, fun b u e => ?_⟩
  · by_cases hb : b = p
    · subst hb
      rw [upd_same] at e ⊢
      exact e
    · rw [upd_ne hb] at e ⊢
      exact s.fh b u e
  · by_cases hb : b = p
    · subst hb
      exact ⟨h1, h3⟩
    · rw [upd_ne hb] at e
      exact s.fg b u e
  · have hb : b ≠ p := fun z => by
      rw [z, h3] at e
      cases e
    exact ⟨(s.st b u e).1, (s.st b u e).2.mono (Same.refl _) (upd_ne hb).symm⟩
theorem S.frameWrite {p : Addr} {o u : HO} (s : S K G H (upd F p u) μ) : S K G (upd H p o) (upd F p o) μ := by
  obtain ⟨h1, h3⟩ := s.fg p u upd_same
  refine ⟨fun b v e => ?_, fun b v e => ?_, fun b v e => ?_, fun b v e => ?_⟩
  · have hb : b ≠ p := fun z => by
      rw [z, h1] at e
      cases e
    rw [upd_ne hb]
    exact s.gh b v e
  · by_cases hb : b = p
    · subst hb
      rw [upd_same] at e ⊢
      exact e
    · rw [upd_ne hb] at e ⊢
      exact s.fh b v (by rw [upd_ne hb]; exact e)
  · by_cases hb : b = p
    · subst hb
      exact ⟨h1, h3⟩
    · rw [upd_ne hb] at e
      exact s.fg b v (by rw [upd_ne hb]; exact e)
  · have hb : b ≠ p := fun z => by
      rw [z, h3] at e
      cases e
    exact ⟨(s.st b v e).1, (s.st b v e).2.mono (Same.refl _) (upd_ne hb).symm⟩
theorem S.unframe {p : Addr} {u : HO} (s : S K G H (upd F p u) μ) (h : F p = none) : H p = some u ∧ Same G (upd G p u) ∧ S K (upd G p u) H F μ ∧ S K G H F μ := by
  obtain ⟨h1, h3⟩ := s.fg p u upd_same
  have hp : H p = some u := s.fh p u upd_same
  have ff : ∀ b v, F b = some v → b ≠ p := fun b v e z => by
    rw [z, h] at e
    cases e
  refine ⟨hp, Same.upd h1, ⟨fun b v e => ?_, fun b v e => s.fh b v (by rw [upd_ne (ff b v e)]; exact e), fun b v e => ?_, fun b v e => ?_⟩, ⟨s.gh, fun b v e => s.fh b v (by rw [upd_ne (ff b v e)]; exact e), fun b v e => s.fg b v (by rw [upd_ne (ff b v e)]; exact e), s.st⟩⟩
  · by_cases hb : b = p
    · subst hb
      rw [upd_same] at e
      cases e
      exact hp
    · rw [upd_ne hb] at e
      exact s.gh b v e
  · rw [upd_ne (ff b v e)]
    exact s.fg b v (by rw [upd_ne (ff b v e)]; exact e)
  · have hb : b ≠ p := fun z => by
      rw [z, h3] at e
      cases e
    rw [upd_ne hb]
    exact ⟨(s.st b v e).1, (s.st b v e).2.mono (Same.upd h1) rfl⟩
end

/-! ### readings over data -/
abbrev Ev := List (Option D)
def EvAt (K : PySem.W.Frag) (G : Hp) (σ : L2.St) (ρ : Ev) : Prop := σ.length = ρ.length ∧ ∀ (i : Nat) (d : D), ρ[i]? = some (some d) → ∃ v, σ[i]? = some (some v) ∧ At K G v d
abbrev RD := D → Sto → Prop
abbrev TD := Ev → Sto → RD → Prop
abbrev TDT := Ev → Sto → (Bool → Sto → Prop) → Prop
abbrev TDA := Ev → Sto → (List D → Sto → Prop) → Prop
abbrev TDG := D → Ev → Sto → (Ev → Sto → Prop) → Prop
abbrev TDGs := List D → Ev → Sto → (Ev → Sto → Prop) → Prop
abbrev TDI := Ev → Sto → (List D → (Sto → Prop) → Sto → Prop) → Prop
abbrev TD2 := D → D → Sto → RD → Prop
structure DEnds where
  nx : Ev → Sto → Prop
  rt : RD
  bk : Ev → Sto → Prop := fun _ _ => False
  ct : Ev → Sto → Prop := fun _ _ => False
abbrev TDS := DEnds → Ev → Sto → Prop

section
variable {K : PySem.W.Frag} {G G' H F : Hp} {μ : Sto} {σ : L2.St} {ρ : Ev}
theorem EvAt.mono (s : Same G G') (e : EvAt K G σ ρ) : EvAt K G' σ ρ := ⟨e.1, fun i d h => let ⟨v, h1, h2⟩ := e.2 i d h; ⟨v, h1, h2.mono s⟩⟩
theorem EvAt.set {v : V} {d : D} (e : EvAt K G σ ρ) (i : Nat) (h : At K G v d) : EvAt K G (σ.set i (some v)) (ρ.set i (some d)) := by
  refine ⟨by rw [List.length_set, List.length_set]; exact e.1, fun j d' hj => ?_⟩
  by_cases hij : i = j
  · subst hij
    by_cases hl : i < ρ.length
    · rw [List.getElem?_set_self hl] at hj
      cases hj
      exact ⟨v, List.getElem?_set_self (by rw [e.1]; exact hl), h⟩
    · rw [List.getElem?_eq_none (by rw [List.length_set]; omega)] at hj
      cases hj
  · rw [List.getElem?_set_ne hij] at hj ⊢
    exact e.2 j d' hj
/-- the name in the i-th slot -/
def dGet : Ev → Nat → (D → Prop) → Prop
  | [], _, _ => False
  | o :: _, 0, k => match o with
    | some d => k d
    | none => False
  | _ :: r, i + 1, k => dGet r i k
theorem dGet_ok : ∀ {ρ : Ev} {i : Nat} {k : D → Prop}, dGet ρ i k → ∃ d, ρ[i]? = some (some d) ∧ k d
  | [], _, _, h => h.elim
  | none :: _, 0, _, h => h.elim
  | some d :: _, 0, _, h => ⟨d, rfl, h⟩
  | o :: r, i + 1, _, h => by simpa using dGet_ok (ρ := r) (i := i) h
end

/-- what an answer must meet -/
abbrev Fin (K : PySem.W.Frag) (G F : Hp) (R : RD) (Q : VK) : Prop := ∀ (d : D) (μ' : Sto) (v : V) (G' H' : Hp), R d μ' → Same G G' → S K G' H' F μ' → At K G' v d → Q v H'
def AdE (K : PySem.W.Frag) (t : TE) (φ : TD) : Prop := ∀ (σ : L2.St) (H G F : Hp) (ρ : Ev) (μ : Sto) (R : RD) (Q : VK), S K G H F μ → EvAt K G σ ρ → φ ρ μ R → Fin K G F R Q → t σ H Q
def AdT (K : PySem.W.Frag) (t : TT) (φ : TDT) : Prop := ∀ (σ : L2.St) (H G F : Hp) (ρ : Ev) (μ : Sto) (R : Bool → Sto → Prop) (Q : Bool → Hp → Prop), S K G H F μ → EvAt K G σ ρ → φ ρ μ R →
  (∀ (b : Bool) (μ' : Sto) (G' H' : Hp), R b μ' → Same G G' → S K G' H' F μ' → Q b H') → t σ H Q
def AdA (K : PySem.W.Frag) (t : TA) (φ : TDA) : Prop := ∀ (σ : L2.St) (H G F : Hp) (ρ : Ev) (μ : Sto) (R : List D → Sto → Prop) (Q : List V → Hp → Prop), S K G H F μ → EvAt K G σ ρ → φ ρ μ R →
  (∀ (ds : List D) (μ' : Sto) (vs : List V) (G' H' : Hp), R ds μ' → Same G G' → S K G' H' F μ' → Ats K G' vs ds → Q vs H') → t σ H Q
structure EndsOk (K : PySem.W.Frag) (G F : Hp) (R : DEnds) (E : Ends) : Prop where
  nx : ∀ ρ μ σ G' H, R.nx ρ μ → Same G G' → S K G' H F μ → EvAt K G' σ ρ → E.nx σ H
  rt : Fin K G F R.rt E.rt
  bk : ∀ ρ μ σ G' H, R.bk ρ μ → Same G G' → S K G' H F μ → EvAt K G' σ ρ → E.bk σ H
  ct : ∀ ρ μ σ G' H, R.ct ρ μ → Same G G' → S K G' H F μ → EvAt K G' σ ρ → E.ct σ H
theorem EndsOk.mono {K : PySem.W.Frag} {G G' F : Hp} {R : DEnds} {E : Ends} (h : EndsOk K G F R E) (s : Same G G') : EndsOk K G' F R E :=
  ⟨fun ρ μ σ G2 H a b => h.nx ρ μ σ G2 H a (s.trans b), fun d μ v G2 H a b => h.rt d μ v G2 H a (s.trans b), fun ρ μ σ G2 H a b => h.bk ρ μ σ G2 H a (s.trans b), fun ρ μ σ G2 H a b => h.ct ρ μ σ G2 H a (s.trans b)⟩
def AdS (K : PySem.W.Frag) (t : TS) (φ : TDS) : Prop := ∀ (σ : L2.St) (H G F : Hp) (ρ : Ev) (μ : Sto) (R : DEnds) (E : Ends), S K G H F μ → EvAt K G σ ρ → φ R ρ μ → EndsOk K G F R E → t E σ H
def AdG (K : PySem.W.Frag) (t : TG) (γ : TDG) : Prop := ∀ (v : V) (d : D) (σ : L2.St) (H G F : Hp) (ρ : Ev) (μ : Sto) (R : Ev → Sto → Prop) (Q : L2.St → Hp → Prop), S K G H F μ → EvAt K G σ ρ → At K G v d → γ d ρ μ R →
  (∀ ρ' μ' σ' G' H', R ρ' μ' → Same G G' → S K G' H' F μ' → EvAt K G' σ' ρ' → Q σ' H') → t v σ H Q
def AdGs (K : PySem.W.Frag) (t : TGs) (γ : TDGs) : Prop := ∀ (vs : List V) (ds : List D) (σ : L2.St) (H G F : Hp) (ρ : Ev) (μ : Sto) (R : Ev → Sto → Prop) (Q : L2.St → Hp → Prop), S K G H F μ → EvAt K G σ ρ → Ats K G vs ds → γ ds ρ μ R →
  (∀ ρ' μ' σ' G' H', R ρ' μ' → Same G G' → S K G' H' F μ' → EvAt K G' σ' ρ' → Q σ' H') → t vs σ H Q
def AdO (K : PySem.W.Frag) (r : R2) (ψ : TD2) : Prop := ∀ (x y : V) (dx dy : D) (H G F : Hp) (μ : Sto) (R : RD) (Q : VK), S K G H F μ → At K G x dx → At K G y dy → ψ dx dy μ R → Fin K G F R Q → r x y H Q

structure DE (K : PySem.W.Frag) (X : Cx) (e : Expr) (t : TE) (φ : TD) : Prop where
  eK : X.K = K
  pe : PE X e t
  ad : AdE K t φ
structure DT (K : PySem.W.Frag) (X : Cx) (e : Expr) (t : TT) (φ : TDT) : Prop where
  eK : X.K = K
  pt : PT X e t
  ad : AdT K t φ
structure DW (K : PySem.W.Frag) (X : Cx) (e : Expr) (t : TT) (φ : TDT) : Prop where
  eK : X.K = K
  pw : PW X e t
  ad : AdT K t φ
structure DA (K : PySem.W.Frag) (X : Cx) (es : List Expr) (t : TA) (φ : TDA) : Prop where
  eK : X.K = K
  pa : PA X es t
  ad : AdA K t φ
structure DS (K : PySem.W.Frag) (X : Cx) (st : Stmt) (t : TS) (φ : TDS) : Prop where
  eK : X.K = K
  ps : PS X st t
  ad : AdS K t φ
structure DSs (K : PySem.W.Frag) (X : Cx) (st : List Stmt) (t : TS) (φ : TDS) : Prop where
  eK : X.K = K
  pss : PSs X st t
  ad : AdS K t φ
structure DG (K : PySem.W.Frag) (X : Cx) (e : Expr) (t : TG) (γ : TDG) : Prop where
  eK : X.K = K
  pg : PG X e t
  ad : AdG K t γ
structure DGs (K : PySem.W.Frag) (X : Cx) (e : List Expr) (t : TGs) (γ : TDGs) : Prop where
  eK : X.K = K
  pgs : PGs X e t
  ad : AdGs K t γ
structure DOp (K : PySem.W.Frag) (X : Cx) (f : Value → Value → Sem Value) (r : R2) (ψ : TD2) : Prop where
  eK : X.K = K
  op : OpR X f r
  ad : AdO K r ψ
end DL
end
/-! B -/
section
set_option Elab.async false
set_option linter.all false
set_option maxRecDepth 100000
set_option maxHeartbeats 4000000
namespace DL
open PySem PySem.Spec PyProof.Rows L2
variable {K : PySem.W.Frag}

section
variable {X : Cx} {pos : Pos}
/-! ### names, constants -/
def dVar (i : Nat) : TD := fun ρ μ R => dGet ρ i fun d => R d μ
theorem ad_var {K : PySem.W.Frag} (i : Nat) : AdE K (tVar i) (dVar i) := by
  intro σ H G F ρ μ R Q s e h k
  obtain ⟨d, h1, h2⟩ := dGet_ok h
  obtain ⟨v, h3, h4⟩ := e.2 _ _ h1
  exact ⟨v, h3, k d μ v G H h2 (Same.refl _) s h4⟩
theorem dv (i : Nat) {x : Str} {pos : Pos} (hN : X.N[i]? = some x := by rfl) (hv : Vis X.env.scope x := by first | exact Or.inl rfl | exact Or.inr (Or.inl rfl) | exact Or.inr (Or.inr rfl)) (hd : (x == ("__debug__" : Str)) = false := by decide)
    (hcd : (x == ("__classdict__" : Str)) = false := by decide) (hK : X.K = K := by rfl) : DE K X (.Name x pos) (tVar i) (dVar i) := by
  subst hK
  exact ⟨rfl, pe_var hN hv hd hcd, ad_var i⟩
def dC (d : D) : TD := fun _ μ R => R d μ
theorem ad_c {K : PySem.W.Frag} {v : V} {d : D} (h : ∀ G, At K G v d) : AdE K (tC v) (dC d) := fun σ H G F ρ μ R Q s e hr k => k d μ v G H hr (Same.refl _) s (h G)
theorem d_int {i j} (hK : X.K = K := by rfl) : DE K X (.Constant (.int i) j pos) (tC (.int i)) (dC (.int i)) := by
  subst hK
  exact ⟨rfl, pe_int, ad_c fun _ => .int i⟩
theorem d_bl {b j} (hK : X.K = K := by rfl) : DE K X (.Constant (.bool b) j pos) (tC (.bl b)) (dC (.bl b)) := by
  subst hK
  exact ⟨rfl, pe_bl, ad_c fun _ => .bl b⟩
theorem d_non {j} (hK : X.K = K := by rfl) : DE K X (.Constant .none j pos) (tC .non) (dC .non) := by
  subst hK
  exact ⟨rfl, pe_non, ad_c fun _ => .non⟩
/-- a module's constant that is an int -/
theorem d_gint {x : Str} {i : Int} {u : Value} (hg : Gl X x) (hm : X.mg x = some u) (r : RelV (.int i) u) (hd : (x == ("__debug__" : Str)) = false := by decide) (hK : X.K = K := by rfl) : DE K X (.Name x pos) (tC (.int i)) (dC (.int i)) := by
  subst hK
  exact ⟨rfl, pe_glob hg hm r hd, ad_c fun _ => .int i⟩
/-! ### operators of two values -/
def d2 (ψ : TD2) (φa φb : TD) : TD := fun ρ μ R => φa ρ μ fun x μ1 => φb ρ μ1 fun y μ2 => ψ x y μ2 R
theorem ad_2 {K : PySem.W.Frag} {r : R2} {ψ : TD2} {ta tb : TE} {φa φb : TD} (o : AdO K r ψ) (a : AdE K ta φa) (b : AdE K tb φb) : AdE K (tOp r ta tb) (d2 ψ φa φb) := by
  intro σ H G F ρ μ R Q s e h k
  refine a σ H G F ρ μ _ _ s e h fun x μ1 v1 G1 H1 hb g1 s1 a1 => ?_
  refine b σ H1 G1 F ρ μ1 _ _ s1 (e.mono g1) hb fun y μ2 v2 G2 H2 ho g2 s2 a2 => ?_
  exact o v1 v2 x y H2 G2 F μ2 R Q s2 (a1.mono g2) a2 ho fun d μ' v G' H' r g s' a => k d μ' v G' H' r ((g1.trans g2).trans g) s' a
variable {a b c : Expr} {ta tb tc : TE} {φa φb φc : TD} {r : R2} {ψ : TD2}
theorem d_bin {op : Operator} (o : DOp K X (binaryOp op) r ψ) (ha : DE K X a ta φa) (hb : DE K X b tb φb) : DE K X (.BinOp a op b pos) (tOp r ta tb) (d2 ψ φa φb) := by
  have hK := o.eK
  subst hK
  exact ⟨rfl, pe_op o.op ha.pe hb.pe, ad_2 o.ad ha.ad hb.ad⟩
theorem d_cmp {op : CmpOp} (o : DOp K X (compareOp op) r ψ) (ha : DE K X a ta φa) (hb : DE K X b tb φb) (hm : behindInMarks op b = false := by first | exact nomark _ | rfl) : DE K X (.Compare a [op] [b] pos) (tOp r ta tb) (d2 ψ φa φb) := by
  have hK := o.eK
  subst hK
  exact ⟨rfl, pe_cmpR o.op ha.pe hb.pe hm, ad_2 o.ad ha.ad hb.ad⟩
/-- a value that is True or False, as a test -/
def onB : D → (Bool → Prop) → Prop
  | .bl b, k => k b
  | _, _ => False
def asT (φ : TD) : TDT := fun ρ μ R => φ ρ μ fun d μ' => onB d fun b => R b μ'
theorem asT_ok {d : D} {k : Bool → Prop} (h : onB d k) : ∃ b, d = .bl b ∧ k b := by
  cases d with
  | bl b => exact ⟨b, rfl, h⟩
  | _ => exact h.elim
theorem ad_asT {K : PySem.W.Frag} {t : TE} {φ : TD} (a : AdE K t φ) : AdT K (tTest t) (asT φ) := by
  intro σ H G F ρ μ R Q s e h k
  refine a σ H G F ρ μ _ _ s e h fun d μ1 v G1 H1 hb g1 s1 a1 => ?_
  obtain ⟨b, rfl, hr⟩ := asT_ok hb
  cases a1
  exact ⟨b, rfl, k b μ1 G1 H1 hr g1 s1⟩
theorem t_cmp {op : CmpOp} (o : DOp K X (compareOp op) r ψ) (ha : DE K X a ta φa) (hb : DE K X b tb φb) (hm : behindInMarks op b = false := by first | exact nomark _ | rfl) : DT K X (.Compare a [op] [b] pos) (tTest (tOp r ta tb)) (asT (d2 ψ φa φb)) := by
  have hK := o.eK
  subst hK
  exact ⟨rfl, pt_cmpR o.op ha.pe hb.pe hm, ad_asT (ad_2 o.ad ha.ad hb.ad)⟩
theorem t_val {e : Expr} {t : TE} {φ : TD} (h : DE K X e t φ) (he : ∀ whole, isTrue e X.env whole = (do let v ← whole; standAt e.pos; holding [v] (truthy v)) := by intro _; rfl) : DT K X e (tTest t) (asT φ) := by
  have hK := h.eK
  subst hK
  refine ⟨rfl, ?_, ad_asT h.ad⟩
  have q := pt_val h.pe he
  exact q
/-! ### tests joined -/
def dNotT (φ : TDT) : TDT := fun ρ μ R => φ ρ μ fun b μ' => R (!b) μ'
theorem t_not {t : TT} {φ : TDT} (h : DT K X a t φ) : DT K X (.UnaryOp .Not a pos) (tNot t) (dNotT φ) := by
  have hK := h.eK
  subst hK
  exact ⟨rfl, pt_not h.pt, fun σ H G F ρ μ R Q s e hr k => h.ad σ H G F ρ μ _ _ s e hr fun b μ1 G1 H1 hb g1 s1 => k (!b) μ1 G1 H1 hb g1 s1⟩
def dAndT (φ χ : TDT) : TDT := fun ρ μ R => φ ρ μ fun b μ' => if b = true then χ ρ μ' R else R false μ'
def dOrT (φ χ : TDT) : TDT := fun ρ μ R => φ ρ μ fun b μ' => if b = true then R true μ' else χ ρ μ' R
variable {rest : List Expr} {tt uu : TT} {φt χt : TDT}
theorem tw_and1 (h : DT K X a tt φt) : DW K X (.BoolOp .And [a] pos) tt φt := by
  have hK := h.eK
  subst hK
  exact ⟨rfl, pw_and1 h.pt, h.ad⟩
theorem tw_or1 (h : DT K X a tt φt) : DW K X (.BoolOp .Or [a] pos) tt φt := by
  have hK := h.eK
  subst hK
  exact ⟨rfl, pw_or1 h.pt, h.ad⟩
theorem tw_and (ha : DT K X a tt φt) (hb : DW K X (.BoolOp .And (b :: rest) pos) uu χt) : DW K X (.BoolOp .And (a :: b :: rest) pos) (tAnd tt uu) (dAndT φt χt) := by
  have hK := ha.eK
  subst hK
  refine ⟨rfl, pw_and ha.pt hb.pw, ?_⟩
  intro σ H G F ρ μ R Q s e h k
  refine ha.ad σ H G F ρ μ _ _ s e h fun b1 μ1 G1 H1 hb1 g1 s1 => ?_
  cases b1 with
  | true => exact hb.ad σ H1 G1 F ρ μ1 R Q s1 (e.mono g1) hb1 fun b2 μ2 G2 H2 r g2 s2 => k b2 μ2 G2 H2 r (g1.trans g2) s2
  | false => exact k false μ1 G1 H1 hb1 g1 s1
theorem tw_or (ha : DT K X a tt φt) (hb : DW K X (.BoolOp .Or (b :: rest) pos) uu χt) : DW K X (.BoolOp .Or (a :: b :: rest) pos) (tOr tt uu) (dOrT φt χt) := by
  have hK := ha.eK
  subst hK
  refine ⟨rfl, pw_or ha.pt hb.pw, ?_⟩
  intro σ H G F ρ μ R Q s e h k
  refine ha.ad σ H G F ρ μ _ _ s e h fun b1 μ1 G1 H1 hb1 g1 s1 => ?_
  cases b1 with
  | false => exact hb.ad σ H1 G1 F ρ μ1 R Q s1 (e.mono g1) hb1 fun b2 μ2 G2 H2 r g2 s2 => k b2 μ2 G2 H2 r (g1.trans g2) s2
  | true => exact k true μ1 G1 H1 hb1 g1 s1
theorem t_w (h : DW K X a tt φt) : DT K X a tt φt := by
  have hK := h.eK
  subst hK
  exact ⟨rfl, h.pw.pt, h.ad⟩
/-! ### .. as values -/
def dAndV (φ χ : TD) : TD := fun ρ μ R => asT φ ρ μ fun b μ' => if b = true then χ ρ μ' R else R (.bl false) μ'
def dOrV (φ χ : TD) : TD := fun ρ μ R => asT φ ρ μ fun b μ' => if b = true then R (.bl true) μ' else χ ρ μ' R
def dNotV (φ : TD) : TD := fun ρ μ R => asT φ ρ μ fun b μ' => R (.bl (!b)) μ'
theorem d_one {op} (h : DE K X a ta φa) : DE K X (.BoolOp op [a] pos) ta φa := by
  have hK := h.eK
  subst hK
  exact ⟨rfl, pe_one h.pe, h.ad⟩
theorem d_and (ha : DE K X a ta φa) (hb : DE K X (.BoolOp .And (b :: rest) pos) tb φb) : DE K X (.BoolOp .And (a :: b :: rest) pos) (tAndV ta tb) (dAndV φa φb) := by
  have hK := ha.eK
  subst hK
  refine ⟨rfl, pe_and ha.pe hb.pe, ?_⟩
  intro σ H G F ρ μ R Q s e h k
  refine ha.ad σ H G F ρ μ _ _ s e h fun d μ1 v G1 H1 hb1 g1 s1 a1 => ?_
  obtain ⟨b1, rfl, hb1⟩ := asT_ok hb1
  cases a1
  refine ⟨b1, rfl, ?_⟩
  cases b1 with
  | true => exact hb.ad σ H1 G1 F ρ μ1 R Q s1 (e.mono g1) hb1 fun d μ2 v G2 H2 r g2 s2 a2 => k d μ2 v G2 H2 r (g1.trans g2) s2 a2
  | false => exact k _ μ1 _ G1 H1 hb1 g1 s1 (.bl false)
theorem d_or (ha : DE K X a ta φa) (hb : DE K X (.BoolOp .Or (b :: rest) pos) tb φb) : DE K X (.BoolOp .Or (a :: b :: rest) pos) (tOrV ta tb) (dOrV φa φb) := by
  have hK := ha.eK
  subst hK
  refine ⟨rfl, pe_or ha.pe hb.pe, ?_⟩
  intro σ H G F ρ μ R Q s e h k
  refine ha.ad σ H G F ρ μ _ _ s e h fun d μ1 v G1 H1 hb1 g1 s1 a1 => ?_
  obtain ⟨b1, rfl, hb1⟩ := asT_ok hb1
  cases a1
  refine ⟨b1, rfl, ?_⟩
  cases b1 with
  | false => exact hb.ad σ H1 G1 F ρ μ1 R Q s1 (e.mono g1) hb1 fun d μ2 v G2 H2 r g2 s2 a2 => k d μ2 v G2 H2 r (g1.trans g2) s2 a2
  | true => exact k _ μ1 _ G1 H1 hb1 g1 s1 (.bl true)
theorem d_not (ha : DE K X a ta φa) : DE K X (.UnaryOp .Not a pos) (tNotV ta) (dNotV φa) := by
  have hK := ha.eK
  subst hK
  refine ⟨rfl, pe_not ha.pe, ?_⟩
  intro σ H G F ρ μ R Q s e h k
  refine ha.ad σ H G F ρ μ _ _ s e h fun d μ1 v G1 H1 hb1 g1 s1 a1 => ?_
  obtain ⟨b1, rfl, hb1⟩ := asT_ok hb1
  cases a1
  exact ⟨b1, rfl, k _ μ1 _ G1 H1 hb1 g1 s1 (.bl _)⟩
def dIf (φ : TDT) (φa φb : TD) : TD := fun ρ μ R => φ ρ μ fun b μ' => if b = true then φa ρ μ' R else φb ρ μ' R
theorem d_ifexp {c : Expr} (hc : DT K X c tt φt) (ha : DE K X a ta φa) (hb : DE K X b tb φb) : DE K X (.IfExp c a b pos) (tIf tt ta tb) (dIf φt φa φb) := by
  have hK := hc.eK
  subst hK
  refine ⟨rfl, pe_ifExp hc.pt ha.pe hb.pe, ?_⟩
  intro σ H G F ρ μ R Q s e h k
  refine hc.ad σ H G F ρ μ _ _ s e h fun b1 μ1 G1 H1 hb1 g1 s1 => ?_
  cases b1 with
  | true => exact ha.ad σ H1 G1 F ρ μ1 R Q s1 (e.mono g1) hb1 fun d μ2 v G2 H2 r g2 s2 a2 => k d μ2 v G2 H2 r (g1.trans g2) s2 a2
  | false => exact hb.ad σ H1 G1 F ρ μ1 R Q s1 (e.mono g1) hb1 fun d μ2 v G2 H2 r g2 s2 a2 => k d μ2 v G2 H2 r (g1.trans g2) s2 a2
/-- a < b < c -/
def dChain (ψ ψ' : TD2) (φa φb φc : TD) : TD := fun ρ μ R => φa ρ μ fun x μ1 => φb ρ μ1 fun y μ2 => ψ x y μ2 fun z μ3 => match z with
  | .bl true => φc ρ μ3 fun u μ4 => ψ' y u μ4 R
  | .bl false => R (.bl false) μ3
  | _ => False
/-! ### argument lists, displays -/
def dNil : TDA := fun _ μ R => R [] μ
def dCons (φ : TD) (χ : TDA) : TDA := fun ρ μ R => φ ρ μ fun d μ1 => χ ρ μ1 fun ds μ2 => R (d :: ds) μ2
theorem a_nil (hK : X.K = K := by rfl) : DA K X [] tNil dNil := by
  subst hK
  exact ⟨rfl, pa_nil, fun σ H G F ρ μ R Q s e h k => k [] μ [] G H h (Same.refl _) s .nil⟩
theorem a_cons {es : List Expr} {t : TA} {χ : TDA} (ha : DE K X a ta φa) (hr : DA K X es t χ) (hs : starEach (a :: es) X.env = (false, eval a X.env) :: starEach es X.env := by rfl) : DA K X (a :: es) (tCons ta t) (dCons φa χ) := by
  have hK := ha.eK
  subst hK
  refine ⟨rfl, pa_cons ha.pe hr.pa hs, ?_⟩
  intro σ H G F ρ μ R Q s e h k
  refine ha.ad σ H G F ρ μ _ _ s e h fun d μ1 v G1 H1 hb1 g1 s1 a1 => ?_
  exact hr.ad σ H1 G1 F ρ μ1 _ _ s1 (e.mono g1) hb1 fun ds μ2 vs G2 H2 r g2 s2 a2 => k _ μ2 _ G2 H2 r (g1.trans g2) s2 (.cons (a1.mono g2) a2)
def dTup (χ : TDA) : TD := fun ρ μ R => χ ρ μ fun ds μ1 => ds.length ≤ sizeLine ∧ R (.tup ds) μ1
def dLst (χ : TDA) : TD := fun ρ μ R => χ ρ μ fun ds μ1 => ds.length ≤ sizeLine ∧ R (.lst ds) μ1
/-- .. a list that is to be changed -/
def dLstM (χ : TDA) : TD := fun ρ μ R => χ ρ μ fun ds μ1 => ds.length ≤ sizeLine ∧ ∀ p, μ1 p = none → R (.adr p) (μ1.put p (.lst ds))
variable {es : List Expr} {tas : TA} {χ : TDA}
theorem d_tup {x1} (h : DA K X es tas χ) : DE K X (.Tuple es x1 pos) (tTup tas) (dTup χ) := by
  have hK := h.eK
  subst hK
  refine ⟨rfl, pe_tup h.pa, ?_⟩
  intro σ H G F ρ μ R Q s e hr k
  refine h.ad σ H G F ρ μ _ _ s e hr fun ds μ1 vs G1 H1 hb1 g1 s1 a1 => ?_
  refine ⟨by rw [a1.length]; exact hb1.1, fun p hp => ?_⟩
  have g2 : Same G1 (upd G1 p (.tup vs)) := Same.upd (s1.fresh hp).1
  exact k _ μ1 _ _ _ hb1.2 (g1.trans g2) (s1.new hp) (.tup upd_same (a1.mono g2))
theorem d_lst (h : DA K X es tas χ) : DE K X (.List es pos) (tLst tas) (dLst χ) := by
  have hK := h.eK
  subst hK
  refine ⟨rfl, pe_lst h.pa, ?_⟩
  intro σ H G F ρ μ R Q s e hr k
  refine h.ad σ H G F ρ μ _ _ s e hr fun ds μ1 vs G1 H1 hb1 g1 s1 a1 => ?_
  refine ⟨by rw [a1.length]; exact hb1.1, fun p hp => ?_⟩
  have g2 : Same G1 (upd G1 p (.lst vs)) := Same.upd (s1.fresh hp).1
  exact k _ μ1 _ _ _ hb1.2 (g1.trans g2) (s1.new hp) (.lst upd_same (a1.mono g2))
theorem d_lstM (h : DA K X es tas χ) : DE K X (.List es pos) (tLst tas) (dLstM χ) := by
  have hK := h.eK
  subst hK
  refine ⟨rfl, pe_lst h.pa, ?_⟩
  intro σ H G F ρ μ R Q s e hr k
  refine h.ad σ H G F ρ μ _ _ s e hr fun ds μ1 vs G1 H1 hb1 g1 s1 a1 => ?_
  refine ⟨by rw [a1.length]; exact hb1.1, fun p hp => ?_⟩
  exact k _ _ _ _ _ (hb1.2 p (s1.fresh hp).2.2) g1 (s1.newLst hp a1) (.adr p)
end

/-! ### operators -/
section
variable {X : Cx}
def pI (C : Int → Int → Prop) (g : Int → Int → D) : TD2
  | .int i, .int j, μ, R => C i j ∧ R (g i j) μ
  | _, _, _, _ => False
theorem ad_pI {K : PySem.W.Frag} {C : Int → Int → Prop} {g : Int → Int → V} {g' : Int → Int → D} (hg : ∀ i j G, At K G (g i j) (g' i j)) : AdO K (rI C g) (pI C g') := by
  intro x y dx dy H G F μ R Q s ax ay h k
  cases dx <;> cases dy <;> first | exact h.elim | skip
  cases ax
  cases ay
  exact ⟨_, _, rfl, rfl, h.1, k _ μ _ G H h.2 (Same.refl _) s (hg _ _ _)⟩
def pI0 (g : Int → Int → D) : TD2
  | .int i, .int j, μ, R => R (g i j) μ
  | _, _, _, _ => False
theorem ad_pI0 {K : PySem.W.Frag} {g : Int → Int → V} {g' : Int → Int → D} (hg : ∀ i j G, At K G (g i j) (g' i j)) : AdO K (rI0 g) (pI0 g') := by
  intro x y dx dy H G F μ R Q s ax ay h k
  cases dx <;> cases dy <;> first | exact h.elim | skip
  cases ax
  cases ay
  exact ⟨_, _, rfl, rfl, k _ μ _ G H h (Same.refl _) s (hg _ _ _)⟩
abbrev pLt : TD2 := pI0 fun i j => .bl (decide (i < j))
theorem o_sub (hK : X.K = K := by rfl) : DOp K X (binaryOp .Sub) (rI0 fun i j => .int (i - j)) (pI0 fun i j => .int (i - j)) := by
  subst hK
  exact ⟨rfl, op_sub, ad_pI0 fun i j G => .int _⟩
theorem op_mulB : OpR X (binaryOp .Mult) (rI IntMulOk fun i j => .int (i * j)) := opI fun _ _ _ _ _ _ _ hc q => mul_int q hc
theorem o_mulI (hK : X.K = K := by rfl) : DOp K X (binaryOp .Mult) (rI IntMulOk fun i j => .int (i * j)) (pI IntMulOk fun i j => .int (i * j)) := by
  subst hK
  exact ⟨rfl, op_mulB, ad_pI fun i j G => .int _⟩
/-- a divisor below 2 ^ 9000 -/
def CDv (_ j : Int) : Prop := j ≠ 0 ∧ j.natAbs.log2 < 9000
theorem op_fdivB : OpR X (binaryOp .FloorDiv) (rI CDv fun i j => .int (i.fdiv j)) := opI fun i j _ _ _ _ _ hc q => floordiv_int hc.1 q (.inl (PyProof.noPylong_of_log2 hc.2))
theorem o_fdiv (hK : X.K = K := by rfl) : DOp K X (binaryOp .FloorDiv) (rI CDv fun i j => .int (i.fdiv j)) (pI CDv fun i j => .int (i.fdiv j)) := by
  subst hK
  exact ⟨rfl, op_fdivB, ad_pI fun i j G => .int _⟩
theorem o_mod (hK : X.K = K := by rfl) : DOp K X (binaryOp .Mod) (rI (fun _ j => j ≠ 0) fun i j => .int (i.fmod j)) (pI (fun _ j => j ≠ 0) fun i j => .int (i.fmod j)) := by
  subst hK
  exact ⟨rfl, op_modN, ad_pI fun i j G => .int _⟩
theorem o_ltI (hK : X.K = K := by rfl) : DOp K X (compareOp .Lt) (rI0 fun i j => .bl (decide (i < j))) (pI0 fun i j => .bl (decide (i < j))) := by
  subst hK
  exact ⟨rfl, op_lt, ad_pI0 fun i j G => .bl _⟩
theorem o_leI (hK : X.K = K := by rfl) : DOp K X (compareOp .LtE) (rI0 fun i j => .bl (decide (i ≤ j))) (pI0 fun i j => .bl (decide (i ≤ j))) := by
  subst hK
  exact ⟨rfl, op_le, ad_pI0 fun i j G => .bl _⟩
theorem o_gtI (hK : X.K = K := by rfl) : DOp K X (compareOp .Gt) (rI0 fun i j => .bl (decide (j < i))) (pI0 fun i j => .bl (decide (j < i))) := by
  subst hK
  exact ⟨rfl, op_gt, ad_pI0 fun i j G => .bl _⟩
theorem o_geI (hK : X.K = K := by rfl) : DOp K X (compareOp .GtE) (rI0 fun i j => .bl (decide (j ≤ i))) (pI0 fun i j => .bl (decide (j ≤ i))) := by
  subst hK
  exact ⟨rfl, op_ge, ad_pI0 fun i j G => .bl _⟩
/-- + of ints, tuples, lists -/
def pAdd : TD2
  | .int i, .int j, μ, R => R (.int (i + j)) μ
  | .tup a, .tup b, μ, R => a.length + b.length ≤ sizeLine ∧ R (.tup (a ++ b)) μ
  | .lst a, .lst b, μ, R => a.length + b.length ≤ sizeLine ∧ R (.lst (a ++ b)) μ
  | _, _, _, _ => False
theorem o_add (hK : X.K = K := by rfl) : DOp K X (binaryOp .Add) (fun x y H Q => rI0 (fun i j => .int (i + j)) x y H Q ∨ (rCatA K x y H Q ∨ rCat x y H Q)) pAdd := by
  subst hK
  refine ⟨rfl, op_add.or (op_catA.or op_cat), ?_⟩
  intro x y dx dy H G F μ R Q s ax ay h k
  cases dx <;> cases dy <;> first | exact h.elim | skip
  · cases ax
    cases ay
    exact .inl ⟨_, _, rfl, rfl, k _ μ _ G H h (Same.refl _) s (.int _)⟩
  · rename_i as bs
    cases ax with
    | tup ha ta =>
    cases ay with
    | tup hb tb =>
    have la := ta.length
    have lb := tb.length
    refine .inr (.inl ⟨_, _, _, _, rfl, rfl, SqT.of (s.gh _ _ ha), SqT.of (s.gh _ _ hb), by rw [la, lb]; exact h.1, fun e => ?_, fun _ e => ?_, fun _ _ p hp => ?_⟩)
    · subst e
      have e2 : as = [] := List.length_eq_zero_iff.mp (by rw [← la]; rfl)
      subst e2
      exact k _ μ _ G H h.2 (Same.refl _) s (.tup hb tb)
    · subst e
      have e2 : bs = [] := List.length_eq_zero_iff.mp (by rw [← lb]; rfl)
      subst e2
      have h2 := h.2
      rw [List.append_nil] at h2
      exact k _ μ _ G H h2 (Same.refl _) s (.tup ha ta)
    · exact k _ μ _ _ _ h.2 (Same.upd (s.fresh hp).1) (s.new hp) (.tup upd_same ((ta.append tb).mono (Same.upd (s.fresh hp).1)))
  · cases ax with
    | lst ha ta =>
    cases ay with
    | lst hb tb =>
    refine .inr (.inr ⟨_, _, _, _, rfl, rfl, s.gh _ _ ha, s.gh _ _ hb, by rw [ta.length, tb.length]; exact h.1, fun p hp => ?_⟩)
    exact k _ μ _ _ _ h.2 (Same.upd (s.fresh hp).1) (s.new hp) (.lst upd_same ((ta.append tb).mono (Same.upd (s.fresh hp).1)))
/-- is None, is not None -/
def pIsN : TD2
  | .non, .non, μ, R => R (.bl true) μ
  | .int _, .non, μ, R => R (.bl false) μ
  | .tup _, .non, μ, R => R (.bl false) μ
  | .lst _, .non, μ, R => R (.bl false) μ
  | .ins _ _, .non, μ, R => R (.bl false) μ
  | _, _, _, _ => False
theorem o_isN (hK : X.K = K := by rfl) : DOp K X (compareOp .Is) (fun x y H Q => y = .non ∧ Q (.bl (decide (x = .non))) H) pIsN := by
  subst hK
  refine ⟨rfl, op_isN, ?_⟩
  intro x y dx dy H G F μ R Q s ax ay h k
  cases dx <;> cases dy <;> first | exact h.elim | skip
  all_goals
    cases ax
    cases ay
    exact ⟨rfl, k _ μ _ G H h (Same.refl _) s (.bl _)⟩
def pNotN : TD2
  | .non, .non, μ, R => R (.bl false) μ
  | .int _, .non, μ, R => R (.bl true) μ
  | .tup _, .non, μ, R => R (.bl true) μ
  | .lst _, .non, μ, R => R (.bl true) μ
  | .ins _ _, .non, μ, R => R (.bl true) μ
  | _, _, _, _ => False
theorem o_notN (hK : X.K = K := by rfl) : DOp K X (compareOp .IsNot) (fun x y H Q => y = .non ∧ Q (.bl (!decide (x = .non))) H) pNotN := by
  subst hK
  refine ⟨rfl, op_notN, ?_⟩
  intro x y dx dy H G F μ R Q s ax ay h k
  cases dx <;> cases dy <;> first | exact h.elim | skip
  all_goals
    cases ax
    cases ay
    exact ⟨rfl, k _ μ _ G H h (Same.refl _) s (.bl _)⟩
/-! ### == of data -/
mutual
def D.py : D → PyData
  | .int i => .int i
  | .bl b => .bool b
  | .tup xs => .tuple (D.pys xs)
  | .lst xs => .list (D.pys xs)
  | _ => .none
def D.pys : List D → List PyData
  | [] => []
  | x :: xs => D.py x :: D.pys xs
end
mutual
def D.flat : D → Bool
  | .int _ => true
  | .bl _ => true
  | .non => true
  | .tup xs => D.flats xs
  | .lst xs => D.flats xs
  | _ => false
def D.flats : List D → Bool
  | [] => true
  | x :: xs => D.flat x && D.flats xs
end
mutual
theorem At.dp {K : PySem.W.Frag} {G H : Hp} (s : Same G H) : ∀ (d : D) {v : V}, At K G v d → d.flat = true → Dp K H v d.py
  | .int i, _, a, _ => by cases a; exact .int i
  | .bl b, _, a, _ => by cases a; exact .bl b
  | .non, _, a, _ => by cases a; exact .non
  | .tup xs, _, a, f => by
    cases a with
    | tup h t => exact .tup (SqT.of (s _ _ h)) (Ats.dp s xs t f)
  | .lst xs, _, a, f => by
    cases a with
    | lst h t => exact .lst (SqL.of (s _ _ h)) (Ats.dp s xs t f)
  | .adr _, _, _, f => by cases f
  | .sq _, _, _, f => by cases f
  | .ins _ _, _, _, f => by cases f
theorem Ats.dp {K : PySem.W.Frag} {G H : Hp} (s : Same G H) : ∀ (ds : List D) {vs : List V}, Ats K G vs ds → D.flats ds = true → DpAll K H vs (D.pys ds)
  | [], _, a, _ => by cases a; exact .nil
  | d :: ds, _, a, f => by
    obtain ⟨f1, f2⟩ := Bool.and_eq_true_iff.mp (show (D.flat d && D.flats ds) = true from f)
    cases a with
    | cons h t => exact .cons (At.dp s d h f1) (Ats.dp s ds t f2)
end
mutual
theorem D.lay : ∀ (d : D), d.flat = true → d.py.canLay0 = true
  | .int i, _ => rfl
  | .bl b, _ => rfl
  | .non, _ => rfl
  | .tup xs, f => D.lays xs f
  | .lst xs, f => D.lays xs f
  | .adr _, f => by cases f
  | .sq _, f => by cases f
  | .ins _ _, f => by cases f
theorem D.lays : ∀ (ds : List D), D.flats ds = true → PyData.canLayAll0 (D.pys ds) = true
  | [], _ => rfl
  | d :: ds, f => by
    obtain ⟨f1, f2⟩ := Bool.and_eq_true_iff.mp (show (D.flat d && D.flats ds) = true from f)
    exact Bool.and_eq_true_iff.mpr ⟨D.lay d f1, D.lays ds f2⟩
end
/-- fit to be compared as a whole -/
def D.eqq (d : D) : Prop := d.flat = true ∧ d.py.depth ≤ 64
theorem D.eqq.shaped {d : D} (h : d.eqq) : SeqAt.shaped d.py = true := Bool.and_eq_true_iff.mpr ⟨D.lay d h.1, decide_eq_true h.2⟩
def pEq (f : Bool → Bool) : TD2
  | .int i, .int j, μ, R => R (.bl (f (decide (i = j)))) μ
  | .bl i, .bl j, μ, R => R (.bl (f (decide (i = j)))) μ
  | x, y, μ, R => x.eqq ∧ y.eqq ∧ R (.bl (f (PyData.eqv x.py y.py))) μ
theorem o_eq (hu : X.A.units + 64 < cLine) (hK : X.K = K := by rfl) : DOp K X (compareOp .Eq) (fun x y H Q => rEq x y H Q ∨ rEqD K x y H Q) (pEq id) := by
  subst hK
  refine ⟨rfl, op_eq.or (op_eqD hu), ?_⟩
  intro x y dx dy H G F μ R Q s ax ay h k
  have deep : dx.eqq ∧ dy.eqq ∧ R (.bl (PyData.eqv dx.py dy.py)) μ → rEqD X.K x y H Q := fun ⟨h1, h2, h3⟩ => ⟨_, _, ax.dp s.gh _ h1.1, ay.dp s.gh _ h2.1, h1.shaped, h2.shaped, k _ μ _ G H h3 (Same.refl _) s (.bl _)⟩
  cases dx <;> cases dy <;> first | exact .inr (deep h) | skip
  · rename_i i j
    cases ax
    cases ay
    refine .inl ⟨rfl, k _ μ _ G H h (Same.refl _) s ?_⟩
    have e : decide (V.int i = V.int j) = id (decide (i = j)) := by simp
    rw [e]
    exact .bl _
  · rename_i i j
    cases ax
    cases ay
    refine .inl ⟨rfl, k _ μ _ G H h (Same.refl _) s ?_⟩
    have e : decide (V.bl i = V.bl j) = id (decide (i = j)) := by simp
    rw [e]
    exact .bl _
theorem o_ne (hu : X.A.units + 64 < cLine) (hK : X.K = K := by rfl) : DOp K X (compareOp .NotEq) (fun x y H Q => rNe x y H Q ∨ rNeD K x y H Q) (pEq not) := by
  subst hK
  refine ⟨rfl, op_ne.or (op_neD hu), ?_⟩
  intro x y dx dy H G F μ R Q s ax ay h k
  have deep : dx.eqq ∧ dy.eqq ∧ R (.bl (!PyData.eqv dx.py dy.py)) μ → rNeD X.K x y H Q := fun ⟨h1, h2, h3⟩ => ⟨_, _, ax.dp s.gh _ h1.1, ay.dp s.gh _ h2.1, h1.shaped, h2.shaped, k _ μ _ G H h3 (Same.refl _) s (.bl _)⟩
  cases dx <;> cases dy <;> first | exact .inr (deep h) | skip
  · rename_i i j
    cases ax
    cases ay
    refine .inl ⟨rfl, k _ μ _ G H h (Same.refl _) s ?_⟩
    have e : (!decide (V.int i = V.int j)) = not (decide (i = j)) := by simp
    rw [e]
    exact .bl _
  · rename_i i j
    cases ax
    cases ay
    refine .inl ⟨rfl, k _ μ _ G H h (Same.refl _) s ?_⟩
    have e : (!decide (V.bl i = V.bl j)) = not (decide (i = j)) := by simp
    rw [e]
    exact .bl _
end
end DL
end
/-! C -/
section
set_option Elab.async false
set_option linter.all false
set_option maxRecDepth 100000
set_option maxHeartbeats 4000000
namespace DL
open PySem PySem.Spec PyProof.Rows L2
variable {K : PySem.W.Frag}

def onL : Option MO → (List D → Prop) → Prop
  | some (.lst ds), k => k ds
  | _, _ => False
theorem onL_ok {o : Option MO} {k : List D → Prop} (h : onL o k) : ∃ ds, o = some (.lst ds) ∧ k ds := by
  cases o with
  | none => exact h.elim
  | some m =>
    cases m with
    | lst ds => exact ⟨ds, rfl, h⟩
    | ins C fs => exact h.elim
    | ext o Φ => exact h.elim
/-- the item at an index of any sign -/
def dAt (ds : List D) (i : Int) (k : D → Prop) : Prop := ∃ d, atI ds i = some d ∧ k d
theorem atI_map {K : PySem.W.Frag} {G : Hp} {vs : List V} {ds : List D} {i : Int} {d : D} (t : Ats K G vs ds) (h : atI ds i = some d) : ∃ v, atI vs i = some v ∧ At K G v d := by
  unfold atI at h ⊢
  rw [t.length]
  cases e : ixN ds.length i with
  | none =>
    rw [e] at h
    cases h
  | some j =>
    rw [e] at h
    exact t.get h
section
variable {X : Cx} {pos : Pos} {a b : Expr} {ta tb : TE} {φa φb : TD}
@[irreducible] def pIx : TD2
  | .lst ds, .int i, μ, R => dAt ds i fun d => R d μ
  | .tup ds, .int i, μ, R => dAt ds i fun d => R d μ
  | .adr p, .int i, μ, R => onL (μ p) fun ds => dAt ds i fun d => R d μ
  | _, _, _, _ => False
theorem pIx.lst {ds : List D} {i : Int} {μ : Sto} {R : RD} (h : dAt ds i fun d => R d μ) : pIx (.lst ds) (.int i) μ R := by
  unfold pIx
  exact h
theorem pIx.tup {ds : List D} {i : Int} {μ : Sto} {R : RD} (h : dAt ds i fun d => R d μ) : pIx (.tup ds) (.int i) μ R := by
  unfold pIx
  exact h
theorem pIx.adr {p : Addr} {ds : List D} {i : Int} {μ : Sto} {R : RD} (e : μ p = some (.lst ds)) (h : dAt ds i fun d => R d μ) : pIx (.adr p) (.int i) μ R := by
  have q : onL (μ p) fun ds => dAt ds i fun d => R d μ := by
    rw [e]
    exact h
  unfold pIx
  exact q
theorem ad_ix {K : PySem.W.Frag} : AdO K (fun x y H Q => rIxL K x y H Q ∨ rIxT K x y H Q) pIx := by
  intro x y dx dy H G F μ R Q s ax ay h k
  unfold pIx at h
  cases dx <;> cases dy <;> first | exact h.elim | skip
  · rename_i p i
    cases ax
    cases ay
    obtain ⟨ds, e, d, h1, h2⟩ := onL_ok h
    obtain ⟨hg, vs, hv, t⟩ := s.st p _ e
    obtain ⟨v, h3, h4⟩ := atI_map t h1
    exact .inl ⟨p, vs, i, v, rfl, rfl, SqL.of hv, h3, k d μ v G H h2 (Same.refl _) s h4⟩
  · rename_i ds i
    cases ay
    cases ax with
    | tup hg t =>
    obtain ⟨d, h1, h2⟩ := h
    obtain ⟨v, h3, h4⟩ := atI_map t h1
    exact .inr ⟨_, _, i, v, rfl, rfl, SqT.of (s.gh _ _ hg), h3, k d μ v G H h2 (Same.refl _) s h4⟩
  · rename_i ds i
    cases ay
    cases ax with
    | lst hg t =>
    obtain ⟨d, h1, h2⟩ := h
    obtain ⟨v, h3, h4⟩ := atI_map t h1
    exact .inl ⟨_, _, i, v, rfl, rfl, SqL.of (s.gh _ _ hg), h3, k d μ v G H h2 (Same.refl _) s h4⟩
theorem d_ix (ha : DE K X a ta φa) (hb : DE K X b tb φb) (hs : PlainIx b := by intro _ _; rfl) : DE K X (.Subscript a b pos) (tOp (fun x y H Q => rIxL K x y H Q ∨ rIxT K x y H Q) ta tb) (d2 pIx φa φb) := by
  have hK := ha.eK
  subst hK
  exact ⟨rfl, pe_ix (ix_list.or ix_tup) ha.pe hb.pe hs, ad_2 ad_ix ha.ad hb.ad⟩
/-! ### slices -/
def cut {α : Type} (xs : List α) (lo hi : Option Int) : List α := (xs.drop (HT.sIx xs.length 0 lo)).take (HT.sIx xs.length xs.length hi - HT.sIx xs.length 0 lo)
abbrev TDO := Ev → Sto → (Option Int → Sto → Prop) → Prop
def AdPO (K : PySem.W.Frag) (t : TO) (φ : TDO) : Prop := ∀ (σ : L2.St) (H G F : Hp) (ρ : Ev) (μ : Sto) (R : Option Int → Sto → Prop) (Q : Option Int → Hp → Prop), S K G H F μ → EvAt K G σ ρ → φ ρ μ R →
  (∀ (o : Option Int) (μ' : Sto) (G' H' : Hp), R o μ' → Same G G' → S K G' H' F μ' → Q o H') → t σ H Q
structure DO (K : PySem.W.Frag) (X : Cx) (e : Option Expr) (t : TO) (φ : TDO) : Prop where
  eK : X.K = K
  po : PO X e t
  ad : AdPO K t φ
def dNoPart : TDO := fun _ μ R => R none μ
def onI : D → (Int → Prop) → Prop
  | .int i, k => k i
  | _, _ => False
theorem onI_ok {d : D} {k : Int → Prop} (h : onI d k) : ∃ i, d = .int i ∧ k i := by
  cases d with
  | int i => exact ⟨i, rfl, h⟩
  | _ => exact h.elim
def dPart (φ : TD) : TDO := fun ρ μ R => φ ρ μ fun d μ1 => onI d fun i => R (some i) μ1
theorem o_none (hK : X.K = K := by rfl) : DO K X none tNoPart dNoPart := by
  subst hK
  exact ⟨rfl, po_none, fun σ H G F ρ μ R Q s e h k => k none μ G H h (Same.refl _) s⟩
theorem o_some {e : Expr} {t : TE} {φ : TD} (h : DE K X e t φ) : DO K X (some e) (tPart t) (dPart φ) := by
  have hK := h.eK
  subst hK
  refine ⟨rfl, po_some h.pe, ?_⟩
  intro σ H G F ρ μ R Q s e hr k
  refine h.ad σ H G F ρ μ _ _ s e hr fun d μ1 v G1 H1 hb g1 s1 a1 => ?_
  obtain ⟨i, rfl, hr⟩ := onI_ok hb
  cases a1
  exact ⟨i, rfl, k _ μ1 G1 H1 hr g1 s1⟩
def pSl : D → Option Int → Option Int → Sto → RD → Prop
  | .tup ds, lo, hi, μ, R => R (.tup (cut ds lo hi)) μ
  | .lst ds, lo, hi, μ, R => R (.lst (cut ds lo hi)) μ
  | .sq ds, lo, hi, μ, R => R (.lst (cut ds lo hi)) μ
  | .adr p, lo, hi, μ, R => onL (μ p) fun ds => R (.lst (cut ds lo hi)) μ
  | _, _, _, _, _ => False
theorem Ats.cut {K : PySem.W.Frag} {G : Hp} {vs : List V} {ds : List D} (t : Ats K G vs ds) (lo hi : Option Int) : Ats K G (cutV vs lo hi) (DL.cut ds lo hi) := by
  unfold cutV DL.cut
  rw [t.length]
  exact (t.drop _).take _
def dSl (φa : TD) (φl φh : TDO) : TD := fun ρ μ R => φa ρ μ fun x μ1 => φl ρ μ1 fun l μ2 => φh ρ μ2 fun u μ3 => pSl x l u μ3 R
theorem d_slice {p2 : Pos} {lo hi : Option Expr} {tl th : TO} {φl φh : TDO} (ha : DE K X a ta φa) (hl : DO K X lo tl φl) (hh : DO K X hi th φh) :
    DE K X (.Subscript a (.Slice lo hi none p2) pos) (tSl (fun x lo hi H Q => rSlL K x lo hi H Q ∨ rSlA K x lo hi H Q) ta tl th) (dSl φa φl φh) := by
  have hK := ha.eK
  subst hK
  refine ⟨rfl, pe_slice (sl_list.or sl_tupA) ha.pe hl.po hh.po, ?_⟩
  intro σ H G F ρ μ R Q s e h k
  refine ha.ad σ H G F ρ μ _ _ s e h fun x μ1 v1 G1 H1 hb g1 s1 a1 => ?_
  refine hl.ad σ H1 G1 F ρ μ1 _ _ s1 (e.mono g1) hb fun l μ2 G2 H2 hb2 g2 s2 => ?_
  refine hh.ad σ H2 G2 F ρ μ2 _ _ s2 ((e.mono g1).mono g2) hb2 fun u μ3 G3 H3 hb3 g3 s3 => ?_
  have a3 := (a1.mono g2).mono g3
  have gg := (g1.trans g2).trans g3
  have newL : ∀ {vs : List V} {ds : List D}, Ats X.K G3 vs ds → R (.lst (cut ds l u)) μ3 → ∀ p, H3 p = none → Q (.ref p) (upd H3 p (.lst (cutV vs l u))) := fun {vs ds} t hr p hp =>
    k _ μ3 _ _ _ hr (gg.trans (Same.upd (s3.fresh hp).1)) (s3.new hp) (.lst upd_same ((t.cut l u).mono (Same.upd (s3.fresh hp).1)))
  cases x <;> first | exact hb3.elim | skip
  · cases a3
    obtain ⟨ds, e1, hr⟩ := onL_ok hb3
    obtain ⟨hg, vs, hv, t⟩ := s3.st _ _ e1
    exact .inl ⟨_, vs, rfl, SqL.of hv, newL t hr⟩
  · cases a3 with
    | tup hg t =>
    refine .inr ⟨_, _, rfl, SqT.of (s3.gh _ _ hg), fun hw => ?_, fun _ p hp => ?_⟩
    · rename_i ds a vs
      have hr : R (.tup (cut ds l u)) μ3 := hb3
      have e2 : cut ds l u = ds := by
        unfold cut
        rw [← t.length, hw.1, hw.2, List.drop_zero, Nat.sub_zero, List.take_of_length_le (by rw [t.length]; exact Nat.le_refl _)]
      rw [e2] at hr
      exact k _ μ3 _ G3 H3 hr gg s3 (.tup hg t)
    · exact k _ μ3 _ _ _ hb3 (gg.trans (Same.upd (s3.fresh hp).1)) (s3.new hp) (.tup upd_same ((t.cut l u).mono (Same.upd (s3.fresh hp).1)))
  · cases a3 with
    | lst hg t => exact .inl ⟨_, _, rfl, SqL.of (s3.gh _ _ hg), newL t hb3⟩
  · cases a3 with
    | sq hg t => exact .inl ⟨_, _, rfl, Same.seq s3.gh hg, newL t hb3⟩
/-! ### calls of built-ins -/
abbrev TDC := List D → Sto → RD → Prop
def AdC (K : PySem.W.Frag) (r : List V → Hp → VK → Prop) (ψ : TDC) : Prop := ∀ (vs : List V) (ds : List D) (H G F : Hp) (μ : Sto) (R : RD) (Q : VK), S K G H F μ → Ats K G vs ds → ψ ds μ R → Fin K G F R Q → r vs H Q
def dCB (ψ : TDC) (χ : TDA) : TD := fun ρ μ R => χ ρ μ fun ds μ1 => ψ ds μ1 R
theorem ad_cb {K : PySem.W.Frag} {r : List V → Hp → VK → Prop} {ψ : TDC} {t : TA} {χ : TDA} (c : AdC K r ψ) (a : AdA K t χ) : AdE K (tCB r t) (dCB ψ χ) := by
  intro σ H G F ρ μ R Q s e h k
  refine a σ H G F ρ μ _ _ s e h fun ds μ1 vs G1 H1 hb g1 s1 a1 => ?_
  exact c vs ds H1 G1 F μ1 R Q s1 a1 hb fun d μ' v G' H' r g s' a => k d μ' v G' H' r (g1.trans g) s' a
structure DC (K : PySem.W.Frag) (X : Cx) (f : Value) (r : List V → Hp → VK → Prop) (ψ : TDC) : Prop where
  eK : X.K = K
  cr : CallR X f r
  ad : AdC K r ψ
variable {x : Str} {p : Pos} {e : Expr} {es : List Expr} {t : TA} {χ : TDA} {bid T : String} {r : List V → Hp → VK → Prop} {ψ : TDC}
theorem d_callB (c : DC K X (.builtin bid) r ψ) (hm : X.mg x = none) (ha : DA K X (e :: es) t χ) (hg : Gl X x := by rfl) (hv : bootBuiltins x = some (.builtin bid) := by decide +kernel) (hn : x ≠ "__name__" := by decide) (hdb : (x == ("__debug__" : Str)) = false := by decide)
    (he : starEach (e :: es) X.env = (false, eval e X.env) :: starEach es X.env := by rfl) (hpl : (backTo pos (starEach es X.env)).any (·.1) = false := by rfl) : DE K X (.Call (.Name x p) (e :: es) [] pos) (tCB r t) (dCB ψ χ) := by
  have hK := c.eK
  subst hK
  exact ⟨rfl, pe_callB c.cr hg hm hv ha.pa hn hdb he hpl, ad_cb c.ad ha.ad⟩
theorem d_callTy (c : DC K X (.type T) r ψ) (hm : X.mg x = none) (ha : DA K X (e :: es) t χ) (hg : Gl X x := by rfl) (hv : bootBuiltins x = some (.type T) := by decide +kernel) (hn : x ≠ "__name__" := by decide) (hdb : (x == ("__debug__" : Str)) = false := by decide)
    (he : starEach (e :: es) X.env = (false, eval e X.env) :: starEach es X.env := by rfl) (hpl : (backTo pos (starEach es X.env)).any (·.1) = false := by rfl) : DE K X (.Call (.Name x p) (e :: es) [] pos) (tCB r t) (dCB ψ χ) := by
  have hK := c.eK
  subst hK
  exact ⟨rfl, pe_callTy c.cr hg hm hv ha.pa hn hdb he hpl, ad_cb c.ad ha.ad⟩
/-- one argument, two -/
def c1 (ψ : D → Sto → RD → Prop) : TDC
  | [d], μ, R => ψ d μ R
  | _, _, _ => False
theorem c1_ok {K : PySem.W.Frag} {G : Hp} {vs : List V} {ds : List D} {ψ : D → Sto → RD → Prop} {μ : Sto} {R : RD} (a : Ats K G vs ds) (h : c1 ψ ds μ R) : ∃ v d, vs = [v] ∧ ds = [d] ∧ At K G v d ∧ ψ d μ R := by
  cases a with
  | nil => exact h.elim
  | cons a1 a2 =>
    cases a2 with
    | nil => exact ⟨_, _, rfl, rfl, a1, h⟩
    | cons _ _ => exact h.elim
def c2 (ψ : TD2) : TDC
  | [d, e], μ, R => ψ d e μ R
  | _, _, _ => False
theorem c2_ok {K : PySem.W.Frag} {G : Hp} {vs : List V} {ds : List D} {ψ : TD2} {μ : Sto} {R : RD} (a : Ats K G vs ds) (h : c2 ψ ds μ R) : ∃ v w d e, vs = [v, w] ∧ ds = [d, e] ∧ At K G v d ∧ At K G w e ∧ ψ d e μ R := by
  cases a with
  | nil => exact h.elim
  | cons a1 a2 =>
    cases a2 with
    | nil => exact h.elim
    | cons a2 a3 =>
      cases a3 with
      | nil => exact ⟨_, _, _, _, rfl, rfl, a1, a2, h⟩
      | cons _ _ => exact h.elim
/-- the items of a list or tuple -/
def onSeq : D → Sto → (List D → Prop) → Prop
  | .lst ds, _, k => k ds
  | .tup ds, _, k => k ds
  | .adr p, μ, k => onL (μ p) k
  | _, _, _ => False
theorem onSeq_ok {K : PySem.W.Frag} {G H F : Hp} {μ : Sto} {v : V} {d : D} {k : List D → Prop} (s : S K G H F μ) (a : At K G v d) (h : onSeq d μ k) : ∃ ds p vs, k ds ∧ v = .ref p ∧ (SqL K H p vs ∨ SqT K H p vs) ∧ Ats K G vs ds := by
  cases d <;> first | exact h.elim | skip
  · cases a
    obtain ⟨ds, e1, hr⟩ := onL_ok h
    obtain ⟨hg, vs, hv, t⟩ := s.st _ _ e1
    exact ⟨ds, _, vs, hr, rfl, .inl (SqL.of hv), t⟩
  · cases a with
    | tup hg t => exact ⟨_, _, _, h, rfl, .inr (SqT.of (s.gh _ _ hg)), t⟩
  · cases a with
    | lst hg t => exact ⟨_, _, _, h, rfl, .inl (SqL.of (s.gh _ _ hg)), t⟩
def pLen : TDC := c1 fun d μ R => onSeq d μ fun ds => R (.int ds.length) μ
theorem c_len (hK : X.K = K := by rfl) : DC K X (.builtin "len") (fun xs H Q => ∃ p ys, xs = [.ref p] ∧ (SqL K H p ys ∨ SqT K H p ys) ∧ Q (.int ys.length) H) pLen := by
  subst hK
  refine ⟨rfl, call_len_seq, ?_⟩
  intro vs ds H G F μ R Q s a h k
  obtain ⟨v, d, rfl, rfl, a, h⟩ := c1_ok a h
  obtain ⟨es, p, ws, hr, rfl, hq, t⟩ := onSeq_ok s a h
  exact ⟨p, ws, rfl, hq, by rw [t.length]; exact k _ μ _ G H hr (Same.refl _) s (.int _)⟩
def pAbs : TDC := c1 fun d μ R => onI d fun i => R (.int (i.natAbs : Int)) μ
theorem c_abs (hK : X.K = K := by rfl) : DC K X (.builtin "abs") (fun xs H Q => ∃ i, xs = [.int i] ∧ Q (.int (if i < 0 then -i else i)) H) pAbs := by
  subst hK
  refine ⟨rfl, call_abs, ?_⟩
  intro vs ds H G F μ R Q s a h k
  obtain ⟨v, d, rfl, rfl, a, h⟩ := c1_ok a h
  obtain ⟨i, rfl, hr⟩ := onI_ok h
  cases a
  have e : (if i < 0 then -i else i) = (i.natAbs : Int) := by split <;> omega
  exact ⟨i, rfl, by rw [e]; exact k _ μ _ G H hr (Same.refl _) s (.int _)⟩
def pMin2 : TDC := c2 (pI0 fun i j => .int (min i j))
theorem pI0_ok {g : Int → Int → D} {d e : D} {μ : Sto} {R : RD} (h : pI0 g d e μ R) : ∃ i j, d = .int i ∧ e = .int j ∧ R (g i j) μ := by
  cases d <;> cases e <;> first | exact ⟨_, _, rfl, rfl, h⟩ | exact h.elim
theorem c_min2 (hc : X.calm = true) (hK : X.K = K := by rfl) : DC K X (.builtin "min") (fun xs H Q => ∃ i j, xs = [.int i, .int j] ∧ Q (.int (if j < i then j else i)) H) pMin2 := by
  subst hK
  refine ⟨rfl, call_min2 hc, ?_⟩
  intro vs ds H G F μ R Q s a h k
  obtain ⟨v, w, d, e, rfl, rfl, a1, a2, h⟩ := c2_ok a h
  obtain ⟨i, j, rfl, rfl, h⟩ := pI0_ok h
  cases a1
  cases a2
  have e : (if j < i then j else i) = min i j := by split <;> omega
  exact ⟨i, j, rfl, by rw [e]; exact k _ μ _ G H h (Same.refl _) s (.int _)⟩
/-- the ints of a list -/
def D.ints? : List D → Option (List Int)
  | [] => some []
  | .int i :: r => (D.ints? r).map (i :: ·)
  | _ :: _ => none
theorem ints?_eq : ∀ {ds : List D} {ns : List Int}, D.ints? ds = some ns → ds = ns.map D.int
  | [], ns, h => by cases h; rfl
  | d :: r, ns, h => by
    cases d <;> first | cases h | skip
    rename_i i
    obtain ⟨ms, h1, h2⟩ := Option.map_eq_some_iff.mp (show (D.ints? r).map (i :: ·) = some ns from h)
    rw [← h2, ints?_eq h1]
    rfl
theorem ints?_map : ∀ ns : List Int, D.ints? (ns.map D.int) = some ns
  | [] => rfl
  | n :: ns => by
    show (D.ints? (ns.map D.int)).map (n :: ·) = _
    rw [ints?_map ns]
    rfl
def onLst : D → (List D → Prop) → Prop
  | .lst ds, k => k ds
  | _, _ => False
theorem onLst_ok {d : D} {k : List D → Prop} (h : onLst d k) : ∃ ds, d = .lst ds ∧ k ds := by
  cases d with
  | lst ds => exact ⟨ds, rfl, h⟩
  | _ => exact h.elim
/-- a list of ints -/
def onNs (d : D) (k : List Int → Prop) : Prop := onLst d fun ds => ∃ ns, D.ints? ds = some ns ∧ k ns
theorem onNs_ok {d : D} {k : List Int → Prop} (h : onNs d k) : ∃ ns : List Int, d = .lst (ns.map D.int) ∧ k ns := by
  obtain ⟨ds, rfl, ns, e, hk⟩ := onLst_ok h
  exact ⟨ns, by rw [ints?_eq e], hk⟩
theorem onNs_map {ns : List Int} {k : List Int → Prop} (h : k ns) : onNs (.lst (ns.map D.int)) k := ⟨ns, ints?_map ns, h⟩
def pSum : TDC := c1 fun d μ R => onNs d fun ns => R (.int ns.sum) μ
theorem c_sum (hc : X.calm = true) (hK : X.K = K := by rfl) : DC K X (.builtin "sum") (rSum K) pSum := by
  subst hK
  refine ⟨rfl, cr_sum hc, ?_⟩
  intro vs ds H G F μ R Q s a h k
  obtain ⟨v, d, rfl, rfl, a, h⟩ := c1_ok a h
  obtain ⟨ns, rfl, hr⟩ := onNs_ok h
  cases a with
  | lst hg t =>
  have e2 := t.ints
  subst e2
  exact ⟨_, ns, rfl, SqL.of (s.gh _ _ hg), k _ μ _ G H hr (Same.refl _) s (.int _)⟩
def pMin : TDC := c1 fun d μ R => onNs d fun ns => 0 < ns.length ∧ ∀ m, m ∈ ns → (∀ y, y ∈ ns → m ≤ y) → R (.int m) μ
theorem c_min (hc : X.calm = true) (hK : X.K = K := by rfl) : DC K X (.builtin "min") (rMin K) pMin := by
  subst hK
  refine ⟨rfl, cr_min hc, ?_⟩
  intro vs ds H G F μ R Q s a h k
  obtain ⟨v, d, rfl, rfl, a, h⟩ := c1_ok a h
  obtain ⟨ns, rfl, h0, hr⟩ := onNs_ok h
  cases a with
  | lst hg t =>
  have e2 := t.ints
  subst e2
  exact ⟨_, ns, rfl, SqL.of (s.gh _ _ hg), h0, fun m hm hy => k _ μ _ G H (hr m hm hy) (Same.refl _) s (.int _)⟩
def onIB : D → (Int → Prop) → (Bool → Prop) → Prop
  | .int i, k, _ => k i
  | .bl b, _, k => k b
  | _, _, _ => False
def pInt : TDC := c1 fun d μ R => onIB d (fun i => R (.int i) μ) fun b => R (.int (if b then 1 else 0)) μ
theorem c_int (hK : X.K = K := by rfl) : DC K X (.type "int") (fun xs H Q => (∃ i, xs = [.int i] ∧ Q (.int i) H) ∨ ∃ k, xs = [.bl k] ∧ Q (.int (if k then 1 else 0)) H) pInt := by
  subst hK
  refine ⟨rfl, call_int1, ?_⟩
  intro vs ds H G F μ R Q s a h k
  obtain ⟨v, d, rfl, rfl, a, h⟩ := c1_ok a h
  cases d <;> first | exact h.elim | skip
  · cases a
    exact .inl ⟨_, rfl, k _ μ _ G H h (Same.refl _) s (.int _)⟩
  · cases a
    exact .inr ⟨_, rfl, k _ μ _ G H h (Same.refl _) s (.int _)⟩
def pList : TDC := c1 fun d μ R => onSeq d μ fun ds => R (.lst ds) μ
def pListM : TDC := c1 fun d μ R => onSeq d μ fun ds => ∀ p, μ p = none → R (.adr p) (μ.put p (.lst ds))
theorem c_list (hK : X.K = K := by rfl) : DC K X (.type "list") (fun xs H Q => ∃ p ys, xs = [.ref p] ∧ (SqL K H p ys ∨ SqT K H p ys) ∧ ∀ l, H l = none → Q (.ref l) (upd H l (.lst ys))) pList := by
  subst hK
  refine ⟨rfl, call_list_of, ?_⟩
  intro vs ds H G F μ R Q s a h k
  obtain ⟨v, d, rfl, rfl, a, h⟩ := c1_ok a h
  obtain ⟨es, p, ws, hr, rfl, hq, t⟩ := onSeq_ok s a h
  exact ⟨p, ws, rfl, hq, fun l hl => k _ μ _ _ _ hr (Same.upd (s.fresh hl).1) (s.new hl) (.lst upd_same (t.mono (Same.upd (s.fresh hl).1)))⟩
theorem c_listM (hK : X.K = K := by rfl) : DC K X (.type "list") (fun xs H Q => ∃ p ys, xs = [.ref p] ∧ (SqL K H p ys ∨ SqT K H p ys) ∧ ∀ l, H l = none → Q (.ref l) (upd H l (.lst ys))) pListM := by
  subst hK
  refine ⟨rfl, call_list_of, ?_⟩
  intro vs ds H G F μ R Q s a h k
  obtain ⟨v, d, rfl, rfl, a, h⟩ := c1_ok a h
  obtain ⟨es, p, ws, hr, rfl, hq, t⟩ := onSeq_ok s a h
  exact ⟨p, ws, rfl, hq, fun l hl => k _ _ _ _ _ (hr l (s.fresh hl).2.2) (Same.refl _) (s.newLst hl t) (.adr l)⟩
def pTuple : TDC := c1 fun d μ R => onSeq d μ fun ds => R (.tup ds) μ
theorem c_tuple (hK : X.K = K := by rfl) : DC K X (.type "tuple") (fun xs H Q => ∃ p ys, xs = [.ref p] ∧ ((SqL K H p ys ∧ ∀ l, H l = none → Q (.ref l) (upd H l (.tup ys))) ∨ (SqT K H p ys ∧ Q (.ref p) H))) pTuple := by
  subst hK
  refine ⟨rfl, call_tuple_of, ?_⟩
  intro vs ds H G F μ R Q s a h k
  obtain ⟨v, d, rfl, rfl, a, h⟩ := c1_ok a h
  have newT : ∀ {ws : List V} {es : List D}, Ats X.K G ws es → R (.tup es) μ → ∀ l, H l = none → Q (.ref l) (upd H l (.tup ws)) := fun {ws es} t hr l hl =>
    k _ μ _ _ _ hr (Same.upd (s.fresh hl).1) (s.new hl) (.tup upd_same (t.mono (Same.upd (s.fresh hl).1)))
  cases d <;> first | exact (show False from h).elim | skip
  · cases a
    obtain ⟨ds, e1, hr⟩ := onL_ok (show onL _ _ from h)
    obtain ⟨hg, vs, hv, t⟩ := s.st _ _ e1
    exact ⟨_, vs, rfl, .inl ⟨SqL.of hv, newT t hr⟩⟩
  · cases a with
    | tup hg t => exact ⟨_, _, rfl, .inr ⟨SqT.of (s.gh _ _ hg), k _ μ _ G H h (Same.refl _) s (.tup hg t)⟩⟩
  · cases a with
    | lst hg t => exact ⟨_, _, rfl, .inl ⟨SqL.of (s.gh _ _ hg), newT t h⟩⟩
/-- the truth values of a list -/
def D.bls? : List D → Option (List Bool)
  | [] => some []
  | .bl i :: r => (D.bls? r).map (i :: ·)
  | _ :: _ => none
theorem bls?_eq : ∀ {ds : List D} {bs : List Bool}, D.bls? ds = some bs → ds = bs.map D.bl
  | [], bs, h => by cases h; rfl
  | d :: r, bs, h => by
    cases d <;> first | cases h | skip
    rename_i i
    obtain ⟨ms, h1, h2⟩ := Option.map_eq_some_iff.mp (show (D.bls? r).map (i :: ·) = some bs from h)
    rw [← h2, bls?_eq h1]
    rfl
theorem bls?_map : ∀ bs : List Bool, D.bls? (bs.map D.bl) = some bs
  | [] => rfl
  | n :: ns => by
    show (D.bls? (ns.map D.bl)).map (n :: ·) = _
    rw [bls?_map ns]
    rfl
theorem Ats.bls {K : PySem.W.Frag} {G : Hp} : ∀ {vs : List V} {bs : List Bool}, Ats K G vs (bs.map D.bl) → vs = bs.map V.bl
  | _, [], .nil => rfl
  | _, n :: ns, .cons h t => by
    cases h
    rw [Ats.bls (bs := ns) t]
    rfl
def pAll : TDC := c1 fun d μ R => onLst d fun ds => ∃ bs, D.bls? ds = some bs ∧ R (.bl (bs.all fun b => b)) μ
theorem c_all (hc : X.calm = true) (hK : X.K = K := by rfl) : DC K X (.builtin "all") (rAll K) pAll := by
  subst hK
  refine ⟨rfl, cr_all hc, ?_⟩
  intro vs ds H G F μ R Q s a h k
  obtain ⟨v, d, rfl, rfl, a, h⟩ := c1_ok a h
  obtain ⟨ds, rfl, bs, e, hr⟩ := onLst_ok h
  cases a with
  | lst hg t =>
  rw [bls?_eq e] at t
  have e2 := t.bls
  subst e2
  exact ⟨_, bs, rfl, SqL.of (s.gh _ _ hg), k _ μ _ G H hr (Same.refl _) s (.bl _)⟩
end
end DL
end
/-! D -/
section
set_option Elab.async false
set_option linter.all false
set_option maxRecDepth 100000
set_option maxHeartbeats 4000000
namespace DL
open PySem PySem.Spec PyProof.Rows L2
variable {K : PySem.W.Frag}

/-! ### what a def promises, over data -/
abbrev TF := List D → Sto → RD → Prop
def spD (K : PySem.W.Frag) (φ : TF) : Sp := fun vs H Q _ => ∃ (G F : Hp) (μ : Sto) (ds : List D) (R : RD), S K G H F μ ∧ Ats K G vs ds ∧ φ ds μ R ∧ Fin K G F R Q
section
variable {X : Cx} {pos : Pos}
variable {CX : CXT} {k : Nat} {f C : Addr} {fd : FuncData} {ps : List Str} {φ : TF} {ds0 : List D} {dvs : List V} {dus : List Value} {x m : Str} {p apos : Pos} {e o : Expr} {es : List Expr} {ta : TE} {t : TA} {χ : TDA} {φo : TD}
def dCall (φ : TF) (dd : List D) (χ : TDA) : TD := fun ρ μ R => χ ρ μ fun ds μ1 => φ (ds ++ dd) μ1 R
theorem ad_call {K : PySem.W.Frag} (hd : ∀ G, Ats K G dvs ds0) (a : AdA K t χ) : AdE K (tCall (spD K φ) dvs E0 t) (dCall φ ds0 χ) := by
  intro σ H G F ρ μ R Q s e h k
  refine a σ H G F ρ μ _ _ s e h fun ds μ1 vs G1 H1 hb g1 s1 a1 => ?_
  exact ⟨G1, F, μ1, ds ++ ds0, R, s1, a1.append (hd G1), hb, fun d μ' v G' H' r g s' a => k d μ' v G' H' r (g1.trans g) s' a⟩
/-- f(e, ..), all parameters given -/
theorem d_call (F : FnOk X.prog X.w K X.mg X.base CX0 k f fd ps (spD K φ)) (hr : Room k X.A) (hm : X.mg x = some (.ref f)) (hk : PySem.W.keepIn K (.ref f) = true) (hb : Binds K fd ps []) (ha : DA K X (e :: es) t χ) (hg : Gl X x := by rfl)
    (hdb : (x == ("__debug__" : Str)) = false := by decide) (he : starEach (e :: es) X.env = (false, eval e X.env) :: starEach es X.env := by rfl) (hpl : (backTo pos (starEach es X.env)).any (·.1) = false := by rfl) :
    DE K X (.Call (.Name x p) (e :: es) [] pos) (tCall (spD K φ) [] E0 t) (dCall φ [] χ) := by
  have hK := ha.eK
  subst hK
  exact ⟨rfl, pe_call F hr hg hm hk hb .nil pass0 ha.pa hdb he hpl, ad_call (fun _ => .nil) ha.ad⟩
def dMeth (C : Addr) (m : Str) (φ : TF) (φo : TD) (χ : TDA) : TD := fun ρ μ R => φo ρ μ fun d μ1 => match d with
  | .ins C' fs => C' = C ∧ fs.lookup m = none ∧ χ ρ μ1 fun ds μ2 => φ (.ins C' fs :: ds) μ2 R
  | _ => False
theorem dMeth_ok {d : D} {A : Addr → List (Str × D) → Prop} (h : match d with
  | .ins C' fs => A C' fs
  | _ => False) : ∃ C' fs, d = .ins C' fs ∧ A C' fs := by
  cases d with
  | ins C' fs => exact ⟨C', fs, rfl, h⟩
  | _ => exact h.elim
theorem ad_meth {K : PySem.W.Frag} (o : AdE K ta φo) (a : AdA K t χ) : AdE K (tMeth C m (spD K φ) [] E0 ta t) (dMeth C m φ φo χ) := by
  intro σ H G F ρ μ R Q s e h k
  refine o σ H G F ρ μ _ _ s e h fun d μ1 v G1 H1 hb g1 s1 a1 => ?_
  obtain ⟨C', fs, rfl, rfl, hl, hb⟩ := dMeth_ok (A := fun C' fs => C' = C ∧ fs.lookup m = none ∧ χ ρ μ1 fun ds μ2 => φ (.ins C' fs :: ds) μ2 R) hb
  cases a1 with
  | ins hg tf =>
  refine ⟨_, _, _, rfl, s1.gh _ _ hg, tf.none hl, ?_⟩
  refine a σ H1 G1 F ρ μ1 _ _ s1 (e.mono g1) hb fun ds μ2 vs G2 H2 hb2 g2 s2 a2 => ?_
  exact ⟨G2, F, μ2, _, R, s2, .cons (.ins (g2 _ _ hg) (tf.mono g2)) (by rw [List.append_nil]; exact a2), hb2, fun d μ' v G' H' r g s' a => k d μ' v G' H' r ((g1.trans g2).trans g) s' a⟩
theorem d_meth {pl : Sem Bool} (ho : DE K X o ta φo) (c : Cls K C) (hm : Meth K C m f) (F : FnOk X.prog X.w K X.mg X.base CX0 k f fd ps (spD K φ)) (hr : Room k X.A) (hb : Binds K fd ps []) (ha : DA K X (e :: es) t χ)
    (hst : starEach (e :: es) X.env = (false, eval e X.env) :: starEach es X.env := by rfl) (hpl : (backTo pos (starEach es X.env)).any (·.1) = false := by rfl)
    (ht : eval (.Call (.Attribute o m apos) (e :: es) [] pos) X.env = (do
      let ov ← eval o X.env
      standAt apos.atName
      let (f, first) ← holding [ov] (getMethod ov m pl)
      callWith pos f first (backTo pos (starEach (e :: es) X.env)) (backToKw pos (keywordEach [] X.env))) := by rfl) :
    DE K X (.Call (.Attribute o m apos) (e :: es) [] pos) (tMeth C m (spD K φ) [] E0 ta t) (dMeth C m φ φo χ) := by
  have hK := ho.eK
  subst hK
  exact ⟨rfl, pe_meth ho.pe c hm F hr hb .nil pass0 ha.pa hst hpl ht, ad_meth ho.ad ha.ad⟩
theorem d_meth0 {pl : Sem Bool} (ho : DE K X o ta φo) (c : Cls K C) (hm : Meth K C m f) (F : FnOk X.prog X.w K X.mg X.base CX0 k f fd ps (spD K φ)) (hr : Room k X.A) (hb : Binds K fd ps [])
    (ht : eval (.Call (.Attribute o m apos) [] [] pos) X.env = (do
      let ov ← eval o X.env
      standAt apos.atName
      let (f, first) ← holding [ov] (getMethod ov m pl)
      callWith pos f first (backTo pos (starEach [] X.env)) (backToKw pos (keywordEach [] X.env))) := by rfl) :
    DE K X (.Call (.Attribute o m apos) [] [] pos) (tMeth C m (spD K φ) [] E0 ta tNil) (dMeth C m φ φo dNil) := by
  have hK := ho.eK
  subst hK
  exact ⟨rfl, pe_meth0 ho.pe c hm F hr hb .nil pass0 ht, ad_meth ho.ad (a_nil (X := X)).ad⟩
/-- C(..): the instance is filled by __init__ and never changes again -/
@[irreducible] def dMk (C : Addr) (φ : TF) (ds : List D) (μ : Sto) (R : RD) : Prop := ∀ q, μ q = none → φ (.adr q :: ds) (μ.put q (.ins C [])) fun r μ2 => r = .non ∧ ∃ fs, μ2 q = some (.ins C fs) ∧ R (.ins C fs) (μ2.del q)
def dMake (C : Addr) (φ : TF) (dd : List D) (χ : TDA) : TD := fun ρ μ R => χ ρ μ fun ds μ1 => dMk C φ (ds ++ dd) μ1 R
theorem ad_make {K : PySem.W.Frag} (hd : ∀ G, Ats K G dvs ds0) (a : AdA K t χ) : AdE K (tMake C (spD K φ) dvs E0 t) (dMake C φ ds0 χ) := by
  intro σ H G F ρ μ R Q s e h k
  refine a σ H G F ρ μ _ _ s e h fun ds μ1 vs G1 H1 hb g1 s1 a1 => ?_
  unfold dMk at hb
  intro q dx nq nd ne
  obtain ⟨f1, f2, f3⟩ := s1.fresh nq
  have s2 : S K G1 (upd (upd H1 dx (.own q)) q (.ins C dx [])) F (μ1.put q (.ins C [])) := by
    have gd := (s1.new (o := .own q) nd)
    have nq2 : (upd H1 dx (.own q)) q = none := by rw [upd_ne (Ne.symm ne)]; exact nq
    refine ⟨(s1.gh.trans (Same.upd nd)).trans (Same.upd nq2), (s1.fh.trans (Same.upd nd)).trans (Same.upd nq2), fun b u eb => ?_, fun b u eb => ?_⟩
    · have hb : b ≠ q := fun z => by
        rw [z, f2] at eb
        cases eb
      rw [Sto.put_ne hb]
      exact s1.fg b u eb
    · by_cases hb : b = q
      · subst hb
        rw [Sto.put_same] at eb
        cases eb
        exact ⟨f1, dx, [], upd_same, .nil⟩
      · rw [Sto.put_ne hb] at eb
        have hb2 : b ≠ dx := fun z => by
          have := (s1.st b u eb).2.there
          rw [z] at this
          exact this nd
        exact ⟨(s1.st b u eb).1, (s1.st b u eb).2.mono (Same.refl _) (by rw [upd_ne hb, upd_ne hb2])⟩
  refine ⟨G1, F, _, _, _, s2, .cons (.adr q) (a1.append (hd G1)), hb q f3, fun d μ' v G' H' r g s' a => ?_⟩
  obtain ⟨rfl, fs, e2, hr⟩ := r
  cases a
  obtain ⟨o, sg, s3, a3⟩ := s'.freezeI e2
  exact ⟨rfl, k _ _ _ _ _ hr ((g1.trans g).trans sg) s3 a3⟩
theorem d_make (M : Mk K C f) (F : FnOk X.prog X.w K X.mg X.base CX0 k f fd ps (spD K φ)) (hr : Room (k + 1) X.A) (hm : X.mg x = some (.ref C)) (hb : Binds K fd ps dus) (hd : Vals dvs dus) (hd2 : ∀ G, Ats K G dvs ds0)
    (ha : DA K X (e :: es) t χ) (hg : Gl X x := by rfl) (hdb : (x == ("__debug__" : Str)) = false := by decide) (he : starEach (e :: es) X.env = (false, eval e X.env) :: starEach es X.env := by rfl) (hpl : (backTo pos (starEach es X.env)).any (·.1) = false := by rfl) :
    DE K X (.Call (.Name x p) (e :: es) [] pos) (tMake C (spD K φ) dvs E0 t) (dMake C φ ds0 χ) := by
  have hK := ha.eK
  subst hK
  exact ⟨rfl, pe_make M F hr hg hm hb hd pass0 ha.pa hdb he hpl, ad_make hd2 ha.ad⟩
/-- o.f -/
def dFld (C : Addr) (f : Str) (φo : TD) : TD := fun ρ μ R => φo ρ μ fun d μ1 => match d with
  | .ins C' fs => C' = C ∧ ∃ d, fs.lookup f = some d ∧ R d μ1
  | _ => False
theorem d_fld {f : Str} (c : Cls K C) (n : NoAttr K C f) (ho : DE K X o ta φo) (hb : attributeBase o f X.env (eval o X.env) = eval o X.env := by rfl) : DE K X (.Attribute o f pos) (tFld K ta f) (dFld C f φo) := by
  have hK := ho.eK
  subst hK
  refine ⟨rfl, pe_fld ho.pe hb, ?_⟩
  intro σ H G F ρ μ R Q s e h k
  refine ho.ad σ H G F ρ μ _ _ s e h fun d μ1 v G1 H1 hb g1 s1 a1 => ?_
  obtain ⟨C', fs, rfl, rfl, d, hl, hr⟩ := dMeth_ok (A := fun C' fs => C' = C ∧ ∃ d, fs.lookup f = some d ∧ R d μ1) hb
  cases a1 with
  | ins hg tf =>
  obtain ⟨w, h1, h2⟩ := tf.look hl
  exact ⟨_, C', _, _, w, rfl, s1.gh _ _ hg, c, n, h1, k d μ1 w G1 H1 hr g1 s1 h2⟩
end

/-! ### statements -/
section
variable {X : Cx} {pos : Pos} {st : Stmt} {rest : List Stmt} {t u : TS} {φ χ : TDS} {e : Expr} {te : TE} {φe : TD} {tt : TT} {φt : TDT}
def sNext : TDS := fun R ρ μ => R.nx ρ μ
def sSeq (φ χ : TDS) : TDS := fun R ρ μ => φ { R with nx := χ R } ρ μ
theorem ss_nil (hK : X.K = K := by rfl) : DSs K X [] tNext sNext := by
  subst hK
  exact ⟨rfl, pss_nil, fun σ H G F ρ μ R E s e h k => k.nx ρ μ σ G H h (Same.refl _) s e⟩
theorem ss_cons (h1 : DS K X st t φ) (h2 : DSs K X rest u χ) : DSs K X (st :: rest) (tSeq t u) (sSeq φ χ) := by
  have hK := h1.eK
  subst hK
  refine ⟨rfl, pss_cons h1.ps h2.pss, ?_⟩
  intro σ H G F ρ μ R E s e h k
  exact h1.ad σ H G F ρ μ _ _ s e h ⟨fun ρ1 μ1 σ1 G1 H1 hb g1 s1 e1 => h2.ad σ1 H1 G1 F ρ1 μ1 R E s1 e1 hb (k.mono g1), k.rt, k.bk, k.ct⟩
theorem ss_one (h1 : DS K X st t φ) : DSs K X [st] t φ := by
  have hK := h1.eK
  subst hK
  exact ⟨rfl, pss_one h1.ps, h1.ad⟩
def sBrk : TDS := fun R ρ μ => R.bk ρ μ
def sCnt : TDS := fun R ρ μ => R.ct ρ μ
theorem s_brk (hK : X.K = K := by rfl) : DS K X (.Break pos) tBreak sBrk := by
  subst hK
  exact ⟨rfl, ps_break, fun σ H G F ρ μ R E s e h k => k.bk ρ μ σ G H h (Same.refl _) s e⟩
theorem s_cnt (hK : X.K = K := by rfl) : DS K X (.Continue pos) tCont sCnt := by
  subst hK
  exact ⟨rfl, ps_continue, fun σ H G F ρ μ R E s e h k => k.ct ρ μ σ G H h (Same.refl _) s e⟩
theorem s_pass (hK : X.K = K := by rfl) : DS K X (.Pass pos) tNext sNext := by
  subst hK
  exact ⟨rfl, ps_pass, fun σ H G F ρ μ R E s e h k => k.nx ρ μ σ G H h (Same.refl _) s e⟩
def sNev : TDS := fun _ _ _ => False
theorem s_never (hK : X.K = K := by rfl) : DS K X st tNever sNev := by
  subst hK
  exact ⟨rfl, ps_never, fun _ _ _ _ _ _ _ _ _ _ h _ => h.elim⟩
theorem ss_never {sts : List Stmt} (hK : X.K = K := by rfl) : DSs K X sts tNever sNev := by
  subst hK
  exact ⟨rfl, pss_never, fun _ _ _ _ _ _ _ _ _ _ h _ => h.elim⟩
def sRet (φ : TD) : TDS := fun R ρ μ => φ ρ μ R.rt
theorem s_ret (he : DE K X e te φe) : DS K X (.Return (some e) pos) (tRet te) (sRet φe) := by
  have hK := he.eK
  subst hK
  exact ⟨rfl, ps_ret he.pe, fun σ H G F ρ μ R E s e h k => he.ad σ H G F ρ μ _ _ s e h k.rt⟩
def sDrop (φ : TD) : TDS := fun R ρ μ => φ ρ μ fun _ μ1 => R.nx ρ μ1
theorem s_expr (he : DE K X e te φe) (hs : swapsWith e none pos.line X.env = pure false := by rfl) : DS K X (.Expr e pos) (tDrop te) (sDrop φe) := by
  have hK := he.eK
  subst hK
  exact ⟨rfl, ps_expr he.pe hs, fun σ H G F ρ μ R E s e h k => he.ad σ H G F ρ μ _ _ s e h fun d μ1 v G1 H1 hb g1 s1 _ => k.nx ρ μ1 σ G1 H1 hb g1 s1 (e.mono g1)⟩
def sIf (φt : TDT) (φ χ : TDS) : TDS := fun R ρ μ => φt ρ μ fun b μ1 => if b = true then φ R ρ μ1 else χ R ρ μ1
theorem s_if {c : Expr} {a b : List Stmt} (hc : DT K X c tt φt) (ha : DSs K X a t φ) (hb : DSs K X b u χ) : DS K X (.If c a b pos) (tIfS tt t u) (sIf φt φ χ) := by
  have hK := hc.eK
  subst hK
  refine ⟨rfl, ps_if hc.pt ha.pss hb.pss, ?_⟩
  intro σ H G F ρ μ R E s e h k
  refine hc.ad σ H G F ρ μ _ _ s e h fun b1 μ1 G1 H1 hb1 g1 s1 => ?_
  cases b1 with
  | true => exact ha.ad σ H1 G1 F ρ μ1 R E s1 (e.mono g1) hb1 (k.mono g1)
  | false => exact hb.ad σ H1 G1 F ρ μ1 R E s1 (e.mono g1) hb1 (k.mono g1)
/-! targets -/
def gNm (i : Nat) : TDG := fun d ρ μ R => R (ρ.set i (some d)) μ
theorem g_name (i : Nat) {x : Str} (hN : X.N.Nodup) (hi : X.N[i]? = some x := by rfl) (hx : Loc X.env.scope x := by first | exact Or.inl rfl | exact Or.inr rfl) (hf : X.fn x = true ∨ X.env.scope.names.lookup x = some .local := by first | exact .inl rfl | exact .inr rfl) (hK : X.K = K := by rfl) :
    DG K X (.Name x pos) (gName i) (gNm i) := by
  subst hK
  exact ⟨rfl, pg_name hN hi hx hf, fun v d σ H G F ρ μ R Q s e a h k => k _ μ _ G H h (Same.refl _) s (e.set i a)⟩
def gNl : TDGs := fun ds ρ μ R => match ds with
  | [] => R ρ μ
  | _ => False
def gCn (γ : TDG) (δ : TDGs) : TDGs := fun ds ρ μ R => match ds with
  | d :: r => γ d ρ μ fun ρ1 μ1 => δ r ρ1 μ1 R
  | [] => False
theorem gs_nil (hK : X.K = K := by rfl) : DGs K X [] gNil gNl := by
  subst hK
  refine ⟨rfl, pgs_nil, ?_⟩
  intro vs ds σ H G F ρ μ R Q s e a h k
  cases a with
  | nil => exact ⟨rfl, k ρ μ σ G H h (Same.refl _) s e⟩
  | cons _ _ => exact h.elim
theorem gs_cons {es : List Expr} {tg : TG} {γ : TDG} {tgs : TGs} {δ : TDGs} (h1 : DG K X e tg γ) (h2 : DGs K X es tgs δ) (hs : (assignEach (e :: es) X.env).map (·.2) = assign e X.env :: (assignEach es X.env).map (·.2) := by rfl) : DGs K X (e :: es) (gCons tg tgs) (gCn γ δ) := by
  have hK := h1.eK
  subst hK
  refine ⟨rfl, pgs_cons h1.pg h2.pgs hs, ?_⟩
  intro vs ds σ H G F ρ μ R Q s e a h k
  cases a with
  | nil => exact h.elim
  | cons a1 a2 =>
    refine ⟨_, _, rfl, ?_⟩
    refine h1.ad _ _ σ H G F ρ μ _ _ s e a1 h fun ρ1 μ1 σ1 G1 H1 hb g1 s1 e1 => ?_
    exact h2.ad _ _ σ1 H1 G1 F ρ1 μ1 _ _ s1 e1 (a2.mono g1) hb fun ρ2 μ2 σ2 G2 H2 r g2 s2 e2 => k ρ2 μ2 σ2 G2 H2 r (g1.trans g2) s2 e2
def gTp (n : Nat) (δ : TDGs) : TDG := fun d ρ μ R => match d with
  | .tup ds => ds.length = n ∧ δ ds ρ μ R
  | _ => False
theorem g_tup {es : List Expr} {kk : Nat} {tgs : TGs} {δ : TDGs} {n : Nat} (hc : X.calm = true) (h : DGs K X es tgs δ) (hn : (assignEach es X.env).length = n := by rfl) (hst : (assignEach es X.env).findIdx? (·.1) = none := by rfl) : DG K X (.Tuple es kk pos) (gTup K n tgs) (gTp n δ) := by
  have hK := h.eK
  subst hK
  refine ⟨rfl, pg_tup hc h.pgs hn hst, ?_⟩
  intro v d σ H G F ρ μ R Q s e a hr k
  cases d <;> first | exact hr.elim | skip
  cases a with
  | tup hg t => exact ⟨_, _, rfl, SqT.of (s.gh _ _ hg), by rw [t.length]; exact hr.1, h.ad _ _ σ H G F ρ μ _ _ s e t hr.2 k⟩
/-- o[i] = value, o a list of the store -/
def gSb (φo φi : TD) : TDG := fun d ρ μ R => φo ρ μ fun o μ1 => φi ρ μ1 fun i μ2 => match o, i with
  | .adr p, .int k => onL (μ2 p) fun ds => ∃ j, ixN ds.length k = some j ∧ R ρ (μ2.put p (.lst (ds.set j d)))
  | _, _ => False
theorem g_sub {o i : Expr} {to ti : TE} {φo φi : TD} (ho : DE K X o to φo) (hi : DE K X i ti φi)
    (ha : ∀ v, assign (.Subscript o i pos) X.env v = (do
      let ov ← holding [v] (eval o X.env)
      let iv ← holding [v, ov] (eval i X.env)
      standAt pos
      holding [v, ov, iv] (setItem ov iv v)
      release [v, ov, iv] []) := by intro _; rfl) : DG K X (.Subscript o i pos) (gSub to ti rSetL) (gSb φo φi) := by
  have hK := ho.eK
  subst hK
  refine ⟨rfl, pg_sub ho.pe hi.pe set_list ha, ?_⟩
  intro v d σ H G F ρ μ R Q s e a hr k
  refine ho.ad σ H G F ρ μ _ _ s e hr fun dq μ1 vo G1 H1 hb g1 s1 a1 => ?_
  refine hi.ad σ H1 G1 F ρ μ1 _ _ s1 (e.mono g1) hb fun di μ2 vi G2 H2 hb2 g2 s2 a2 => ?_
  cases dq <;> cases di <;> first | exact hb2.elim | skip
  cases a1
  cases a2
  obtain ⟨ds, e1, j, hj, hr2⟩ := onL_ok hb2
  obtain ⟨hg, vs, hv, t⟩ := s2.st _ _ e1
  refine ⟨_, vs, _, j, rfl, rfl, hv, by rw [t.length]; exact hj, ?_⟩
  have s3 := s2.write (o := .lst (vs.set j v)) (m' := .lst (ds.set j d)) e1 ⟨_, upd_same, Ats.set ((a.mono g1).mono g2) j t⟩
  exact k ρ _ σ G2 _ hr2 (g1.trans g2) s3 ((e.mono g1).mono g2)
def sAsg (φ : TD) (γ : TDG) : TDS := fun R ρ μ => φ ρ μ fun d μ1 => γ d ρ μ1 R.nx
theorem s_asg {tg : Expr} {g : TG} {γ : TDG} (he : DE K X e te φe) (hg : DG K X tg g γ) (hs : swapsWithSole [tg] e pos.line X.env = pure false := by rfl) (hw : swappedStores [tg] e X.env = pure none := by rfl)
    (h1 : (assignEach [tg] X.env).map (·.2) = [assign tg X.env] := by rfl) : DS K X (.Assign [tg] e pos) (tAsg te g) (sAsg φe γ) := by
  have hK := he.eK
  subst hK
  refine ⟨rfl, ps_asg he.pe hg.pg hs hw h1, ?_⟩
  intro σ H G F ρ μ R E s e h k
  refine he.ad σ H G F ρ μ _ _ s e h fun d μ1 v G1 H1 hb g1 s1 a1 => ?_
  exact hg.ad v d σ H1 G1 F ρ μ1 _ _ s1 (e.mono g1) a1 hb fun ρ2 μ2 σ2 G2 H2 r g2 s2 e2 => k.nx ρ2 μ2 σ2 G2 H2 r (g1.trans g2) s2 e2
theorem ad_set {K : PySem.W.Frag} {i : Nat} (a : AdE K te φe) : AdS K (tAsg te (gName i)) (sAsg φe (gNm i)) := by
  intro σ H G F ρ μ R E s e h k
  refine a σ H G F ρ μ _ _ s e h fun d μ1 v G1 H1 hb g1 s1 a1 => ?_
  exact k.nx _ μ1 _ G1 H1 hb g1 s1 ((e.mono g1).set i a1)
theorem s_set (i : Nat) {x : Str} {pos' : Pos} (hN : X.N.Nodup) (he : DE K X e te φe) (hi : X.N[i]? = some x := by rfl) (hx : Loc X.env.scope x := by first | exact Or.inl rfl | exact Or.inr rfl) (hs : swapsWith e (some (.Name x pos')) pos.line X.env = pure false := by rfl)
    (hf : X.fn x = true ∨ X.env.scope.names.lookup x = some .local := by first | exact .inl rfl | exact .inr rfl) : DS K X (.Assign [.Name x pos'] e pos) (tAsg te (gName i)) (sAsg φe (gNm i)) := by
  have hK := he.eK
  subst hK
  exact ⟨rfl, ps_set hN hi hx he.pe hs hf, ad_set he.ad⟩
/-- a, b = e1, e2 of plain local names -/
def sPar (i j : Nat) (χ : TDA) : TDS := fun R ρ μ => χ ρ μ fun ds μ1 => match ds with
  | [d, e] => R.nx ((ρ.set i (some d)).set j (some e)) μ1
  | _ => False
theorem s_par (i j : Nat) {x y : Str} {a b : Expr} {ta : TA} {χ : TDA} {px py pt : Pos} {kt k2 pt2} (hc : X.calm = true) (hN : X.N.Nodup) (ha : DA K X [a, b] ta χ) (hi : X.N[i]? = some x := by rfl) (hj : X.N[j]? = some y := by rfl) (hij : i ≠ j := by decide)
    (hx : X.env.scope.names.lookup x = some .local := by rfl) (hy : X.env.scope.names.lookup y = some .local := by rfl)
    (hw : swappedStores [.Tuple [.Name x px, .Name y py] kt pt] (.Tuple [a, b] k2 pt2) X.env = pure (some [x, y]) := by rfl)
    (hs : swapsWithSole [.Tuple [.Name x px, .Name y py] kt pt] (.Tuple [a, b] k2 pt2) pos.line X.env = pure false := by rfl) :
    DS K X (.Assign [.Tuple [.Name x px, .Name y py] kt pt] (.Tuple [a, b] k2 pt2) pos) (tPar i j ta) (sPar i j χ) := by
  have hK := ha.eK
  subst hK
  refine ⟨rfl, ps_par hc hN hi hj hij hx hy ha.pa hw hs, ?_⟩
  intro σ H G F ρ μ R E s e h k
  refine ha.ad σ H G F ρ μ _ _ s e h fun ds μ1 vs G1 H1 hb g1 s1 a1 => ?_
  cases a1 with
  | nil => exact hb.elim
  | cons a1 a2 =>
    cases a2 with
    | nil => exact hb.elim
    | cons a2 a3 =>
      cases a3 with
      | cons _ _ => exact hb.elim
      | nil => exact ⟨_, _, rfl, k.nx _ μ1 _ G1 H1 hb g1 s1 (((e.mono g1).set i a1).set j a2)⟩
/-- name += e of ints -/
def sAug (i : Nat) (f : Int → Int → Int) (φ : TD) : TDS := fun R ρ μ => dGet ρ i fun x => φ ρ μ fun y μ1 => match x, y with
  | .int a, .int b => R.nx (ρ.set i (some (.int (f a b)))) μ1
  | _, _ => False
theorem s_augAdd (i : Nat) {x : Str} {pos' : Pos} (hN : X.N.Nodup) (he : DE K X e te φe) (hi : X.N[i]? = some x := by rfl) (hx : Loc X.env.scope x := by first | exact Or.inl rfl | exact Or.inr rfl) (hf : X.fn x = true ∨ X.env.scope.names.lookup x = some .local := by first | exact .inl rfl | exact .inr rfl) :
    DS K X (.AugAssign (.Name x pos') .Add e pos) (tAug i te (ipI fun a b => a + b)) (sAug i (fun a b => a + b) φe) := by
  have hK := he.eK
  subst hK
  refine ⟨rfl, ps_aug hN hi hx he.pe ip_add hf, ?_⟩
  intro σ H G F ρ μ R E s ev h k
  obtain ⟨d, h1, h2⟩ := dGet_ok h
  obtain ⟨v, h3, h4⟩ := ev.2 _ _ h1
  refine ⟨v, h3, he.ad σ H G F ρ μ _ _ s ev h2 fun d2 μ1 v2 G1 H1 hb g1 s1 a1 => ?_⟩
  cases d <;> cases d2 <;> first | exact hb.elim | skip
  cases h4
  cases a1
  exact ⟨_, _, rfl, rfl, k.nx _ μ1 _ G1 H1 hb g1 s1 ((ev.mono g1).set i (.int _))⟩
/-- self.f = e, the instance of the store -/
def sFd (C : Addr) (f : Str) (φo φv : TD) : TDS := fun R ρ μ => φv ρ μ fun d μ1 => φo ρ μ1 fun o μ2 => match o with
  | .adr p => ∃ fs, μ2 p = some (.ins C fs) ∧ fs.lookup f = none ∧ fs.length < 1000 ∧ R.nx ρ (μ2.put p (.ins C (fs ++ [(f, d)])))
  | _ => False
theorem putF_new (f : Str) (v : V) : ∀ {gs : List (Str × V)}, gs.lookup f = none → putF f v gs = gs ++ [(f, v)]
  | [], _ => rfl
  | (g, u) :: r, h => by
    rw [List.lookup_cons] at h
    cases q : f == g with
    | true =>
      rw [q] at h
      cases h
    | false =>
      rw [q] at h
      have hne : ¬ g = f := fun z => by
        rw [z, beq_self_eq_true] at q
        cases q
      show (if g = f then _ else _) = _
      rw [if_neg hne, putF_new f v h]
      rfl
theorem s_fld {o value : Expr} {f : Str} {C : Addr} {to tv : TE} {φo φv : TD} {pos' : Pos} (c : Cls K C) (n : NoAttr K C f) (ho : DE K X o to φo) (hv : DE K X value tv φv) (hs : swapsWith value (some (.Attribute o f pos')) pos.line X.env = pure false := by rfl) :
    DS K X (.Assign [.Attribute o f pos'] value pos) (sFld K to tv f) (sFd C f φo φv) := by
  have hK := ho.eK
  subst hK
  refine ⟨rfl, ps_fld ho.pe hv.pe hs, ?_⟩
  intro σ H G F ρ μ R E s ev h k
  refine hv.ad σ H G F ρ μ _ _ s ev h fun d μ1 v G1 H1 hb g1 s1 a1 => ?_
  refine ho.ad σ H1 G1 F ρ μ1 _ _ s1 (ev.mono g1) hb fun dq μ2 vo G2 H2 hb2 g2 s2 a2 => ?_
  cases dq <;> first | exact hb2.elim | skip
  obtain ⟨fs, e1, hl, hz, hr⟩ := hb2
  cases a2
  obtain ⟨hg, dx, gs, hp, tf⟩ := s2.st _ _ e1
  refine ⟨_, C, dx, gs, rfl, hp, c, n, by rw [tf.length]; exact hz, ?_⟩
  rw [putF_new f v (tf.none hl)]
  have app : ∀ {gs : List (Str × V)} {fs : List (Str × D)}, AtF X.K G2 gs fs → AtF X.K G2 (gs ++ [(f, v)]) (fs ++ [(f, d)]) := by
    intro gs
    induction gs with
    | nil =>
      intro fs tf
      cases tf
      exact .cons (a1.mono g2) .nil
    | cons g r ih =>
      intro fs tf
      cases tf with
      | cons h t => exact .cons h (ih t)
  have s3 := s2.write (o := .ins C dx (gs ++ [(f, v)])) (m' := .ins C (fs ++ [(f, d)])) e1 ⟨_, _, upd_same, app tf⟩
  exact k.nx ρ _ σ G2 _ hr (g1.trans g2) s3 ((ev.mono g1).mono g2)
end
end DL
end
/-! E -/
section
set_option Elab.async false
set_option linter.all false
set_option maxRecDepth 100000
set_option maxHeartbeats 4000000
namespace DL
open PySem PySem.Spec PyProof.Rows L2
variable {K : PySem.W.Frag}

def onAdr : D → (Addr → Prop) → Prop
  | .adr p, k => k p
  | _, _ => False
theorem onAdr_ok {d : D} {k : Addr → Prop} (h : onAdr d k) : ∃ p, d = .adr p ∧ k p := by
  cases d with
  | adr p => exact ⟨p, rfl, h⟩
  | _ => exact h.elim
/-- xs.append(e), xs a list of the store -/
def dApp (φo : TD) (φe : TD) : TD := fun ρ μ R => φo ρ μ fun o μ1 => onAdr o fun p => onL (μ1 p) fun _ => φe ρ μ1 fun d μ2 => onL (μ2 p) fun ds => ds.length < sizeLine ∧ R .non (μ2.put p (.lst (ds ++ [d])))
section
variable {X : Cx} {pos : Pos}
theorem d_app {o e : Expr} {to te : TE} {φo φe : TD} {apos cpos : Pos} (ho : DE K X o to φo) (he : DE K X e te φe) (hbase : attributeBase o "append" X.env (eval o X.env) = eval o X.env := by rfl)
    (hfew : ((backTo cpos (starEach (e :: []) X.env)).all (fun x => !x.1) && (backToKw cpos (keywordEach [] X.env)).all (fun x => x.1.isSome)
      && decide ((e :: []).length + ([] : List Keyword).length + (if ([] : List Keyword).isEmpty then 0 else 1) < 30)) = true := by rfl)
    (hline : (apos.endLine == cpos.line) = true := by rfl) (hs : starEach (e :: []) X.env = (false, eval e X.env) :: starEach [] X.env := by rfl) (hplain : (backTo cpos (starEach [] X.env)).any (·.1) = false := by rfl) :
    DE K X (.Call (.Attribute o "append" apos) [e] [] cpos) (tBM K "list" rAppend to (tCons te tNil)) (dApp φo φe) := by
  have hK := ho.eK
  subst hK
  refine ⟨rfl, pe_bm PySem.F.plainAttrs_list PySem.F.slot_list_append PySem.F.type_list_append mt_append ho.pe (pa_cons he.pe pa_nil hs) hbase hfew hline hs hplain, ?_⟩
  intro σ H G F ρ μ R Q s ev h k
  refine ho.ad σ H G F ρ μ _ _ s ev h fun dq μ1 vo G1 H1 hb g1 s1 a1 => ?_
  obtain ⟨p, rfl, hb⟩ := onAdr_ok hb
  obtain ⟨ds0, e0, hb⟩ := onL_ok hb
  cases a1
  obtain ⟨_, vs0, hv0, _⟩ := s1.st _ _ e0
  refine ⟨.inl ⟨rfl, vs0, SqL.of hv0⟩, ?_⟩
  refine he.ad σ H1 G1 F ρ μ1 _ _ s1 (ev.mono g1) hb fun d μ2 v G2 H2 hb2 g2 s2 a2 => ?_
  obtain ⟨ds, e1, hz, hr⟩ := onL_ok hb2
  obtain ⟨_, vs, hv, t⟩ := s2.st _ _ e1
  refine ⟨p, vs, v, rfl, rfl, hv, by rw [t.length]; exact hz, ?_⟩
  have s3 := s2.write (o := .lst (vs ++ [v])) (m' := .lst (ds ++ [d])) e1 ⟨_, upd_same, t.snoc a2⟩
  exact k _ _ _ G2 _ hr (g1.trans g2) s3 .non
/-! ### what is walked -/
/-- the walk J gives the items ds, while the store is as kp says -/
def JOk (K : PySem.W.Frag) (G : Hp) (ds : List D) (kp : Sto → Prop) (J : It) : Prop := ∀ (i : Nat) (G' H' F' : Hp) (μ' : Sto), Same G G' → S K G' H' F' μ' → kp μ' →
  (i = ds.length → J.stop i H') ∧ ∀ d, ds[i]? = some d → J.go i H' ∧ ∀ x H'', J.yld i H' x H'' → ∃ G'', Same G' G'' ∧ S K G'' H'' F' μ' ∧ At K G'' x d
theorem JOk.mono {K : PySem.W.Frag} {G G1 : Hp} {ds : List D} {kp : Sto → Prop} {J : It} (h : JOk K G ds kp J) (g : Same G G1) : JOk K G1 ds kp J := fun i G' H' F' μ' a => h i G' H' F' μ' (g.trans a)
def AdI (K : PySem.W.Frag) (wi : TI) (ψ : TDI) : Prop := ∀ (σ : L2.St) (H G F : Hp) (ρ : Ev) (μ : Sto) (R : List D → (Sto → Prop) → Sto → Prop) (Q : It → Hp → Prop), S K G H F μ → EvAt K G σ ρ → ψ ρ μ R →
  (∀ ds kp μ' J G' H', R ds kp μ' → Same G G' → S K G' H' F μ' → JOk K G' ds kp J → Q J H') → wi σ H Q
structure DI (K : PySem.W.Frag) (X : Cx) (tg iter : Expr) (wi : TI) (ψ : TDI) : Prop where
  eK : X.K = K
  pi : PI X tg iter wi
  ad : AdI K wi ψ
variable {tg iter : Expr}
def always : Sto → Prop := fun _ => True
/-- over a list or a tuple, whichever the value is -/
def iAny (K : PySem.W.Frag) (tl : TE) : TI := fun σ H R => tl σ H fun x H1 => ∃ a, x = .ref a ∧ (((∃ xs, SqL K H1 a xs) ∧ R (Itl K a) H1) ∨ ((∃ xs, SqT K H1 a xs) ∧ R (Itt K a) H1))
theorem pi_any {l : Expr} {tl : TE} (hl : PE X l tl) : PI X tg l (iAny X.K tl) := by
  refine ⟨fun pins s σ H R I h => ?_⟩
  refine thn (hl.run pins s σ H _ I h) fun v s1 h1 => ?_
  obtain ⟨x, H1, I1, r1, a, rfl, q⟩ := h1
  cases r1
  have fr : ∀ b ∈ [s1.heap.objs.size], FpOk X pins H1 b := fun b hb => by
    have e : b = s1.heap.objs.size := List.mem_singleton.mp hb
    rw [e]
    exact I1.fpOk (Nat.le_refl _) (I1.hok.fresh (Nat.le_refl _))
  have kp : ∀ o : Obj, Inv X pins σ H1 { s1 with heap := s1.heap.push o } := fun o => I1.kept (t' := s1.toks) fun b u e => Heap.get?_push_of_some _ e
  rcases q with ⟨⟨xs, hq⟩, q⟩ | ⟨⟨xs, hq⟩, q⟩
  · obtain ⟨its, _, pl, _⟩ := I1.list hq
    exact wpAny_pyIter_list pl.isList ⟨_, _, _, _, H1, rfl, kp _, turn_list a _, ⟨_, Heap.get?_push_size _ rfl, rfl, rfl⟩, fr, q⟩
  · obtain ⟨its, _, pl, _⟩ := I1.tuple hq
    exact wpAny_pyIter_tuple (show s1.heap.IsTuple a its.toArray from pl) ⟨_, _, _, _, H1, rfl, kp _, turn_tuple a _, ⟨_, Heap.get?_push_size _ rfl, rfl, rfl⟩, fr, q⟩
@[irreducible] def onSq (d : D) (μ : Sto) (R : List D → (Sto → Prop) → Sto → Prop) : Prop := match d with
  | .lst ds => R ds always μ
  | .tup ds => R ds always μ
  | .adr p => onL (μ p) fun ds => R ds (fun μ' => μ' p = some (.lst ds)) μ
  | _ => False
theorem Sq.lst {ds : List D} {μ : Sto} {R : List D → (Sto → Prop) → Sto → Prop} (h : R ds always μ) : onSq (.lst ds) μ R := by
  unfold onSq
  exact h
theorem Sq.tup {ds : List D} {μ : Sto} {R : List D → (Sto → Prop) → Sto → Prop} (h : R ds always μ) : onSq (.tup ds) μ R := by
  unfold onSq
  exact h
theorem Sq.adr {p : Addr} {ds : List D} {μ : Sto} {R : List D → (Sto → Prop) → Sto → Prop} (e : μ p = some (.lst ds)) (h : R ds (fun μ' => μ' p = some (.lst ds)) μ) : onSq (.adr p) μ R := by
  have q : onL (μ p) (fun ds => R ds (fun μ' => μ' p = some (.lst ds)) μ) := by
    rw [e]
    exact h
  unfold onSq
  exact q
def iSeq (φ : TD) : TDI := fun ρ μ R => φ ρ μ fun d μ1 => onSq d μ1 R
theorem jok_list {K : PySem.W.Frag} {G : Hp} {a : Addr} {ds : List D} {kp : Sto → Prop} (h : ∀ G' H' F' μ', Same G G' → S K G' H' F' μ' → kp μ' → ∃ vs, H' a = some (.lst vs) ∧ Ats K G' vs ds) : JOk K G ds kp (Itl K a) := by
  intro i G' H' F' μ' g s hk
  obtain ⟨vs, hv, t⟩ := h G' H' F' μ' g s hk
  refine ⟨fun hi => ⟨vs, SqL.of hv, by rw [t.length, hi]; exact Nat.le_refl _⟩, fun d hd => ?_⟩
  obtain ⟨v, hv2, a2⟩ := t.get hd
  refine ⟨⟨vs, v, SqL.of hv, hv2⟩, fun x H'' y => ?_⟩
  obtain ⟨rfl, y⟩ := y
  have e := y vs (SqL.of hv)
  rw [hv2] at e
  cases e
  exact ⟨G', Same.refl _, s, a2⟩
theorem jok_tup {K : PySem.W.Frag} {G : Hp} {a : Addr} {ds : List D} {vs : List V} {kp : Sto → Prop} (hg : G a = some (.tup vs)) (t : Ats K G vs ds) : JOk K G ds kp (Itt K a) := by
  intro i G' H' F' μ' g s hk
  have hv : SqT K H' a vs := SqT.of (s.gh _ _ (g _ _ hg))
  refine ⟨fun hi => ⟨vs, hv, by rw [t.length, hi]; exact Nat.le_refl _⟩, fun d hd => ?_⟩
  obtain ⟨v, hv2, a2⟩ := t.get hd
  refine ⟨⟨vs, v, hv, hv2⟩, fun x H'' y => ?_⟩
  obtain ⟨rfl, y⟩ := y
  have e := y vs hv
  rw [hv2] at e
  cases e
  exact ⟨G', Same.refl _, s, a2.mono g⟩
theorem i_seq {l : Expr} {tl : TE} {φ : TD} (hl : DE K X l tl φ) : DI K X tg l (iAny K tl) (iSeq φ) := by
  have hK := hl.eK
  subst hK
  refine ⟨rfl, pi_any hl.pe, ?_⟩
  intro σ H G F ρ μ R Q s ev h k
  refine hl.ad σ H G F ρ μ _ _ s ev h fun d μ1 v G1 H1 hb g1 s1 a1 => ?_
  unfold onSq at hb
  cases d <;> first | exact (show False from hb).elim | skip
  · cases a1
    obtain ⟨ds, e1, hr⟩ := onL_ok hb
    obtain ⟨hg, vs, hv, t⟩ := s1.st _ _ e1
    refine ⟨_, rfl, .inl ⟨⟨vs, SqL.of hv⟩, k ds _ μ1 _ G1 H1 hr g1 s1 (jok_list fun G' H' F' μ' g s2 hk => ?_)⟩⟩
    obtain ⟨_, ws, hw, t2⟩ := s2.st _ _ hk
    exact ⟨ws, hw, t2⟩
  · cases a1 with
    | tup hg t => exact ⟨_, rfl, .inr ⟨⟨_, SqT.of (s1.gh _ _ hg)⟩, k _ _ μ1 _ G1 H1 hb g1 s1 (jok_tup hg t)⟩⟩
  · cases a1 with
    | lst hg t => exact ⟨_, rfl, .inl ⟨⟨_, SqL.of (s1.gh _ _ hg)⟩, k _ _ μ1 _ G1 H1 hb g1 s1 (jok_list fun G' H' F' μ' g s2 _ => ⟨_, s2.gh _ _ (g _ _ hg), t.mono g⟩)⟩⟩
/-! ranges -/
def rngD (lo : Int) (n : Nat) : List D := (List.range n).map fun i => D.int (lo + (i : Nat))
theorem rngD_length (lo : Int) (n : Nat) : (rngD lo n).length = n := by unfold rngD; rw [List.length_map, List.length_range]
theorem rngD_get {lo : Int} {n i : Nat} {d : D} (h : (rngD lo n)[i]? = some d) : i < n ∧ d = .int (lo + (i : Nat)) := by
  have hi : i < (rngD lo n).length := (List.getElem?_eq_some_iff.mp h).1
  rw [rngD_length] at hi
  refine ⟨hi, ?_⟩
  unfold rngD at h
  rw [List.getElem?_map, List.getElem?_range hi] at h
  exact (Option.some.inj h).symm
theorem jok_rng {K : PySem.W.Frag} {G : Hp} {lo : Int} {n : Nat} {kp : Sto → Prop} : JOk K G (rngD lo n) kp (Itr lo n) := by
  intro i G' H' F' μ' g s hk
  refine ⟨fun hi => by rw [rngD_length] at hi; exact Nat.le_of_eq hi.symm, fun d hd => ?_⟩
  obtain ⟨hi, rfl⟩ := rngD_get hd
  refine ⟨hi, fun x H'' y => ?_⟩
  obtain ⟨rfl, rfl⟩ := y
  exact ⟨G', Same.refl _, s, .int _⟩
/-- the ends of a range -/
def RB (i : Int) : Prop := -(2 ^ 62) ≤ i ∧ i < 2 ^ 62
def iR1 (φ : TD) : TDI := fun ρ μ R => φ ρ μ fun d μ1 => onI d fun j => RB j ∧ R (rngD 0 j.toNat) always μ1
def iR2 (φ χ : TD) : TDI := fun ρ μ R => φ ρ μ fun d μ1 => χ ρ μ1 fun e μ2 => onI d fun i => onI e fun j => RB i ∧ RB j ∧ R (rngD i (j - i).toNat) always μ2
theorem i_range1 {a : Expr} {ta : TE} {φ : TD} {p : Pos} (hm : X.mg "range" = none) (ha : DE K X a ta φ) (hg : Gl X "range" := by rfl) (hs : starEach [a] X.env = [(false, eval a X.env)] := by rfl) : DI K X tg (.Call (.Name "range" p) [a] [] pos) (iRng1 (tCons ta tNil)) (iR1 φ) := by
  have hK := ha.eK
  subst hK
  refine ⟨rfl, pi_range1 hg hm (pa_cons ha.pe pa_nil hs) hs, ?_⟩
  intro σ H G F ρ μ R Q s ev h k
  refine ha.ad σ H G F ρ μ _ _ s ev h fun d μ1 v G1 H1 hb g1 s1 a1 => ?_
  obtain ⟨j, rfl, hj, hr⟩ := onI_ok hb
  cases a1
  exact ⟨j, rfl, hj.1, hj.2, k _ _ μ1 _ G1 H1 hr g1 s1 jok_rng⟩
theorem i_range2 {a b : Expr} {ta tb : TE} {φ χ : TD} {p : Pos} (hm : X.mg "range" = none) (ha : DE K X a ta φ) (hb : DE K X b tb χ) (hg : Gl X "range" := by rfl) (hs : starEach [a, b] X.env = [(false, eval a X.env), (false, eval b X.env)] := by rfl) (hs2 : starEach [b] X.env = [(false, eval b X.env)] := by rfl) :
    DI K X tg (.Call (.Name "range" p) [a, b] [] pos) (iRng2 (tCons ta (tCons tb tNil))) (iR2 φ χ) := by
  have hK := ha.eK
  subst hK
  refine ⟨rfl, pi_range2 hg hm (pa_cons ha.pe (pa_cons hb.pe pa_nil hs2) (by rw [hs, hs2])) hs hs2, ?_⟩
  intro σ H G F ρ μ R Q s ev h k
  refine ha.ad σ H G F ρ μ _ _ s ev h fun d μ1 v G1 H1 hb1 g1 s1 a1 => ?_
  refine hb.ad σ H1 G1 F ρ μ1 _ _ s1 (ev.mono g1) hb1 fun e μ2 v2 G2 H2 hb2 g2 s2 a2 => ?_
  obtain ⟨i, rfl, hb3⟩ := onI_ok hb2
  obtain ⟨j, rfl, hi, hj, hr⟩ := onI_ok hb3
  cases a1
  cases a2
  exact ⟨i, j, rfl, ⟨hi.1, hi.2, hj.1, hj.2⟩, k _ _ μ2 _ G2 H2 hr (g1.trans g2) s2 jok_rng⟩
/-- a range downwards -/
def dwnD (lo : Int) (n : Nat) : List D := (List.range n).map fun i => D.int (lo - (i : Nat))
theorem dwnD_length (lo : Int) (n : Nat) : (dwnD lo n).length = n := by unfold dwnD; rw [List.length_map, List.length_range]
theorem dwnD_get {lo : Int} {n i : Nat} {d : D} (h : (dwnD lo n)[i]? = some d) : i < n ∧ d = .int (lo - (i : Nat)) := by
  have hi : i < (dwnD lo n).length := (List.getElem?_eq_some_iff.mp h).1
  rw [dwnD_length] at hi
  refine ⟨hi, ?_⟩
  unfold dwnD at h
  rw [List.getElem?_map, List.getElem?_range hi] at h
  exact (Option.some.inj h).symm
theorem jok_dwn {K : PySem.W.Frag} {G : Hp} {lo : Int} {n : Nat} {kp : Sto → Prop} : JOk K G (dwnD lo n) kp (Itc lo (-1) n) := by
  intro i G' H' F' μ' g s hk
  refine ⟨fun hi => by rw [dwnD_length] at hi; exact Nat.le_of_eq hi.symm, fun d hd => ?_⟩
  obtain ⟨hi, rfl⟩ := dwnD_get hd
  refine ⟨hi, fun x H'' y => ?_⟩
  obtain ⟨rfl, rfl⟩ := y
  have e : lo + (i : Nat) * (-1) = lo - (i : Nat) := by omega
  rw [e]
  exact ⟨G', Same.refl _, s, .int _⟩
def iR3 (φ χ ω : TD) : TDI := fun ρ μ R => φ ρ μ fun d μ1 => χ ρ μ1 fun e μ2 => ω ρ μ2 fun f μ3 => onI d fun i => onI e fun j => onI f fun c => c = -1 ∧ RB i ∧ RB j ∧ R (dwnD i (i - j).toNat) always μ3
theorem i_range3 {a b c : Expr} {ta tb tc : TE} {φ χ ω : TD} {p : Pos} (hm : X.mg "range" = none) (ha : DE K X a ta φ) (hb : DE K X b tb χ) (hc : DE K X c tc ω) (hg : Gl X "range" := by rfl)
    (hs : starEach [a, b, c] X.env = (false, eval a X.env) :: starEach [b, c] X.env := by rfl) (hs2 : starEach [b, c] X.env = (false, eval b X.env) :: starEach [c] X.env := by rfl) (hs3 : starEach [c] X.env = (false, eval c X.env) :: starEach [] X.env := by rfl) (hpl : (backTo pos (starEach [b, c] X.env)).any (·.1) = false := by rfl) :
    DI K X tg (.Call (.Name "range" p) [a, b, c] [] pos) (iRng3 (tCons ta (tCons tb (tCons tc tNil)))) (iR3 φ χ ω) := by
  have hK := ha.eK
  subst hK
  refine ⟨rfl, pi_range3 hg hm (pa_cons ha.pe (pa_cons hb.pe (pa_cons hc.pe pa_nil hs3) hs2) hs) hs hpl, ?_⟩
  intro σ H G F ρ μ R Q s ev h k
  refine ha.ad σ H G F ρ μ _ _ s ev h fun d μ1 v G1 H1 hb1 g1 s1 a1 => ?_
  refine hb.ad σ H1 G1 F ρ μ1 _ _ s1 (ev.mono g1) hb1 fun e μ2 v2 G2 H2 hb2 g2 s2 a2 => ?_
  refine hc.ad σ H2 G2 F ρ μ2 _ _ s2 ((ev.mono g1).mono g2) hb2 fun e3 μ3 v3 G3 H3 hb3 g3 s3 a3 => ?_
  obtain ⟨i, rfl, h4⟩ := onI_ok hb3
  obtain ⟨j, rfl, h5⟩ := onI_ok h4
  obtain ⟨c, rfl, rfl, hi, hj, hr⟩ := onI_ok h5
  cases a1
  cases a2
  cases a3
  exact ⟨i, j, -1, _, rfl, RgC.neg hi.1 hi.2 hj.1 hj.2, k _ _ μ3 _ G3 H3 hr ((g1.trans g2).trans g3) s3 jok_dwn⟩
def dNeg (φ : TD) : TD := fun ρ μ R => φ ρ μ fun d μ1 => onI d fun i => R (.int (-i)) μ1
theorem d_neg {a : Expr} {ta : TE} {φ : TD} (ha : DE K X a ta φ) : DE K X (.UnaryOp .USub a pos) (tUn (rU fun i => .int (-i)) ta) (dNeg φ) := by
  have hK := ha.eK
  subst hK
  refine ⟨rfl, pe_un un_neg ha.pe, ?_⟩
  intro σ H G F ρ μ R Q s ev h k
  refine ha.ad σ H G F ρ μ _ _ s ev h fun d μ1 v G1 H1 hb1 g1 s1 a1 => ?_
  obtain ⟨i, rfl, hr⟩ := onI_ok hb1
  cases a1
  exact ⟨i, rfl, k _ μ1 _ G1 H1 hr g1 s1 (.int _)⟩
/-! ### for, while, comprehensions -/
def sFor (ψ : TDI) (γ : TDG) (φ : TDS) : TDS := fun R ρ μ => ψ ρ μ fun ds kp μ1 => ∃ W : Nat → Ev → Sto → Prop, W 0 ρ μ1 ∧ (∀ i ρ μ, W i ρ μ → kp μ) ∧
  (∀ i d ρ μ, ds[i]? = some d → W i ρ μ → γ d ρ μ fun ρ2 μ2 => φ { nx := W (i + 1), ct := W (i + 1), rt := R.rt, bk := R.nx } ρ2 μ2) ∧ ∀ ρ μ, W ds.length ρ μ → R.nx ρ μ
theorem s_for {body : List Stmt} {wi : TI} {ψ : TDI} {g : TG} {γ : TDG} {tb : TS} {φ : TDS} (hp : PassesOwn (model X.prog X.w) X.A X.env X.xe) (hc : X.calm = true) (hi : DI K X tg iter wi ψ) (hg : DG K X tg g γ) (hb : DSs K X body tb φ)
    (hs : ∀ x, foldedSetIterable iter X.env x = pure x := by intro _; rfl) : DS K X (.For tg iter body [] pos) (tFor wi g tb) (sFor ψ γ φ) := by
  have hK := hi.eK
  subst hK
  refine ⟨rfl, ps_for hp hc hi.pi hg.pg hb.pss hs, ?_⟩
  intro σ H G F ρ μ R E s ev h k
  refine hi.ad σ H G F ρ μ _ _ s ev h fun ds kp μ1 J G1 H1 hw g1 s1 jok => ?_
  obtain ⟨W, w0, wk, turn, fin⟩ := hw
  refine ⟨fun i m σ' H' => m = ds.length - i ∧ i ≤ ds.length ∧ ∃ G' ρ' μ', Same G1 G' ∧ S X.K G' H' F μ' ∧ EvAt X.K G' σ' ρ' ∧ W i ρ' μ', ⟨_, rfl, Nat.zero_le _, G1, ρ, μ1, Same.refl _, s1, ev.mono g1, w0⟩, ?_⟩
  rintro i m σ' H' ⟨rfl, hi', G', ρ', μ', g2, s2, ev2, w⟩
  have jo := jok i G' H' F μ' g2 s2 (wk i ρ' μ' w)
  by_cases hlt : i < ds.length
  · obtain ⟨go, step⟩ := jo.2 ds[i] (List.getElem?_eq_getElem hlt)
    refine .inr ⟨go, _, fun σ3 H3 n3 => ⟨ds.length - (i + 1), by omega, rfl, hlt, n3⟩, fun x H3 y => ?_⟩
    obtain ⟨G3, g3, s3, a3⟩ := step x H3 y
    refine hg.ad x _ σ' H3 G3 F ρ' μ' _ _ s3 (ev2.mono g3) a3 (turn i _ ρ' μ' (List.getElem?_eq_getElem hlt) w) fun ρ4 μ4 σ4 G4 H4 hb4 g4 s4 ev4 => ?_
    have gg : Same G1 G4 := (g2.trans g3).trans g4
    refine hb.ad σ4 H4 G4 F ρ4 μ4 _ _ s4 ev4 hb4 ⟨fun ρ5 μ5 σ5 G5 H5 w5 g5 s5 ev5 => ⟨G5, ρ5, μ5, gg.trans g5, s5, ev5, w5⟩, fun d μ5 v G5 H5 r g5 => k.rt d μ5 v G5 H5 r ((g1.trans gg).trans g5), fun ρ5 μ5 σ5 G5 H5 w5 g5 => k.nx ρ5 μ5 σ5 G5 H5 w5 ((g1.trans gg).trans g5), fun ρ5 μ5 σ5 G5 H5 w5 g5 s5 ev5 => ⟨G5, ρ5, μ5, gg.trans g5, s5, ev5, w5⟩⟩
  · have e : i = ds.length := by omega
    subst e
    exact .inl ⟨jo.1 rfl, k.nx ρ' μ' σ' G' H' (fin ρ' μ' w) (g1.trans g2) s2 ev2⟩
def sWhile (φt : TDT) (φ : TDS) : TDS := fun R ρ μ => ∃ W : Nat → Ev → Sto → Prop, (∃ m, W m ρ μ) ∧ ∀ m ρ μ, W m ρ μ → φt ρ μ fun b μ1 => if b = true then φ { nx := fun ρ' μ' => ∃ m', m' < m ∧ W m' ρ' μ', ct := fun ρ' μ' => ∃ m', m' < m ∧ W m' ρ' μ', rt := R.rt, bk := R.nx } ρ μ1 else R.nx ρ μ1
theorem s_while {c : Expr} {body : List Stmt} {tt : TT} {φt : TDT} {tb : TS} {φ : TDS} (hp : PassesOwn (model X.prog X.w) X.A X.env X.xe) (hc : DT K X c tt φt) (hb : DSs K X body tb φ) : DS K X (.While c body [] pos) (tWhile tt tb) (sWhile φt φ) := by
  have hK := hc.eK
  subst hK
  refine ⟨rfl, ps_while hp hc.pt hb.pss, ?_⟩
  intro σ H G F ρ μ R E s ev h k
  obtain ⟨W, ⟨m0, w0⟩, turn⟩ := h
  refine ⟨fun m σ' H' => ∃ G' ρ' μ', Same G G' ∧ S X.K G' H' F μ' ∧ EvAt X.K G' σ' ρ' ∧ W m ρ' μ', ⟨m0, G, ρ, μ, Same.refl _, s, ev, w0⟩, ?_⟩
  rintro m σ' H' ⟨G', ρ', μ', g2, s2, ev2, w⟩
  refine hc.ad σ' H' G' F ρ' μ' _ _ s2 ev2 (turn m ρ' μ' w) fun b μ3 G3 H3 hb3 g3 s3 => ?_
  have gg : Same G G3 := g2.trans g3
  cases b with
  | true =>
    refine ⟨fun σ4 H4 => ∃ m', m' < m ∧ ∃ G' ρ' μ', Same G G' ∧ S X.K G' H4 F μ' ∧ EvAt X.K G' σ4 ρ' ∧ W m' ρ' μ', fun σ4 H4 h4 => h4, ?_⟩
    refine hb.ad σ' H3 G3 F ρ' μ3 _ _ s3 (ev2.mono g3) hb3 ⟨fun ρ5 μ5 σ5 G5 H5 w5 g5 s5 ev5 => ?_, fun d μ5 v G5 H5 r g5 => k.rt d μ5 v G5 H5 r (gg.trans g5), fun ρ5 μ5 σ5 G5 H5 w5 g5 => k.nx ρ5 μ5 σ5 G5 H5 w5 (gg.trans g5), fun ρ5 μ5 σ5 G5 H5 w5 g5 s5 ev5 => ?_⟩
    · obtain ⟨m', hm, w6⟩ := w5
      exact ⟨m', hm, G5, ρ5, μ5, gg.trans g5, s5, ev5, w6⟩
    · obtain ⟨m', hm, w6⟩ := w5
      exact ⟨m', hm, G5, ρ5, μ5, gg.trans g5, s5, ev5, w6⟩
  | false => exact k.nx ρ' μ3 σ' G3 H3 hb3 gg s3 (ev2.mono g3)
end
end DL
end
/-! F -/
section
set_option Elab.async false
set_option linter.all false
set_option maxRecDepth 100000
set_option maxHeartbeats 4000000
namespace DL
open PySem PySem.Spec PyProof.Rows L2
variable {K : PySem.W.Frag}

/-! ### list comprehensions -/
def wipeD (ρ : Ev) : List Nat → Ev
  | [] => ρ
  | v :: vs => (wipeD ρ vs).set v none
theorem EvAt.unset {K : PySem.W.Frag} {G : Hp} {σ : L2.St} {ρ : Ev} (e : EvAt K G σ ρ) (i : Nat) : EvAt K G (σ.set i none) (ρ.set i none) := by
  refine ⟨by rw [List.length_set, List.length_set]; exact e.1, fun j d hj => ?_⟩
  by_cases hij : i = j
  · subst hij
    by_cases hl : i < ρ.length
    · rw [List.getElem?_set_self hl] at hj
      cases hj
    · rw [List.getElem?_eq_none (by rw [List.length_set]; omega)] at hj
      cases hj
  · rw [List.getElem?_set_ne hij] at hj ⊢
    exact e.2 j d hj
theorem EvAt.wiped {K : PySem.W.Frag} {G : Hp} {σ : L2.St} {ρ : Ev} (e : EvAt K G σ ρ) : ∀ vs : List Nat, EvAt K G (wipe σ vs) (wipeD ρ vs)
  | [] => e
  | v :: vs => (EvAt.wiped e vs).unset v
theorem wipe_at {σ : L2.St} {j : Nat} : ∀ {vs : List Nat}, (wipe σ vs)[j]? = if j ∈ vs then (if j < σ.length then some none else none) else σ[j]?
  | [] => by simp [wipe]
  | v :: vs => by
    unfold wipe
    have ih := wipe_at (σ := σ) (j := j) (vs := vs)
    by_cases h : v = j
    · subst h
      rw [if_pos (List.mem_cons_self ..)]
      by_cases hl : v < σ.length
      · rw [if_pos hl, List.getElem?_set_self (by rw [wipe_length]; exact hl)]
      · rw [if_neg hl, List.getElem?_eq_none (by rw [List.length_set, wipe_length]; omega)]
    · rw [List.getElem?_set_ne h, ih]
      by_cases hm : j ∈ vs
      · rw [if_pos hm, if_pos (List.mem_cons_of_mem _ hm)]
      · rw [if_neg hm, if_neg (fun z => (List.mem_cons.mp z).elim (fun z => h z.symm) hm)]
theorem wipe_eq {σ σ2 : L2.St} {vs : List Nat} (h : (∀ j, j ∉ vs → σ2[j]? = (wipe σ vs)[j]?) ∧ σ2.length = (wipe σ vs).length) : wipe σ2 vs = wipe σ vs := by
  refine List.ext_getElem? fun j => ?_
  have hl : σ2.length = σ.length := h.2.trans (wipe_length σ vs)
  rw [wipe_at, wipe_at]
  by_cases hm : j ∈ vs
  · rw [if_pos hm, if_pos hm, hl]
  · rw [if_neg hm, if_neg hm, h.1 j hm, wipe_at, if_neg hm]
/-- a target stores in the slots vs alone -/
def FrG (g : TG) (vs : List Nat) : Prop := ∀ (v : V) (σ : L2.St) (H : Hp) (Q : L2.St → Hp → Prop), g v (wipe σ vs) H Q → g v (wipe σ vs) H fun σ2 H2 => wipe σ2 vs = wipe σ vs ∧ Q σ2 H2
theorem fr_set {i : Nat} {vs : List Nat} {o : Option V} {σ : L2.St} (h : i ∈ vs) : (∀ j, j ∉ vs → (σ.set i o)[j]? = σ[j]?) ∧ (σ.set i o).length = σ.length :=
  ⟨fun j hj => List.getElem?_set_ne fun z => hj (by rw [← z]; exact h), List.length_set⟩
theorem fr_name {i : Nat} {vs : List Nat} (h : i ∈ vs := by decide) : FrG (gName i) vs := fun v σ H Q q => ⟨wipe_eq (fr_set h), q⟩
theorem fr_two {K : PySem.W.Frag} {n i j : Nat} {vs : List Nat} (h : i ∈ vs := by decide) (h2 : j ∈ vs := by decide) : FrG (gTup K n (gCons (gName i) (gCons (gName j) gNil))) vs := fun v σ H Q q => by
  obtain ⟨a, xs, e, hq, hl, v1, r1, e1, v2, r2, e2, e3, q⟩ := q
  have f1 := fr_set (vs := vs) (o := some v1) (σ := wipe σ vs) h
  have f2 := fr_set (vs := vs) (o := some v2) (σ := (wipe σ vs).set i (some v1)) h2
  exact ⟨a, xs, e, hq, hl, v1, r1, e1, v2, r2, e2, e3, wipe_eq ⟨fun j hj => (f2.1 j hj).trans (f1.1 j hj), f2.2.trans f1.2⟩, q⟩
structure DTs (K : PySem.W.Frag) (X : Cx) (ifs : List Expr) (t : TT) (φ : TDT) : Prop where
  eK : X.K = K
  pts : PTs X ifs t
  ad : AdT K t φ
def dYes : TDT := fun _ μ R => R true μ
section
variable {X : Cx}
theorem ts_nil (hK : X.K = K := by rfl) : DTs K X [] tYes dYes := by
  subst hK
  exact ⟨rfl, pts_nil, fun σ H G F ρ μ R Q s e h k => k true μ G H h (Same.refl _) s⟩
theorem ts_one {c : Expr} {t : TT} {φ : TDT} (h : DT K X c t φ) : DTs K X [c] t φ := by
  have hK := h.eK
  subst hK
  exact ⟨rfl, pts_one h.pt, h.ad⟩
/-- what a comprehension asks; the list made goes to Fn -/
def lcBody (vs : List Nat) (ψ : TDI) (γ : TDG) (φt : TDT) (φe : TD) (ρ : Ev) (μ : Sto) (Fn : List D → Sto → Prop) : Prop := ψ ρ μ fun ds kp μ1 => ds.length ≤ sizeLine ∧ ∃ W : Nat → List D → Sto → Prop, W 0 [] μ1 ∧ (∀ i acc μ, W i acc μ → kp μ) ∧
  (∀ i d acc μ, ds[i]? = some d → acc.length ≤ i → W i acc μ → γ d (wipeD ρ vs) μ fun ρ2 μ2 => φt ρ2 μ2 fun b μ3 => if b = true then φe ρ2 μ3 fun e μ4 => W (i + 1) (acc ++ [e]) μ4 else W (i + 1) acc μ3) ∧ ∀ acc μ, W ds.length acc μ → Fn acc μ
def dLc (vs : List Nat) (ψ : TDI) (γ : TDG) (φt : TDT) (φe : TD) : TD := fun ρ μ R => lcBody vs ψ γ φt φe ρ μ fun acc μ' => R (.lst acc) μ'
/-- .. a list of the store -/
def dLcM (vs : List Nat) (ψ : TDI) (γ : TDG) (φt : TDT) (φe : TD) : TD := fun ρ μ R => lcBody vs ψ γ φt φe ρ μ fun acc μ' => ∀ p, μ' p = none → R (.adr p) (μ'.put p (.lst acc))
theorem S.adopt {K : PySem.W.Frag} {G H F : Hp} {μ : Sto} {p : Addr} {vs : List V} {ds : List D} (s : S K G H F μ) (hp : H p = some (.lst vs)) (hg : G p = none) (hf : F p = none) (t : Ats K G vs ds) : S K G H F (μ.put p (.lst ds)) := by
  refine ⟨s.gh, s.fh, fun b u e => ?_, fun b u e => ?_⟩
  · have hb : b ≠ p := fun z => by
      rw [z, hf] at e
      cases e
    rw [Sto.put_ne hb]
    exact s.fg b u e
  · by_cases hb : b = p
    · subst hb
      rw [Sto.put_same] at e
      cases e
      exact ⟨hg, vs, hp, t⟩
    · rw [Sto.put_ne hb] at e
      exact s.st b u e
theorem ad_lcB {K : PySem.W.Frag} {vs : List Nat} {wi : TI} {ψ : TDI} {g : TG} {γ : TDG} {tt : TT} {φt : TDT} {te : TE} {φe : TD} (hi : AdI K wi ψ) (hfr : FrG g vs) (hg : AdG K g γ) (ht : AdT K tt φt) (he : AdE K te φe)
    {σ : L2.St} {H G F : Hp} {ρ : Ev} {μ : Sto} {Fn : List D → Sto → Prop} {Q : VK} (s : S K G H F μ) (ev : EvAt K G σ ρ) (h : lcBody vs ψ γ φt φe ρ μ Fn)
    (k : ∀ acc μ' accV p G' H', Fn acc μ' → Same G G' → S K G' H' (upd F p (.lst accV)) μ' → F p = none → Ats K G' accV acc → Q (.ref p) H') : tLc wi g tt te vs σ H Q := by
  refine hi σ H G F ρ μ _ _ s ev h fun ds kp μ1 J G1 H1 hw g1 s1 jok => ?_
  obtain ⟨hz, W, w0, wk, turn, fin⟩ := hw
  intro Dp hD
  have fD : F Dp = none := (s1.fresh hD).2.1
  refine ⟨fun i m H' => m = ds.length - i ∧ i ≤ ds.length ∧ ∃ G' acc accV μ', Same G1 G' ∧ S K G' H' (upd F Dp (.lst accV)) μ' ∧ Ats K G' accV acc ∧ acc.length ≤ i ∧ W i acc μ', ⟨_, rfl, Nat.zero_le _, G1, [], [], μ1, Same.refl _, s1.frame hD, .nil, Nat.le_refl _, w0⟩, ?_⟩
  rintro i m H' ⟨rfl, hi', G', acc, accV, μ', g2, s2, ta, hl, w⟩
  have jo := jok i G' H' _ μ' g2 s2 (wk i acc μ' w)
  by_cases hlt : i < ds.length
  · obtain ⟨go, step⟩ := jo.2 ds[i] (List.getElem?_eq_getElem hlt)
    refine .inr ⟨go, _, fun H3 n3 => ⟨ds.length - (i + 1), by omega, rfl, hlt, n3⟩, fun x H3 y => ?_⟩
    obtain ⟨G3, g3, s3, a3⟩ := step x H3 y
    have ev3 : EvAt K G3 (wipe σ vs) (wipeD ρ vs) := (((ev.mono g1).mono g2).mono g3).wiped vs
    refine hfr x σ H3 _ (hg x _ (wipe σ vs) H3 G3 (upd F Dp (.lst accV)) (wipeD ρ vs) μ' _ _ s3 ev3 a3 (turn i _ acc μ' (List.getElem?_eq_getElem hlt) hl w) fun ρ4 μ4 σ4 G4 H4 hb4 g4 s4 ev4 => ?_)
    refine ht σ4 H4 G4 (upd F Dp (.lst accV)) ρ4 μ4 _ _ s4 ev4 hb4 fun b μ5 G5 H5 hb5 g5 s5 => ?_
    have gg : Same G' G5 := (g3.trans g4).trans g5
    cases b with
    | true =>
      rw [if_pos rfl] at hb5 ⊢
      refine he σ4 H5 G5 (upd F Dp (.lst accV)) ρ4 μ5 _ _ s5 (ev4.mono g5) hb5 fun e μ6 v6 G6 H6 hb6 g6 s6 a6 => ?_
      refine ⟨accV, s6.fh Dp _ upd_same, by have := ta.length; omega, G6, acc ++ [e], accV ++ [v6], μ6, (g2.trans gg).trans g6, s6.frameWrite, (ta.mono (gg.trans g6)).snoc a6, by rw [List.length_append, List.length_singleton]; omega, hb6⟩
    | false =>
      rw [if_neg Bool.false_ne_true] at hb5 ⊢
      exact ⟨G5, acc, accV, μ5, g2.trans gg, s5, ta.mono gg, Nat.le_succ_of_le hl, hb5⟩
  · have e : i = ds.length := by omega
    subst e
    exact .inl ⟨jo.1 rfl, k acc μ' accV Dp G' H' (fin acc μ' w) (g1.trans g2) s2 fD ta⟩
theorem ad_lc {K : PySem.W.Frag} {vs : List Nat} {wi : TI} {ψ : TDI} {g : TG} {γ : TDG} {tt : TT} {φt : TDT} {te : TE} {φe : TD} (hi : AdI K wi ψ) (hfr : FrG g vs) (hg : AdG K g γ) (ht : AdT K tt φt) (he : AdE K te φe) : AdE K (tLc wi g tt te vs) (dLc vs ψ γ φt φe) := by
  intro σ H G F ρ μ R Q s ev h k
  refine ad_lcB hi hfr hg ht he s ev h fun acc μ' accV p G' H' hr gs s2 fD ta => ?_
  obtain ⟨hp, sg, s3, _⟩ := s2.unframe fD
  exact k _ μ' _ _ H' hr (gs.trans sg) s3 (.lst upd_same (ta.mono sg))
theorem ad_lcM {K : PySem.W.Frag} {vs : List Nat} {wi : TI} {ψ : TDI} {g : TG} {γ : TDG} {tt : TT} {φt : TDT} {te : TE} {φe : TD} (hi : AdI K wi ψ) (hfr : FrG g vs) (hg : AdG K g γ) (ht : AdT K tt φt) (he : AdE K te φe) : AdE K (tLc wi g tt te vs) (dLcM vs ψ γ φt φe) := by
  intro σ H G F ρ μ R Q s ev h k
  refine ad_lcB hi hfr hg ht he s ev h fun acc μ' accV p G' H' hr gs s2 fD ta => ?_
  obtain ⟨h1, h3⟩ := s2.fg p _ upd_same
  obtain ⟨hp, _, _, s3⟩ := s2.unframe fD
  exact k _ _ _ G' H' (hr p h3) gs (s3.adopt hp h1 fD ta) (.adr p)
variable {tg iter elt : Expr} {ifs : List Expr} {scope : Scope} {own : List (Str × Nat)} {pos : Pos} {wi : TI} {ψ : TDI} {g : TG} {γ : TDG} {tt : TT} {φt : TDT} {te : TE} {φe : TD}
theorem d_lc (hc : X.calm = true) (hN : X.N.Nodup) (hi : DI K X tg iter wi ψ) (ok : BlkOk X.N X.env.scope scope own) (hfr : FrG g (own.map (·.2)))
    (hg : ∀ (s : Shared) (H : Hp) (C : Addr) (cl : List (Str × Addr)) (fp : List Addr), DG K (X.blk s H scope (compEnvC scope cl C X.env) fp) tg g γ) (ht : ∀ (s : Shared) (H : Hp) (C : Addr) (cl : List (Str × Addr)) (fp : List Addr), DTs K (X.blk s H scope (compEnvC scope cl C X.env) fp) ifs tt φt)
    (he : ∀ (s : Shared) (H : Hp) (C : Addr) (cl : List (Str × Addr)) (fp : List Addr), DE K (X.blk s H scope (compEnvC scope cl C X.env) fp) elt te φe) (hs : ∀ x, foldedSetIterable iter X.env x = pure x := by intro _; rfl) :
    DE K X (.ListComp elt [⟨tg, iter, ifs, 0⟩] scope pos) (tLc wi g tt te (own.map (·.2))) (dLc (own.map (·.2)) ψ γ φt φe) := by
  have hK := hi.eK
  subst hK
  exact ⟨rfl, pe_lc hc hN hi.pi ok (fun s H C cl fp => (hg s H C cl fp).pg) (fun s H C cl fp => (ht s H C cl fp).pts) (fun s H C cl fp => (he s H C cl fp).pe) hs,
    ad_lc hi.ad hfr (hg X.s_0 X.H_0 0 [] []).ad (ht X.s_0 X.H_0 0 [] []).ad (he X.s_0 X.H_0 0 [] []).ad⟩
theorem d_lcM (hc : X.calm = true) (hN : X.N.Nodup) (hi : DI K X tg iter wi ψ) (ok : BlkOk X.N X.env.scope scope own) (hfr : FrG g (own.map (·.2)))
    (hg : ∀ (s : Shared) (H : Hp) (C : Addr) (cl : List (Str × Addr)) (fp : List Addr), DG K (X.blk s H scope (compEnvC scope cl C X.env) fp) tg g γ) (ht : ∀ (s : Shared) (H : Hp) (C : Addr) (cl : List (Str × Addr)) (fp : List Addr), DTs K (X.blk s H scope (compEnvC scope cl C X.env) fp) ifs tt φt)
    (he : ∀ (s : Shared) (H : Hp) (C : Addr) (cl : List (Str × Addr)) (fp : List Addr), DE K (X.blk s H scope (compEnvC scope cl C X.env) fp) elt te φe) (hs : ∀ x, foldedSetIterable iter X.env x = pure x := by intro _; rfl) :
    DE K X (.ListComp elt [⟨tg, iter, ifs, 0⟩] scope pos) (tLc wi g tt te (own.map (·.2))) (dLcM (own.map (·.2)) ψ γ φt φe) := by
  have hK := hi.eK
  subst hK
  exact ⟨rfl, pe_lc hc hN hi.pi ok (fun s H C cl fp => (hg s H C cl fp).pg) (fun s H C cl fp => (ht s H C cl fp).pts) (fun s H C cl fp => (he s H C cl fp).pe) hs,
    ad_lcM hi.ad hfr (hg X.s_0 X.H_0 0 [] []).ad (ht X.s_0 X.H_0 0 [] []).ad (he X.s_0 X.H_0 0 [] []).ad⟩
/-- y = [..], y a local -/
theorem s_setLc (i : Nat) {y : Str} {py spos : Pos} (hc : X.calm = true) (hN : X.N.Nodup) (hi : DI K X tg iter wi ψ) (ok : BlkOk X.N X.env.scope scope own) (hfr : FrG g (own.map (·.2)))
    (hg : ∀ (s : Shared) (H : Hp) (C : Addr) (cl : List (Str × Addr)) (fp : List Addr), DG K (X.blk s H scope (compEnvC scope cl C X.env) fp) tg g γ) (ht : ∀ (s : Shared) (H : Hp) (C : Addr) (cl : List (Str × Addr)) (fp : List Addr), DTs K (X.blk s H scope (compEnvC scope cl C X.env) fp) ifs tt φt)
    (he : ∀ (s : Shared) (H : Hp) (C : Addr) (cl : List (Str × Addr)) (fp : List Addr), DE K (X.blk s H scope (compEnvC scope cl C X.env) fp) elt te φe)
    (hy : X.N[i]? = some y := by rfl) (hyl : X.env.scope.names.lookup y = some .local := by rfl) (hsw : swapsWith (.ListComp elt [⟨tg, iter, ifs, 0⟩] scope pos) (some (.Name y py)) spos.line X.env = pure true := by exact sw_true rfl rfl rfl (by decide +kernel)) (hs : ∀ x, foldedSetIterable iter X.env x = pure x := by intro _; rfl) :
    DS K X (.Assign [.Name y py] (.ListComp elt [⟨tg, iter, ifs, 0⟩] scope pos) spos) (tAsg (tLc wi g tt te (own.map (·.2))) (gName i)) (sAsg (dLc (own.map (·.2)) ψ γ φt φe) (gNm i)) := by
  have hK := hi.eK
  subst hK
  exact ⟨rfl, ps_setLc hc hN hy hyl hsw hi.pi ok (fun s H C cl fp => (hg s H C cl fp).pg) (fun s H C cl fp => (ht s H C cl fp).pts) (fun s H C cl fp => (he s H C cl fp).pe) hs,
    ad_set (ad_lc hi.ad hfr (hg X.s_0 X.H_0 0 [] []).ad (ht X.s_0 X.H_0 0 [] []).ad (he X.s_0 X.H_0 0 [] []).ad)⟩
theorem s_setLcM (i : Nat) {y : Str} {py spos : Pos} (hc : X.calm = true) (hN : X.N.Nodup) (hi : DI K X tg iter wi ψ) (ok : BlkOk X.N X.env.scope scope own) (hfr : FrG g (own.map (·.2)))
    (hg : ∀ (s : Shared) (H : Hp) (C : Addr) (cl : List (Str × Addr)) (fp : List Addr), DG K (X.blk s H scope (compEnvC scope cl C X.env) fp) tg g γ) (ht : ∀ (s : Shared) (H : Hp) (C : Addr) (cl : List (Str × Addr)) (fp : List Addr), DTs K (X.blk s H scope (compEnvC scope cl C X.env) fp) ifs tt φt)
    (he : ∀ (s : Shared) (H : Hp) (C : Addr) (cl : List (Str × Addr)) (fp : List Addr), DE K (X.blk s H scope (compEnvC scope cl C X.env) fp) elt te φe)
    (hy : X.N[i]? = some y := by rfl) (hyl : X.env.scope.names.lookup y = some .local := by rfl) (hsw : swapsWith (.ListComp elt [⟨tg, iter, ifs, 0⟩] scope pos) (some (.Name y py)) spos.line X.env = pure true := by exact sw_true rfl rfl rfl (by decide +kernel)) (hs : ∀ x, foldedSetIterable iter X.env x = pure x := by intro _; rfl) :
    DS K X (.Assign [.Name y py] (.ListComp elt [⟨tg, iter, ifs, 0⟩] scope pos) spos) (tAsg (tLc wi g tt te (own.map (·.2))) (gName i)) (sAsg (dLcM (own.map (·.2)) ψ γ φt φe) (gNm i)) := by
  have hK := hi.eK
  subst hK
  exact ⟨rfl, ps_setLc hc hN hy hyl hsw hi.pi ok (fun s H C cl fp => (hg s H C cl fp).pg) (fun s H C cl fp => (ht s H C cl fp).pts) (fun s H C cl fp => (he s H C cl fp).pe) hs,
    ad_set (ad_lcM hi.ad hfr (hg X.s_0 X.H_0 0 [] []).ad (ht X.s_0 X.H_0 0 [] []).ad (he X.s_0 X.H_0 0 [] []).ad)⟩
end
end DL
end
/-! G -/
section
set_option Elab.async false
set_option linter.all false
set_option maxRecDepth 100000
set_option maxHeartbeats 4000000
namespace DL
open PySem PySem.Spec PyProof.Rows L2
variable {K : PySem.W.Frag}

/-! ### pairs: zip, enumerate over lists and tuples -/
/-- n turns, each a new pair -/
def Jp (n : Nat) (Ok : Hp → Prop) (Pv : Nat → V → V → Prop) : It :=
  ⟨fun i H => Ok H ∧ i < n, fun i H v H' => ∃ T x y, v = .ref T ∧ H T = none ∧ H' = upd H T (.tup [x, y]) ∧ Pv i x y, fun i H => Ok H ∧ i = n⟩
theorem turn_pair {P : Program} {w : World} {K : PySem.W.Frag} {elts : List Expr} {kk : Nat} {tpos : Pos} {n : Nat} {Ok : Hp → Prop} {Pv : Nat → V → V → Prop} {I0 : Addr} {fp wr : List Addr} {tn : Nat → Heap → Prop}
    (mem : I0 ∈ fp) (sub : ∀ b ∈ wr, b ∈ fp) (obj : ∀ i h, tn i h → ∀ b ∈ fp, ∃ o, h.get? b = some o ∧ ∀ v, o.data ≠ .cell v) (keep : ∀ i h h', tn i h → (∀ b ∈ fp, ∀ o, h.get? b = some o → h'.get? b = some o) → tn i h')
    (walk : ∀ (X : Cx), X.prog = P → X.w = w → X.K = K → X.calm = true → ∀ (i : Nat) (pins : List (Addr × Obj)) (s : Shared) (σ : L2.St) (H : Hp), Inv X pins σ H s → tn i s.heap → Ok H →
      ∃ (fp' : List Addr) (Pt : Nat → Array Value → Prop) (St : Nat → Heap → Prop) (Mid : Nat → Addr → Heap → Prop), WalksT P w X.A I0 fp' wr n Pt St Mid ∧ St i s.heap ∧ (∀ h', St (i + 1) h' → tn (i + 1) h') ∧
        ∀ vals, Pt i vals → i < n → ∃ x y u v, vals = #[u, v] ∧ RelV x u ∧ RelV y v ∧ Pv i x y)
    (self : ∀ (A : Around) (i : Nat) (s : Shared) (Q : Value → Shared → Prop) (E : Value → Shared → Prop), tn i s.heap → Q (.ref I0) s → wpAny (model P w) A (pyIter (.ref I0)) Q E s) :
    Turn P w K (.Tuple elts kk tpos) (Jp n Ok Pv) fp I0 tn where
  mem := mem
  obj := obj
  keep := keep
  item := by
    intro X hP hw hK hc i pins s σ H E I hf st hg
    obtain ⟨fp', Pt, St, Mid, W, st', back, pv⟩ := walk X hP hw hK hc i pins s σ H I st hg.1
    refine W.item i s _ E hg.2 st' fun T vals h1 tk hP1 hT1 tup1 mid1 k1 => ?_
    refine ⟨_, rfl, W.go elts kk tpos i T _ _ E mid1 fun h2 st2 k2 => ?_⟩
    obtain ⟨x, y, u, v, ev, rx, ry, pxy⟩ := pv vals hP1 hg.2
    have nT : T ∉ wr := W.apart i T h1 mid1
    have tup2 : IsTup h2 T #[u, v] := by
      obtain ⟨o, e1, e2⟩ := tup1
      rw [ev] at e2
      exact ⟨o, k2 T o nT e1, e2⟩
    have new : ObjOk X.prog X.w (upd H T (.tup [x, y])) h2 T (.tup [x, y]) := ⟨by show 2 ≤ sizeLine; decide, [u, v], .cons rx (.cons ry .nil), tup2⟩
    have I2 := I.turnedNew (t' := tk) (ch := wr) (fun b o hb q => k2 b o hb (k1 b o hb q)) (fun b hb => hf b (sub b hb)) hT1 new
    refine ⟨.ref T, _, I2, rfl, ⟨T, x, y, rfl, I.hok.fresh hT1, rfl, pxy⟩, back h2 st2, fun b hb => ?_⟩
    obtain ⟨o, e, _⟩ := obj i s.heap st b hb
    rw [upd_ne (Nat.ne_of_lt (Nat.lt_of_lt_of_le (Heap.lt_size e) hT1))]
    exact (hf b hb).1
  done := by
    intro X hP hw hK hc i pins s σ H E I hf st hg
    obtain ⟨fp', Pt, St, Mid, W, st', back, pv⟩ := walk X hP hw hK hc i pins s σ H I st hg.1
    have e := hg.2
    subst e
    exact W.done s _ E st' fun h1 tk k1 => ⟨rfl, I.turnedL (t' := tk) (ch := wr) k1 fun b hb => hf b (sub b hb)⟩
  self := self

/-- a source: a tuple (true) or a list -/
def SqX (K : PySem.W.Frag) (H : Hp) (a : Addr) (xs : List V) : Bool → Prop
  | true => SqT K H a xs
  | false => SqL K H a xs
def ItX (h : Heap) (it a : Addr) (i : Nat) : Bool → Prop
  | true => h.IsTupleIter it a i
  | false => h.IsListIter it a i
def HX (h : Heap) (a : Addr) (its : Array Value) : Bool → Prop
  | true => h.IsTuple a its
  | false => h.IsList a its
def itO (a : Addr) : Bool → Obj
  | true => { cls := .type "tuple_iterator", data := .fields #[.ref a, .int 0 0] }
  | false => { cls := .type "list_iterator", data := .fields #[.ref a, .int 0 0] }
theorem ItX.obj {h : Heap} {it a : Addr} {i : Nat} {t : Bool} (x : ItX h it a i t) : ∃ o, h.get? it = some o ∧ ∀ v, o.data ≠ .cell v := by
  cases t with
  | true =>
    obtain ⟨o, e, _, d⟩ := (show h.IsTupleIter it a i from x)
    exact ⟨o, e, fun v q => by rw [d] at q; cases q⟩
  | false =>
    obtain ⟨o, e, _, d⟩ := (show h.IsListIter it a i from x)
    exact ⟨o, e, fun v q => by rw [d] at q; cases q⟩
theorem ItX.keep {h h' : Heap} {it a : Addr} {i : Nat} {t : Bool} (x : ItX h it a i t) (k : ∀ o, h.get? it = some o → h'.get? it = some o) : ItX h' it a i t := by
  cases t with
  | true => exact (show h.IsTupleIter it a i from x).at k
  | false => exact (show h.IsListIter it a i from x).at k
theorem ItX.first {h : Heap} {it a : Addr} {t : Bool} (e : h.get? it = some (itO a t)) : ItX h it a 0 t := by
  cases t with
  | true => exact ⟨_, e, rfl, rfl⟩
  | false => exact ⟨_, e, rfl, rfl⟩
theorem HX.there {h : Heap} {a : Addr} {its : Array Value} {t : Bool} (x : HX h a its t) : ∃ o, h.get? a = some o ∧ ∀ b i u, ItX h b a i u → b ≠ a := by
  cases t with
  | true =>
    obtain ⟨o, e, c, _⟩ := (show h.IsTuple a its from x)
    refine ⟨o, e, fun b i u y z => ?_⟩
    cases u with
    | true =>
      obtain ⟨o2, e2, c2, _⟩ := (show h.IsTupleIter b a i from y)
      rw [z, e] at e2
      cases e2
      rw [c] at c2
      simp at c2
    | false =>
      obtain ⟨o2, e2, c2, _⟩ := (show h.IsListIter b a i from y)
      rw [z, e] at e2
      cases e2
      rw [c] at c2
      simp at c2
  | false =>
    obtain ⟨o, e, c, _⟩ := (show h.IsList a its from x)
    refine ⟨o, e, fun b i u y z => ?_⟩
    cases u with
    | true =>
      obtain ⟨o2, e2, c2, _⟩ := (show h.IsTupleIter b a i from y)
      rw [z, e] at e2
      cases e2
      rw [c] at c2
      simp at c2
    | false =>
      obtain ⟨o2, e2, c2, _⟩ := (show h.IsListIter b a i from y)
      rw [z, e] at e2
      cases e2
      rw [c] at c2
      simp at c2
theorem drawsX {prog : Program} {w : World} {A : Around} (hh : A.handled = none) (it a : Addr) (hne : a ≠ it) (its : Array Value) : ∀ t : Bool,
    Draws prog w A it [it, a] its.size (fun i v => its[i]? = some v) (fun i h => ItX h it a i t ∧ HX h a its t)
  | true => Draws.tuple hh it a hne its
  | false => Draws.list hh it a hne its
theorem beginsX (a : Addr) (its : Array Value) : ∀ t : Bool, Begins (.ref a) (itO a t) fun h => HX h a its t
  | true => begins_tuple a its
  | false => begins_list a its
theorem SqX.heap {X : Cx} {pins : List (Addr × Obj)} {σ : L2.St} {H : Hp} {s : Shared} {a : Addr} {xs : List V} {t : Bool} (I : Inv X pins σ H s) (h : SqX X.K H a xs t) : ∃ its : List Value, Vals xs its ∧ HX s.heap a its.toArray t := by
  cases t with
  | true =>
    obtain ⟨its, r, p, _⟩ := I.tuple h
    exact ⟨its, r, p⟩
  | false =>
    obtain ⟨its, r, p, _⟩ := I.list h
    exact ⟨its, r, p.isList⟩
/-- the pairs of a zip -/
def zipP (xs ys : List V) : Nat → V → V → Prop := fun i x y => xs[i]? = some x ∧ ys[i]? = some y
theorem turn_zipX {P : Program} {w : World} {K : PySem.W.Frag} {elts : List Expr} {kk : Nat} {tpos : Pos} {a b z TI TO i1 i2 : Addr} {xs ys : List V} {t u : Bool} (Sp : ZipSep2 z TI TO i1 i2 [i1, a] [i2, b]) (h1 : a ≠ i1) (h2 : b ≠ i2) :
    Turn P w K (.Tuple elts kk tpos) (Jp (min xs.length ys.length) (fun H => SqX K H a xs t ∧ SqX K H b ys u) (zipP xs ys)) [z, TI, TO, i1, i2] z
      (fun i h => IsZip h z TI TO .none ∧ IsTupOf2 h TI (.ref i1) (.ref i2) ∧ (∃ c d, IsTupOf2 h TO c d) ∧ ItX h i1 a i t ∧ ItX h i2 b i u) := by
  refine turn_pair (wr := [z, TO, i1, i2]) (by simp) (by simp) (fun i h st c hc => ?_) (fun i h h' st k => ?_) ?_ fun A i s Q E st q => wpAny_pyIter_zip st.1 q
  · obtain ⟨hz, hTI, ⟨x, y, hTO⟩, q1, q2⟩ := st
    have e' : c = z ∨ c = TI ∨ c = TO ∨ c = i1 ∨ c = i2 := by simpa using hc
    rcases e' with rfl | rfl | rfl | rfl | rfl
    · exact ⟨_, hz, fun v q => nomatch q⟩
    · exact ⟨_, hTI, fun v q => nomatch q⟩
    · exact ⟨_, hTO, fun v q => nomatch q⟩
    · exact q1.obj
    · exact q2.obj
  · obtain ⟨hz, hTI, ⟨x, y, hTO⟩, q1, q2⟩ := st
    exact ⟨k z (by simp) _ hz, k TI (by simp) _ hTI, ⟨x, y, k TO (by simp) _ hTO⟩, q1.keep fun o q => k i1 (by simp) o q, q2.keep fun o q => k i2 (by simp) o q⟩
  · intro X hP hw hK hc i pins s σ H I st ok
    subst hP hw hK
    obtain ⟨its, rv, p1⟩ := SqX.heap I ok.1
    obtain ⟨its2, rv2, p2⟩ := SqX.heap I ok.2
    have n1 := rv.length
    have n2 := rv2.length
    have W := WalksT.zipD2 Sp (drawsX (prog := X.prog) (w := X.w) (A := X.A.in1) (by exact I.ok.hd hc) i1 a h1 its.toArray t) (drawsX (prog := X.prog) (w := X.w) (A := X.A.in1) (by exact I.ok.hd hc) i2 b h2 its2.toArray u)
    have e : min its.toArray.size its2.toArray.size = min xs.length ys.length := by rw [List.size_toArray, List.size_toArray, n1, n2]
    rw [e] at W
    obtain ⟨hz, hTI, hTO, q1, q2⟩ := st
    refine ⟨_, _, _, _, W, ⟨hz, hTI, hTO, ⟨q1, p1⟩, q2, p2⟩, fun h' st' => ?_, fun vals hv hi => ?_⟩
    · obtain ⟨g1, g2, g3, g4, g5⟩ := st'
      exact ⟨g1, g2, g3, g4.1, g5.1⟩
    · obtain ⟨u1, u2, e1, e2, ev⟩ := hv
      have l1 : i < xs.length := by omega
      have l2 : i < ys.length := by omega
      obtain ⟨w1, c1, r1⟩ := rv.get (List.getElem?_eq_getElem l1)
      obtain ⟨w2, c2, r2⟩ := rv2.get (List.getElem?_eq_getElem l2)
      rw [List.getElem?_toArray, c1] at e1
      rw [List.getElem?_toArray, c2] at e2
      cases e1
      cases e2
      exact ⟨_, _, _, _, ev, r1, r2, List.getElem?_eq_getElem l1, List.getElem?_eq_getElem l2⟩
section
variable {X : Cx} {p pos tpos : Pos} {elts : List Expr} {kk : Nat}
def iZipX (K : PySem.W.Frag) (ta : TA) : TI := fun σ H R => ta σ H fun vs H1 => ∃ a b xs ys t u, vs = [.ref a, .ref b] ∧ SqX K H1 a xs t ∧ SqX K H1 b ys u ∧ R (Jp (min xs.length ys.length) (fun H => SqX K H a xs t ∧ SqX K H b ys u) (zipP xs ys)) H1
theorem pi_zipX {e e2 : Expr} {ta : TA} (hm : X.mg "zip" = none) (hg : Gl X "zip") (ha : PA X [e, e2] ta) (hs : starEach [e, e2] X.env = (false, eval e X.env) :: starEach [e2] X.env) (hpl : (backTo pos (starEach [e2] X.env)).any (·.1) = false) :
    PI X (.Tuple elts kk tpos) (.Call (.Name "zip" p) [e, e2] [] pos) (iZipX X.K ta) := by
  refine ⟨fun pins s σ H R I h => ?_⟩
  refine Call_ (ld_blt I hg hm PyProof.Rows.boot_zip (PyProof.Rows.callWith_type1 (thn (ha.run pos pins s σ H _ I h) fun us s1 h1 => ?_) hs hpl))
  obtain ⟨vs, H1, I1, r1, a, b, xs, ys, t, u, ex, q1, q2, q⟩ := h1
  subst ex
  obtain ⟨v1, v2, rfl, rv1, rv2⟩ := vals2 r1
  cases rv1
  cases rv2
  obtain ⟨its, rv, p1⟩ := SqX.heap I1 q1
  obtain ⟨its2, rv', p2⟩ := SqX.heap I1 q2
  obtain ⟨o1, ho1, _⟩ := p1.there
  obtain ⟨o2, ho2, _⟩ := p2.there
  have la := Heap.lt_size ho1
  have lb := Heap.lt_size ho2
  generalize hN : s1.heap.objs.size = N at la lb
  refine zip_begins2 (beginsX a its.toArray t) (beginsX b its2.toArray u) p1 p2 fun h' hz hTI hTO g1 g2 hsz hk => wpAny_pyIter_zip hz ?_
  rw [hN] at hz hTI hTO g1 g2 ⊢
  have I2 : Inv X pins σ H1 { s1 with heap := h' } := I1.kept (t' := s1.toks) hk
  have sep : ZipSep2 (N + 4) (N + 2) (N + 3) N (N + 1) [N, a] [N + 1, b] := zip_sep2 (by simpa using la) (by simpa using lb)
  refine ⟨N + 4, [N + 4, N + 2, N + 3, N, N + 1], _, _, H1, rfl, I2, turn_zipX (xs := xs) (ys := ys) (t := t) (u := u) sep (Nat.ne_of_lt la) (Nat.ne_of_lt (Nat.lt_succ_of_lt lb)), ⟨hz, hTI, ⟨_, _, hTO⟩, ItX.first g1, ItX.first g2⟩, fun c hc => ?_, q⟩
  have hle : N ≤ c := by
    have e' : c = N + 4 ∨ c = N + 2 ∨ c = N + 3 ∨ c = N ∨ c = N + 1 := by simpa using hc
    rcases e' with z | z | z | z | z <;> rw [z] <;> first | exact Nat.le_add_right _ _ | exact Nat.le_refl _
  exact I1.fpOk (by rw [hN]; exact hle) (I1.hok.fresh (by rw [hN]; exact hle))
/-- the items of a list or tuple that does not change -/
def onImm : D → (List D → Prop) → Prop
  | .lst ds, k => k ds
  | .tup ds, k => k ds
  | _, _ => False
theorem onImm_ok {K : PySem.W.Frag} {G : Hp} {v : V} {d : D} {k : List D → Prop} (a : At K G v d) (h : onImm d k) : ∃ ds p vs t, k ds ∧ v = .ref p ∧ Ats K G vs ds ∧ ∀ H, Same G H → SqX K H p vs t := by
  cases d <;> first | exact h.elim | skip
  · cases a with
    | tup hg t => exact ⟨_, _, _, true, h, rfl, t, fun H s => SqT.of (s _ _ hg)⟩
  · cases a with
    | lst hg t => exact ⟨_, _, _, false, h, rfl, t, fun H s => SqL.of (s _ _ hg)⟩
def zipD (xs ys : List D) : List D := List.zipWith (fun x y => D.tup [x, y]) xs ys
theorem jok_pair {K : PySem.W.Frag} {G : Hp} {n : Nat} {ds : List D} {Ok : Hp → Prop} {Pv : Nat → V → V → Prop} {kp : Sto → Prop} (hn : ds.length = n) (ok : ∀ H, Same G H → Ok H)
    (pv : ∀ i x y d, ds[i]? = some d → Pv i x y → ∃ a b, d = .tup [a, b] ∧ At K G x a ∧ At K G y b) : JOk K G ds kp (Jp n Ok Pv) := by
  intro i G' H' F' μ' g s hk
  have o := ok H' (g.trans s.gh)
  refine ⟨fun hi => ⟨o, hi.trans hn⟩, fun d hd => ⟨⟨o, hn ▸ (List.getElem?_eq_some_iff.mp hd).1⟩, fun x H'' y => ?_⟩⟩
  obtain ⟨T, u, v, rfl, hT, rfl, q⟩ := y
  obtain ⟨a, b, rfl, h1, h2⟩ := pv i u v d hd q
  have g2 : Same G' (upd G' T (.tup [u, v])) := Same.upd (s.fresh hT).1
  exact ⟨_, g2, s.new hT, .tup upd_same (.cons ((h1.mono g).mono g2) (.cons ((h2.mono g).mono g2) .nil))⟩
def iZip (φ χ : TD) : TDI := fun ρ μ R => φ ρ μ fun d μ1 => χ ρ μ1 fun e μ2 => onImm d fun ds => onImm e fun es => R (zipD ds es) always μ2
theorem i_zip {e e2 : Expr} {ta tb : TE} {φ χ : TD} (hm : X.mg "zip" = none) (ha : DE K X e ta φ) (hb : DE K X e2 tb χ) (hg : Gl X "zip" := by rfl) (hs : starEach [e, e2] X.env = (false, eval e X.env) :: starEach [e2] X.env := by rfl)
    (hs2 : starEach [e2] X.env = (false, eval e2 X.env) :: starEach [] X.env := by rfl) (hpl : (backTo pos (starEach [e2] X.env)).any (·.1) = false := by rfl) : DI K X (.Tuple elts kk tpos) (.Call (.Name "zip" p) [e, e2] [] pos) (iZipX K (tCons ta (tCons tb tNil))) (iZip φ χ) := by
  have hK := ha.eK
  subst hK
  refine ⟨rfl, pi_zipX hm hg (pa_cons ha.pe (pa_cons hb.pe pa_nil hs2) hs) hs hpl, ?_⟩
  intro σ H G F ρ μ R Q s ev h k
  refine ha.ad σ H G F ρ μ _ _ s ev h fun d μ1 v G1 H1 hb1 g1 s1 a1 => ?_
  refine hb.ad σ H1 G1 F ρ μ1 _ _ s1 (ev.mono g1) hb1 fun e μ2 v2 G2 H2 hb2 g2 s2 a2 => ?_
  obtain ⟨ds, p1, vs, t, hb3, rfl, t1, q1⟩ := onImm_ok (a1.mono g2) hb2
  obtain ⟨es, p2, ws, u, hr, rfl, t2, q2⟩ := onImm_ok a2 hb3
  refine ⟨p1, p2, vs, ws, t, u, rfl, q1 H2 s2.gh, q2 H2 s2.gh, k _ _ μ2 _ G2 H2 hr (g1.trans g2) s2 (jok_pair ?_ (fun H g => ⟨q1 H g, q2 H g⟩) fun i x y d hd q => ?_)⟩
  · unfold zipD
    rw [List.length_zipWith, t1.length, t2.length]
  · unfold zipD at hd
    rw [List.getElem?_zipWith] at hd
    obtain ⟨a, ha1, ha2⟩ := t1.get' q.1
    obtain ⟨b, hb1, hb2⟩ := t2.get' q.2
    rw [ha1, hb1] at hd
    cases hd
    exact ⟨a, b, rfl, ha2, hb2⟩
end
end DL
end
/-! H -/
section
set_option Elab.async false
set_option linter.all false
set_option maxRecDepth 100000
set_option maxHeartbeats 4000000
namespace DL
open PySem PySem.Spec PyProof.Rows L2
variable {K : PySem.W.Frag}

/-! ### things of the store that never change again -/
def SubS (μ0 μ : Sto) : Prop := ∀ p o, μ0 p = some o → μ p = some o
theorem SubS.refl {μ : Sto} : SubS μ μ := fun _ _ h => h
theorem SubS.trans {a b c : Sto} (h : SubS a b) (g : SubS b c) : SubS a c := fun p o e => g p o (h p o e)
theorem SubS.put {μ0 μ : Sto} {p : Addr} {o : MO} (h : SubS μ0 μ) (n : μ0 p = none) : SubS μ0 (μ.put p o) := fun q u e => by
  have hq : q ≠ p := fun z => by
    rw [z, n] at e
    cases e
  rw [Sto.put_ne hq]
  exact h q u e
mutual
/-- d, with what is in μ and not in μ0 taken as it stands -/
inductive Fz (μ0 μ : Sto) : D → D → Prop where
  | same (d : D) : Fz μ0 μ d d
  | adr {p : Addr} {ds es : List D} : μ0 p = none → μ p = some (.lst ds) → Fzs μ0 μ ds es → Fz μ0 μ (.adr p) (.lst es)
  | tup {ds es : List D} : Fzs μ0 μ ds es → Fz μ0 μ (.tup ds) (.tup es)
  | lst {ds es : List D} : Fzs μ0 μ ds es → Fz μ0 μ (.lst ds) (.lst es)
inductive Fzs (μ0 μ : Sto) : List D → List D → Prop where
  | nil : Fzs μ0 μ [] []
  | cons {d e : D} {ds es : List D} : Fz μ0 μ d e → Fzs μ0 μ ds es → Fzs μ0 μ (d :: ds) (e :: es)
end
theorem Fzs.refl {μ0 μ : Sto} : ∀ ds : List D, Fzs μ0 μ ds ds
  | [] => .nil
  | d :: ds => .cons (.same d) (Fzs.refl ds)
section
variable {K : PySem.W.Frag} {G H F : Hp} {μ μ0 : Sto}
def iceG (G H : Hp) (μ0 μ : Sto) : Hp := fun p => match μ0 p, μ p with
  | none, some _ => H p
  | _, _ => G p
theorem iceG_new {p : Addr} {o : MO} (h0 : μ0 p = none) (h : μ p = some o) : iceG G H μ0 μ p = H p := by
  unfold iceG
  rw [h0, h]
theorem iceG_old {p : Addr} (h : μ0 p ≠ none ∨ μ p = none) : iceG G H μ0 μ p = G p := by
  unfold iceG
  split
  · rename_i e1 e2
    rcases h with h | h
    · exact absurd e1 h
    · rw [h] at e2
      cases e2
  · rfl
theorem S.ice (s : S K G H F μ) (h0 : SubS μ0 μ) : Same G (iceG G H μ0 μ) ∧ S K (iceG G H μ0 μ) H F μ0 := by
  have sg : Same G (iceG G H μ0 μ) := fun p o e => by
    have hm : μ p = none := by
      cases q : μ p with
      | none => rfl
      | some u =>
        have := (s.st p u q).1
        rw [e] at this
        cases this
    rw [iceG_old (.inr hm)]
    exact e
  refine ⟨sg, ⟨fun p o e => ?_, s.fh, fun p o e => ?_, fun p o e => ?_⟩⟩
  · cases q0 : μ0 p with
    | some u =>
      rw [iceG_old (.inl (by rw [q0]; exact fun z => nomatch z))] at e
      exact s.gh p o e
    | none =>
      cases q : μ p with
      | none =>
        rw [iceG_old (.inr q)] at e
        exact s.gh p o e
      | some u =>
        rw [iceG_new q0 q] at e
        exact e
  · obtain ⟨f1, f2⟩ := s.fg p o e
    refine ⟨by rw [iceG_old (.inr f2)]; exact f1, ?_⟩
    cases q0 : μ0 p with
    | none => rfl
    | some u =>
      rw [h0 p u q0] at f2
      cases f2
  · have h1 := h0 p o e
    refine ⟨by rw [iceG_old (.inl (by rw [e]; exact fun z => nomatch z))]; exact (s.st p o h1).1, (s.st p o h1).2.mono sg rfl⟩
mutual
theorem Fz.at (s : S K G H F μ) (h0 : SubS μ0 μ) : ∀ {d e : D}, Fz μ0 μ d e → ∀ {v : V}, At K G v d → At K (iceG G H μ0 μ) v e
  | _, _, .same _, _, a => a.mono (s.ice h0).1
  | _, _, .adr n m t, _, a => by
    cases a
    obtain ⟨_, vs, hv, tv⟩ := s.st _ _ m
    exact .lst (by rw [iceG_new n m]; exact hv) (Fzs.at s h0 t tv)
  | _, _, .tup t, _, .tup hg tv => .tup ((s.ice h0).1 _ _ hg) (Fzs.at s h0 t tv)
  | _, _, .lst t, _, .lst hg tv => .lst ((s.ice h0).1 _ _ hg) (Fzs.at s h0 t tv)
theorem Fzs.at (s : S K G H F μ) (h0 : SubS μ0 μ) : ∀ {ds es : List D}, Fzs μ0 μ ds es → ∀ {vs : List V}, Ats K G vs ds → Ats K (iceG G H μ0 μ) vs es
  | _, _, .nil, _, .nil => .nil
  | _, _, .cons f t, _, .cons a b => .cons (Fz.at s h0 f a) (Fzs.at s h0 t b)
end
end
/-- .. as what is asked of an answer -/
def fzR (R : RD) : RD := fun d μ => ∃ μ0 e, SubS μ0 μ ∧ Fz μ0 μ d e ∧ R e μ0
theorem fzR.now {R : RD} {d : D} {μ : Sto} (h : R d μ) : fzR R d μ := ⟨μ, d, SubS.refl, .same d, h⟩
theorem Fin.fz {K : PySem.W.Frag} {G F : Hp} {R : RD} {Q : VK} (k : Fin K G F R Q) : Fin K G F (fzR R) Q := fun d μ v G' H' h g s a => by
  obtain ⟨μ0, e, h0, f, r⟩ := h
  exact k e μ0 v _ H' r (g.trans (s.ice h0).1) (s.ice h0).2 (f.at s h0 a)
def dFz (φ : TD) : TD := fun ρ μ R => φ ρ μ (fzR R)
theorem d_fz {X : Cx} {e : Expr} {t : TE} {φ : TD} (h : DE K X e t φ) : DE K X e t (dFz φ) := by
  have hK := h.eK
  subst hK
  exact ⟨rfl, h.pe, fun σ H G F ρ μ R Q s ev hr k => h.ad σ H G F ρ μ _ _ s ev hr k.fz⟩
/-- the environment too -/
def FzE (μ0 μ : Sto) (ρ ρ' : Ev) : Prop := ρ.length = ρ'.length ∧ ∀ (i : Nat) (e : D), ρ'[i]? = some (some e) → ∃ d, ρ[i]? = some (some d) ∧ Fz μ0 μ d e
theorem EvAt.fz {K : PySem.W.Frag} {G H F : Hp} {μ μ0 : Sto} {σ : L2.St} {ρ ρ' : Ev} (s : S K G H F μ) (h0 : SubS μ0 μ) (e : EvAt K G σ ρ) (f : FzE μ0 μ ρ ρ') : EvAt K (iceG G H μ0 μ) σ ρ' := by
  refine ⟨e.1.trans f.1, fun i d h => ?_⟩
  obtain ⟨d1, h1, h2⟩ := f.2 i d h
  obtain ⟨v, h3, a⟩ := e.2 i d1 h1
  exact ⟨v, h3, h2.at s h0 a⟩
def fzN (N : Ev → Sto → Prop) : Ev → Sto → Prop := fun ρ μ => ∃ μ0 ρ', SubS μ0 μ ∧ FzE μ0 μ ρ ρ' ∧ N ρ' μ0
theorem fzN.now {N : Ev → Sto → Prop} {ρ : Ev} {μ : Sto} (h : N ρ μ) : fzN N ρ μ := ⟨μ, ρ, SubS.refl, ⟨rfl, fun i e h => ⟨e, h, .same e⟩⟩, h⟩
def sFz (φ : TDS) : TDS := fun R ρ μ => φ { R with nx := fzN R.nx } ρ μ
theorem ad_sfz {K : PySem.W.Frag} {t : TS} {φ : TDS} (h : AdS K t φ) : AdS K t (sFz φ) := fun σ H G F ρ μ R E s ev hr k => h σ H G F ρ μ _ _ s ev hr
  ⟨fun ρ1 μ1 σ1 G1 H1 w g s1 e1 => by
    obtain ⟨μ0, ρ2, h0, f, w⟩ := w
    exact k.nx ρ2 μ0 σ1 _ H1 w (g.trans (s1.ice h0).1) (s1.ice h0).2 (e1.fz s1 h0 f), k.rt, k.bk, k.ct⟩
theorem s_fz {X : Cx} {st : Stmt} {t : TS} {φ : TDS} (h : DS K X st t φ) : DS K X st t (sFz φ) := by
  have hK := h.eK
  subst hK
  exact ⟨rfl, h.ps, ad_sfz h.ad⟩
/-! ### a def over data -/
section
variable {P : Program} {w : World} {K : PySem.W.Frag} {mg : Str → Option Value} {base : Heap} {x qual : Str} {params : Arguments} {body : List Stmt} {scope : Scope} {dvs : List V} {kws : List (Str × V)} {f : Addr} {fd : FuncData}
theorem evAt_start {G : Hp} {N : List Str} {vs : List V} {ds : List D} (a : Ats K G vs ds) : EvAt K G (L2.start N vs) (ds.map some ++ List.replicate (N.length - ds.length) none) := by
  unfold L2.start
  refine ⟨by simp [a.length], fun i d h => ?_⟩
  by_cases hi : i < ds.length
  · rw [List.getElem?_append_left (by rw [List.length_map]; exact hi), List.getElem?_map] at h
    obtain ⟨d', h1, h2⟩ := Option.map_eq_some_iff.mp h
    cases h2
    obtain ⟨v, h3, h4⟩ := a.get h1
    refine ⟨v, ?_, h4⟩
    rw [List.getElem?_append_left (by rw [List.length_map, a.length]; exact hi), List.getElem?_map, h3]
    rfl
  · rw [List.getElem?_append_right (by rw [List.length_map]; omega)] at h
    rw [List.getElem?_replicate] at h
    split at h <;> cases h
/-- THE RULE for a def -/
theorem fnd_ok {N ps : List Str} {k : Nat} {φ : TF} (Fd : FunD K x qual params body scope dvs kws f fd) (Sc : FnScope N ps scope) (len : ∀ ds μ R, φ ds μ R → ds.length = ps.length)
    (hbody : ∀ (cdv : Value) (A : Around) (outer : List Env) (s : Shared) (H : Hp) (E : XK), Room k (A.deeper (envOfC qual scope s.heap.objs.size f cdv)) →
      ∃ t ψ, DSs K (cxOf CX0 P w K mg base N qual scope f cdv A outer s H E).nox body t ψ ∧ ∀ ds μ R, φ ds μ R → ψ { nx := fun _ μ' => fzR R .non μ', rt := fzR R } (ds.map some ++ List.replicate (N.length - ds.length) none) μ) :
    FnOk P w K mg base CX0 (k + 1) f fd ps (spD K φ) := by
  refine Fd.ok Sc (fun vs H Q E h => ?_) fun cdv A outer s H vs Q E hr h => ?_
  · obtain ⟨G, F, μ, ds, R, _, a, hp, _⟩ := h
    rw [a.length]
    exact len ds μ R hp
  · obtain ⟨t, ψ, d, rd⟩ := hbody cdv A outer s H E hr
    obtain ⟨G, F, μ, ds, R, sS, a, hp, fin⟩ := h
    refine ⟨t, PSs.nox d.pss, ?_⟩
    exact d.ad _ H G F _ μ _ _ sS (evAt_start a) (rd ds μ R hp) ⟨fun ρ μ1 σ G1 H1 w g s1 e1 => fin.fz .non μ1 .non G1 H1 w g s1 .non, fin.fz, fun _ _ _ _ _ w => w.elim, fun _ _ _ _ _ w => w.elim⟩
/-- a stronger contract -/
theorem fnd_imp {ps : List Str} {k : Nat} {φ χ : TF} (h : FnOk P w K mg base CX0 k f fd ps (spD K φ)) (i : ∀ ds μ R, χ ds μ R → φ ds μ R) : FnOk P w K mg base CX0 k f fd ps (spD K χ) :=
  h.imp fun vs H Q E q => by
    obtain ⟨G, F, μ, ds, R, sS, a, hp, fin⟩ := q
    exact ⟨G, F, μ, ds, R, sS, a, i ds μ R hp, fin⟩
end
end DL
end
/-! I -/
section
set_option Elab.async false
set_option linter.all false
set_option maxRecDepth 100000
set_option maxHeartbeats 4000000
namespace PySem.W
open PySem PySem.Calls PyProof.Rows Builtin
section
variable {prog : Program} {w : World} {A : Around} {E : Value → Shared → Prop} {s : Shared} {K : Frag} {x C L f : Addr} {h₀ : Heap} {m : Str → Option Value} {ox : Obj} {od : Option Obj} {b tb : Value}
theorem gm_neEntry {Q : Fin → Shared → Prop} (X : K.In s.heap) (I : InstAt s.heap x ox C od) (hs : findIn K (.ref C) "__eq__" = some (some (.ref f))) (hf : isFn K (.ref f) = true) (hu : A.units < cLine)
    (hcall : wpAny (model prog w) A (call (.ref f) [.ref x, b]) (fun v s' => ∃ b, v = .bool b ∧ Q (.done (.ret (.bool (!b)))) s') E s) :
    wpAny (model prog w) A (Builtin.«object.__ne__» ⟨[.ref x, b], []⟩) Q E s := by
  unfold Builtin.«object.__ne__»
  refine wpAny_bind (m := slotArgs "__ne__" 1 _) (wpAny_pure ?_)
  refine wpAny_bind (wpAny_cRoomFor hu ?_)
  refine wpAny_bind (m := callSpecialIfBound? (.ref x) (Str.ofString "__eq__") _) (ifBound_K X I hs hf (wpAny_mono hcall (fun r s' hr => ?_) fun _ _ e => e))
  obtain ⟨k, rfl, hq⟩ := hr
  exact wpAny_bind (m := truthy (.bool k)) (wpAny_truthy_bool (wpAny_pure hq))
theorem gm_bindNe (self : Value) : bindSpecial (.builtin "object.__ne__") self = pure (.builtin "object.__ne__", [self]) := PySem.F.cmp_object.ne.bind self
theorem gm_check {M : Model} {Q : Unit → Shared → Prop} (X : K.In s.heap) (I : InstAt s.heap x ox C od) (ho : subIn K (.ref C) (.type "object") = some true) (hq : Q () s) :
    wpAny M A (checkBuiltinCall "object.__ne__" ⟨[.ref x, b], []⟩) Q E s := by
  simp only [checkBuiltinCall, F.cmpKind_ne, F.cmpSplit_ne]
  refine wpAny_bind ?_
  unfold isInstance
  refine wpAny_bind (I.type.here ((looks_subIn X ho).here ?_))
  have ha := F.cmpArgs_ne (.ref x) b
  cases hsig : Manifest.signature? "object.__ne__" with
  | none => exact wpAny_pure hq
  | some sig =>
    simp only [argsOk, hsig] at ha
    have h2 : Bind.checkArgs "object.__ne__" sig ⟨[.ref x, b], []⟩ = pure () := ha
    show wpAny M A (Bind.checkArgs "object.__ne__" sig ⟨[.ref x, b], []⟩) Q E _
    rw [h2]
    exact wpAny_pure hq
theorem gm_ne {Q : Value → Shared → Prop} (hu : A.units + 1 < cLine) (F : Fr h₀ L s.heap m) (X₀ : K.In h₀) (I : InstAt s.heap x ox C od) (hb : Looks (model prog w) s.heap (typeOf b) (.ref C))
    (hn : findIn K (.ref C) "__ne__" = some (some (.builtin "object.__ne__"))) (ho : subIn K (.ref C) (.type "object") = some true) (hs : findIn K (.ref C) "__eq__" = some (some (.ref f))) (hf : isFn K (.ref f) = true)
    (h : wpAny (model prog w) A.in1 (call (.ref f) [.ref x, b]) (fun v s' => ∃ b, v = .bool b ∧ Q (.bool (!b)) s') E s) : wpAny (model prog w) A (richCompare .NotEq (.ref x) b) Q E s := by
  have X := X₀.keeps F.keep
  have one : wpAny (model prog w) A (tryCompare (.ref x) (cmpInfo .NotEq).2.1 b) (fun r s' => ∃ v, r = some v ∧ Q v s') E s := by
    unfold tryCompare
    refine wpAny_bind ?_
    have ca : wpAny (model prog w) A (call (.builtin "object.__ne__") [.ref x, b]) (fun v s' => ∃ k, v = .bool k ∧ Q (.bool k) s') E s :=
      wpAny_call (codeAny_call_builtin PySem.F.cmp_object.ne.plain PySem.F.cmpEntry_ne (gm_check X I ho (gm_neEntry (A := A.in1) X I hs hf (by exact hu) (wpAny_mono h (fun v s' hv => by
        obtain ⟨k, rfl, q⟩ := hv
        exact ⟨k, rfl, _, rfl, q⟩) fun _ _ e => e))))
    simp only [callSpecialIfBound?, bindSpecialIfBound?]
    refine wpAny_holding (wpAny_bind (wpAny_bind (wpAny_bind (I.type.here ((looks_findIn X hn).here ?_)))))
    simp only [gm_bindNe]
    refine wpAny_bind (wpAny_askSetting (wpAny_ite ?_))
    have fin : ∀ R : Option Value → Shared → Prop, (∀ k s', Q (.bool k) s' → R (some (.bool k)) s') → wpAny (model prog w) A (call (.builtin "object.__ne__") ([.ref x] ++ [b]) >>= fun v => pure (some v)) R E s := fun R hR =>
      wpAny_bind (wpAny_mono ca (fun v s' h' => by
        obtain ⟨k, rfl, q⟩ := h'
        exact wpAny_pure (hR k s' q)) fun _ _ h' => h')
    split
    · exact wpAny_bind (wpAny_pure (wpAny_pure (fin _ fun k s' q => wpAny_pure ⟨_, rfl, q⟩)))
    · exact wpAny_tryCatch (wpAny_bind (wpAny_pure (wpAny_pure (fin _ fun k s' q => wpAny_pure ⟨_, rfl, q⟩))))
  unfold richCompare
  simp only [oneThing_ref]
  refine wpAny_holding (wpAny_bind (wpAny_cRoomFor (Nat.lt_of_succ_lt hu) ?_))
  refine wpAny_bind (I.type.here (wpAny_bind (hb.here ?_)))
  rw [show (Value.ref C != Value.ref C) = false from by simp]
  refine wpAny_bind (wpAny_pure ?_)
  simp only [Bool.false_eq_true, if_false]
  refine wpAny_bind (wpAny_mono one (fun r s' z => ?_) fun _ _ e => e)
  obtain ⟨v, rfl, hq⟩ := z
  exact wpAny_pure hq
end
end PySem.W
end
/-! J -/
section
set_option Elab.async false
set_option linter.all false
set_option maxRecDepth 100000
set_option maxHeartbeats 4000000
namespace DL
open PySem PySem.Spec PyProof.Rows L2
variable {K : PySem.W.Frag}

section
variable {X : Cx} {k : Nat} {f C : Addr} {fd : FuncData} {ps : List Str} {φ : TF}
theorem rr (a : Addr) : RelV (.ref a) (.ref a) := rfl
theorem run_at {sp : Sp} {A : Around} {pins : List (Addr × Obj)} {σ : L2.St} {H : Hp} {s : Shared} {Q : VK} {us : List Value} {vs : List V} (Fo : FnOk X.prog X.w X.K X.mg X.base CX0 k f fd ps sp) (sb : L2.Sub X k A) (hb : Binds X.K fd ps [])
    (I : Inv X pins σ H s) (r : Vals vs us) (h : sp vs H Q E0) : wpAny (model X.prog X.w) A (call (.ref f) us) (EP X pins σ Q) X.xe s := by
  have hl : (us ++ []).length = ps.length := by
    rw [List.append_nil, ← r.length]
    exact Fo.len _ _ _ _ h
  have e0 : Env0 X.prog X.w X.K X.mg X.base A X.stack s H := by
    have e := I.env0
    exact ⟨by rw [sb.fr]; exact e.frames, e.mod, e.bs, e.bsz, e.funs, e.frf, e.hok, e.bare⟩
  have bd := hb s us I.kIn hl
  rw [List.append_nil] at bd
  refine wpAny_call (codeAny_mono (Fo.run A X.stack s H ⟨us, []⟩ us vs Q E0 sb.room e0 bd r h) fun r s' hq => ?_)
  cases r with
  | error e => exact pass0 pins σ H s e s' I hq
  | ok fl =>
    cases fl with
    | ret u => exact I.after hq
    | next => exact False.elim hq
    | brk => exact False.elim hq
    | cont => exact False.elim hq
/-! len of an instance -/
def rLenI (C : Addr) (sp : Sp) : List V → Hp → VK → Prop := fun xs H Q => ∃ a dx fs, xs = [.ref a] ∧ H a = some (.ins C dx fs) ∧ sp [.ref a] H (fun v H' => ∃ n : Int, v = .int n ∧ 0 ≤ n ∧ n < 2 ^ 63 ∧ Q (.int n) H') E0
theorem call_lenI {sp : Sp} (Fo : FnOk X.prog X.w X.K X.mg X.base CX0 k f fd ps sp) (hm : Meth X.K C "__len__" f) (hr : Room (k + 1) X.A) (hb : Binds X.K fd ps []) : CallR X (.builtin "len") (rLenI C sp) := by
  intro pins s σ H xs us Q I r h
  obtain ⟨a, dx, fs, rfl, ha, h⟩ := h
  obtain ⟨u, rfl, rx⟩ := vals1 r
  cases rx
  obtain ⟨mA, J, _⟩ := ins_get I.hok ha
  obtain ⟨od, J, _⟩ := J.look
  obtain ⟨m, hF⟩ := I.fr
  refine PySem.W.len_K hF I.ok.mod.kin J hm.at_ hm.fn (wpAny_mono (run_at Fo ⟨hr.in1, rfl⟩ hb I (.cons (rr _) .nil) h) (fun v s' hq => ?_) fun _ _ e => e)
  obtain ⟨z, H', I', rz, n, rfl, h0, h1, q⟩ := hq
  obtain ⟨t, rfl⟩ := rz
  exact ⟨⟨h0, h1⟩, .int n, H', I'.tok _, ⟨_, rfl⟩, q⟩
def pLenI (C : Addr) (φ : TF) : TDC := c1 fun d μ R => match d with
  | .ins C' fs => C' = C ∧ φ [.ins C' fs] μ fun r μ' => onI r fun n => 0 ≤ n ∧ n < 2 ^ 63 ∧ R (.int n) μ'
  | _ => False
theorem c_lenI (Fo : FnOk X.prog X.w K X.mg X.base CX0 k f fd ps (spD K φ)) (hm : Meth K C "__len__" f) (hr : Room (k + 1) X.A) (hb : Binds K fd ps []) (hK : X.K = K := by rfl) : DC K X (.builtin "len") (rLenI C (spD K φ)) (pLenI C φ) := by
  subst hK
  refine ⟨rfl, call_lenI Fo hm hr hb, ?_⟩
  intro vs ds H G F μ R Q s a h kk
  obtain ⟨v, d, rfl, rfl, a, h⟩ := c1_ok a h
  cases d <;> first | exact h.elim | skip
  obtain ⟨rfl, h2⟩ := (show _ = C ∧ φ _ μ _ from h)
  clear h
  cases a with
  | ins hg tf =>
  refine ⟨_, _, _, rfl, s.gh _ _ hg, G, F, μ, _, _, s, .cons (.ins hg tf) .nil, h2, fun d μ' v G' H' r g s' a' => ?_⟩
  obtain ⟨n, rfl, h0, h1, r⟩ := onI_ok r
  cases a'
  exact ⟨n, rfl, h0, h1, kk _ μ' _ G' H' r g s' (.int _)⟩
/-! an operator of two instances of one class -/
def rBinI (C : Addr) (sp : Sp) : R2 := fun x y H Q => ∃ a b dx dy fs gs, x = .ref a ∧ y = .ref b ∧ H a = some (.ins C dx fs) ∧ H b = some (.ins C dy gs) ∧ sp [x, y] H Q E0
theorem cmpBack {pins : List (Addr × Obj)} {σ : L2.St} {Q : VK} {v : Value} {s : Shared} (h : EP X pins σ Q v s) : PySem.W.CmpBack (EP X pins σ Q) v s := by
  obtain ⟨z, H', I', rz, q⟩ := id h
  cases v <;> first | exact h | (exfalso; cases z <;> first | (cases (show (_ : Value) = _ from rz); done) | (obtain ⟨t, e⟩ := (show ∃ t, (_ : Value) = _ from rz); cases e))
theorem op_binI {sp : Sp} {op : Operator} {nm : Str} (hnm : PySem.dunder op.info.2 = nm) (Fo : FnOk X.prog X.w X.K X.mg X.base CX0 k f fd ps sp) (hm : Meth X.K C nm f) (sf : PySem.W.selfFirst X.K C = true) (hr : Room k X.A) (hb : Binds X.K fd ps []) : OpR X (binaryOp op) (rBinI C sp) := by
  intro pins s σ H x y v u Q I rx ry h
  obtain ⟨a, b, dx, dy, fs, gs, rfl, rfl, ha, hb', h⟩ := h
  cases rx
  cases ry
  obtain ⟨mA, J, _⟩ := ins_get I.hok ha
  obtain ⟨mB, J', _⟩ := ins_get I.hok hb'
  obtain ⟨od, J, _⟩ := J.look
  obtain ⟨od', J', _⟩ := J'.look
  obtain ⟨m, hF⟩ := I.fr
  exact PySem.W.binop_K hF I.ok.mod.kin J J'.type sf (by rw [hnm]; exact hm.at_) hm.fn (wpAny_mono (run_at Fo ⟨hr, rfl⟩ hb I (.cons (rr _) (.cons (rr _) .nil)) h) (fun v s' hq => cmpBack hq) fun _ _ e => e)
def pBinI (C : Addr) (φ : TF) : TD2 := fun x y μ R => match x, y with
  | .ins C1 fs, .ins C2 gs => C1 = C ∧ C2 = C ∧ φ [.ins C1 fs, .ins C2 gs] μ R
  | _, _ => False
theorem ad_binI {K : PySem.W.Frag} {C : Addr} : AdO K (rBinI C (spD K φ)) (pBinI C φ) := by
  intro x y dx dy H G F μ R Q s ax ay h kk
  cases dx <;> cases dy <;> first | exact h.elim | skip
  obtain ⟨rfl, rfl, h⟩ := h
  cases ax with
  | ins hg tf =>
  cases ay with
  | ins hg2 tf2 => exact ⟨_, _, _, _, _, _, rfl, rfl, s.gh _ _ hg, s.gh _ _ hg2, G, F, μ, _, R, s, .cons (.ins hg tf) (.cons (.ins hg2 tf2) .nil), h, kk⟩
theorem o_binI {op : Operator} {nm : Str} (hnm : PySem.dunder op.info.2 = nm) (Fo : FnOk X.prog X.w K X.mg X.base CX0 k f fd ps (spD K φ)) (hm : Meth K C nm f) (sf : PySem.W.selfFirst K C = true) (hr : Room k X.A) (hb : Binds K fd ps []) (hK : X.K = K := by rfl) :
    DOp K X (binaryOp op) (rBinI C (spD K φ)) (pBinI C φ) := by
  subst hK
  exact ⟨rfl, op_binI hnm Fo hm sf hr hb, ad_binI⟩
/-! == and != of two instances of one class -/
theorem op_eqI {sp : Sp} (Fo : FnOk X.prog X.w X.K X.mg X.base CX0 k f fd ps sp) (hm : Meth X.K C "__eq__" f) (hr : Room k X.A) (hb : Binds X.K fd ps []) : OpR X (compareOp .Eq) (rBinI C sp) := by
  intro pins s σ H x y v u Q I rx ry h
  obtain ⟨a, b, dx, dy, fs, gs, rfl, rfl, ha, hb', h⟩ := h
  cases rx
  cases ry
  obtain ⟨mA, J, _⟩ := ins_get I.hok ha
  obtain ⟨mB, J', _⟩ := ins_get I.hok hb'
  obtain ⟨od, J, _⟩ := J.look
  obtain ⟨od', J', _⟩ := J'.look
  obtain ⟨m, hF⟩ := I.fr
  exact PySem.W.cmp_K (op := .Eq) (tb := .ref C) hr.units0 hF I.ok.mod.kin J J'.type (by simp [PySem.W.notFirst]) hm.at_ hm.fn (wpAny_mono (run_at Fo ⟨hr, rfl⟩ hb I (.cons (rr _) (.cons (rr _) .nil)) h) (fun v s' hq => cmpBack hq) fun _ _ e => e)
theorem o_eqI (Fo : FnOk X.prog X.w K X.mg X.base CX0 k f fd ps (spD K φ)) (hm : Meth K C "__eq__" f) (hr : Room k X.A) (hb : Binds K fd ps []) (hK : X.K = K := by rfl) : DOp K X (compareOp .Eq) (rBinI C (spD K φ)) (pBinI C φ) := by
  subst hK
  exact ⟨rfl, op_eqI Fo hm hr hb, ad_binI⟩
structure NeOk (K : PySem.W.Frag) (C : Addr) : Prop where
  ne : PySem.W.findIn K (.ref C) "__ne__" = some (some (.builtin "object.__ne__"))
  ob : PySem.W.subIn K (.ref C) (.type "object") = some true
def rNeI (C : Addr) (sp : Sp) : R2 := fun x y H Q => rBinI C sp x y H fun v H' => ∃ b, v = .bl b ∧ Q (.bl (!b)) H'
theorem op_neI {sp : Sp} (Fo : FnOk X.prog X.w X.K X.mg X.base CX0 k f fd ps sp) (hm : Meth X.K C "__eq__" f) (hn : NeOk X.K C) (hr : Room (k + 1) X.A) (hb : Binds X.K fd ps []) : OpR X (compareOp .NotEq) (rNeI C sp) := by
  intro pins s σ H x y v u Q I rx ry h
  obtain ⟨a, b, dx, dy, fs, gs, rfl, rfl, ha, hb', h⟩ := h
  cases rx
  cases ry
  obtain ⟨mA, J, _⟩ := ins_get I.hok ha
  obtain ⟨mB, J', _⟩ := ins_get I.hok hb'
  obtain ⟨od, J, _⟩ := J.look
  obtain ⟨od', J', _⟩ := J'.look
  obtain ⟨m, hF⟩ := I.fr
  refine PySem.W.gm_ne (by have := hr.un; omega) hF I.ok.mod.kin J J'.type hn.ne hn.ob hm.at_ hm.fn (wpAny_mono (run_at Fo ⟨hr.in1, rfl⟩ hb I (.cons (rr _) (.cons (rr _) .nil)) h) (fun v s' hq => ?_) fun _ _ e => e)
  obtain ⟨z, H', I', rz, k, rfl, q⟩ := hq
  cases rz
  exact ⟨k, rfl, .bl (!k), H', I', rfl, q⟩
def pNeI (C : Addr) (φ : TF) : TD2 := fun x y μ R => pBinI C φ x y μ fun d μ' => onB d fun b => R (.bl (!b)) μ'
theorem o_neI (Fo : FnOk X.prog X.w K X.mg X.base CX0 k f fd ps (spD K φ)) (hm : Meth K C "__eq__" f) (hn : NeOk K C) (hr : Room (k + 1) X.A) (hb : Binds K fd ps []) (hK : X.K = K := by rfl) : DOp K X (compareOp .NotEq) (rNeI C (spD K φ)) (pNeI C φ) := by
  subst hK
  refine ⟨rfl, op_neI Fo hm hn hr hb, ?_⟩
  intro x y dx dy H G F μ R Q s ax ay h kk
  refine ad_binI x y dx dy H G F μ _ _ s ax ay h fun d μ' v G' H' r g s' a => ?_
  obtain ⟨b, rfl, r⟩ := asT_ok r
  cases a
  exact ⟨b, rfl, kk _ μ' _ G' H' r g s' (.bl _)⟩
/-! v in o, v not in o -/
def rInI (C : Addr) (sp : Sp) (g : Bool → Bool) : R2 := fun x y H Q => ∃ b dy gs, y = .ref b ∧ H b = some (.ins C dy gs) ∧ sp [y, x] H (fun v H' => ∃ b, v = .bl b ∧ Q (.bl (g b)) H') E0
theorem op_inI {sp : Sp} (Fo : FnOk X.prog X.w X.K X.mg X.base CX0 k f fd ps sp) (hm : Meth X.K C "__contains__" f) (hr : Room k X.A) (hb : Binds X.K fd ps []) : OpR X (compareOp .In) (rInI C sp id) := by
  intro pins s σ H x y v u Q I rx ry h
  obtain ⟨b, dy, gs, rfl, hb', h⟩ := h
  cases ry
  obtain ⟨mB, J, _⟩ := ins_get I.hok hb'
  obtain ⟨od, J, _⟩ := J.look
  obtain ⟨m, hF⟩ := I.fr
  refine PySem.W.in_K hF I.ok.mod.kin J hm.at_ hm.fn (wpAny_mono (run_at Fo ⟨hr, rfl⟩ hb I (.cons (rr _) (.cons rx .nil)) h) (fun v s' hq => ?_) fun _ _ e => e)
  obtain ⟨z, H', I', rz, k, rfl, q⟩ := hq
  cases rz
  exact wpAny_truthy_bool ⟨.bl k, H', I', rfl, q⟩
theorem op_notInI {sp : Sp} (Fo : FnOk X.prog X.w X.K X.mg X.base CX0 k f fd ps sp) (hm : Meth X.K C "__contains__" f) (hr : Room k X.A) (hb : Binds X.K fd ps []) : OpR X (compareOp .NotIn) (rInI C sp not) := by
  intro pins s σ H x y v u Q I rx ry h
  obtain ⟨b, dy, gs, rfl, hb', h⟩ := h
  cases ry
  obtain ⟨mB, J, _⟩ := ins_get I.hok hb'
  obtain ⟨od, J, _⟩ := J.look
  obtain ⟨m, hF⟩ := I.fr
  refine PySem.W.notIn_K hF I.ok.mod.kin J hm.at_ hm.fn (wpAny_mono (run_at Fo ⟨hr, rfl⟩ hb I (.cons (rr _) (.cons rx .nil)) h) (fun v s' hq => ?_) fun _ _ e => e)
  obtain ⟨z, H', I', rz, k, rfl, q⟩ := hq
  cases rz
  exact wpAny_truthy_bool ⟨.bl (!k), H', I', rfl, q⟩
def pInI (C : Addr) (φ : TF) (g : Bool → Bool) : TD2 := fun x y μ R => match y with
  | .ins C1 fs => C1 = C ∧ φ [.ins C1 fs, x] μ fun d μ' => onB d fun b => R (.bl (g b)) μ'
  | _ => False
theorem ad_inI {K : PySem.W.Frag} {C : Addr} {g : Bool → Bool} : AdO K (rInI C (spD K φ) g) (pInI C φ g) := by
  intro x y dx dy H G F μ R Q s ax ay h kk
  cases dy <;> first | exact (show False from h).elim | skip
  obtain ⟨rfl, h2⟩ := (show _ = C ∧ φ _ μ _ from h)
  clear h
  cases ay with
  | ins hg2 tf2 =>
  refine ⟨_, _, _, rfl, s.gh _ _ hg2, G, F, μ, _, _, s, .cons (.ins hg2 tf2) (.cons ax .nil), h2, fun d μ' v G' H' r g s' a => ?_⟩
  obtain ⟨b, rfl, r⟩ := asT_ok r
  cases a
  exact ⟨b, rfl, kk _ μ' _ G' H' r g s' (.bl _)⟩
theorem o_notInI (Fo : FnOk X.prog X.w K X.mg X.base CX0 k f fd ps (spD K φ)) (hm : Meth K C "__contains__" f) (hr : Room k X.A) (hb : Binds K fd ps []) (hK : X.K = K := by rfl) : DOp K X (compareOp .NotIn) (rInI C (spD K φ) not) (pInI C φ not) := by
  subst hK
  exact ⟨rfl, op_notInI Fo hm hr hb, ad_inI⟩
/-! ### isinstance -/
/-- the built-in type of a plain value -/
def tyD : D → Option String
  | .int _ => some "int"
  | .bl _ => some "bool"
  | .tup _ => some "tuple"
  | .lst _ => some "list"
  | .non => some "NoneType"
  | _ => none
/-- .. with what the store holds -/
def tyS (μ : Sto) : D → Option String
  | .adr p => match μ p with
    | some (.lst _) => some "list"
    | _ => none
  | d => tyD d
theorem tyS_ok {K : PySem.W.Frag} {G H F : Hp} {μ : Sto} {v : V} {d : D} {t : String} (s : S K G H F μ) (a : At K G v d) (e : tyS μ d = some t) : TyX K H v (.type t) := by
  cases a <;> first | (cases e; done) | skip
  · cases e; exact .base (.int _)
  · cases e; exact .base (.bl _)
  · cases e; exact .base .non
  · rename_i p
    unfold tyS at e
    simp only at e
    split at e
    · rename_i ds q
      cases e
      obtain ⟨_, vs, hv, _⟩ := s.st _ _ q
      exact .base (.lst hv)
    · cases e
  · rename_i hg _
    cases e
    exact .base (.tup (s.gh _ _ hg))
  · rename_i hg _
    cases e
    exact .base (.lst (s.gh _ _ hg))
def dIsi (T : String) (φ : TD) : TD := fun ρ μ R => φ ρ μ fun d μ1 => ∃ t b, tyS μ1 d = some t ∧ kitB t T = some b ∧ R (.bl b) μ1
variable {p pos q q2 q3 : Pos} {e : Expr} {te : TE} {φe : TD}
theorem d_isi {Tn : Str} {T : String} (hm : X.mg "isinstance" = none) (hmT : X.mg Tn = none) (he : DE K X e te φe) (hg : Gl X "isinstance" := by rfl) (hgT : Gl X Tn := by rfl) (hvT : bootBuiltins Tn = some (.type T) := by decide +kernel) (hnT : Tn ≠ "__name__" := by decide)
    (hdT : (Tn == ("__debug__" : Str)) = false := by decide)
    (hs : starEach [e, .Name Tn q] X.env = (false, eval e X.env) :: starEach [.Name Tn q] X.env := by rfl) (hs2 : starEach [.Name Tn q] X.env = (false, eval (.Name Tn q) X.env) :: starEach [] X.env := by rfl) (hpl : (backTo pos (starEach [.Name Tn q] X.env)).any (·.1) = false := by rfl) :
    DE K X (.Call (.Name "isinstance" p) [e, .Name Tn q] [] pos) (tCB (rIsi K) (tCons te (tCons (tC (.ty T)) tNil))) (dIsi T φe) := by
  have hK := he.eK
  subst hK
  refine ⟨rfl, pe_callB call_isi hg hm PyProof.Rows.boot_isinstance (pa_cons he.pe (pa_cons (pe_bltn (v := .ty T) hgT hmT hvT rfl hnT hdT) pa_nil hs2) hs) (by decide) (by decide) hs hpl, ?_⟩
  intro σ H G F ρ μ R Q s ev h kk
  refine he.ad σ H G F ρ μ _ _ s ev h fun d μ1 v G1 H1 hb g1 s1 a1 => ?_
  obtain ⟨t, b, h1, h2, h3⟩ := hb
  exact ⟨v, .ty T, .type t, .type T, b, rfl, .ty T, tyS_ok s1 a1 h1, kit_ty h2, kk _ μ1 _ G1 H1 h3 g1 s1 (.bl b)⟩
/-- against an own class -/
structure IsO (K : PySem.W.Frag) (C : Addr) : Prop where
  cl : Cls K C
  ha : PySem.W.findIn K (.ref C) "__class__" = some (some (.builtin "object.__class__"))
  hn : PySem.W.specialIn K (.builtin "object.__class__") "__get__" = some (some (.builtin "getset_descriptor.__get__"))
  htk : PySem.W.takesIn K (.builtin "object.__class__") = some true
  hm : PySem.W.mroIn K C (.type "object") = some true
  self : PySem.W.kitOne K (.ref C) (.ref C) = some true
  list : PySem.W.kitOne K (.type "list") (.ref C) = some false
def isO (C : Addr) (μ : Sto) : D → Option Bool
  | .ins C' _ => if C' = C then some true else none
  | .lst _ => some false
  | .adr p => match μ p with
    | some (.lst _) => some false
    | _ => none
  | _ => none
def dIsO (C : Addr) (φ : TD) : TD := fun ρ μ R => φ ρ μ fun d μ1 => ∃ b, isO C μ1 d = some b ∧ R (.bl b) μ1
theorem d_isO {Tn : Str} {C : Addr} (o : IsO K C) (hm : X.mg "isinstance" = none) (hmT : X.mg Tn = some (.ref C)) (he : DE K X e te φe) (hg : Gl X "isinstance" := by rfl) (hgT : Gl X Tn := by rfl)
    (hdT : (Tn == ("__debug__" : Str)) = false := by decide)
    (hs : starEach [e, .Name Tn q] X.env = (false, eval e X.env) :: starEach [.Name Tn q] X.env := by rfl) (hs2 : starEach [.Name Tn q] X.env = (false, eval (.Name Tn q) X.env) :: starEach [] X.env := by rfl) (hpl : (backTo pos (starEach [.Name Tn q] X.env)).any (·.1) = false := by rfl) :
    DE K X (.Call (.Name "isinstance" p) [e, .Name Tn q] [] pos) (tCB (rIsi K) (tCons te (tCons (tC (.ref C)) tNil))) (dIsO C φe) := by
  have hK := he.eK
  subst hK
  refine ⟨rfl, pe_callB call_isi hg hm PyProof.Rows.boot_isinstance (pa_cons he.pe (pa_cons (pe_glob (v := .ref C) hgT hmT rfl hdT) pa_nil hs2) hs) (by decide) (by decide) hs hpl, ?_⟩
  intro σ H G F ρ μ R Q s ev h kk
  refine he.ad σ H G F ρ μ _ _ s ev h fun d μ1 v G1 H1 hb g1 s1 a1 => ?_
  obtain ⟨b, h1, h3⟩ := hb
  have fin := kk _ μ1 _ G1 H1 h3 g1 s1 (.bl b)
  cases a1 <;> first | (cases h1; done) | skip
  · rename_i p
    unfold isO at h1
    simp only at h1
    split at h1
    · rename_i ds q
      cases h1
      obtain ⟨_, vs, hv, _⟩ := s1.st _ _ q
      exact ⟨_, .ref C, .type "list", .ref C, _, rfl, .own C, .base (.lst hv), o.list, fin⟩
    · cases h1
  · rename_i hg _
    cases h1
    exact ⟨_, .ref C, .type "list", .ref C, _, rfl, .own C, .base (.lst (s1.gh _ _ hg)), o.list, fin⟩
  · rename_i a C' dx gs fs hg tf
    unfold isO at h1
    simp only at h1
    split at h1
    · rename_i e1
      subst e1
      cases h1
      exact ⟨_, .ref C', .ref C', .ref C', _, rfl, .own C', .base (.ins (s1.gh _ _ hg) o.cl o.ha o.hn o.htk o.hm), o.self, fin⟩
    · cases h1
/-- isinstance(x, (list, tuple)) -/
def dIsLT (φ : TD) : TD := fun ρ μ R => φ ρ μ fun d μ1 => (tyS μ1 d = some "list" ∨ tyS μ1 d = some "tuple") ∧ R (.bl true) μ1
theorem d_isLT {kk : Nat} {tpos : Pos} (hm : X.mg "isinstance" = none) (hml : X.mg "list" = none) (hmt : X.mg "tuple" = none) (he : DE K X e te φe) (hg : Gl X "isinstance" := by rfl) (hgl : Gl X "list" := by rfl) (hgt : Gl X "tuple" := by rfl)
    (hs : starEach [e, .Tuple [.Name "list" q, .Name "tuple" q2] kk tpos] X.env = (false, eval e X.env) :: starEach [.Tuple [.Name "list" q, .Name "tuple" q2] kk tpos] X.env := by rfl)
    (hs2 : starEach [.Tuple [.Name "list" q, .Name "tuple" q2] kk tpos] X.env = (false, eval (.Tuple [.Name "list" q, .Name "tuple" q2] kk tpos) X.env) :: starEach [] X.env := by rfl)
    (hs3 : starEach [.Name "list" q, .Name "tuple" q2] X.env = (false, eval (.Name "list" q) X.env) :: starEach [.Name "tuple" q2] X.env := by rfl)
    (hs4 : starEach [.Name "tuple" q2] X.env = (false, eval (.Name "tuple" q2) X.env) :: starEach [] X.env := by rfl)
    (hpl : (backTo pos (starEach [.Tuple [.Name "list" q, .Name "tuple" q2] kk tpos] X.env)).any (·.1) = false := by rfl) :
    DE K X (.Call (.Name "isinstance" p) [e, .Tuple [.Name "list" q, .Name "tuple" q2] kk tpos] [] pos) (tCB (rIsiT K) (tCons te (tCons (tTup (tCons (tC (.ty "list")) (tCons (tC (.ty "tuple")) tNil))) tNil))) (dIsLT φe) := by
  have hK := he.eK
  subst hK
  refine ⟨rfl, pe_callB call_isiT hg hm PyProof.Rows.boot_isinstance (pa_cons he.pe (pa_cons (pe_tup (pa_cons (pe_bltn (v := .ty "list") hgl hml (u := .type "list") (by decide +kernel) rfl) (pa_cons (pe_bltn (v := .ty "tuple") hgt hmt (u := .type "tuple") (by decide +kernel) rfl) pa_nil hs4) hs3)) pa_nil hs2) hs) (by decide) (by decide) hs hpl, ?_⟩
  intro σ H G F ρ μ R Q s ev h kk
  refine he.ad σ H G F ρ μ _ _ s ev h fun d μ1 v G1 H1 hb g1 s1 a1 => ?_
  obtain ⟨h1, h3⟩ := hb
  refine ⟨by show 2 ≤ sizeLine; decide, fun T hT => ?_⟩
  have fr := s1.fresh hT
  have s2 : S X.K (upd G1 T (.tup [.ty "list", .ty "tuple"])) (upd H1 T (.tup [.ty "list", .ty "tuple"])) F μ1 := s1.new hT
  have g2 : Same G1 (upd G1 T (.tup [.ty "list", .ty "tuple"])) := Same.upd fr.1
  have pr : Paired ClsV [V.ty "list", V.ty "tuple"] [Value.type "list", Value.type "tuple"] := .cons (.ty _) (.cons (.ty _) .nil)
  have fin := kk _ μ1 _ _ _ h3 (g1.trans g2) s2 (.bl true)
  rcases h1 with h1 | h1
  · exact ⟨v, T, _, .type "list", _, true, rfl, upd_same, pr, tyS_ok s2 (a1.mono g2) h1, kitAny_cons (b := true) (kit_ty (by decide +kernel)) (fun z => nomatch z) fun _ => rfl, fin⟩
  · exact ⟨v, T, _, .type "tuple", _, true, rfl, upd_same, pr, tyS_ok s2 (a1.mono g2) h1, kitAny_cons (b := false) (kit_ty (by decide +kernel)) (fun _ => kitAny_cons (b := true) (kit_ty (by decide +kernel)) (fun z => nomatch z) fun _ => rfl) fun z => (nomatch z), fin⟩
end
end DL
end
/-! K -/
section
set_option Elab.async false
set_option linter.all false
set_option maxRecDepth 100000
set_option maxHeartbeats 4000000
namespace DL
open PySem PySem.Spec PyProof.Rows L2
variable {K : PySem.W.Frag}

/-! ### more operators -/
def onTs (d : D) (k : List Int → Prop) : Prop := match d with
  | .tup ds => ∃ ns, D.ints? ds = some ns ∧ k ns
  | _ => False
theorem onTs_ok {d : D} {k : List Int → Prop} (h : onTs d k) : ∃ ns : List Int, d = .tup (ns.map D.int) ∧ k ns := by
  cases d <;> first | exact h.elim | skip
  obtain ⟨ns, e, hk⟩ := h
  exact ⟨ns, by rw [ints?_eq e], hk⟩
theorem onTs_map {ns : List Int} {k : List Int → Prop} (h : k ns) : onTs (.tup (ns.map D.int)) k := ⟨ns, ints?_map ns, h⟩
section
variable {X : Cx}
def lexLeB (ns ms : List Int) : Bool := Ob.lexAt (fun j => decide (ns.getD j 0 = ms.getD j 0)) (fun j => decide (ns.getD j 0 ≤ ms.getD j 0)) (decide (ns.length ≤ ms.length)) 0 (min ns.length ms.length)
def pTup2 (g : List Int → List Int → Bool) : TD2 := fun x y μ R => onTs x fun ns => onTs y fun ms => R (.bl (g ns ms)) μ
theorem o_leT (hu : X.A.units < cLine) (hK : X.K = K := by rfl) : DOp K X (compareOp .LtE) (rLeT K) (pTup2 lexLeB) := by
  subst hK
  refine ⟨rfl, op_leT hu, ?_⟩
  intro x y dx dy H G F μ R Q s ax ay h k
  obtain ⟨ns, e1, h'⟩ := onTs_ok h
  obtain ⟨ms, e2, h2⟩ := onTs_ok h'
  clear h h'
  subst e1 e2
  cases ax with
  | tup hg t =>
  cases ay with
  | tup hg2 t2 =>
  have e1 := t.ints
  have e2 := t2.ints
  subst e1 e2
  exact ⟨_, _, ns, ms, rfl, rfl, SqT.of (s.gh _ _ hg), SqT.of (s.gh _ _ hg2), k _ μ _ G H h2 (Same.refl _) s (.bl _)⟩
theorem o_ltT (hu : X.A.units < cLine) (hK : X.K = K := by rfl) : DOp K X (compareOp .Lt) (rLtT K) (pTup2 HT.lexLt) := by
  subst hK
  refine ⟨rfl, op_ltT hu, ?_⟩
  intro x y dx dy H G F μ R Q s ax ay h k
  obtain ⟨ns, e1, h'⟩ := onTs_ok h
  obtain ⟨ms, e2, h2⟩ := onTs_ok h'
  clear h h'
  subst e1 e2
  cases ax with
  | tup hg t =>
  cases ay with
  | tup hg2 t2 =>
  have e1 := t.ints
  have e2 := t2.ints
  subst e1 e2
  exact ⟨_, _, ns, ms, rfl, rfl, SqT.of (s.gh _ _ hg), SqT.of (s.gh _ _ hg2), k _ μ _ G H h2 (Same.refl _) s (.bl _)⟩
/-- a list times an int, a list of the store -/
def pRepM : TD2 := fun x y μ R => match x, y with
  | .lst ds, .int k => 0 ≤ k ∧ k < 2 ^ 62 ∧ ds.length * k.toNat ≤ sizeLine ∧ ∀ p, μ p = none → R (.adr p) (μ.put p (.lst (List.replicate k.toNat ds).flatten))
  | _, _ => False
theorem Ats.rep {K : PySem.W.Frag} {G : Hp} {vs : List V} {ds : List D} (t : Ats K G vs ds) : ∀ n : Nat, Ats K G (List.replicate n vs).flatten (List.replicate n ds).flatten
  | 0 => .nil
  | n + 1 => by
    rw [List.replicate_succ, List.replicate_succ, List.flatten_cons, List.flatten_cons]
    exact t.append (Ats.rep t n)
theorem o_repM (hK : X.K = K := by rfl) : DOp K X (binaryOp .Mult) rRep pRepM := by
  subst hK
  refine ⟨rfl, op_rep, ?_⟩
  intro x y dx dy H G F μ R Q s ax ay h k
  cases dx <;> cases dy <;> first | exact h.elim | skip
  obtain ⟨h0, h1, hz, hr⟩ := h
  cases ay
  cases ax with
  | lst hg t =>
  refine ⟨_, _, _, rfl, rfl, s.gh _ _ hg, by omega, by omega, by rw [t.length]; exact hz, fun p hp => ?_⟩
  exact k _ _ _ G _ (hr p (s.fresh hp).2.2) (Same.refl _) (s.newLst hp (t.rep _)) (.adr p)
end
theorem flatten_rep {α : Type} (a : α) : ∀ n, (List.replicate n [a]).flatten = List.replicate n a
  | 0 => rfl
  | n + 1 => by rw [List.replicate_succ, List.flatten_cons, flatten_rep a n, List.replicate_succ]; rfl

section
variable {X : Cx}
/-! ### a < b <= c -/
variable {pos : Pos} {a b c : Expr} {ta tb tc : TE} {φa φb φc : TD}
theorem t_chain {op op' : CmpOp} {r r' : R2} {ψ ψ' : TD2} (o : DOp K X (compareOp op) r ψ) (o' : DOp K X (compareOp op') r' ψ') (ha : DE K X a ta φa) (hb : DE K X b tb φb) (hc : DE K X c tc φc) (hm : lastMarks [op, op'] [b, c] = false := by with_unfolding_all rfl) :
    DT K X (.Compare a [op, op'] [b, c] pos) (tTest (tChain r r' ta tb tc)) (asT (dChain ψ ψ' φa φb φc)) := by
  have hK := o.eK
  subst hK
  refine ⟨rfl, pt_chain o.op o'.op ha.pe hb.pe hc.pe hm, ad_asT ?_⟩
  intro σ H G F ρ μ R Q s ev h k
  refine ha.ad σ H G F ρ μ _ _ s ev h fun x μ1 v1 G1 H1 h1 g1 s1 a1 => ?_
  refine hb.ad σ H1 G1 F ρ μ1 _ _ s1 (ev.mono g1) h1 fun y μ2 v2 G2 H2 h2 g2 s2 a2 => ?_
  refine o.ad v1 v2 x y H2 G2 F μ2 _ _ s2 (a1.mono g2) a2 h2 fun z μ3 v3 G3 H3 h3 g3 s3 a3 => ?_
  cases z <;> first | exact (show False from h3).elim | skip
  rename_i bb
  cases a3
  refine ⟨bb, rfl, ?_⟩
  have gg := (g1.trans g2).trans g3
  cases bb with
  | false =>
    rw [if_neg Bool.false_ne_true]
    exact k _ μ3 _ G3 H3 h3 gg s3 (.bl _)
  | true =>
    rw [if_pos rfl]
    refine hc.ad σ H3 G3 F ρ μ3 _ _ s3 (ev.mono gg) h3 fun u μ4 v4 G4 H4 h4 g4 s4 a4 => ?_
    refine o'.ad v2 v4 y u H4 G4 F μ4 _ _ s4 ((a2.mono g3).mono g4) a4 h4 fun d μ5 v5 G5 H5 h5 g5 s5 a5 => ?_
    exact k d μ5 v5 G5 H5 h5 ((gg.trans g4).trans g5) s5 a5
/-! ### list(range(i, j)) -/
def dLR2 (φa φb : TD) : TD := fun ρ μ R => φa ρ μ fun d μ1 => φb ρ μ1 fun e μ2 => onI d fun i => onI e fun j => RgOk i j ∧ R (.lst (rngD i (j - i).toNat)) μ2
theorem ats_rg {K : PySem.W.Frag} {G : Hp} (i j : Int) : Ats K G (rgV i j) (rngD i (j - i).toNat) := by
  have e : rgV i j = ((List.range (j - i).toNat).map fun n : Nat => i + (n : Int)).map V.int := by unfold rgV; rw [List.map_map]; rfl
  have e2 : rngD i (j - i).toNat = ((List.range (j - i).toNat).map fun n : Nat => i + (n : Int)).map D.int := by unfold rngD; rw [List.map_map]; rfl
  rw [e, e2]
  exact Ats.of_ints _
theorem d_listRg {p q rpos : Pos} (hc : X.calm = true) (hml : X.mg "list" = none) (hmr : X.mg "range" = none) (ha : DE K X a ta φa) (hb : DE K X b tb φb) (hgl : Gl X "list" := by rfl) (hgr : Gl X "range" := by rfl)
    (na : starEach [a, b] X.env = (false, eval a X.env) :: starEach [b] X.env := by rfl) (nb : starEach [b] X.env = (false, eval b X.env) :: starEach [] X.env := by rfl) (hp : (backTo rpos (starEach [b] X.env)).any (·.1) = false := by rfl)
    (nc : starEach [.Call (.Name "range" q) [a, b] [] rpos] X.env = (false, eval (.Call (.Name "range" q) [a, b] [] rpos) X.env) :: starEach [] X.env := by rfl) :
    DE K X (.Call (.Name "list" p) [.Call (.Name "range" q) [a, b] [] rpos] [] pos) (tLstRg (tRg2 ta tb)) (dLR2 φa φb) := by
  have hK := ha.eK
  subst hK
  refine ⟨rfl, pe_listRg hc hgl hml (prg_2 hgr hmr ha.pe hb.pe na nb hp) nc, ?_⟩
  intro σ H G F ρ μ R Q s ev h k
  refine ha.ad σ H G F ρ μ _ _ s ev h fun d μ1 v G1 H1 h1 g1 s1 a1 => ?_
  refine hb.ad σ H1 G1 F ρ μ1 _ _ s1 (ev.mono g1) h1 fun e μ2 v2 G2 H2 h2 g2 s2 a2 => ?_
  obtain ⟨i, rfl, h3⟩ := onI_ok h2
  obtain ⟨j, rfl, ok, hr⟩ := onI_ok h3
  cases a1
  cases a2
  refine ⟨i, j, rfl, rfl, ok, fun l hl => ?_⟩
  exact k _ μ2 _ _ _ hr ((g1.trans g2).trans (Same.upd (s2.fresh hl).1)) (s2.new hl) (.lst upd_same (ats_rg i j))
/-! ### isqrt -/
def rSqrt : List V → Hp → VK → Prop := fun xs H Q => ∃ i : Int, xs = [.int i] ∧ 0 ≤ i ∧ i < 2 ^ 64 ∧ Q (.int (Float64.isqrt i.toNat : Nat)) H
theorem call_isqrt : CallR X (.builtin "math.isqrt") rSqrt := by
  intro pins s σ H xs us Q I r h
  obtain ⟨i, rfl, h0, h1, q⟩ := h
  obtain ⟨u, rfl, rx⟩ := vals1 r
  obtain ⟨t, rfl⟩ := rx
  exact PySem.W.mg_isqrt h0 h1 ⟨.int _, H, I.tok _, ⟨_, rfl⟩, q⟩
def pSqrt : TDC := c1 fun d μ R => onI d fun i => 0 ≤ i ∧ i < 2 ^ 64 ∧ R (.int (Float64.isqrt i.toNat : Nat)) μ
variable {x : Str} {p : Pos} {e : Expr} {es : List Expr} {t : TA} {χ : TDA} {bid : String} {r : List V → Hp → VK → Prop} {ψ : TDC}
theorem c_sqrt (hK : X.K = K := by rfl) : DC K X (.builtin "math.isqrt") rSqrt pSqrt := by
  subst hK
  refine ⟨rfl, call_isqrt, ?_⟩
  intro vs ds H G F μ R Q s a h k
  obtain ⟨v, d, rfl, rfl, a, h⟩ := c1_ok a h
  obtain ⟨i, rfl, h0, h1, hr⟩ := onI_ok h
  cases a
  exact ⟨i, rfl, h0, h1, k _ μ _ G H hr (Same.refl _) s (.int _)⟩
/-- a built-in function that a name of the module holds -/
theorem d_callG (c : DC K X (.builtin bid) r ψ) (hm : X.mg x = some (.builtin bid)) (ha : DA K X (e :: es) t χ) (hg : Gl X x := by rfl) (hdb : (x == ("__debug__" : Str)) = false := by decide)
    (he : starEach (e :: es) X.env = (false, eval e X.env) :: starEach es X.env := by rfl) (hpl : (backTo pos (starEach es X.env)).any (·.1) = false := by rfl) : DE K X (.Call (.Name x p) (e :: es) [] pos) (tCB r t) (dCB ψ χ) := by
  have hK := c.eK
  subst hK
  refine ⟨rfl, ⟨fun pins s σ H Q I h => ?_⟩, ad_cb c.ad ha.ad⟩
  refine wpAny_Call_Name_kw (ld_glob I hg hm ?_ hdb)
  exact PyProof.Rows.callWith_builtin1 (thn (ha.pa.run pos pins s σ H _ I h) fun us s1 ⟨vs, H1, I1, r1, q1⟩ => c.cr pins s1 σ H1 vs us Q I1 r1 q1) he hpl
end

/-! ### sorted, min of data -/
abbrev dLt (a b : D) : Bool := PySem.W.dataLt a.py b.py
abbrev dLe : D → D → Bool := PySem.W.dataLe false D.py
/-- a list, changing or not -/
def onLs : D → Sto → (List D → Prop) → Prop
  | .lst ds, _, k => k ds
  | .adr p, μ, k => onL (μ p) k
  | _, _, _ => False
theorem onLs_ok {K : PySem.W.Frag} {G H F : Hp} {μ : Sto} {v : V} {d : D} {k : List D → Prop} (s : S K G H F μ) (a : At K G v d) (h : onLs d μ k) : ∃ ds p vs, k ds ∧ v = .ref p ∧ SqL K H p vs ∧ Ats K G vs ds := by
  cases d <;> first | exact h.elim | skip
  · cases a
    obtain ⟨ds, e1, hr⟩ := onL_ok h
    obtain ⟨hg, vs, hv, t⟩ := s.st _ _ e1
    exact ⟨ds, _, vs, hr, rfl, SqL.of hv, t⟩
  · cases a with
    | lst hg t => exact ⟨_, _, _, h, rfl, SqL.of (s.gh _ _ hg), t⟩
structure SortOk (ds : List D) : Prop where
  few : ds.length ≤ sizeLine
  flat : D.flats ds = true
  deep : ∀ d ∈ ds, d.py.depth ≤ 60
  alike : PySem.W.AllAlike (ds.map D.py)
  able : PySem.W.Sortable (ds.map D.py)
theorem flats_mem : ∀ {ds : List D} {d : D}, D.flats ds = true → d ∈ ds → d.flat = true
  | [], _, _, h => by cases h
  | e :: ds, d, f, h => by
    obtain ⟨f1, f2⟩ := Bool.and_eq_true_iff.mp (show (D.flat e && D.flats ds) = true from f)
    rcases List.mem_cons.mp h with rfl | h
    · exact f1
    · exact flats_mem f2 h
theorem pys_map : ∀ ds : List D, D.pys ds = ds.map D.py
  | [] => rfl
  | d :: ds => congrArg (d.py :: ·) (pys_map ds)
section
variable {X : Cx}
def rSort (K : PySem.W.Frag) : List V → Hp → VK → Prop := fun xs H Q => ∃ (p : Addr) (zs : List (V × D)), xs = [.ref p] ∧ SqL K H p (zs.map (·.1)) ∧ (∀ z ∈ zs, Dp K H z.1 z.2.py) ∧ SortOk (zs.map (·.2)) ∧
  ∀ q, H q = none → Q (.ref q) (upd H q (.lst ((zs.mergeSort (PySem.W.dataLe false fun z => z.2.py)).map (·.1))))
theorem each_zip {R : Value → (V × D) → Prop} : ∀ {zs : List (V × D)} {us : List Value}, Vals (zs.map (·.1)) us → (∀ z ∈ zs, ∀ u, RelV z.1 u → R u z) → PySem.W.EachIs R us zs
  | [], _, .nil, _ => .nil
  | z :: zs, _, .cons r t, h => .cons (h z (List.mem_cons_self ..) _ r) (each_zip t fun y hy => h y (List.mem_cons_of_mem _ hy))
theorem zip_vals : ∀ {zs : List (V × D)} {us : List Value}, PySem.W.EachIs (fun u z => RelV z.1 u) us zs → Vals (zs.map (·.1)) us
  | [], _, .nil => .nil
  | z :: zs, _, .cons r t => .cons r (zip_vals t)
theorem call_sort (hu : X.A.units + 64 < cLine) : CallR X (.builtin "sorted") (rSort X.K) := by
  intro pins s σ H xs us Q I r h
  obtain ⟨p, zs, rfl, hs, hd, ok, q⟩ := h
  obtain ⟨u, rfl, rx⟩ := vals1 r
  cases rx
  obtain ⟨its, rv, pl, _⟩ := I.list hs
  have e1 : PySem.W.EachIs (fun u (z : V × D) => RelV z.1 u) its zs := each_zip rv fun z _ u r => r
  have e2 : PySem.W.EachIs (fun u (z : V × D) => ∃ as, Reads s.heap u z.2.py as) its zs := each_zip rv fun z hz u r => L2.Dp.reads I _ _ _ (hd z hz) r
  have mm : zs.map (fun z => z.2.py) = (zs.map (·.2)).map D.py := by rw [List.map_map]; rfl
  refine PySem.W.sorted_data (enc := fun z : V × D => z.2.py) pl.isList e1 e2 (by rw [mm]; exact ok.alike) (by rw [mm]; exact ok.able) (by have := ok.few; rw [List.length_map] at this; exact this) (fun z hz => ?_) fun out ho eo => ?_
  · have := ok.deep z.2 (List.mem_map.mpr ⟨z, hz, rfl⟩)
    omega
  · obtain ⟨c, hc⟩ := PyProof.Rows.sortedAll_at s.heap its out.toArray
    have vv := zip_vals eo
    refine ⟨.ref (s.heap.objs.size + 1), _, I.laid (t' := s.toks) (o := .lst ((zs.mergeSort (PySem.W.dataLe false fun z => z.2.py)).map (·.1))) (fun _ _ => PyProof.Rows.sortedAll_old) (Nat.le_succ _) ⟨?_, out, c, vv, hc⟩, rfl, q _ (I.hok.fresh (Nat.le_succ _))⟩
    have := ok.few
    rw [List.length_map] at this
    rw [List.length_map, List.length_mergeSort]
    exact this
def pSort : TDC := c1 fun d μ R => onLs d μ fun ds => SortOk ds ∧ R (.lst (ds.mergeSort dLe)) μ
theorem c_sort (hu : X.A.units + 64 < cLine) (hK : X.K = K := by rfl) : DC K X (.builtin "sorted") (rSort K) pSort := by
  subst hK
  refine ⟨rfl, call_sort hu, ?_⟩
  intro vs ds H G F μ R Q s a h k
  obtain ⟨v, d, rfl, rfl, a, h⟩ := c1_ok a h
  obtain ⟨es, p, ws, ⟨ok, hr⟩, rfl, hq, t⟩ := onLs_ok s a h
  have hl := t.length
  have z1 : (ws.zip es).map (·.1) = ws := List.map_fst_zip (by omega)
  have z2 : (ws.zip es).map (·.2) = es := List.map_snd_zip (by omega)
  have az : ∀ z ∈ ws.zip es, At X.K G z.1 z.2 := fun z hz => by
    obtain ⟨i, hi, e⟩ := List.mem_iff_getElem.mp hz
    have e2 : (ws.zip es)[i]? = some z := by rw [List.getElem?_eq_getElem hi, e]
    rw [List.getElem?_zip_eq_some] at e2
    obtain ⟨v, h1, h2⟩ := t.get e2.2
    rw [e2.1] at h1
    cases h1
    exact h2
  refine ⟨p, ws.zip es, rfl, by rw [z1]; exact hq, fun z hz => (az z hz).dp s.gh _ (flats_mem ok.flat (by rw [← z2]; exact List.mem_map.mpr ⟨z, hz, rfl⟩)), by rw [z2]; exact ok, fun q hq => ?_⟩
  have srt : ((ws.zip es).mergeSort (PySem.W.dataLe false fun z => z.2.py)).map (·.2) = es.mergeSort dLe := by
    have e := PySem.W.sort_maps (fun z : V × D => z.2) (r := PySem.W.dataLe false fun z : V × D => z.2.py) (s := dLe) (l := ws.zip es) fun a _ b _ => rfl
    rw [e, z2]
  have ats : Ats X.K G (((ws.zip es).mergeSort (PySem.W.dataLe false fun z => z.2.py)).map (·.1)) (es.mergeSort dLe) := by
    rw [← srt]
    have : ∀ l : List (V × D), (∀ z ∈ l, At X.K G z.1 z.2) → Ats X.K G (l.map (·.1)) (l.map (·.2)) := fun l => by
      induction l with
      | nil => exact fun _ => .nil
      | cons z l ih => exact fun h => .cons (h z (List.mem_cons_self ..)) (ih fun y hy => h y (List.mem_cons_of_mem _ hy))
    exact this _ fun z hz => az z ((List.mergeSort_perm _ _).mem_iff.mp hz)
  exact k _ μ _ _ _ hr (Same.upd (s.fresh hq).1) (s.new hq) (.lst upd_same (ats.mono (Same.upd (s.fresh hq).1)))
/-- min of data: an item that none is less than -/
def rMinT (K : PySem.W.Frag) : List V → Hp → VK → Prop := fun xs H Q => ∃ (p : Addr) (vs : List V) (ds : List PyData), xs = [.ref p] ∧ SqL K H p vs ∧ DpAll K H vs ds ∧ 0 < ds.length ∧ PySem.W.AlikeAll ds ∧ PyData.depthAll ds ≤ 60 ∧
  ∀ (i : Nat) v d, vs[i]? = some v → ds[i]? = some d → (∀ e ∈ ds, PySem.W.dataLt e d = false) → Q v H
theorem foldl_min (x : PyData) : ∀ (xs : List PyData) (S : List PyData), (∀ e ∈ S, PySem.W.dataLt e x = false) → (∀ e ∈ S ++ xs, PySem.W.dataLt e (xs.foldl (fun a y => if PySem.W.dataLt y a then y else a) x) = false)
  | [], S, h => by
    rw [List.append_nil]
    exact h
  | y :: ys, S, h => by
    rw [List.foldl_cons]
    have key := foldl_min (if PySem.W.dataLt y x then y else x) ys (S ++ [y]) fun e he => ?_
    · rw [List.append_assoc] at key
      exact key
    · have neg : ∀ a b c : PyData, PySem.W.dataLt a c = true → PySem.W.dataLt a b = true ∨ PySem.W.dataLt b c = true := fun a b c => (PyProof.Rows.listOrd PyProof.Rows.itemOrd).negTrans _ _ _
      have irr : ∀ a : PyData, PySem.W.dataLt a a = false := fun a => (PyProof.Rows.listOrd PyProof.Rows.itemOrd).irrefl _
      have tr : ∀ a b c : PyData, PySem.W.dataLt a b = true → PySem.W.dataLt b c = true → PySem.W.dataLt a c = true := fun a b c => (PyProof.Rows.listOrd PyProof.Rows.itemOrd).trans _ _ _
      rcases List.mem_append.mp he with he | he
      · split
        · rename_i hy
          cases q : PySem.W.dataLt e y with
          | false => rfl
          | true =>
            have := tr e y x q hy
            rw [h e he] at this
            cases this
        · exact h e he
      · have : e = y := by simpa using he
        subst this
        split
        · exact irr _
        · rename_i hy
          exact Bool.not_eq_true _ ▸ hy
theorem dpAll_len {K : PySem.W.Frag} {H : Hp} : ∀ {vs : List V} {ds : List PyData}, DpAll K H vs ds → vs.length = ds.length
  | _, _, .nil => rfl
  | _, _, .cons _ t => congrArg (· + 1) (dpAll_len t)
theorem call_minT (hc : X.calm = true) (hu : X.A.units + 64 < cLine) : CallR X (.builtin "min") (rMinT X.K) := by
  intro pins s σ H xs us Q I r h
  obtain ⟨p, vs, ds, rfl, hs, hd, h0, al, dp, q⟩ := h
  obtain ⟨u, rfl, rx⟩ := vals1 r
  cases rx
  obtain ⟨its, rv, pl, _⟩ := I.list hs
  obtain ⟨as, hr⟩ := L2.Dp.readsAll I _ _ _ hd rv
  have hr' : ReadsAll s.heap its.toArray.toList ds as := by simpa using hr
  have hn : its.toArray.size = ds.length := PySem.W.readsAll_len hr'
  refine call_min_walkH (PySem.W.iter_listW (A := X.A.in1) (by exact I.ok.hd hc) pl.isList fun s₂ e W st hfp hw hk => ?_)
  refine ⟨_, _, _, _, _, _, _, s.heap, _, rfl, W, st, hfp, by omega, hw, hk, PySem.W.cmpIn_lt (A := X.A.in1) hr' al (by show X.A.units + 1 + _ < _; omega), fun v s' hP m => ?_⟩
  obtain ⟨h', tk, rfl, hk'⟩ := PySem.W.moved_old e rfl m
  cases ds with
  | nil => exact absurd h0 (Nat.lt_irrefl _)
  | cons x xs =>
    have e1 : its.toArray.size - 1 = xs.length := by rw [hn]; rfl
    obtain ⟨b1, b2⟩ := PySem.W.argBest_fold PySem.W.dataLt PyData.none x xs xs.length (Nat.le_refl _)
    rw [List.take_length] at b2
    rw [e1] at hP
    have mn := foldl_min x xs [x] fun e he => by
      have : e = x := by simpa using he
      rw [this]
      exact (PyProof.Rows.listOrd PyProof.Rows.itemOrd).irrefl _
    rw [List.getElem?_toArray] at hP
    generalize argBest (fun i j => PySem.W.dataLt ((x :: xs).getD i PyData.none) ((x :: xs).getD j PyData.none)) xs.length = j at b1 b2 hP
    have hj : j < (x :: xs).length := by rw [List.length_cons]; omega
    have hjv : j < vs.length := by rw [dpAll_len hd]; exact hj
    obtain ⟨u, hu2, ru⟩ := rv.get (List.getElem?_eq_getElem hjv)
    rw [hP] at hu2
    cases hu2
    refine ⟨vs[j], H, I.kept (t' := tk) hk', ru, q j vs[j] (x :: xs)[j] (List.getElem?_eq_getElem hjv) (List.getElem?_eq_getElem hj) fun e he => ?_⟩
    have e3 : (x :: xs)[j] = xs.foldl (fun a y => if PySem.W.dataLt y a then y else a) x := by
      rw [← b2, List.getD_eq_getElem?_getD, List.getElem?_eq_getElem hj]
      rfl
    rw [e3]
    exact mn e he
def pMinT : TDC := c1 fun d μ R => onLs d μ fun ds => 0 < ds.length ∧ D.flats ds = true ∧ PySem.W.AlikeAll (ds.map D.py) ∧ PyData.depthAll (ds.map D.py) ≤ 60 ∧ ∀ d ∈ ds, (∀ e ∈ ds, dLt e d = false) → R d μ
theorem c_minT (hc : X.calm = true) (hu : X.A.units + 64 < cLine) (hK : X.K = K := by rfl) : DC K X (.builtin "min") (rMinT K) pMinT := by
  subst hK
  refine ⟨rfl, call_minT hc hu, ?_⟩
  intro vs ds H G F μ R Q s a h k
  obtain ⟨v, d, rfl, rfl, a, h⟩ := c1_ok a h
  obtain ⟨es, p, ws, ⟨h0, fl, al, dp, hr⟩, rfl, hq, t⟩ := onLs_ok s a h
  refine ⟨p, ws, es.map D.py, rfl, hq, by rw [← pys_map]; exact t.dp s.gh _ fl, by rw [List.length_map]; exact h0, al, dp, fun i v d hv hd hm => ?_⟩
  rw [List.getElem?_map] at hd
  obtain ⟨d', h1, rfl⟩ := Option.map_eq_some_iff.mp hd
  obtain ⟨v', h2, a2⟩ := t.get h1
  rw [hv] at h2
  cases h2
  exact k d' μ v G H (hr d' (List.mem_of_getElem? h1) fun e he => hm _ (List.mem_map.mpr ⟨e, he, rfl⟩)) (Same.refl _) s a2
end
end DL
end
/-! Rp -/
section
set_option Elab.async false
set_option linter.all false
set_option maxRecDepth 100000
set_option maxHeartbeats 4000000
namespace DL
open PySem PySem.Spec PyProof.Rows L2
variable {K : PySem.W.Frag}
theorem tuple_mul1 (l : Addr) (items : Array Value) (n : Nat) (dd : Option Addr) (sl : Array (Option Value)) (u : Tok) :
    Meets (Builtin.«tuple.__mul__» ⟨[.ref l, .int 1 u], []⟩) (fun _ R s => s.heap.get? l = some { cls := .type "tuple", dict := dd, data := .seq items n, slots := sl } ∧
      R (.ok (.ret (Value.ref l))) s) :=
  .of_wp fun prog w A R s h => by
    obtain ⟨hp, g, d, tk, os⟩ := s
    obtain ⟨hl, h⟩ := h
    have f1 := AutoSeq1.idx_int
    wp_walk using wpAny_loadPart' hl
    exact ⟨_, rfl, h⟩
def rRepT1 (K : PySem.W.Frag) : R2 := fun x y H Q => ∃ l xs, x = .ref l ∧ y = .int 1 ∧ SqT K H l xs ∧ Q (.ref l) H
section
variable {X : Cx}
theorem op_repT1 : OpR X (binaryOp .Mult) (rRepT1 X.K) := by
  intro pins s σ H x y v u Q I rx ry h
  obtain ⟨l, xs, rfl, rfl, hT, q⟩ := h
  cases rx
  obtain ⟨t, rfl⟩ := ry
  obtain ⟨its, r, ⟨⟨cls, dd, data, sl⟩, ho, hc, n, hd⟩, hs⟩ := I.tuple hT
  simp only at hc hd
  subst hc hd
  exact wpAny_binaryOp_repeat_ref (T := "tuple") (U := "int") (by decide) ⟨_, ho, rfl⟩ (fun s' => typeIs_int s' 1 t) noFill_tuple_mul F.fills_int_mul F.slot_int_rmul repeat_tuple F.slot_int_index.lookup
    (call_meets F.slot_int_rmul (typeIs_int s 1 t) F.entry_int_rmul (F.args_int_rmul_2 _ _) (int_rmul_tuple 1 t l its.toArray n dd sl)
      ⟨ho, rfl, ⟨_, ho, rfl⟩, call_meets F.slot_tuple_mul ⟨_, ho, rfl⟩ F.entry_tuple_mul (F.args_tuple_mul_2 _ _) (tuple_mul1 l its.toArray n dd sl t) ⟨ho, .ref l, H, I, rfl, q⟩⟩)
/-- a tuple times an int from 1 on -/
def pRepT : TD2 := fun x y μ R => match x, y with
  | .tup ds, .int k => 1 ≤ k ∧ k ≤ 1000 ∧ ds ≠ [] ∧ ds.length ≤ 1000 ∧ R (.tup (List.replicate k.toNat ds).flatten) μ
  | _, _ => False
theorem o_repT (hK : X.K = K := by rfl) : DOp K X (binaryOp .Mult) (fun x y H Q => rRepT1 K x y H Q ∨ rRepT K x y H Q) pRepT := by
  subst hK
  refine ⟨rfl, op_repT1.or op_repT, ?_⟩
  intro x y dx dy H G F μ R Q s ax ay h k
  cases dx <;> cases dy <;> first | exact (show False from h).elim | skip
  rename_i ds i
  obtain ⟨h1, h2, hne, hz, hr⟩ := (show 1 ≤ i ∧ i ≤ 1000 ∧ ds ≠ [] ∧ ds.length ≤ 1000 ∧ R (.tup (List.replicate i.toNat ds).flatten) μ from h)
  cases ay
  cases ax with
  | tup hg t =>
  by_cases c : i = 1
  · subst c
    have e : (List.replicate (1 : Int).toNat ds).flatten = ds := by simp
    rw [e] at hr
    exact .inl ⟨_, _, rfl, rfl, SqT.of (s.gh _ _ hg), k _ μ _ G H hr (Same.refl _) s (.tup hg t)⟩
  · refine .inr ⟨_, i, _, rfl, rfl, SqT.of (s.gh _ _ hg), ?_, by omega, h2, by rw [t.length]; exact hz, fun p hp => ?_⟩
    · intro z
      subst z
      cases t
      exact hne rfl
    · exact k _ μ _ _ _ hr (Same.upd (s.fresh hp).1) (s.new hp) (.tup upd_same ((t.rep _).mono (Same.upd (s.fresh hp).1)))
end
end DL
end
/-! L -/
section
set_option Elab.async false
set_option linter.all false
set_option maxRecDepth 100000
set_option maxHeartbeats 4000000
namespace DL
open PySem PySem.Spec PyProof.Rows L2
variable {K : PySem.W.Frag}
section
variable {X : Cx} {p pos tpos : Pos} {elts : List Expr} {kk : Nat}
/-! ### enumerate -/
def enumP (xs : List V) : Nat → V → V → Prop := fun i x y => x = .int (i : Nat) ∧ xs[i]? = some y
theorem turn_enum {P : Program} {w : World} {K : PySem.W.Frag} {e it a : Addr} {xs : List V} {t : Bool} (h1 : a ≠ it) (hei : e ≠ it) (hea : e ≠ a) :
    Turn P w K (.Tuple elts kk tpos) (Jp xs.length (fun H => SqX K H a xs t) (enumP xs)) [e, it] e (fun i h => (∃ old, IsEnum h e it (0 + (i : Int)) old) ∧ ItX h it a i t) := by
  refine turn_pair (wr := [e, it]) (by simp) (by simp) (fun i h st c hc => ?_) (fun i h h' st k => ?_) ?_ fun A i s Q E st q => ?_
  · obtain ⟨⟨old, he⟩, q1⟩ := st
    have e' : c = e ∨ c = it := by simpa using hc
    rcases e' with rfl | rfl
    · exact ⟨_, he, fun v q => nomatch q⟩
    · exact q1.obj
  · obtain ⟨⟨old, he⟩, q1⟩ := st
    exact ⟨⟨old, k e (by simp) _ he⟩, q1.keep fun o q => k it (by simp) o q⟩
  · intro X hP hw hK hc i pins s σ H I st ok
    subst hP hw hK
    obtain ⟨its, rv, p1⟩ := SqX.heap I ok
    have n1 := rv.length
    have W := WalksT.enumFrom 0 (drawsX (prog := X.prog) (w := X.w) (A := X.A.in1) (by exact I.ok.hd hc) it a h1 its.toArray t) e hei (by simp [hei, hea]) (by simp)
    have e0 : its.toArray.size = xs.length := by rw [List.size_toArray, n1]
    rw [e0] at W
    obtain ⟨he, q1⟩ := st
    refine ⟨_, _, _, _, W, ⟨he, ⟨q1, p1⟩⟩, fun h' st' => ?_, fun vals hv hi => ?_⟩
    · obtain ⟨g1, g2⟩ := st'
      exact ⟨g1, g2.1⟩
    · obtain ⟨tk, x, hx, ev⟩ := hv
      obtain ⟨w1, c1, r1⟩ := rv.get (List.getElem?_eq_getElem hi)
      rw [List.getElem?_toArray, c1] at hx
      cases hx
      exact ⟨.int (i : Nat), _, _, _, ev, ⟨tk, by rw [Int.zero_add]⟩, r1, rfl, List.getElem?_eq_getElem hi⟩
  · obtain ⟨⟨old, he⟩, _⟩ := st
    exact wpAny_pyIter_enum he q
theorem enumNew {v : Value} {o : Obj} {H : Heap → Prop} (B : Begins v o H) :
    Meets (Builtin.«enumerate.__new__» ⟨[.type "enumerate", v], []⟩) (fun _ R s => H s.heap ∧
      R (.ok (.ret (.ref (s.heap.push o).objs.size))) { s with heap := (s.heap.push o).push { cls := .type "enumerate", data := .fields #[.none, .bool false, .ref s.heap.objs.size, rawInt 0, .none, .none] } }) :=
  .of_wp fun prog w A R s h => by
    obtain ⟨hp, g, d, tk, os⟩ := s; obtain ⟨h1, h⟩ := h
    have hsub := sub_enumerate
    have q1 : ∀ {A' : Around} {E : Value → Shared → Prop} {Q : Value → Shared → Prop}, Q (.ref hp.objs.size) ⟨hp.push o, g, d, tk, os⟩ → wpAny (model prog w) A' (pyIter v) Q E ⟨hp, g, d, tk, os⟩ :=
      fun q => B.iter prog w _ _ ⟨hp, g, d, tk, os⟩ _ h1 q
    wp_walk using q1
    refine wpAny_stack_any fun st => wpAny_pure ?_
    split
    · rename_i c _ _ _ _ _
      cases (c == Value.type "enumerate")
      · wp_walk using q1
        exact ⟨_, rfl, h⟩
      · wp_walk using q1
        exact ⟨_, rfl, h⟩
    · wp_walk using q1
      exact ⟨_, rfl, h⟩
theorem enum0 {prog : Program} {w : World} {A : Around} {E : Value → Shared → Prop} {s : Shared} {v : Value} {o : Obj} {Hh : Heap → Prop} {Q : Value → Shared → Prop} (B : Begins v o Hh) (h1 : Hh s.heap)
    (h : ∀ h', IsEnum h' (s.heap.objs.size + 1) s.heap.objs.size 0 .none → h'.get? s.heap.objs.size = some o → h'.objs.size = s.heap.objs.size + 2 →
      (∀ b o, s.heap.get? b = some o → h'.get? b = some o) → Q (.ref (s.heap.objs.size + 1)) { s with heap := h' }) :
    wpAny (model prog w) A (call (.type "enumerate") [v]) Q E s := by
  refine callType_new F.called_enumerate (by decide) (F.typeCall_enumerate_1 _) (F.newCall_enumerate_1 _) (fun obj => F.args_object_init_2 obj _) F.entry_enumerate_new (enumNew B) ⟨h1, ?_⟩
  have hz : (s.heap.push o).objs.size = s.heap.objs.size + 1 := Heap.size_push ..
  show _ ∧ _
  rw [hz]
  have he : IsEnum ((s.heap.push o).push { cls := .type "enumerate", data := .fields #[.none, .bool false, .ref s.heap.objs.size, rawInt 0, .none, .none] }) (s.heap.objs.size + 1) s.heap.objs.size 0 .none := by
    have := Heap.get?_push_size (s.heap.push o) (o := { cls := .type "enumerate", data := .fields #[.none, .bool false, .ref s.heap.objs.size, rawInt 0, .none, .none] }) rfl
    rw [hz] at this; exact this
  refine ⟨⟨_, he, rfl⟩, h _ he (Heap.get?_push_of_some _ (Heap.get?_push_size _ B.free)) (by rw [Heap.size_push, hz]) fun b o x => Heap.get?_push_of_some _ (Heap.get?_push_of_some _ x)⟩
def iEnumX (K : PySem.W.Frag) (te : TE) : TI := fun σ H R => te σ H fun v H1 => ∃ a xs t, v = .ref a ∧ SqX K H1 a xs t ∧ R (Jp xs.length (fun H => SqX K H a xs t) (enumP xs)) H1
theorem pi_enumX {e : Expr} {te : TE} (hm : X.mg "enumerate" = none) (hg : Gl X "enumerate") (he : PE X e te) (hs : starEach [e] X.env = (false, eval e X.env) :: starEach [] X.env) (hpl : (backTo pos (starEach [] X.env)).any (·.1) = false) :
    PI X (.Tuple elts kk tpos) (.Call (.Name "enumerate" p) [e] [] pos) (iEnumX X.K te) := by
  refine ⟨fun pins s σ H R I h => ?_⟩
  refine Call_ (ld_blt I hg hm (by decide +kernel : bootBuiltins "enumerate" = some (.type "enumerate")) (PyProof.Rows.callWith_type1 (one_arg he I h (fun v s1 x H1 I1 r1 h1 => ?_) hs) hs hpl))
  obtain ⟨a, xs, t, rfl, q1, q⟩ := h1
  cases r1
  obtain ⟨its, rv, p1⟩ := SqX.heap I1 q1
  obtain ⟨o1, ho1, _⟩ := p1.there
  have la := Heap.lt_size ho1
  obtain ⟨N, hN⟩ : ∃ N, s1.heap.objs.size = N := ⟨_, rfl⟩
  rw [hN] at la
  refine enum0 (beginsX a its.toArray t) p1 fun h' hz g1 hsz hk => wpAny_pyIter_enum hz ?_
  rw [hN] at hz g1 ⊢
  have I2 : Inv X pins σ H1 { s1 with heap := h' } := I1.kept (t' := s1.toks) hk
  refine ⟨N + 1, [N + 1, N], _, _, H1, rfl, I2, turn_enum (a := a) (xs := xs) (t := t) (e := N + 1) (it := N) (Nat.ne_of_lt la) (Nat.succ_ne_self N) (Nat.ne_of_gt (Nat.lt_succ_of_lt la)), ⟨⟨_, hz⟩, ItX.first g1⟩, fun c hc => ?_, q⟩
  have hle : N ≤ c := by
    have e' : c = N + 1 ∨ c = N := by simpa using hc
    rcases e' with z | z <;> rw [z] <;> first | exact Nat.le_add_right _ _ | exact Nat.le_refl _
  exact I1.fpOk (by rw [hN]; exact hle) (I1.hok.fresh (by rw [hN]; exact hle))
def enumD (ds : List D) : List D := ds.mapIdx fun i d => D.tup [.int (i : Nat), d]
def iEnum (φ : TD) : TDI := fun ρ μ R => φ ρ μ fun d μ1 => onImm d fun ds => R (enumD ds) always μ1
theorem i_enum {e : Expr} {ta : TE} {φ : TD} (hm : X.mg "enumerate" = none) (ha : DE K X e ta φ) (hg : Gl X "enumerate" := by rfl) (hs : starEach [e] X.env = (false, eval e X.env) :: starEach [] X.env := by rfl)
    (hpl : (backTo pos (starEach [] X.env)).any (·.1) = false := by rfl) : DI K X (.Tuple elts kk tpos) (.Call (.Name "enumerate" p) [e] [] pos) (iEnumX K ta) (iEnum φ) := by
  have hK := ha.eK
  subst hK
  refine ⟨rfl, pi_enumX hm hg ha.pe hs hpl, ?_⟩
  intro σ H G F ρ μ R Q s ev h k
  refine ha.ad σ H G F ρ μ _ _ s ev h fun d μ1 v G1 H1 hb1 g1 s1 a1 => ?_
  obtain ⟨ds, p1, vs, t, hr, rfl, t1, q1⟩ := onImm_ok a1 hb1
  refine ⟨p1, vs, t, rfl, q1 H1 s1.gh, k _ _ μ1 _ G1 H1 hr g1 s1 (jok_pair ?_ (fun H g => q1 H g) fun i x y d hd q => ?_)⟩
  · unfold enumD
    rw [List.length_mapIdx, t1.length]
  · unfold enumD at hd
    rw [List.getElem?_mapIdx] at hd
    obtain ⟨b, hb1, hb2⟩ := t1.get' q.2
    rw [hb1] at hd
    cases hd
    exact ⟨.int (i : Nat), b, rfl, by rw [q.1]; exact .int _, hb2⟩
end
end DL
end
/-! Text -/
section
set_option Elab.async false
set_option linter.all false
set_option maxRecDepth 100000
set_option maxHeartbeats 4000000
namespace Gm
open PySem PySem.Spec PyProof.Rows L2 DL
def fd0 : FuncData := PySem.W.fnOf "" "" (defArgs (top 1)) [] (defScope (top 1)) .none .none .none .none none .none .none
def fdOf (K : PySem.W.Frag) (f : Addr) : FuncData := match K.lookup f with
  | some ⟨_, _, .func fd, _⟩ => fd
  | _ => fd0
theorem fdOf_eq {K : PySem.W.Frag} {x qual : Str} {params : Arguments} {body : List Stmt} {scope : Scope} {dvs : List V} {kws : List (Str × V)} {f : Addr} {fd : FuncData} (F : FunD K x qual params body scope dvs kws f fd) : FunD K x qual params body scope dvs kws f (fdOf K f) := by
  obtain ⟨oc, od, dV, kV, doc, pm, an, cdv, ct, osl, e, lk, r⟩ := F.ex
  have : fdOf K f = fd := by
    unfold fdOf
    rw [lk]
  rw [this]
  exact F
/-- what the text says of the names -/
structure Tx (K : PySem.W.Frag) (mg : Str → Option Value) : Prop where
  n_range : mg "range" = none
  n_len : mg "len" = none
  n_abs : mg "abs" = none
  n_min : mg "min" = none
  n_isinstance : mg "isinstance" = none
  n_int : mg "int" = none
  n_list : mg "list" = none
  n_tuple : mg "tuple" = none
  n_sum : mg "sum" = none
  n_sorted : mg "sorted" = none
  n_zip : mg "zip" = none
  n_enumerate : mg "enumerate" = none
  n_all : mg "all" = none
  n_bool : mg "bool" = none
  g_isqrt : mg "isqrt" = some (.builtin "math.isqrt")
  c_MOST_RANK : ∃ t, mg "MOST_RANK" = some (.int 4 t)
  c_MOST_ITEM : ∃ t, mg "MOST_ITEM" = some (.int 10000 t)
  g_TimesRow : mg "_times_row" = some (.ref (He.ga K "_times_row"))
  d_TimesRow : FunD K "_times_row" "_times_row" (defArgs sTimesRow) (defBody sTimesRow) (defScope sTimesRow) [] [] (He.ga K "_times_row") (fdOf K (He.ga K "_times_row"))
  g_Less : mg "_less" = some (.ref (He.ga K "_less"))
  d_Less : FunD K "_less" "_less" (defArgs sLess) (defBody sLess) (defScope sLess) [] [] (He.ga K "_less") (fdOf K (He.ga K "_less"))
  g_LeastPlace : mg "_least_place" = some (.ref (He.ga K "_least_place"))
  d_LeastPlace : FunD K "_least_place" "_least_place" (defArgs sLeastPlace) (defBody sLeastPlace) (defScope sLeastPlace) [] [] (He.ga K "_least_place") (fdOf K (He.ga K "_least_place"))
  g_Turned : mg "_turned" = some (.ref (He.ga K "_turned"))
  d_Turned : FunD K "_turned" "_turned" (defArgs sTurned) (defBody sTurned) (defScope sTurned) [] [] (He.ga K "_turned") (fdOf K (He.ga K "_turned"))
  g_Swap : mg "_swap" = some (.ref (He.ga K "_swap"))
  d_Swap : FunD K "_swap" "_swap" (defArgs sSwap) (defBody sSwap) (defScope sSwap) [] [] (He.ga K "_swap") (fdOf K (He.ga K "_swap"))
  g_SwapItems : mg "_swap_items" = some (.ref (He.ga K "_swap_items"))
  d_SwapItems : FunD K "_swap_items" "_swap_items" (defArgs sSwapItems) (defBody sSwapItems) (defScope sSwapItems) [] [] (He.ga K "_swap_items") (fdOf K (He.ga K "_swap_items"))
  g_ClearColumn : mg "_clear_column" = some (.ref (He.ga K "_clear_column"))
  d_ClearColumn : FunD K "_clear_column" "_clear_column" (defArgs sClearColumn) (defBody sClearColumn) (defScope sClearColumn) [] [] (He.ga K "_clear_column") (fdOf K (He.ga K "_clear_column"))
  g_IsClear : mg "_is_clear" = some (.ref (He.ga K "_is_clear"))
  d_IsClear : FunD K "_is_clear" "_is_clear" (defArgs sIsClear) (defBody sIsClear) (defScope sIsClear) [] [] (He.ga K "_is_clear") (fdOf K (He.ga K "_is_clear"))
  g_Unfit : mg "_unfit" = some (.ref (He.ga K "_unfit"))
  d_Unfit : FunD K "_unfit" "_unfit" (defArgs sUnfit) (defBody sUnfit) (defScope sUnfit) [] [] (He.ga K "_unfit") (fdOf K (He.ga K "_unfit"))
  g_SmithRows : mg "smith_rows" = some (.ref (He.ga K "smith_rows"))
  d_SmithRows : FunD K "smith_rows" "smith_rows" (defArgs sSmithRows) (defBody sSmithRows) (defScope sSmithRows) [] [] (He.ga K "smith_rows") (fdOf K (He.ga K "smith_rows"))
  g_IsInteger : mg "is_integer" = some (.ref (He.ga K "is_integer"))
  d_IsInteger : FunD K "is_integer" "is_integer" (defArgs sIsInteger) (defBody sIsInteger) (defScope sIsInteger) [] [] (He.ga K "is_integer") (fdOf K (He.ga K "is_integer"))
  g_RootFloor : mg "root_floor" = some (.ref (He.ga K "root_floor"))
  d_RootFloor : FunD K "root_floor" "root_floor" (defArgs sRootFloor) (defBody sRootFloor) (defScope sRootFloor) [] [] (He.ga K "root_floor") (fdOf K (He.ga K "root_floor"))
  g_Upper : mg "upper" = some (.ref (He.ga K "upper"))
  d_Upper : FunD K "upper" "upper" (defArgs sUpper) (defBody sUpper) (defScope sUpper) [] [] (He.ga K "upper") (fdOf K (He.ga K "upper"))
  g_Lower : mg "lower" = some (.ref (He.ga K "lower"))
  d_Lower : FunD K "lower" "lower" (defArgs sLower) (defBody sLower) (defScope sLower) [] [] (He.ga K "lower") (fdOf K (He.ga K "lower"))
  g_Dot : mg "dot" = some (.ref (He.ga K "dot"))
  d_Dot : FunD K "dot" "dot" (defArgs sDot) (defBody sDot) (defScope sDot) [] [] (He.ga K "dot") (fdOf K (He.ga K "dot"))
  g_Checked : mg "_checked" = some (.ref (He.ga K "_checked"))
  d_Checked : FunD K "_checked" "_checked" (defArgs sChecked) (defBody sChecked) (defScope sChecked) [] [] (He.ga K "_checked") (fdOf K (He.ga K "_checked"))
  g_UnitRows : mg "_unit_rows" = some (.ref (He.ga K "_unit_rows"))
  d_UnitRows : FunD K "_unit_rows" "_unit_rows" (defArgs sUnitRows) (defBody sUnitRows) (defScope sUnitRows) [] [] (He.ga K "_unit_rows") (fdOf K (He.ga K "_unit_rows"))
  g_Determinant : mg "_determinant" = some (.ref (He.ga K "_determinant"))
  d_Determinant : FunD K "_determinant" "_determinant" (defArgs sDeterminant) (defBody sDeterminant) (defScope sDeterminant) [] [] (He.ga K "_determinant") (fdOf K (He.ga K "_determinant"))
  g_Minor : mg "_minor" = some (.ref (He.ga K "_minor"))
  d_Minor : FunD K "_minor" "_minor" (defArgs sMinor) (defBody sMinor) (defScope sMinor) [] [] (He.ga K "_minor") (fdOf K (He.ga K "_minor"))
  d_GridInit : FunD K "__init__" "Grid.__init__" (defArgs sGridInit) (defBody sGridInit) (defScope sGridInit) [.non] [] (He.ma K (He.ga K "Grid") "__init__") (fdOf K (He.ma K (He.ga K "Grid") "__init__"))
  d_GridLen : FunD K "__len__" "Grid.__len__" (defArgs sGridLen) (defBody sGridLen) (defScope sGridLen) [] [] (He.ma K (He.ga K "Grid") "__len__") (fdOf K (He.ma K (He.ga K "Grid") "__len__"))
  m_GridLen : Meth K (He.ga K "Grid") "__len__" (He.ma K (He.ga K "Grid") "__len__")
  d_GridEq : FunD K "__eq__" "Grid.__eq__" (defArgs sGridEq) (defBody sGridEq) (defScope sGridEq) [] [] (He.ma K (He.ga K "Grid") "__eq__") (fdOf K (He.ma K (He.ga K "Grid") "__eq__"))
  m_GridEq : Meth K (He.ga K "Grid") "__eq__" (He.ma K (He.ga K "Grid") "__eq__")
  d_GridSub : FunD K "__sub__" "Grid.__sub__" (defArgs sGridSub) (defBody sGridSub) (defScope sGridSub) [] [] (He.ma K (He.ga K "Grid") "__sub__") (fdOf K (He.ma K (He.ga K "Grid") "__sub__"))
  m_GridSub : Meth K (He.ga K "Grid") "__sub__" (He.ma K (He.ga K "Grid") "__sub__")
  d_GridMul : FunD K "__mul__" "Grid.__mul__" (defArgs sGridMul) (defBody sGridMul) (defScope sGridMul) [] [] (He.ma K (He.ga K "Grid") "__mul__") (fdOf K (He.ma K (He.ga K "Grid") "__mul__"))
  m_GridMul : Meth K (He.ga K "Grid") "__mul__" (He.ma K (He.ga K "Grid") "__mul__")
  d_GridScaled : FunD K "scaled" "Grid.scaled" (defArgs sGridScaled) (defBody sGridScaled) (defScope sGridScaled) [] [] (He.ma K (He.ga K "Grid") "scaled") (fdOf K (He.ma K (He.ga K "Grid") "scaled"))
  m_GridScaled : Meth K (He.ga K "Grid") "scaled" (He.ma K (He.ga K "Grid") "scaled")
  d_GridTransposed : FunD K "transposed" "Grid.transposed" (defArgs sGridTransposed) (defBody sGridTransposed) (defScope sGridTransposed) [] [] (He.ma K (He.ga K "Grid") "transposed") (fdOf K (He.ma K (He.ga K "Grid") "transposed"))
  m_GridTransposed : Meth K (He.ga K "Grid") "transposed" (He.ma K (He.ga K "Grid") "transposed")
  d_GridTimes : FunD K "times" "Grid.times" (defArgs sGridTimes) (defBody sGridTimes) (defScope sGridTimes) [] [] (He.ma K (He.ga K "Grid") "times") (fdOf K (He.ma K (He.ga K "Grid") "times"))
  m_GridTimes : Meth K (He.ga K "Grid") "times" (He.ma K (He.ga K "Grid") "times")
  d_GridIsSquare : FunD K "is_square" "Grid.is_square" (defArgs sGridIsSquare) (defBody sGridIsSquare) (defScope sGridIsSquare) [] [] (He.ma K (He.ga K "Grid") "is_square") (fdOf K (He.ma K (He.ga K "Grid") "is_square"))
  m_GridIsSquare : Meth K (He.ga K "Grid") "is_square" (He.ma K (He.ga K "Grid") "is_square")
  d_GridDeterminant : FunD K "determinant" "Grid.determinant" (defArgs sGridDeterminant) (defBody sGridDeterminant) (defScope sGridDeterminant) [] [] (He.ma K (He.ga K "Grid") "determinant") (fdOf K (He.ma K (He.ga K "Grid") "determinant"))
  m_GridDeterminant : Meth K (He.ga K "Grid") "determinant" (He.ma K (He.ga K "Grid") "determinant")
  d_GridAdjugate : FunD K "adjugate" "Grid.adjugate" (defArgs sGridAdjugate) (defBody sGridAdjugate) (defScope sGridAdjugate) [] [] (He.ma K (He.ga K "Grid") "adjugate") (fdOf K (He.ma K (He.ga K "Grid") "adjugate"))
  m_GridAdjugate : Meth K (He.ga K "Grid") "adjugate" (He.ma K (He.ga K "Grid") "adjugate")
  d_GridIsUnimodular : FunD K "is_unimodular" "Grid.is_unimodular" (defArgs sGridIsUnimodular) (defBody sGridIsUnimodular) (defScope sGridIsUnimodular) [] [] (He.ma K (He.ga K "Grid") "is_unimodular") (fdOf K (He.ma K (He.ga K "Grid") "is_unimodular"))
  m_GridIsUnimodular : Meth K (He.ga K "Grid") "is_unimodular" (He.ma K (He.ga K "Grid") "is_unimodular")
  d_GridInverse : FunD K "inverse" "Grid.inverse" (defArgs sGridInverse) (defBody sGridInverse) (defScope sGridInverse) [] [] (He.ma K (He.ga K "Grid") "inverse") (fdOf K (He.ma K (He.ga K "Grid") "inverse"))
  m_GridInverse : Meth K (He.ga K "Grid") "inverse" (He.ma K (He.ga K "Grid") "inverse")
  d_GridSmith : FunD K "smith" "Grid.smith" (defArgs sGridSmith) (defBody sGridSmith) (defScope sGridSmith) [] [] (He.ma K (He.ga K "Grid") "smith") (fdOf K (He.ma K (He.ga K "Grid") "smith"))
  m_GridSmith : Meth K (He.ga K "Grid") "smith" (He.ma K (He.ga K "Grid") "smith")
  d_GridFactors : FunD K "factors" "Grid.factors" (defArgs sGridFactors) (defBody sGridFactors) (defScope sGridFactors) [] [] (He.ma K (He.ga K "Grid") "factors") (fdOf K (He.ma K (He.ga K "Grid") "factors"))
  m_GridFactors : Meth K (He.ga K "Grid") "factors" (He.ma K (He.ga K "Grid") "factors")
  d_GridIsPrimitive : FunD K "is_primitive" "Grid.is_primitive" (defArgs sGridIsPrimitive) (defBody sGridIsPrimitive) (defScope sGridIsPrimitive) [] [] (He.ma K (He.ga K "Grid") "is_primitive") (fdOf K (He.ma K (He.ga K "Grid") "is_primitive"))
  m_GridIsPrimitive : Meth K (He.ga K "Grid") "is_primitive" (He.ma K (He.ga K "Grid") "is_primitive")
  g_SquareRows : mg "square_rows" = some (.ref (He.ga K "square_rows"))
  d_SquareRows : FunD K "square_rows" "square_rows" (defArgs sSquareRows) (defBody sSquareRows) (defScope sSquareRows) [] [] (He.ga K "square_rows") (fdOf K (He.ga K "square_rows"))
  g_CheckSymmetric : mg "check_symmetric" = some (.ref (He.ga K "check_symmetric"))
  d_CheckSymmetric : FunD K "check_symmetric" "check_symmetric" (defArgs sCheckSymmetric) (defBody sCheckSymmetric) (defScope sCheckSymmetric) [] [] (He.ga K "check_symmetric") (fdOf K (He.ga K "check_symmetric"))
  d_LatticeInit : FunD K "__init__" "Lattice.__init__" (defArgs sLatticeInit) (defBody sLatticeInit) (defScope sLatticeInit) [] [] (He.ma K (He.ga K "Lattice") "__init__") (fdOf K (He.ma K (He.ga K "Lattice") "__init__"))
  d_LatticeEq : FunD K "__eq__" "Lattice.__eq__" (defArgs sLatticeEq) (defBody sLatticeEq) (defScope sLatticeEq) [] [] (He.ma K (He.ga K "Lattice") "__eq__") (fdOf K (He.ma K (He.ga K "Lattice") "__eq__"))
  m_LatticeEq : Meth K (He.ga K "Lattice") "__eq__" (He.ma K (He.ga K "Lattice") "__eq__")
  d_LatticeContains : FunD K "__contains__" "Lattice.__contains__" (defArgs sLatticeContains) (defBody sLatticeContains) (defScope sLatticeContains) [] [] (He.ma K (He.ga K "Lattice") "__contains__") (fdOf K (He.ma K (He.ga K "Lattice") "__contains__"))
  m_LatticeContains : Meth K (He.ga K "Lattice") "__contains__" (He.ma K (He.ga K "Lattice") "__contains__")
  d_LatticeRank : FunD K "rank" "Lattice.rank" (defArgs sLatticeRank) (defBody sLatticeRank) (defScope sLatticeRank) [] [] (He.ma K (He.ga K "Lattice") "rank") (fdOf K (He.ma K (He.ga K "Lattice") "rank"))
  m_LatticeRank : Meth K (He.ga K "Lattice") "rank" (He.ma K (He.ga K "Lattice") "rank")
  d_LatticeProduct : FunD K "product" "Lattice.product" (defArgs sLatticeProduct) (defBody sLatticeProduct) (defScope sLatticeProduct) [] [] (He.ma K (He.ga K "Lattice") "product") (fdOf K (He.ma K (He.ga K "Lattice") "product"))
  m_LatticeProduct : Meth K (He.ga K "Lattice") "product" (He.ma K (He.ga K "Lattice") "product")
  d_LatticeNorm : FunD K "norm" "Lattice.norm" (defArgs sLatticeNorm) (defBody sLatticeNorm) (defScope sLatticeNorm) [] [] (He.ma K (He.ga K "Lattice") "norm") (fdOf K (He.ma K (He.ga K "Lattice") "norm"))
  m_LatticeNorm : Meth K (He.ga K "Lattice") "norm" (He.ma K (He.ga K "Lattice") "norm")
  g_TailMatrix : mg "tail_matrix" = some (.ref (He.ga K "tail_matrix"))
  d_TailMatrix : FunD K "tail_matrix" "tail_matrix" (defArgs sTailMatrix) (defBody sTailMatrix) (defScope sTailMatrix) [] [] (He.ga K "tail_matrix") (fdOf K (He.ga K "tail_matrix"))
  g_IsPoint : mg "is_point" = some (.ref (He.ga K "is_point"))
  d_IsPoint : FunD K "is_point" "is_point" (defArgs sIsPoint) (defBody sIsPoint) (defScope sIsPoint) [] [] (He.ga K "is_point") (fdOf K (He.ga K "is_point"))
  g_HeadDeterminants : mg "head_determinants" = some (.ref (He.ga K "head_determinants"))
  d_HeadDeterminants : FunD K "head_determinants" "head_determinants" (defArgs sHeadDeterminants) (defBody sHeadDeterminants) (defScope sHeadDeterminants) [] [] (He.ga K "head_determinants") (fdOf K (He.ga K "head_determinants"))
  g_Choices : mg "choices" = some (.ref (He.ga K "choices"))
  d_Choices : FunD K "choices" "choices" (defArgs sChoices) (defBody sChoices) (defScope sChoices) [] [] (He.ga K "choices") (fdOf K (He.ga K "choices"))
  g_NearVectors : mg "near_vectors" = some (.ref (He.ga K "near_vectors"))
  d_NearVectors : FunD K "near_vectors" "near_vectors" (defArgs sNearVectors) (defBody sNearVectors) (defScope sNearVectors) [] [] (He.ga K "near_vectors") (fdOf K (He.ga K "near_vectors"))
  g_ShortVectors : mg "short_vectors" = some (.ref (He.ga K "short_vectors"))
  d_ShortVectors : FunD K "short_vectors" "short_vectors" (defArgs sShortVectors) (defBody sShortVectors) (defScope sShortVectors) [] [] (He.ga K "short_vectors") (fdOf K (He.ga K "short_vectors"))
  g_MarkOf : mg "mark_of" = some (.ref (He.ga K "mark_of"))
  d_MarkOf : FunD K "mark_of" "mark_of" (defArgs sMarkOf) (defBody sMarkOf) (defScope sMarkOf) [] [] (He.ga K "mark_of") (fdOf K (He.ga K "mark_of"))
  g_IsPrimitive : mg "is_primitive" = some (.ref (He.ga K "is_primitive"))
  d_IsPrimitive : FunD K "is_primitive" "is_primitive" (defArgs sIsPrimitive) (defBody sIsPrimitive) (defScope sIsPrimitive) [] [] (He.ga K "is_primitive") (fdOf K (He.ga K "is_primitive"))
  g_LeastContinued : mg "least_continued" = some (.ref (He.ga K "least_continued"))
  d_LeastContinued : FunD K "least_continued" "least_continued" (defArgs sLeastContinued) (defBody sLeastContinued) (defScope sLeastContinued) [] [] (He.ga K "least_continued") (fdOf K (He.ga K "least_continued"))
  g_Levels : mg "levels" = some (.ref (He.ga K "levels"))
  d_Levels : FunD K "levels" "levels" (defArgs sLevels) (defBody sLevels) (defScope sLevels) [] [] (He.ga K "levels") (fdOf K (He.ga K "levels"))
  g_LeastBases : mg "least_bases" = some (.ref (He.ga K "least_bases"))
  d_LeastBases : FunD K "least_bases" "least_bases" (defArgs sLeastBases) (defBody sLeastBases) (defScope sLeastBases) [] [] (He.ga K "least_bases") (fdOf K (He.ga K "least_bases"))
  g_GramOfMarks : mg "gram_of_marks" = some (.ref (He.ga K "gram_of_marks"))
  d_GramOfMarks : FunD K "gram_of_marks" "gram_of_marks" (defArgs sGramOfMarks) (defBody sGramOfMarks) (defScope sGramOfMarks) [] [] (He.ga K "gram_of_marks") (fdOf K (He.ga K "gram_of_marks"))
  g_Form : mg "form" = some (.ref (He.ga K "form"))
  d_Form : FunD K "form" "form" (defArgs sForm) (defBody sForm) (defScope sForm) [] [] (He.ga K "form") (fdOf K (He.ga K "form"))
  g_AllMaps : mg "all_maps" = some (.ref (He.ga K "all_maps"))
  d_AllMaps : FunD K "all_maps" "all_maps" (defArgs sAllMaps) (defBody sAllMaps) (defScope sAllMaps) [] [] (He.ga K "all_maps") (fdOf K (He.ga K "all_maps"))
  g_Alike : mg "alike" = some (.ref (He.ga K "alike"))
  d_Alike : FunD K "alike" "alike" (defArgs sAlike) (defBody sAlike) (defScope sAlike) [] [] (He.ga K "alike") (fdOf K (He.ga K "alike"))
  g_FindMap : mg "find_map" = some (.ref (He.ga K "find_map"))
  d_FindMap : FunD K "find_map" "find_map" (defArgs sFindMap) (defBody sFindMap) (defScope sFindMap) [] [] (He.ga K "find_map") (fdOf K (He.ga K "find_map"))
  g_LState : mg "_law_state" = some (.ref (He.ga K "_law_state"))
  d_LState : FunD K "_law_state" "_law_state" (defArgs sLState) (defBody sLState) (defScope sLState) [] [] (He.ga K "_law_state") (fdOf K (He.ga K "_law_state"))
  g_LTake : mg "_law_take" = some (.ref (He.ga K "_law_take"))
  d_LTake : FunD K "_law_take" "_law_take" (defArgs sLTake) (defBody sLTake) (defScope sLTake) [] [] (He.ga K "_law_take") (fdOf K (He.ga K "_law_take"))
  g_LGram : mg "_law_gram" = some (.ref (He.ga K "_law_gram"))
  d_LGram : FunD K "_law_gram" "_law_gram" (defArgs sLGram) (defBody sLGram) (defScope sLGram) [] [] (He.ga K "_law_gram") (fdOf K (He.ga K "_law_gram"))
  g_LUnimodular : mg "_law_unimodular" = some (.ref (He.ga K "_law_unimodular"))
  d_LUnimodular : FunD K "_law_unimodular" "_law_unimodular" (defArgs sLUnimodular) (defBody sLUnimodular) (defScope sLUnimodular) [] [] (He.ga K "_law_unimodular") (fdOf K (He.ga K "_law_unimodular"))
  g_LProduct : mg "_law_product" = some (.ref (He.ga K "_law_product"))
  d_LProduct : FunD K "_law_product" "_law_product" (defArgs sLProduct) (defBody sLProduct) (defScope sLProduct) [] [] (He.ga K "_law_product") (fdOf K (He.ga K "_law_product"))
  g_LMoved : mg "_law_moved" = some (.ref (He.ga K "_law_moved"))
  d_LMoved : FunD K "_law_moved" "_law_moved" (defArgs sLMoved) (defBody sLMoved) (defScope sLMoved) [] [] (He.ga K "_law_moved") (fdOf K (He.ga K "_law_moved"))
  g_LMinor : mg "_law_minor" = some (.ref (He.ga K "_law_minor"))
  d_LMinor : FunD K "_law_minor" "_law_minor" (defArgs sLMinor) (defBody sLMinor) (defScope sLMinor) [] [] (He.ga K "_law_minor") (fdOf K (He.ga K "_law_minor"))
  g_LDeterminant : mg "_law_determinant" = some (.ref (He.ga K "_law_determinant"))
  d_LDeterminant : FunD K "_law_determinant" "_law_determinant" (defArgs sLDeterminant) (defBody sLDeterminant) (defScope sLDeterminant) [] [] (He.ga K "_law_determinant") (fdOf K (He.ga K "_law_determinant"))
  g_LRoot : mg "_law_root" = some (.ref (He.ga K "_law_root"))
  d_LRoot : FunD K "_law_root" "_law_root" (defArgs sLRoot) (defBody sLRoot) (defScope sLRoot) [] [] (He.ga K "_law_root") (fdOf K (He.ga K "_law_root"))
  g_LNear : mg "_law_near" = some (.ref (He.ga K "_law_near"))
  d_LNear : FunD K "_law_near" "_law_near" (defArgs sLNear) (defBody sLNear) (defScope sLNear) [] [] (He.ga K "_law_near") (fdOf K (He.ga K "_law_near"))
  g_LMaps : mg "_law_maps" = some (.ref (He.ga K "_law_maps"))
  d_LMaps : FunD K "_law_maps" "_law_maps" (defArgs sLMaps) (defBody sLMaps) (defScope sLMaps) [] [] (He.ga K "_law_maps") (fdOf K (He.ga K "_law_maps"))
  g_LWider : mg "_law_wider" = some (.ref (He.ga K "_law_wider"))
  d_LWider : FunD K "_law_wider" "_law_wider" (defArgs sLWider) (defBody sLWider) (defScope sLWider) [] [] (He.ga K "_law_wider") (fdOf K (He.ga K "_law_wider"))
  g_LExchanged : mg "_law_exchanged" = some (.ref (He.ga K "_law_exchanged"))
  d_LExchanged : FunD K "_law_exchanged" "_law_exchanged" (defArgs sLExchanged) (defBody sLExchanged) (defScope sLExchanged) [] [] (He.ga K "_law_exchanged") (fdOf K (He.ga K "_law_exchanged"))
  g_L : mg "law" = some (.ref (He.ga K "law"))
  d_L : FunD K "law" "law" (defArgs sL) (defBody sL) (defScope sL) [] [] (He.ga K "law") (fdOf K (He.ga K "law"))
  g_Grid : mg "Grid" = some (.ref (He.ga K "Grid"))
  cls_Grid : Cls K (He.ga K "Grid")
  mk_Grid : Mk K (He.ga K "Grid") (He.ma K (He.ga K "Grid") "__init__")
  iso_Grid : IsO K (He.ga K "Grid")
  g_Lattice : mg "Lattice" = some (.ref (He.ga K "Lattice"))
  cls_Lattice : Cls K (He.ga K "Lattice")
  mk_Lattice : Mk K (He.ga K "Lattice") (He.ma K (He.ga K "Lattice") "__init__")
  iso_Lattice : IsO K (He.ga K "Lattice")
  no_Grid_rows : NoAttr K (He.ga K "Grid") "rows"
  no_Grid_width : NoAttr K (He.ga K "Grid") "width"
  no_Lattice_gram : NoAttr K (He.ga K "Lattice") "gram"
  self_Grid : PySem.W.selfFirst K (He.ga K "Grid") = true
  ne_Lattice : NeOk K (He.ga K "Lattice")
section
variable {K : PySem.W.Frag} {mg : Str → Option Value}
theorem Tx.b_TimesRow (T : Tx K mg) : Binds K (fdOf K (He.ga K "_times_row")) ["k", "row"] [] := T.d_TimesRow.bindsN fun _ _ _ _ _ _ us hl => match us, hl with | [_, _], _ => rfl
theorem Tx.b_Less (T : Tx K mg) : Binds K (fdOf K (He.ga K "_less")) ["row", "k", "other"] [] := T.d_Less.bindsN fun _ _ _ _ _ _ us hl => match us, hl with | [_, _, _], _ => rfl
theorem Tx.b_LeastPlace (T : Tx K mg) : Binds K (fdOf K (He.ga K "_least_place")) ["table", "start", "height", "width"] [] := T.d_LeastPlace.bindsN fun _ _ _ _ _ _ us hl => match us, hl with | [_, _, _, _], _ => rfl
theorem Tx.b_Turned (T : Tx K mg) : Binds K (fdOf K (He.ga K "_turned")) ["rows", "width"] [] := T.d_Turned.bindsN fun _ _ _ _ _ _ us hl => match us, hl with | [_, _], _ => rfl
theorem Tx.b_Swap (T : Tx K mg) : Binds K (fdOf K (He.ga K "_swap")) ["rows", "i", "k"] [] := T.d_Swap.bindsN fun _ _ _ _ _ _ us hl => match us, hl with | [_, _, _], _ => rfl
theorem Tx.b_SwapItems (T : Tx K mg) : Binds K (fdOf K (He.ga K "_swap_items")) ["rows", "i", "k"] [] := T.d_SwapItems.bindsN fun _ _ _ _ _ _ us hl => match us, hl with | [_, _, _], _ => rfl
theorem Tx.b_ClearColumn (T : Tx K mg) : Binds K (fdOf K (He.ga K "_clear_column")) ["table", "u", "start", "height"] [] := T.d_ClearColumn.bindsN fun _ _ _ _ _ _ us hl => match us, hl with | [_, _, _, _], _ => rfl
theorem Tx.b_IsClear (T : Tx K mg) : Binds K (fdOf K (He.ga K "_is_clear")) ["table", "start", "height", "width"] [] := T.d_IsClear.bindsN fun _ _ _ _ _ _ us hl => match us, hl with | [_, _, _, _], _ => rfl
theorem Tx.b_Unfit (T : Tx K mg) : Binds K (fdOf K (He.ga K "_unfit")) ["table", "start", "height", "width"] [] := T.d_Unfit.bindsN fun _ _ _ _ _ _ us hl => match us, hl with | [_, _, _, _], _ => rfl
theorem Tx.b_SmithRows (T : Tx K mg) : Binds K (fdOf K (He.ga K "smith_rows")) ["rows", "width", "u", "v"] [] := T.d_SmithRows.bindsN fun _ _ _ _ _ _ us hl => match us, hl with | [_, _, _, _], _ => rfl
theorem Tx.b_IsInteger (T : Tx K mg) : Binds K (fdOf K (He.ga K "is_integer")) ["value"] [] := T.d_IsInteger.bindsN fun _ _ _ _ _ _ us hl => match us, hl with | [_], _ => rfl
theorem Tx.b_RootFloor (T : Tx K mg) : Binds K (fdOf K (He.ga K "root_floor")) ["n"] [] := T.d_RootFloor.bindsN fun _ _ _ _ _ _ us hl => match us, hl with | [_], _ => rfl
theorem Tx.b_Upper (T : Tx K mg) : Binds K (fdOf K (He.ga K "upper")) ["a", "b"] [] := T.d_Upper.bindsN fun _ _ _ _ _ _ us hl => match us, hl with | [_, _], _ => rfl
theorem Tx.b_Lower (T : Tx K mg) : Binds K (fdOf K (He.ga K "lower")) ["a", "b"] [] := T.d_Lower.bindsN fun _ _ _ _ _ _ us hl => match us, hl with | [_, _], _ => rfl
theorem Tx.b_Dot (T : Tx K mg) : Binds K (fdOf K (He.ga K "dot")) ["a", "b"] [] := T.d_Dot.bindsN fun _ _ _ _ _ _ us hl => match us, hl with | [_, _], _ => rfl
theorem Tx.b_Checked (T : Tx K mg) : Binds K (fdOf K (He.ga K "_checked")) ["rows", "width"] [] := T.d_Checked.bindsN fun _ _ _ _ _ _ us hl => match us, hl with | [_, _], _ => rfl
theorem Tx.b_UnitRows (T : Tx K mg) : Binds K (fdOf K (He.ga K "_unit_rows")) ["n"] [] := T.d_UnitRows.bindsN fun _ _ _ _ _ _ us hl => match us, hl with | [_], _ => rfl
theorem Tx.b_Determinant (T : Tx K mg) : Binds K (fdOf K (He.ga K "_determinant")) ["rows"] [] := T.d_Determinant.bindsN fun _ _ _ _ _ _ us hl => match us, hl with | [_], _ => rfl
theorem Tx.b_Minor (T : Tx K mg) : Binds K (fdOf K (He.ga K "_minor")) ["rows", "i", "k"] [] := T.d_Minor.bindsN fun _ _ _ _ _ _ us hl => match us, hl with | [_, _, _], _ => rfl
theorem Tx.b2_GridInit (T : Tx K mg) : ∃ ds, Vals [V.non] ds ∧ Binds K (fdOf K (He.ma K (He.ga K "Grid") "__init__")) ["self", "rows", "width"] ds := T.d_GridInit.binds1 2 0 (by simp) rfl fun _ _ _ _ _ _ _ us its hl hi => match us, its, hl, hi with | [_, _], [_], _, _ => ⟨_, rfl, rfl⟩
theorem Tx.b_GridInit (T : Tx K mg) : Binds K (fdOf K (He.ma K (He.ga K "Grid") "__init__")) ["self", "rows", "width"] [] := by
  obtain ⟨ds, r, b⟩ := T.d_GridInit.binds1 3 1 (by simp) rfl (ps := ["self", "rows", "width"]) fun _ _ _ _ _ _ _ us its hl hi => match us, its, hl, hi with | [_, _, _], [_], _, _ => ⟨_, rfl, rfl⟩
  cases r
  exact b
theorem Tx.b_GridLen (T : Tx K mg) : Binds K (fdOf K (He.ma K (He.ga K "Grid") "__len__")) ["self"] [] := T.d_GridLen.bindsN fun _ _ _ _ _ _ us hl => match us, hl with | [_], _ => rfl
theorem Tx.b_GridEq (T : Tx K mg) : Binds K (fdOf K (He.ma K (He.ga K "Grid") "__eq__")) ["self", "other"] [] := T.d_GridEq.bindsN fun _ _ _ _ _ _ us hl => match us, hl with | [_, _], _ => rfl
theorem Tx.b_GridSub (T : Tx K mg) : Binds K (fdOf K (He.ma K (He.ga K "Grid") "__sub__")) ["self", "other"] [] := T.d_GridSub.bindsN fun _ _ _ _ _ _ us hl => match us, hl with | [_, _], _ => rfl
theorem Tx.b_GridMul (T : Tx K mg) : Binds K (fdOf K (He.ma K (He.ga K "Grid") "__mul__")) ["self", "other"] [] := T.d_GridMul.bindsN fun _ _ _ _ _ _ us hl => match us, hl with | [_, _], _ => rfl
theorem Tx.b_GridScaled (T : Tx K mg) : Binds K (fdOf K (He.ma K (He.ga K "Grid") "scaled")) ["self", "k"] [] := T.d_GridScaled.bindsN fun _ _ _ _ _ _ us hl => match us, hl with | [_, _], _ => rfl
theorem Tx.b_GridTransposed (T : Tx K mg) : Binds K (fdOf K (He.ma K (He.ga K "Grid") "transposed")) ["self"] [] := T.d_GridTransposed.bindsN fun _ _ _ _ _ _ us hl => match us, hl with | [_], _ => rfl
theorem Tx.b_GridTimes (T : Tx K mg) : Binds K (fdOf K (He.ma K (He.ga K "Grid") "times")) ["self", "row"] [] := T.d_GridTimes.bindsN fun _ _ _ _ _ _ us hl => match us, hl with | [_, _], _ => rfl
theorem Tx.b_GridIsSquare (T : Tx K mg) : Binds K (fdOf K (He.ma K (He.ga K "Grid") "is_square")) ["self"] [] := T.d_GridIsSquare.bindsN fun _ _ _ _ _ _ us hl => match us, hl with | [_], _ => rfl
theorem Tx.b_GridDeterminant (T : Tx K mg) : Binds K (fdOf K (He.ma K (He.ga K "Grid") "determinant")) ["self"] [] := T.d_GridDeterminant.bindsN fun _ _ _ _ _ _ us hl => match us, hl with | [_], _ => rfl
theorem Tx.b_GridAdjugate (T : Tx K mg) : Binds K (fdOf K (He.ma K (He.ga K "Grid") "adjugate")) ["self"] [] := T.d_GridAdjugate.bindsN fun _ _ _ _ _ _ us hl => match us, hl with | [_], _ => rfl
theorem Tx.b_GridIsUnimodular (T : Tx K mg) : Binds K (fdOf K (He.ma K (He.ga K "Grid") "is_unimodular")) ["self"] [] := T.d_GridIsUnimodular.bindsN fun _ _ _ _ _ _ us hl => match us, hl with | [_], _ => rfl
theorem Tx.b_GridInverse (T : Tx K mg) : Binds K (fdOf K (He.ma K (He.ga K "Grid") "inverse")) ["self"] [] := T.d_GridInverse.bindsN fun _ _ _ _ _ _ us hl => match us, hl with | [_], _ => rfl
theorem Tx.b_GridSmith (T : Tx K mg) : Binds K (fdOf K (He.ma K (He.ga K "Grid") "smith")) ["self"] [] := T.d_GridSmith.bindsN fun _ _ _ _ _ _ us hl => match us, hl with | [_], _ => rfl
theorem Tx.b_GridFactors (T : Tx K mg) : Binds K (fdOf K (He.ma K (He.ga K "Grid") "factors")) ["self"] [] := T.d_GridFactors.bindsN fun _ _ _ _ _ _ us hl => match us, hl with | [_], _ => rfl
theorem Tx.b_GridIsPrimitive (T : Tx K mg) : Binds K (fdOf K (He.ma K (He.ga K "Grid") "is_primitive")) ["self"] [] := T.d_GridIsPrimitive.bindsN fun _ _ _ _ _ _ us hl => match us, hl with | [_], _ => rfl
theorem Tx.b_SquareRows (T : Tx K mg) : Binds K (fdOf K (He.ga K "square_rows")) ["gram"] [] := T.d_SquareRows.bindsN fun _ _ _ _ _ _ us hl => match us, hl with | [_], _ => rfl
theorem Tx.b_CheckSymmetric (T : Tx K mg) : Binds K (fdOf K (He.ga K "check_symmetric")) ["rows"] [] := T.d_CheckSymmetric.bindsN fun _ _ _ _ _ _ us hl => match us, hl with | [_], _ => rfl
theorem Tx.b_LatticeInit (T : Tx K mg) : Binds K (fdOf K (He.ma K (He.ga K "Lattice") "__init__")) ["self", "gram"] [] := T.d_LatticeInit.bindsN fun _ _ _ _ _ _ us hl => match us, hl with | [_, _], _ => rfl
theorem Tx.b_LatticeEq (T : Tx K mg) : Binds K (fdOf K (He.ma K (He.ga K "Lattice") "__eq__")) ["self", "other"] [] := T.d_LatticeEq.bindsN fun _ _ _ _ _ _ us hl => match us, hl with | [_, _], _ => rfl
theorem Tx.b_LatticeContains (T : Tx K mg) : Binds K (fdOf K (He.ma K (He.ga K "Lattice") "__contains__")) ["self", "v"] [] := T.d_LatticeContains.bindsN fun _ _ _ _ _ _ us hl => match us, hl with | [_, _], _ => rfl
theorem Tx.b_LatticeRank (T : Tx K mg) : Binds K (fdOf K (He.ma K (He.ga K "Lattice") "rank")) ["self"] [] := T.d_LatticeRank.bindsN fun _ _ _ _ _ _ us hl => match us, hl with | [_], _ => rfl
theorem Tx.b_LatticeProduct (T : Tx K mg) : Binds K (fdOf K (He.ma K (He.ga K "Lattice") "product")) ["self", "v", "w"] [] := T.d_LatticeProduct.bindsN fun _ _ _ _ _ _ us hl => match us, hl with | [_, _, _], _ => rfl
theorem Tx.b_LatticeNorm (T : Tx K mg) : Binds K (fdOf K (He.ma K (He.ga K "Lattice") "norm")) ["self", "v"] [] := T.d_LatticeNorm.bindsN fun _ _ _ _ _ _ us hl => match us, hl with | [_, _], _ => rfl
theorem Tx.b_TailMatrix (T : Tx K mg) : Binds K (fdOf K (He.ga K "tail_matrix")) ["gram", "k"] [] := T.d_TailMatrix.bindsN fun _ _ _ _ _ _ us hl => match us, hl with | [_, _], _ => rfl
theorem Tx.b_IsPoint (T : Tx K mg) : Binds K (fdOf K (He.ga K "is_point")) ["lattice", "a", "d"] [] := T.d_IsPoint.bindsN fun _ _ _ _ _ _ us hl => match us, hl with | [_, _, _], _ => rfl
theorem Tx.b_HeadDeterminants (T : Tx K mg) : Binds K (fdOf K (He.ga K "head_determinants")) ["gram"] [] := T.d_HeadDeterminants.bindsN fun _ _ _ _ _ _ us hl => match us, hl with | [_], _ => rfl
theorem Tx.b_Choices (T : Tx K mg) : Binds K (fdOf K (He.ga K "choices")) ["tail", "behind", "a", "d", "bound"] [] := T.d_Choices.bindsN fun _ _ _ _ _ _ us hl => match us, hl with | [_, _, _, _, _], _ => rfl
theorem Tx.b_NearVectors (T : Tx K mg) : Binds K (fdOf K (He.ga K "near_vectors")) ["lattice", "a", "d", "most"] [] := T.d_NearVectors.bindsN fun _ _ _ _ _ _ us hl => match us, hl with | [_, _, _, _], _ => rfl
theorem Tx.b_ShortVectors (T : Tx K mg) : Binds K (fdOf K (He.ga K "short_vectors")) ["lattice", "most"] [] := T.d_ShortVectors.bindsN fun _ _ _ _ _ _ us hl => match us, hl with | [_, _], _ => rfl
theorem Tx.b_MarkOf (T : Tx K mg) : Binds K (fdOf K (He.ga K "mark_of")) ["lattice", "vectors", "v"] [] := T.d_MarkOf.bindsN fun _ _ _ _ _ _ us hl => match us, hl with | [_, _, _], _ => rfl
theorem Tx.b_IsPrimitive (T : Tx K mg) : Binds K (fdOf K (He.ga K "is_primitive")) ["vectors"] [] := T.d_IsPrimitive.bindsN fun _ _ _ _ _ _ us hl => match us, hl with | [_], _ => rfl
theorem Tx.b_LeastContinued (T : Tx K mg) : Binds K (fdOf K (He.ga K "least_continued")) ["lattice", "tuples", "bound"] [] := T.d_LeastContinued.bindsN fun _ _ _ _ _ _ us hl => match us, hl with | [_, _, _], _ => rfl
theorem Tx.b_Levels (T : Tx K mg) : Binds K (fdOf K (He.ga K "levels")) ["lattice"] [] := T.d_Levels.bindsN fun _ _ _ _ _ _ us hl => match us, hl with | [_], _ => rfl
theorem Tx.b_LeastBases (T : Tx K mg) : Binds K (fdOf K (He.ga K "least_bases")) ["lattice"] [] := T.d_LeastBases.bindsN fun _ _ _ _ _ _ us hl => match us, hl with | [_], _ => rfl
theorem Tx.b_GramOfMarks (T : Tx K mg) : Binds K (fdOf K (He.ga K "gram_of_marks")) ["marks"] [] := T.d_GramOfMarks.bindsN fun _ _ _ _ _ _ us hl => match us, hl with | [_], _ => rfl
theorem Tx.b_Form (T : Tx K mg) : Binds K (fdOf K (He.ga K "form")) ["lattice"] [] := T.d_Form.bindsN fun _ _ _ _ _ _ us hl => match us, hl with | [_], _ => rfl
theorem Tx.b_AllMaps (T : Tx K mg) : Binds K (fdOf K (He.ga K "all_maps")) ["a", "b"] [] := T.d_AllMaps.bindsN fun _ _ _ _ _ _ us hl => match us, hl with | [_, _], _ => rfl
theorem Tx.b_Alike (T : Tx K mg) : Binds K (fdOf K (He.ga K "alike")) ["a", "b"] [] := T.d_Alike.bindsN fun _ _ _ _ _ _ us hl => match us, hl with | [_, _], _ => rfl
theorem Tx.b_FindMap (T : Tx K mg) : Binds K (fdOf K (He.ga K "find_map")) ["a", "b"] [] := T.d_FindMap.bindsN fun _ _ _ _ _ _ us hl => match us, hl with | [_, _], _ => rfl
theorem Tx.b_LState (T : Tx K mg) : Binds K (fdOf K (He.ga K "_law_state")) ["_law_script"] [] := T.d_LState.bindsN fun _ _ _ _ _ _ us hl => match us, hl with | [_], _ => rfl
theorem Tx.b_LTake (T : Tx K mg) : Binds K (fdOf K (He.ga K "_law_take")) ["_law_state_here", "_law_m"] [] := T.d_LTake.bindsN fun _ _ _ _ _ _ us hl => match us, hl with | [_, _], _ => rfl
theorem Tx.b_LGram (T : Tx K mg) : Binds K (fdOf K (He.ga K "_law_gram")) ["_law_state_here", "_law_most"] [] := T.d_LGram.bindsN fun _ _ _ _ _ _ us hl => match us, hl with | [_, _], _ => rfl
theorem Tx.b_LUnimodular (T : Tx K mg) : Binds K (fdOf K (He.ga K "_law_unimodular")) ["_law_state_here", "_law_size"] [] := T.d_LUnimodular.bindsN fun _ _ _ _ _ _ us hl => match us, hl with | [_, _], _ => rfl
theorem Tx.b_LProduct (T : Tx K mg) : Binds K (fdOf K (He.ga K "_law_product")) ["_law_gram_here", "_law_v", "_law_w"] [] := T.d_LProduct.bindsN fun _ _ _ _ _ _ us hl => match us, hl with | [_, _, _], _ => rfl
theorem Tx.b_LMoved (T : Tx K mg) : Binds K (fdOf K (He.ga K "_law_moved")) ["_law_gram_here", "_law_rows"] [] := T.d_LMoved.bindsN fun _ _ _ _ _ _ us hl => match us, hl with | [_, _], _ => rfl
theorem Tx.b_LMinor (T : Tx K mg) : Binds K (fdOf K (He.ga K "_law_minor")) ["_law_rows", "_law_i", "_law_j"] [] := T.d_LMinor.bindsN fun _ _ _ _ _ _ us hl => match us, hl with | [_, _, _], _ => rfl
theorem Tx.b_LDeterminant (T : Tx K mg) : Binds K (fdOf K (He.ga K "_law_determinant")) ["_law_rows"] [] := T.d_LDeterminant.bindsN fun _ _ _ _ _ _ us hl => match us, hl with | [_], _ => rfl
theorem Tx.b_LRoot (T : Tx K mg) : Binds K (fdOf K (He.ga K "_law_root")) ["_law_n"] [] := T.d_LRoot.bindsN fun _ _ _ _ _ _ us hl => match us, hl with | [_], _ => rfl
theorem Tx.b_LNear (T : Tx K mg) : Binds K (fdOf K (He.ga K "_law_near")) ["_law_gram_here", "_law_norm"] [] := T.d_LNear.bindsN fun _ _ _ _ _ _ us hl => match us, hl with | [_, _], _ => rfl
theorem Tx.b_LMaps (T : Tx K mg) : Binds K (fdOf K (He.ga K "_law_maps")) ["_law_one", "_law_two"] [] := T.d_LMaps.bindsN fun _ _ _ _ _ _ us hl => match us, hl with | [_, _], _ => rfl
theorem Tx.b_LWider (T : Tx K mg) : Binds K (fdOf K (He.ga K "_law_wider")) ["_law_state_here", "_law_gram_here"] [] := T.d_LWider.bindsN fun _ _ _ _ _ _ us hl => match us, hl with | [_, _], _ => rfl
theorem Tx.b_LExchanged (T : Tx K mg) : Binds K (fdOf K (He.ga K "_law_exchanged")) ["_law_gram_here"] [] := T.d_LExchanged.bindsN fun _ _ _ _ _ _ us hl => match us, hl with | [_], _ => rfl
theorem Tx.b_L (T : Tx K mg) : Binds K (fdOf K (He.ga K "law")) ["_law_script"] [] := T.d_L.bindsN fun _ _ _ _ _ _ us hl => match us, hl with | [_], _ => rfl
theorem atsNon {K : PySem.W.Frag} : ∀ G, Ats K G [V.non] [D.non] := fun _ => .cons .non .nil
theorem hu {k : Nat} {A : Around} (r : Room k A) : A.units + 64 < cLine := by have := r.un; omega
theorem hu0 {k : Nat} {A : Around} (r : Room k A) : A.units < cLine := by have := r.un; omega
end
end Gm
end
/-! M -/
section
set_option Elab.async false
set_option linter.all false
set_option maxRecDepth 100000
set_option maxHeartbeats 4000000
namespace DL
open PySem PySem.Spec PyProof.Rows L2
/-! ### readings of comprehensions -/
section
variable {vs : List Nat} {γ : TDG} {φt : TDT} {φe : TD} {ρ : Ev} {μ : Sto} {Fn : List D → Sto → Prop} {ds : List D} {kp : Sto → Prop} {α : Type}
/-- the store stays as it is; items by what they stand for, some left out -/
theorem lc_fil (as : List α) (enc g : α → D) (p : α → Bool) (hds : ds = as.map enc) (hz : as.length ≤ sizeLine) (hk : kp μ)
    (h : ∀ a ∈ as, ∀ (Y : RD) (N : Sto → Prop), (p a = true → Y (g a) μ) → (p a = false → N μ) → γ (enc a) (wipeD ρ vs) μ fun ρ2 μ2 => φt ρ2 μ2 fun b μ3 => if b = true then φe ρ2 μ3 Y else N μ3) (hF : Fn ((as.filter p).map g) μ) :
    ds.length ≤ sizeLine ∧ ∃ W : Nat → List D → Sto → Prop, W 0 [] μ ∧ (∀ i acc μ, W i acc μ → kp μ) ∧
  (∀ i d acc μ, ds[i]? = some d → acc.length ≤ i → W i acc μ → γ d (wipeD ρ vs) μ fun ρ2 μ2 => φt ρ2 μ2 fun b μ3 => if b = true then φe ρ2 μ3 fun e μ4 => W (i + 1) (acc ++ [e]) μ4 else W (i + 1) acc μ3) ∧ ∀ acc μ, W ds.length acc μ → Fn acc μ := by
  subst hds
  refine ⟨by rw [List.length_map]; exact hz, fun i acc μ' => acc = ((as.take i).filter p).map g ∧ μ' = μ, ⟨rfl, rfl⟩, fun i acc μ' w => w.2 ▸ hk, fun i d acc μ' hd hl w => ?_, fun acc μ' w => ?_⟩
  · obtain ⟨rfl, rfl⟩ := w
    rw [List.getElem?_map] at hd
    obtain ⟨a, ha, rfl⟩ := Option.map_eq_some_iff.mp hd
    have et : as.take (i + 1) = as.take i ++ [a] := by rw [List.take_add_one, ha]; rfl
    refine h a (List.mem_of_getElem? ha) _ _ (fun hp => ⟨?_, rfl⟩) fun hp => ⟨?_, rfl⟩
    · rw [et, List.filter_append, List.map_append]
      simp [hp]
    · rw [et, List.filter_append, List.map_append]
      simp [hp]
  · obtain ⟨rfl, rfl⟩ := w
    rw [List.length_map, List.take_length]
    exact hF
theorem lc_map (as : List α) (enc g : α → D) (hds : ds = as.map enc) (hz : as.length ≤ sizeLine) (hk : kp μ)
    (h : ∀ a ∈ as, ∀ (Y : RD), Y (g a) μ → γ (enc a) (wipeD ρ vs) μ fun ρ2 μ2 => φe ρ2 μ2 Y) (hF : Fn (as.map g) μ) :
    ds.length ≤ sizeLine ∧ ∃ W : Nat → List D → Sto → Prop, W 0 [] μ ∧ (∀ i acc μ, W i acc μ → kp μ) ∧
  (∀ i d acc μ, ds[i]? = some d → acc.length ≤ i → W i acc μ → γ d (wipeD ρ vs) μ fun ρ2 μ2 => dYes ρ2 μ2 fun b μ3 => if b = true then φe ρ2 μ3 fun e μ4 => W (i + 1) (acc ++ [e]) μ4 else W (i + 1) acc μ3) ∧ ∀ acc μ, W ds.length acc μ → Fn acc μ := by
  subst hds
  refine ⟨by rw [List.length_map]; exact hz, fun i acc μ' => acc = (as.take i).map g ∧ μ' = μ, ⟨rfl, rfl⟩, fun i acc μ' w => w.2 ▸ hk, fun i d acc μ' hd hl w => ?_, fun acc μ' w => ?_⟩
  · obtain ⟨rfl, rfl⟩ := w
    rw [List.getElem?_map] at hd
    obtain ⟨a, ha, rfl⟩ := Option.map_eq_some_iff.mp hd
    have et : as.take (i + 1) = as.take i ++ [a] := by rw [List.take_add_one, ha]; rfl
    exact h a (List.mem_of_getElem? ha) (fun e μ4 => List.map g (as.take i) ++ [e] = List.map g (as.take (i + 1)) ∧ μ4 = μ') ⟨by rw [et, List.map_append]; rfl, rfl⟩
  · obtain ⟨rfl, rfl⟩ := w
    rw [List.length_map, List.take_length]
    exact hF
end
/-! ### rows -/
abbrev ri (xs : List Int) : D := .lst (xs.map .int)
abbrev rt (xs : List Int) : D := .tup (xs.map .int)
/-- a list or a tuple of ints -/
def IsRow (d : D) (xs : List Int) : Prop := d = ri xs ∨ d = rt xs
theorem IsRow.ri {xs : List Int} : IsRow (ri xs) xs := .inl rfl
theorem IsRow.rt {xs : List Int} : IsRow (rt xs) xs := .inr rfl
theorem zipD_map {α β : Type} (f : α → D) (g : β → D) (xs : List α) (ys : List β) : zipD (xs.map f) (ys.map g) = (xs.zip ys).map fun p => D.tup [f p.1, g p.2] := by
  unfold zipD
  rw [List.zipWith_map, List.zip, List.map_zipWith]
theorem rngD_eq (lo : Int) (n : Nat) : rngD lo n = (List.range n).map fun i : Nat => D.int (lo + (i : Int)) := rfl
theorem atI_nat {α : Type} {xs : List α} {i : Nat} (h : i < xs.length) : atI xs (i : Int) = some xs[i] := by
  unfold atI ixN
  rw [if_pos (by omega)]
  simp [h]
theorem dAt_map {α : Type} {f : α → D} {xs : List α} {i : Nat} {k : D → Prop} (d0 : α) (h : i < xs.length) (hk : k (f (xs.getD i d0))) : dAt (xs.map f) (i : Int) k := by
  refine ⟨f (xs.getD i d0), ?_, hk⟩
  rw [atI_nat (by rw [List.length_map]; exact h)]
  simp [List.getD_eq_getElem?_getD, h]
theorem dAt_nat {xs : List D} {i : Nat} {k : D → Prop} (h : i < xs.length) (hk : k xs[i]) : dAt xs (i : Int) k := ⟨_, atI_nat h, hk⟩
theorem onL_lst {o : Option MO} {ds : List D} {k : List D → Prop} (h : o = some (.lst ds)) (hk : k ds) : onL o k := by
  subst h
  exact hk
theorem rngD_nat (a n : Nat) : rngD (a : Int) n = (List.range' a n).map fun i : Nat => D.int (i : Int) := by
  rw [rngD_eq, List.range'_eq_map_range, List.map_map]
  refine List.map_congr_left fun i _ => ?_
  show D.int _ = D.int _
  rw [show ((a + i : Nat) : Int) = (a : Int) + (i : Int) from by omega]
/-- a loop over a range, told by the variable itself -/
theorem for_rng {γ : TDG} {φ : TDS} {R : DEnds} {ρ : Ev} {μ : Sto} {lo : Int} {n : Nat} (a b : Nat) (hlo : lo = (a : Int)) (hn : n = b - a) (W : Nat → Ev → Sto → Prop) (h0 : W a ρ μ)
    (step : ∀ i ρ μ, a ≤ i → i < b → W i ρ μ → γ (.int (i : Int)) ρ μ fun ρ2 μ2 => φ { nx := W (i + 1), ct := W (i + 1), rt := R.rt, bk := R.nx } ρ2 μ2) (fin : ∀ ρ μ, W (max a b) ρ μ → R.nx ρ μ) :
    ∃ W : Nat → Ev → Sto → Prop, W 0 ρ μ ∧ (∀ i ρ μ, W i ρ μ → always μ) ∧
  (∀ i d ρ μ, (rngD lo n)[i]? = some d → W i ρ μ → γ d ρ μ fun ρ2 μ2 => φ { nx := W (i + 1), ct := W (i + 1), rt := R.rt, bk := R.nx } ρ2 μ2) ∧ ∀ ρ μ, W (rngD lo n).length ρ μ → R.nx ρ μ := by
  subst hlo hn
  refine ⟨fun i => W (a + i), h0, fun _ _ _ _ => trivial, fun i d ρ μ hd w => ?_, fun ρ μ w => ?_⟩
  · obtain ⟨hi, rfl⟩ := rngD_get hd
    have e : (a : Int) + (i : Nat) = ((a + i : Nat) : Int) := by omega
    rw [e]
    exact step (a + i) ρ μ (by omega) (by omega) w
  · rw [rngD_length] at w
    refine fin ρ μ ?_
    have e : a + (b - a) = max a b := by omega
    rw [← e]
    exact w
/-- a loop over items -/
theorem for_seq {α : Type} {γ : TDG} {φ : TDS} {R : DEnds} {ρ : Ev} {μ : Sto} {ds : List D} {kp : Sto → Prop} (as : List α) (enc : α → D) (hds : ds = as.map enc) (W : Nat → Ev → Sto → Prop) (h0 : W 0 ρ μ) (hk : ∀ i ρ μ, W i ρ μ → kp μ)
    (step : ∀ i a ρ μ, as[i]? = some a → W i ρ μ → γ (enc a) ρ μ fun ρ2 μ2 => φ { nx := W (i + 1), ct := W (i + 1), rt := R.rt, bk := R.nx } ρ2 μ2) (fin : ∀ ρ μ, W as.length ρ μ → R.nx ρ μ) :
    ∃ W : Nat → Ev → Sto → Prop, W 0 ρ μ ∧ (∀ i ρ μ, W i ρ μ → kp μ) ∧
  (∀ i d ρ μ, ds[i]? = some d → W i ρ μ → γ d ρ μ fun ρ2 μ2 => φ { nx := W (i + 1), ct := W (i + 1), rt := R.rt, bk := R.nx } ρ2 μ2) ∧ ∀ ρ μ, W ds.length ρ μ → R.nx ρ μ := by
  subst hds
  refine ⟨W, h0, hk, fun i d ρ μ hd w => ?_, fun ρ μ w => ?_⟩
  · rw [List.getElem?_map] at hd
    obtain ⟨a, ha, rfl⟩ := Option.map_eq_some_iff.mp hd
    exact step i a ρ μ ha w
  · rw [List.length_map] at w
    exact fin ρ μ w
theorem RB_nat {n : Nat} (h : n < 2 ^ 62) : RB (n : Int) := ⟨by omega, by omega⟩
end DL
end
/-! Pure -/
section
set_option Elab.async false
set_option linter.all false
namespace Gp
abbrev Mx := List (List Int)
def ent (t : Mx) (i k : Nat) : Int := (t.getD i []).getD k 0
def swapAt {α : Type} (xs : List α) (i k : Nat) : List α := match xs[i]?, xs[k]? with
  | some a, some b => (xs.set i b).set k a
  | _, _ => xs
def timesI (k : Int) (xs : List Int) : List Int := xs.map fun x => k * x
def lessI (xs : List Int) (k : Int) (ys : List Int) : List Int := (xs.zip ys).map fun p => p.1 - k * p.2
def turned (t : Mx) (w : Nat) : Mx := (List.range w).map fun k => t.map fun r => r.getD k 0
def below (t : Mx) (s h : Nat) : List Nat := (List.range' (s + 1) (h - (s + 1))).filter fun i => decide (ent t i s ≠ 0)
def beside (t : Mx) (s w : Nat) : List Nat := (List.range' (s + 1) (w - (s + 1))).filter fun k => decide (ent t s k ≠ 0)
end Gp
namespace Gp
def clrT (s i : Nat) (t : Mx) : Mx := t.mapIdx fun j r => if s < j ∧ j < i then lessI r ((r.getD s 0).fdiv (ent t s s)) (t.getD s []) else r
def clrU (s i : Nat) (t u : Mx) : Mx := u.mapIdx fun j r => if s < j ∧ j < i then lessI r ((ent t j s).fdiv (ent t s s)) (u.getD s []) else r
theorem clrT_length (s i : Nat) (t : Mx) : (clrT s i t).length = t.length := by simp [clrT]
theorem clrU_length (s i : Nat) (t u : Mx) : (clrU s i t u).length = u.length := by simp [clrU]
theorem clrT_get (s i : Nat) (t : Mx) (j : Nat) (h : j ≤ s ∨ i ≤ j) : (clrT s i t).getD j [] = t.getD j [] := by
  simp only [clrT, List.getD_eq_getElem?_getD, List.getElem?_mapIdx]
  cases t[j]? with
  | none => rfl
  | some r =>
    simp only [Option.map_some, Option.getD_some]
    rw [if_neg (by omega)]
theorem clrU_get (s i : Nat) (t u : Mx) (j : Nat) (h : j ≤ s ∨ i ≤ j) : (clrU s i t u).getD j [] = u.getD j [] := by
  simp only [clrU, List.getD_eq_getElem?_getD, List.getElem?_mapIdx]
  cases u[j]? with
  | none => rfl
  | some r =>
    simp only [Option.map_some, Option.getD_some]
    rw [if_neg (by omega)]
theorem clrT_step (s i : Nat) (t : Mx) (h : s < i) (hi : i < t.length) : (clrT s i t).set i (lessI (t.getD i []) ((ent t i s).fdiv (ent t s s)) (t.getD s [])) = clrT s (i + 1) t := by
  refine List.ext_getElem? fun j => ?_
  by_cases e : i = j
  · subst e
    rw [List.getElem?_set_self (by rw [clrT_length]; exact hi)]
    simp only [clrT, List.getElem?_mapIdx, List.getElem?_eq_getElem hi, Option.map_some, ent, List.getD_eq_getElem?_getD, Option.getD_some]
    rw [if_pos (by omega)]
  · rw [List.getElem?_set_ne e]
    simp only [clrT, List.getElem?_mapIdx]
    cases t[j]? with
    | none => rfl
    | some r =>
      simp only [Option.map_some]
      by_cases c : s < j ∧ j < i
      · rw [if_pos c, if_pos (by omega)]
      · rw [if_neg c, if_neg (by omega)]
theorem clrU_step (s i : Nat) (t u : Mx) (h : s < i) (hi : i < u.length) : (clrU s i t u).set i (lessI (u.getD i []) ((ent t i s).fdiv (ent t s s)) (u.getD s [])) = clrU s (i + 1) t u := by
  refine List.ext_getElem? fun j => ?_
  by_cases e : i = j
  · subst e
    rw [List.getElem?_set_self (by rw [clrU_length]; exact hi)]
    simp only [clrU, List.getElem?_mapIdx, List.getElem?_eq_getElem hi, Option.map_some, ent, List.getD_eq_getElem?_getD, Option.getD_some]
    rw [if_pos (by omega)]
  · rw [List.getElem?_set_ne e]
    simp only [clrU, List.getElem?_mapIdx]
    cases u[j]? with
    | none => rfl
    | some r =>
      simp only [Option.map_some]
      by_cases c : s < j ∧ j < i
      · rw [if_pos c, if_pos (by omega)]
      · rw [if_neg c, if_neg (by omega)]
theorem clrT_zero (s : Nat) (t : Mx) : clrT s (s + 1) t = t := by
  refine List.ext_getElem? fun j => ?_
  simp only [clrT, List.getElem?_mapIdx]
  cases t[j]? with
  | none => rfl
  | some r =>
    simp only [Option.map_some]
    rw [if_neg (by omega)]
theorem clrU_zero (s : Nat) (t u : Mx) : clrU s (s + 1) t u = u := by
  refine List.ext_getElem? fun j => ?_
  simp only [clrU, List.getElem?_mapIdx]
  cases u[j]? with
  | none => rfl
  | some r =>
    simp only [Option.map_some]
    rw [if_neg (by omega)]
theorem swapAt_map {α β : Type} (f : α → β) (xs : List α) (i k : Nat) : swapAt (xs.map f) i k = (swapAt xs i k).map f := by
  unfold swapAt
  rw [List.getElem?_map, List.getElem?_map]
  cases xs[i]? with
  | none => rfl
  | some a =>
    cases xs[k]? with
    | none => rfl
    | some b => simp [List.map_set]
end Gp
end
/-! N -/
section
set_option Elab.async false
set_option linter.all false
set_option maxRecDepth 100000
set_option maxHeartbeats 4000000
namespace Gm
open PySem PySem.Spec PyProof.Rows L2 DL Gp
section
variable {P : Program} {w : World} {K : PySem.W.Frag} {mg : Str → Option Value} {base : Heap}
/-- a list, changing or not -/
def Ls (d : D) (μ : Sto) (xs : List D) : Prop := d = .lst xs ∨ ∃ p, d = .adr p ∧ μ p = some (.lst xs)
theorem Ls.seq {d : D} {μ : Sto} {xs : List D} {k : List D → Prop} (h : Ls d μ xs) (hk : k xs) : onSeq d μ k := by
  rcases h with rfl | ⟨p, rfl, e⟩
  · exact hk
  · exact onL_lst e hk
theorem Ls.ix {d : D} {μ : Sto} {xs : List D} {i : Int} {R : RD} (h : Ls d μ xs) (hk : dAt xs i fun d => R d μ) : pIx d (.int i) μ R := by
  rcases h with rfl | ⟨p, rfl, e⟩
  · exact pIx.lst hk
  · exact pIx.adr e hk
theorem Ls.iter {d : D} {μ : Sto} {xs : List D} {R : List D → (Sto → Prop) → Sto → Prop} (h : Ls d μ xs) (hk : ∀ kp : Sto → Prop, kp μ → (∀ μ', SubS μ μ' → kp μ') → R xs kp μ) : onSq d μ R := by
  rcases h with rfl | ⟨p, rfl, e⟩
  · exact Sq.lst (hk always trivial fun _ _ => trivial)
  · exact Sq.adr e (hk _ e fun μ' s => s _ _ e)
/-- .. of rows -/
abbrev Lm (d : D) (μ : Sto) (t : Mx) : Prop := Ls d μ (t.map ri)
theorem Lm.cell {d : D} {μ : Sto} {t : Mx} {i k : Nat} {R : RD} (h : Lm d μ t) (hi : i < t.length) (hk : k < (t.getD i []).length) (hR : R (.int (ent t i k)) μ) : pIx d (.int (i : Int)) μ fun e μ1 => pIx e (.int (k : Int)) μ1 R :=
  h.ix (dAt_map [] hi (pIx.lst (dAt_map 0 hk hR)))
theorem Lm.row {d : D} {μ : Sto} {t : Mx} {i : Nat} {R : RD} (h : Lm d μ t) (hi : i < t.length) (hR : R (ri (t.getD i [])) μ) : pIx d (.int (i : Int)) μ R := h.ix (dAt_map [] hi hR)
def phiTimesRow : TF := fun ds μ R => ∃ k xs d, ds = [.int k, d] ∧ IsRow d xs ∧ xs.length ≤ sizeLine ∧ (∀ x ∈ xs, IntMulOk k x) ∧ R (ri (timesI k xs)) μ
theorem sc_TimesRow : FnScope ["k", "row", "x"] ["k", "row"] (defScope sTimesRow) := ⟨rfl, rfl, rfl, by decide +kernel, rfl, by decide +kernel, by decide +kernel⟩
theorem okTimesRow (T : Tx K mg) : FnOk P w K mg base CX0 1 (He.ga K "_times_row") (fdOf K (He.ga K "_times_row")) ["k", "row"] (spD K phiTimesRow) := by
  have sc := sc_TimesRow
  refine fnd_ok T.d_TimesRow sc (fun ds μ R h => ?len) fun cdv A outer s H E hr => ⟨_, _, (ss_one (s_ret (d_lc rfl sc.nd (i_seq (dv 1)) (blkOk_by (own := [("x", 2)]) (by first | rfl | kernel_rfl)) fr_name (fun s H C cl fp => (g_name 2 sc.nd)) (fun s H C cl fp => ts_nil) (fun s H C cl fp => (d_bin o_mulI (dv 0) (dv 2)))))), fun ds μ R h => ?_⟩
  case len => obtain ⟨k, xs, d, rfl, _⟩ := h; rfl
  obtain ⟨k, xs, d, rfl, hd, hz, hm, hR⟩ := h
  unfold ri timesI at hR
  rw [List.map_map] at hR
  rcases hd with rfl | rfl
  · exact Sq.lst (lc_map xs D.int (fun x => .int (k * x)) rfl hz trivial (fun a ha Y hY => ⟨hm a ha, hY⟩) (fzR.now hR))
  · exact Sq.tup (lc_map xs D.int (fun x => .int (k * x)) rfl hz trivial (fun a ha Y hY => ⟨hm a ha, hY⟩) (fzR.now hR))
def phiLess : TF := fun ds μ R => ∃ xs k ys d e, ds = [d, .int k, e] ∧ IsRow d xs ∧ IsRow e ys ∧ xs.length ≤ sizeLine ∧ (∀ y ∈ ys, IntMulOk k y) ∧ R (ri (lessI xs k ys)) μ
theorem sc_Less : FnScope ["row", "k", "other", "x", "y"] ["row", "k", "other"] (defScope sLess) := ⟨rfl, rfl, rfl, by decide +kernel, rfl, by decide +kernel, by decide +kernel⟩
theorem okLess (T : Tx K mg) : FnOk P w K mg base CX0 1 (He.ga K "_less") (fdOf K (He.ga K "_less")) ["row", "k", "other"] (spD K phiLess) := by
  have sc := sc_Less
  refine fnd_ok T.d_Less sc (fun ds μ R h => ?len) fun cdv A outer s H E hr => ⟨_, _, (ss_one (s_ret (d_lc rfl sc.nd (i_zip T.n_zip (dv 0) (dv 2)) (blkOk_by (own := [("x", 3), ("y", 4)]) (by first | rfl | kernel_rfl)) fr_two (fun s H C cl fp => (g_tup (n := 2) rfl (gs_cons (g_name 3 sc.nd) (gs_cons (g_name 4 sc.nd) gs_nil)))) (fun s H C cl fp => ts_nil) (fun s H C cl fp => (d_bin o_sub (dv 3) (d_bin o_mulI (dv 1) (dv 4))))))), fun ds μ R h => ?_⟩
  case len => obtain ⟨xs, k, ys, d, e, rfl, _⟩ := h; rfl
  obtain ⟨xs, k, ys, d, e, rfl, hd, he, hz, hm, hR⟩ := h
  unfold ri lessI at hR
  rw [List.map_map] at hR
  have z2 : (xs.zip ys).length ≤ sizeLine := by rw [List.length_zip]; omega
  rcases hd with rfl | rfl <;> rcases he with rfl | rfl <;> exact lc_map (xs.zip ys) (fun p => .tup [.int p.1, .int p.2]) (fun p => .int (p.1 - k * p.2)) (zipD_map _ _ _ _) z2 trivial (fun p hp Y hY => ⟨rfl, hm p.2 (List.of_mem_zip hp).2, hY⟩) (fzR.now hR)
def phiSwap : TF := fun ds μ R => ∃ d xs i k, ds = [d, .int (i : Nat), .int (k : Nat)] ∧ Ls d μ xs ∧ i < xs.length ∧ k < xs.length ∧ ∀ q, μ q = none → R (.adr q) (μ.put q (.lst (swapAt xs i k)))
theorem sc_Swap : FnScope ["rows", "i", "k", "out", "row"] ["rows", "i", "k"] (defScope sSwap) := ⟨rfl, rfl, rfl, by decide +kernel, rfl, by decide +kernel, by decide +kernel⟩
theorem okSwap (T : Tx K mg) : FnOk P w K mg base CX0 1 (He.ga K "_swap") (fdOf K (He.ga K "_swap")) ["rows", "i", "k"] (spD K phiSwap) := by
  have sc := sc_Swap
  refine fnd_ok T.d_Swap sc (fun ds μ R h => ?len) fun cdv A outer s H E hr => ⟨_, _, (ss_cons (s_set 3 sc.nd (d_callTy (c_listM) T.n_list (a_cons (dv 0) a_nil)))
      (ss_cons (s_set 4 sc.nd (d_ix (dv 3) (dv 1)))
      (ss_cons (s_asg (d_ix (dv 3) (dv 2)) (g_sub (dv 3) (dv 1)))
      (ss_cons (s_asg (dv 4) (g_sub (dv 3) (dv 2)))
      (ss_one (s_ret (dv 3))))))), fun ds μ R h => ?_⟩
  case len => obtain ⟨d, xs, i, k, rfl, _⟩ := h; rfl
  obtain ⟨d, xs, i, k, rfl, hd, hi, hk, hR⟩ := h
  refine hd.seq fun q hq => ?_
  have e0 : (μ.put q (.lst xs)) q = some (.lst xs) := Sto.put_same
  refine pIx.adr e0 (dAt_nat hi ?_)
  refine pIx.adr e0 (dAt_nat hk ?_)
  refine onL_lst e0 ⟨i, by unfold ixN; rw [if_pos (by omega), if_pos (by omega)]; rfl, ?_⟩
  refine onL_lst Sto.put_same ⟨k, by unfold ixN; rw [List.length_set, if_pos (by omega), if_pos (by omega)]; rfl, ?_⟩
  have hq := hR q hq
  unfold swapAt at hq
  rw [List.getElem?_eq_getElem hi, List.getElem?_eq_getElem hk] at hq
  rw [Sto.put_put, Sto.put_put]
  exact fzR.now hq
end
end Gm
end
/-! O -/
section
set_option Elab.async false
set_option linter.all false
set_option maxRecDepth 100000
set_option maxHeartbeats 4000000
namespace Gm
open PySem PySem.Spec PyProof.Rows L2 DL Gp
section
variable {P : Program} {w : World} {K : PySem.W.Frag} {mg : Str → Option Value} {base : Heap}
theorem Sto.put_id {μ : Sto} {p : Addr} {o : MO} (h : μ p = some o) : μ.put p o = μ := by
  funext b
  unfold Sto.put
  split
  · rename_i e
    rw [e, h]
  · rfl
theorem range_sub (a b : Nat) : ((b : Int) - (a : Int)).toNat = b - a := by omega
theorem ixN_nat {n i : Nat} (h : i < n) : ixN n (i : Int) = some i := by
  unfold ixN
  rw [if_pos (by omega), if_pos (by omega)]
  rfl
def phiSwapItems : TF := fun ds μ R => ∃ d t i k, ds = [d, .int (i : Nat), .int (k : Nat)] ∧ Lm d μ t ∧ t.length ≤ sizeLine ∧ (∀ r ∈ t, i < r.length ∧ k < r.length) ∧ ∀ q, μ q = none → R (.adr q) (μ.put q (.lst ((t.map fun r => swapAt r i k).map ri)))
theorem sc_SwapItems : FnScope ["rows", "i", "k", "row"] ["rows", "i", "k"] (defScope sSwapItems) := ⟨rfl, rfl, rfl, by decide +kernel, rfl, by decide +kernel, by decide +kernel⟩
theorem okSwapItems (T : Tx K mg) : FnOk P w K mg base CX0 2 (He.ga K "_swap_items") (fdOf K (He.ga K "_swap_items")) ["rows", "i", "k"] (spD K phiSwapItems) := by
  have sc := sc_SwapItems
  have FSwap := okSwap (P := P) (w := w) (base := base) T
  refine fnd_ok T.d_SwapItems sc (fun ds μ R h => ?len) fun cdv A outer s H E hr => ⟨_, _, (ss_one (s_ret (d_lcM rfl sc.nd (i_seq (dv 0)) (blkOk_by (own := [("row", 3)]) (by first | rfl | kernel_rfl)) fr_name (fun s H C cl fp => (g_name 3 sc.nd)) (fun s H C cl fp => ts_nil) (fun s H C cl fp => (d_fz (d_call FSwap (hr.mono (by decide)) T.g_Swap T.d_Swap.kp T.b_Swap (a_cons (dv 3) (a_cons (dv 1) (a_cons (dv 2) a_nil))))))))), fun ds μ R h => ?_⟩
  case len => obtain ⟨d, t, i, k, rfl, _⟩ := h; rfl
  obtain ⟨d, t, i, k, rfl, hd, hz, hl, hR⟩ := h
  refine hd.iter fun kp hk hkp => ?_
  rw [List.map_map] at hR
  refine lc_map t ri (ri ∘ fun r => swapAt r i k) rfl hz hk (fun r hr Y hY => ?_) fun q hq => fzR.now (hR q hq)
  refine ⟨_, r.map D.int, i, k, rfl, .inl rfl, by rw [List.length_map]; exact (hl r hr).1, by rw [List.length_map]; exact (hl r hr).2, fun q hq => ?_⟩
  exact ⟨μ, ri (swapAt r i k), SubS.refl.put hq, .adr hq Sto.put_same (by rw [swapAt_map]; exact Fzs.refl _), hY⟩
def phiTurned : TF := fun ds μ R => ∃ d t n, ds = [d, .int (n : Nat)] ∧ Lm d μ t ∧ t.length ≤ sizeLine ∧ n ≤ sizeLine ∧ (∀ r ∈ t, n ≤ r.length) ∧ ∀ q, μ q = none → R (.adr q) (μ.put q (.lst ((turned t n).map ri)))
theorem lt62 {n : Nat} (h : n ≤ sizeLine) : n < 2 ^ 62 := by
  have : sizeLine = 16777216 := by decide
  omega
theorem sc_Turned : FnScope ["rows", "width", "k", "row"] ["rows", "width"] (defScope sTurned) := ⟨rfl, rfl, rfl, by decide +kernel, rfl, by decide +kernel, by decide +kernel⟩
theorem okTurned (T : Tx K mg) : FnOk P w K mg base CX0 1 (He.ga K "_turned") (fdOf K (He.ga K "_turned")) ["rows", "width"] (spD K phiTurned) := by
  have sc := sc_Turned
  refine fnd_ok T.d_Turned sc (fun ds μ R h => ?len) fun cdv A outer s H E hr => ⟨_, _, (ss_one (s_ret (d_lcM rfl sc.nd (i_range1 T.n_range (dv 1)) (blkOk_by (own := [("k", 2)]) (by first | rfl | kernel_rfl)) fr_name (fun s H C cl fp => (g_name 2 sc.nd)) (fun s H C cl fp => ts_nil) (fun s H C cl fp => (d_lc rfl sc.nd (i_seq (dv 0)) (blkOk_by (own := [("row", 3)]) (by first | rfl | kernel_rfl)) fr_name (fun s H C cl fp => (g_name 3 sc.nd)) (fun s H C cl fp => ts_nil) (fun s H C cl fp => (d_ix (dv 3) (dv 2)))))))), fun ds μ R h => ?_⟩
  case len => obtain ⟨d, t, n, rfl, _⟩ := h; rfl
  obtain ⟨d, t, n, rfl, hd, hz, hn, hl, hR⟩ := h
  refine ⟨RB_nat (lt62 hn), ?_⟩
  unfold turned at hR
  simp only [List.map_map] at hR
  refine lc_map (List.range n) (fun k : Nat => .int (k : Int)) (ri ∘ fun k => t.map fun r => r.getD k 0) ?_ (by rw [List.length_range]; exact hn) trivial (fun k hk Y hY => ?_) fun q hq => fzR.now (hR q hq)
  · rw [show (0 : Int) = ((0 : Nat) : Int) from rfl, rngD_nat, List.range_eq_range']
    rfl
  · refine hd.iter fun kp hkp _ => ?_
    refine lc_map t ri (fun r => .int (r.getD k 0)) rfl hz hkp (fun r hr Z hZ => ?_) ?_
    · exact pIx.lst (dAt_map 0 (by have := hl r hr; have := List.mem_range.mp hk; omega) hZ)
    · have e : (t.map fun r => D.int (r.getD k 0)) = (t.map fun r => r.getD k 0).map D.int := by rw [List.map_map]; rfl
      rw [e]
      exact hY
def phiClearColumn : TF := fun ds μ R => ∃ p q t u s h, ds = [.adr p, .adr q, .int (s : Nat), .int (h : Nat)] ∧ p ≠ q ∧ μ p = some (.lst (t.map ri)) ∧ μ q = some (.lst (u.map ri)) ∧ h ≤ t.length ∧ h ≤ u.length ∧ s < h ∧ h ≤ sizeLine ∧
  (∀ r ∈ t, s < r.length ∧ r.length ≤ sizeLine) ∧ (∀ r ∈ u, r.length ≤ sizeLine) ∧ CDv 0 (ent t s s) ∧ (∀ i, s < i → i < h → (∀ y ∈ t.getD s [], IntMulOk ((ent t i s).fdiv (ent t s s)) y) ∧ ∀ y ∈ u.getD s [], IntMulOk ((ent t i s).fdiv (ent t s s)) y) ∧
  R (.tup [.adr p, .adr q]) ((μ.put p (.lst ((clrT s h t).map ri))).put q (.lst ((clrU s h t u).map ri)))
theorem mem_getD {α : Type} {xs : List α} {i : Nat} {d : α} (h : i < xs.length) : xs.getD i d ∈ xs := by
  rw [List.getD_eq_getElem?_getD, List.getElem?_eq_getElem h]
  exact List.getElem_mem h
theorem sc_ClearColumn : FnScope ["table", "u", "start", "height", "i", "k"] ["table", "u", "start", "height"] (defScope sClearColumn) := ⟨rfl, rfl, rfl, by decide +kernel, rfl, by decide +kernel, by decide +kernel⟩
theorem okClearColumn (T : Tx K mg) : FnOk P w K mg base CX0 2 (He.ga K "_clear_column") (fdOf K (He.ga K "_clear_column")) ["table", "u", "start", "height"] (spD K phiClearColumn) := by
  have sc := sc_ClearColumn
  have FLess := okLess (P := P) (w := w) (base := base) T
  refine fnd_ok T.d_ClearColumn sc (fun ds μ R h => ?len) fun cdv A outer s H E hr => ⟨_, _, (ss_cons (s_for PassesOwn.never rfl (i_range2 T.n_range (d_bin o_add (dv 2) d_int) (dv 3)) (g_name 4 sc.nd) (ss_cons (s_set 5 sc.nd (d_bin o_fdiv (d_ix (d_ix (dv 0) (dv 4)) (dv 2)) (d_ix (d_ix (dv 0) (dv 2)) (dv 2))))
      (ss_cons (s_asg (d_call FLess (hr.mono (by decide)) T.g_Less T.d_Less.kp T.b_Less (a_cons (d_ix (dv 0) (dv 4)) (a_cons (dv 5) (a_cons (d_ix (dv 0) (dv 2)) a_nil)))) (g_sub (dv 0) (dv 4)))
      (ss_one (s_asg (d_call FLess (hr.mono (by decide)) T.g_Less T.d_Less.kp T.b_Less (a_cons (d_ix (dv 1) (dv 4)) (a_cons (dv 5) (a_cons (d_ix (dv 1) (dv 2)) a_nil)))) (g_sub (dv 1) (dv 4)))))))
      (ss_one (s_ret (d_tup (a_cons (dv 0) (a_cons (dv 1) a_nil)))))), fun ds μ R h => ?_⟩
  case len => obtain ⟨p, q, t, u, s, h, rfl, _⟩ := h; rfl
  obtain ⟨p, q, t, u, s, h, rfl, hpq, hp, hq, ht, hu, hs, hz, lt, lu, hdv, hmul, hR⟩ := h
  refine ⟨⟨by omega, by have := lt62 hz; omega⟩, RB_nat (lt62 hz), ?_⟩
  refine for_rng (s + 1) h (by omega) (by omega) (fun i ρ μ' => s < i ∧ i ≤ h ∧ (∃ a b, ρ = [some (.adr p), some (.adr q), some (.int s), some (.int h), a, b]) ∧ μ' = (μ.put p (.lst ((clrT s i t).map ri))).put q (.lst ((clrU s i t u).map ri))) ⟨by omega, by omega, ⟨_, _, rfl⟩, ?_⟩ ?_ ?_
  · rw [clrT_zero, clrU_zero, Sto.put_id hp, Sto.put_id hq]
  · rintro i ρ μ' h1 h2 ⟨h3, h4, ⟨a, b, rfl⟩, rfl⟩
    have ep : ((μ.put p (.lst ((clrT s i t).map ri))).put q (.lst ((clrU s i t u).map ri))) p = some (.lst ((clrT s i t).map ri)) := by rw [Sto.put_ne hpq, Sto.put_same]
    have eq' : ((μ.put p (.lst ((clrT s i t).map ri))).put q (.lst ((clrU s i t u).map ri))) q = some (.lst ((clrU s i t u).map ri)) := Sto.put_same
    have ti : (clrT s i t).getD i [] = t.getD i [] := clrT_get s i t i (.inr (Nat.le_refl _))
    have ts : (clrT s i t).getD s [] = t.getD s [] := clrT_get s i t s (.inl (Nat.le_refl _))
    have ui : (clrU s i t u).getD i [] = u.getD i [] := clrU_get s i t u i (.inr (Nat.le_refl _))
    have us : (clrU s i t u).getD s [] = u.getD s [] := clrU_get s i t u s (.inl (Nat.le_refl _))
    have Tp : Lm (.adr p) ((μ.put p (.lst ((clrT s i t).map ri))).put q (.lst ((clrU s i t u).map ri))) (clrT s i t) := .inr ⟨p, rfl, ep⟩
    have li : i < (clrT s i t).length := by rw [clrT_length]; omega
    have ls : s < (clrT s i t).length := by rw [clrT_length]; omega
    have wi := lt _ (mem_getD (d := []) (show i < t.length by omega))
    have ws := lt _ (mem_getD (d := []) (show s < t.length by omega))
    have e1 : ent (clrT s i t) i s = ent t i s := by unfold ent; rw [ti]
    have e2 : ent (clrT s i t) s s = ent t s s := by unfold ent; rw [ts]
    refine Tp.cell li (by rw [ti]; exact wi.1) (Tp.cell ls (by rw [ts]; exact ws.1) ?_)
    rw [e1, e2]
    refine ⟨hdv, ?_⟩
    obtain ⟨m1, m2⟩ := hmul i (by omega) h2
    refine Tp.row li ?_
    refine Tp.row ls ?_
    refine ⟨_, _, _, _, _, rfl, .inl rfl, .inl rfl, by rw [ti]; exact wi.2, by rw [ts]; exact m1, ?_⟩
    rw [ti, ts]
    refine onL_lst ep ⟨i, ixN_nat (by rw [List.length_map]; exact li), ?_⟩
    rw [← List.map_set, clrT_step s i t h3 (by omega)]
    have eq2 : ((μ.put p (.lst ((clrT s i t).map ri))).put q (.lst ((clrU s i t u).map ri))).put p (.lst ((clrT s (i + 1) t).map ri)) = (μ.put p (.lst ((clrT s (i + 1) t).map ri))).put q (.lst ((clrU s i t u).map ri)) := by
      rw [Sto.put_comm (Ne.symm hpq), Sto.put_put]
    rw [eq2]
    have eu : ((μ.put p (.lst ((clrT s (i + 1) t).map ri))).put q (.lst ((clrU s i t u).map ri))) q = some (.lst ((clrU s i t u).map ri)) := Sto.put_same
    have Uq : Lm (.adr q) ((μ.put p (.lst ((clrT s (i + 1) t).map ri))).put q (.lst ((clrU s i t u).map ri))) (clrU s i t u) := .inr ⟨q, rfl, eu⟩
    have lui : i < (clrU s i t u).length := by rw [clrU_length]; omega
    have lus : s < (clrU s i t u).length := by rw [clrU_length]; omega
    refine Uq.row lui ?_
    refine Uq.row lus ?_
    refine ⟨_, _, _, _, _, rfl, .inl rfl, .inl rfl, by rw [ui]; exact lu _ (mem_getD (by omega)), by rw [us]; exact m2, ?_⟩
    rw [ui, us]
    refine onL_lst eu ⟨i, ixN_nat (by rw [List.length_map]; exact lui), ?_⟩
    rw [← List.map_set, clrU_step s i t u h3 (by omega), Sto.put_put]
    exact ⟨by omega, by omega, ⟨_, _, rfl⟩, rfl⟩
  · rintro ρ μ' ⟨h3, h4, ⟨a, b, rfl⟩, rfl⟩
    rw [show max (s + 1) h = h from by omega]
    exact ⟨by show 2 ≤ sizeLine; decide, fzR.now hR⟩
def phiIsClear : TF := fun ds μ R => ∃ d t s h n, ds = [d, .int (s : Nat), .int (h : Nat), .int (n : Nat)] ∧ Lm d μ t ∧ s < h ∧ s < n ∧ h ≤ t.length ∧ h ≤ sizeLine ∧ n ≤ sizeLine ∧ (∀ r ∈ t, n ≤ r.length) ∧ R (.bl (decide (below t s h = [] ∧ beside t s n = []))) μ
theorem rng_nat2 {a b : Nat} {lo hi : Int} (h1 : lo = (a : Int)) (h2 : hi = (b : Int)) : rngD lo (hi - lo).toNat = (List.range' a (b - a)).map fun i : Nat => D.int (i : Int) := by
  subst h1 h2
  rw [range_sub, rngD_nat]
theorem len0 {α : Type} (xs : List α) : (id (decide (((xs.length : Nat) : Int) = 0))) = decide (xs = []) := by
  cases xs with
  | nil => rfl
  | cons a r => simp; omega
theorem sc_IsClear : FnScope ["table", "start", "height", "width", "i", "below", "k", "beside"] ["table", "start", "height", "width"] (defScope sIsClear) := ⟨rfl, rfl, rfl, by decide +kernel, rfl, by decide +kernel, by decide +kernel⟩
theorem okIsClear (T : Tx K mg) : FnOk P w K mg base CX0 1 (He.ga K "_is_clear") (fdOf K (He.ga K "_is_clear")) ["table", "start", "height", "width"] (spD K phiIsClear) := by
  have sc := sc_IsClear
  refine fnd_ok T.d_IsClear sc (fun ds μ R h => ?len) fun cdv A outer s H E hr => ⟨_, _, (ss_cons (s_setLc 5 rfl sc.nd (i_range2 T.n_range (d_bin o_add (dv 1) d_int) (dv 2)) (blkOk_by (own := [("i", 4)]) (by first | rfl | kernel_rfl)) fr_name (fun s H C cl fp => (g_name 4 sc.nd)) (fun s H C cl fp => (ts_one (t_cmp (o_ne (hu hr)) (d_ix (d_ix (dv 0) (dv 4)) (dv 1)) d_int))) (fun s H C cl fp => (dv 4)))
      (ss_cons (s_setLc 7 rfl sc.nd (i_range2 T.n_range (d_bin o_add (dv 1) d_int) (dv 3)) (blkOk_by (own := [("k", 6)]) (by first | rfl | kernel_rfl)) fr_name (fun s H C cl fp => (g_name 6 sc.nd)) (fun s H C cl fp => (ts_one (t_cmp (o_ne (hu hr)) (d_ix (d_ix (dv 0) (dv 1)) (dv 6)) d_int))) (fun s H C cl fp => (dv 6)))
      (ss_one (s_ret (d_and (d_cmp (o_eq (hu hr)) (d_callB (c_len) T.n_len (a_cons (dv 5) a_nil)) d_int) (d_one (d_cmp (o_eq (hu hr)) (d_callB (c_len) T.n_len (a_cons (dv 7) a_nil)) d_int))))))), fun ds μ R h => ?_⟩
  case len => obtain ⟨d, t, s, h, n, rfl, _⟩ := h; rfl
  obtain ⟨d, t, s, h, n, rfl, hd, hs, hs2, ht, hz, hz2, hl, hR⟩ := h
  refine ⟨⟨by omega, by have := lt62 hz; omega⟩, RB_nat (lt62 hz), ?_⟩
  refine lc_fil (List.range' (s + 1) (h - (s + 1))) (fun i : Nat => .int (i : Int)) (fun i : Nat => .int (i : Int)) (fun i => decide (ent t i s ≠ 0)) (rng_nat2 (by omega) rfl) (by rw [List.length_range']; omega) trivial (fun i hi Y N hy hn => ?_) ?_
  · have hi' := List.mem_range'_1.mp hi
    have wi := hl _ (mem_getD (d := []) (show i < t.length by omega))
    refine hd.cell (by omega) (by omega) ?_
    by_cases c : ent t i s = 0
    · have e : (!decide (ent t i s = 0)) = false := by simp [c]
      show if (!decide (ent t i s = 0)) = true then _ else _
      rw [e]
      exact hn (by simp [c])
    · have e : (!decide (ent t i s = 0)) = true := by simp [c]
      show if (!decide (ent t i s = 0)) = true then _ else _
      rw [e]
      exact hy (by simp [c])
  refine ⟨⟨by omega, by have := lt62 hz; omega⟩, RB_nat (lt62 hz2), ?_⟩
  refine lc_fil (List.range' (s + 1) (n - (s + 1))) (fun i : Nat => .int (i : Int)) (fun i : Nat => .int (i : Int)) (fun k => decide (ent t s k ≠ 0)) (rng_nat2 (by omega) rfl) (by rw [List.length_range']; omega) trivial (fun i hi Y N hy hn => ?_) ?_
  · have hi' := List.mem_range'_1.mp hi
    have wi := hl _ (mem_getD (d := []) (show s < t.length by omega))
    refine hd.cell (by omega) (by omega) ?_
    by_cases c : ent t s i = 0
    · have e : (!decide (ent t s i = 0)) = false := by simp [c]
      show if (!decide (ent t s i = 0)) = true then _ else _
      rw [e]
      exact hn (by simp [c])
    · have e : (!decide (ent t s i = 0)) = true := by simp [c]
      show if (!decide (ent t s i = 0)) = true then _ else _
      rw [e]
      exact hy (by simp [c])
  have g : ∀ b1 b2 : Bool, b1 = decide ((below t s h).map (fun i : Nat => D.int (i : Int)) = []) → b2 = decide ((beside t s n).map (fun i : Nat => D.int (i : Int)) = []) → (if b1 = true then fzR R (.bl b2) μ else fzR R (.bl false) μ) := fun b1 b2 e1 e2 => by
    have e3 : decide (below t s h = [] ∧ beside t s n = []) = (b1 && b2) := by simp [e1, e2]
    rw [e3] at hR
    cases b1 with
    | true => exact fzR.now hR
    | false => exact fzR.now hR
  exact g _ _ (len0 _) (len0 _)
end
end Gm
end
/-! Sm -/
section
set_option Elab.async false
set_option linter.all false
namespace Gp
/-! ### Smith's form of small tables -/
abbrev Fn := Nat → Nat → Int
structure Sh (t : Mx) (h w : Nat) : Prop where
  len : t.length = h
  row : ∀ r ∈ t, r.length = w
theorem swapAt_length {α : Type} (xs : List α) (i k : Nat) : (swapAt xs i k).length = xs.length := by
  unfold swapAt
  split <;> simp
theorem swapAt_mem {α : Type} {xs : List α} {i k : Nat} {r : α} (h : r ∈ swapAt xs i k) : r ∈ xs := by
  unfold swapAt at h
  split at h
  · rename_i a b ha hb
    rcases List.mem_or_eq_of_mem_set h with h | h
    · rcases List.mem_or_eq_of_mem_set h with h | h
      · exact h
      · rw [h]; exact List.mem_of_getElem? hb
    · rw [h]; exact List.mem_of_getElem? ha
  · exact h
theorem lessI_length (xs : List Int) (k : Int) (ys : List Int) : (lessI xs k ys).length = min xs.length ys.length := by simp [lessI]
theorem Sh.swap {t : Mx} {h w : Nat} (s : Sh t h w) (i k : Nat) : Sh (swapAt t i k) h w := ⟨by rw [swapAt_length]; exact s.len, fun r hr => s.row r (swapAt_mem hr)⟩
theorem Sh.swapC {t : Mx} {h w : Nat} (s : Sh t h w) (i k : Nat) : Sh (t.map fun r => swapAt r i k) h w := ⟨by rw [List.length_map]; exact s.len, fun r hr => by
  obtain ⟨x, hx, rfl⟩ := List.mem_map.mp hr
  rw [swapAt_length]
  exact s.row x hx⟩
theorem Sh.clrU {t u : Mx} {h w : Nat} (s : Sh u h w) {a i : Nat} (ha : a < h) : Sh (clrU a i t u) h w := ⟨by rw [clrU_length]; exact s.len, fun r hr => by
  unfold Gp.clrU at hr
  obtain ⟨j, hj, rfl⟩ := List.mem_mapIdx.mp hr
  have hs : (u.getD a []).length = w := s.row _ (by
    have hl : a < u.length := by rw [s.len]; exact ha
    rw [List.getD_eq_getElem?_getD, List.getElem?_eq_getElem hl]
    exact List.getElem_mem hl)
  split
  · rw [lessI_length, hs, s.row _ (List.getElem_mem hj), Nat.min_self]
  · exact s.row _ (List.getElem_mem hj)⟩
theorem Sh.clrT {t : Mx} {h w : Nat} (s : Sh t h w) {a i : Nat} (ha : a < h) : Sh (clrT a i t) h w := ⟨by rw [clrT_length]; exact s.len, fun r hr => by
  unfold Gp.clrT at hr
  obtain ⟨j, hj, rfl⟩ := List.mem_mapIdx.mp hr
  have hs : (t.getD a []).length = w := s.row _ (by
    have hl : a < t.length := by rw [s.len]; exact ha
    rw [List.getD_eq_getElem?_getD, List.getElem?_eq_getElem hl]
    exact List.getElem_mem hl)
  split
  · rw [lessI_length, hs, s.row _ (List.getElem_mem hj), Nat.min_self]
  · exact s.row _ (List.getElem_mem hj)⟩
theorem Sh.turned {t : Mx} {h w : Nat} (s : Sh t h w) : Sh (turned t w) w h := ⟨by simp [Gp.turned], fun r hr => by
  unfold Gp.turned at hr
  obtain ⟨k, _, rfl⟩ := List.mem_map.mp hr
  rw [List.length_map]
  exact s.len⟩
theorem Sh.set {t : Mx} {h w : Nat} (s : Sh t h w) {i : Nat} {r : List Int} (hr : r.length = w) : Sh (t.set i r) h w := ⟨by rw [List.length_set]; exact s.len, fun x hx => by
  rcases List.mem_or_eq_of_mem_set hx with hx | rfl
  · exact s.row x hx
  · exact hr⟩
theorem ent_turned {t : Mx} {h w : Nat} (s : Sh t h w) {i k : Nat} (hi : i < h) (hk : k < w) : ent (turned t w) k i = ent t i k := by
  have hl : i < t.length := by rw [s.len]; exact hi
  unfold ent Gp.turned
  simp [List.getD_eq_getElem?_getD, List.getElem?_range hk, List.getElem?_eq_getElem hl]
/-- the determinant of the n by n corner, n <= 3 -/
def detF : Nat → Fn → Int
  | 0, _ => 1
  | 1, f => f 0 0
  | 2, f => f 0 0 * f 1 1 - f 0 1 * f 1 0
  | 3, f => f 0 0 * (f 1 1 * f 2 2 - f 1 2 * f 2 1) - f 0 1 * (f 1 0 * f 2 2 - f 1 2 * f 2 0) + f 0 2 * (f 1 0 * f 2 1 - f 1 1 * f 2 0)
  | _, _ => 0
/-- the h rows of f can be completed to a unimodular matrix -/
def Comp (h w : Nat) (f : Fn) : Prop := ∃ F : Fn, (∀ i k, i < h → k < w → F i k = f i k) ∧ (detF w F = 1 ∨ detF w F = -1)
/-- what Smith's form promises -/
structure FS (h w : Nat) (f0 : Fn) (t : Mx) : Prop where
  sh : Sh t h w
  dg : ∀ i k, i < h → k < w → i ≠ k → ent t i k = 0
  ps : ∀ i, i < h → 0 ≤ ent t i i
  eq : Comp h w f0 ↔ Comp h w (ent t)
/-- how far the block is from being done -/
def Ms (h w s a : Nat) (f : Fn) : Prop := (∀ i k, s ≤ i → i < h → s ≤ k → k < w → f i k = 0) ∨ (∃ i k, s ≤ i ∧ i < h ∧ s ≤ k ∧ k < w ∧ f i k ≠ 0 ∧ 2 * (f i k).natAbs + 1 ≤ a) ∨
  (f s s ≠ 0 ∧ 2 * (f s s).natAbs ≤ a ∧ ∃ k, s < k ∧ k < w ∧ ¬ f s s ∣ f s k)
def mn (f : Fn) (i j k l : Nat) : Int := f i k * f j l - f i l * f j k
/-- how far the minors may have grown -/
def gB (a : Nat) : Nat := 8 ^ (12 - a / 2) * 2 ^ 20
/-- the bounds of the block -/
inductive Bd (h w s a : Nat) (f : Fn) : Prop where
  | big (hs : s = 0) (hw : w = 3) (hh : h = 2 ∨ h = 3) (ha : a ≤ 25) (hm : ∀ i j k l, i < h → j < h → k < w → l < w → (mn f i j k l).natAbs ≤ gB a) (h3 : h = 3 → (detF 3 f).natAbs ≤ 2 ^ 20)
      (he : ∀ i k, i < h → k < w → (f i k).natAbs ≤ gB a + 2 ^ 20)
  | two (hh : h = s + 2) (hw : w = s + 2) (hd : (mn f s (s + 1) s (s + 1)).natAbs ≤ 2 ^ 20) (he : ∀ i k, s ≤ i → i < h → s ≤ k → k < w → (f i k).natAbs ≤ 2 ^ 61) (hp : ∃ i k, s ≤ i ∧ i < h ∧ s ≤ k ∧ k < w ∧ f i k ≠ 0 ∧ (f i k).natAbs ≤ 2 ^ 60)
  | one (hh : h = s + 1) (he : ∀ k, s ≤ k → k < w → (f s k).natAbs ≤ 2 ^ 61)
  | zero (hz : ∀ i k, s ≤ i → i < h → s ≤ k → k < w → f i k = 0)
structure SI (h w : Nat) (f0 : Fn) (s a : Nat) (t : Mx) : Prop where
  sh : Sh t h w
  h1 : 1 ≤ h
  hw : h ≤ w
  w3 : w ≤ 3
  hs : s ≤ h
  cl : ∀ i k, i < h → k < w → i < s ∨ k < s → i ≠ k → ent t i k = 0
  ps : ∀ i, i < s → 0 ≤ ent t i i
  eq : Comp h w f0 ↔ Comp h w (ent t)
  bd : Bd h w s a (ent t)
  ms : Ms h w s a (ent t)
theorem SI.fin {h w : Nat} {f0 : Fn} {a : Nat} {t : Mx} (I : SI h w f0 h a t) : FS h w f0 t := ⟨I.sh, fun i k hi hk hne => I.cl i k hi hk (.inl hi) hne, fun i hi => I.ps i hi, I.eq⟩
theorem SI.zero {h w : Nat} {f0 : Fn} {s a : Nat} {t : Mx} (I : SI h w f0 s a t) (hz : ∀ i k, s ≤ i → i < h → s ≤ k → k < w → ent t i k = 0) : FS h w f0 t := by
  refine ⟨I.sh, fun i k hi hk hne => ?_, fun i hi => ?_, I.eq⟩
  · by_cases c : i < s ∨ k < s
    · exact I.cl i k hi hk c hne
    · exact hz i k (by omega) hi (by omega) hk
  · by_cases c : i < s
    · exact I.ps i c
    · rw [hz i i (by omega) hi (by omega) (by have := I.hw; omega)]
      exact Int.le_refl 0
/-- the tables of one turn -/
def tu2 (t : Mx) (s i k : Nat) : Mx := (swapAt t s i).map fun r => swapAt r s k
def tu3 (t : Mx) (s h i k : Nat) : Mx := clrT s h (tu2 t s i k)
def tu4 (t : Mx) (s h w i k : Nat) : Mx := turned (clrT s w (turned (tu3 t s h i k) w)) h
structure Pv (h w s : Nat) (f : Fn) (i k : Nat) : Prop where
  hi : s ≤ i ∧ i < h
  hk : s ≤ k ∧ k < w
  ne : f i k ≠ 0
  le : ∀ i' k', s ≤ i' → i' < h → s ≤ k' → k' < w → f i' k' ≠ 0 → (f i k).natAbs ≤ (f i' k').natAbs
  tie : f s s ≠ 0 → (f s s).natAbs ≤ (f i k).natAbs → i = s ∧ k = s
structure Turn (h w : Nat) (f0 : Fn) (s a : Nat) (t : Mx) (i k : Nat) : Prop where
  s2 : Sh (tu2 t s i k) h w
  n2 : ent (tu2 t s i k) s s ≠ 0
  b2 : ∀ i' k', s ≤ i' → i' < h → s ≤ k' → k' < w → (ent (tu2 t s i k) i' k').natAbs < 2 ^ 63
  z2 : ∀ k', k' < s → ent (tu2 t s i k) s k' = 0
  s3 : Sh (tu3 t s h i k) h w
  n3 : ent (turned (tu3 t s h i k) w) s s ≠ 0
  b3 : ∀ i' k', s ≤ i' → i' < h → s ≤ k' → k' < w → (ent (tu3 t s h i k) i' k').natAbs < 2 ^ 63
  s4 : Sh (tu4 t s h w i k) h w
  n4 : ent (tu4 t s h w i k) s s ≠ 0
  again : ¬ (below (tu4 t s h w i k) s h = [] ∧ beside (tu4 t s h w i k) s w = []) → ∃ a', a' < a ∧ SI h w f0 s a' (tu4 t s h w i k)
  unfit : below (tu4 t s h w i k) s h = [] ∧ beside (tu4 t s h w i k) s w = [] → ∀ r l, s < r → r < h → s < l → l < w → ¬ ent (tu4 t s h w i k) s s ∣ ent (tu4 t s h w i k) r l →
    ∃ a', a' < a ∧ SI h w f0 s a' ((tu4 t s h w i k).set s (lessI ((tu4 t s h w i k).getD s []) (-1) ((tu4 t s h w i k).getD r [])))
  done : below (tu4 t s h w i k) s h = [] ∧ beside (tu4 t s h w i k) s w = [] → (∀ r l, s < r → r < h → s < l → l < w → ent (tu4 t s h w i k) s s ∣ ent (tu4 t s h w i k) r l) →
    ∃ a', a' < 2 ^ 70 ∧ SI h w f0 (s + 1) a' (if ent (tu4 t s h w i k) s s < 0 then (tu4 t s h w i k).set s (timesI (-1) ((tu4 t s h w i k).getD s [])) else tu4 t s h w i k)
end Gp
end
/-! Dt -/
section
set_option Elab.async false
set_option linter.all false
namespace Gp
/-! ### Bareiss -/
def chosen (t : Mx) (k n : Nat) : List Nat := (List.range' k (n - k)).filter fun i => decide (ent t i k ≠ 0)
def elimRow (hk bf : Int) (r head : List Int) (f : Int) : List Int := (r.zip head).map fun p => (hk * p.1 - f * p.2).fdiv bf
def barT (k i : Nat) (bf : Int) (t : Mx) : Mx := t.mapIdx fun j r => if k < j ∧ j < i then elimRow (ent t k k) bf r (t.getD k []) (r.getD k 0) else r
def barStep (n k : Nat) (s : Mx × Int × Int) : Option (Mx × Int × Int) := match chosen s.1 k n with
  | [] => none
  | c :: _ => if c ≠ k then some (barT k n s.2.2 (swapAt s.1 k c), -s.2.1, ent (swapAt s.1 k c) k k) else some (barT k n s.2.2 s.1, s.2.1, ent s.1 k k)
/-- the first k steps -/
def barRun (n : Nat) (m : Mx) : Nat → Option (Mx × Int × Int)
  | 0 => some (m, 1, 1)
  | k + 1 => (barRun n m k).bind (barStep n k)
theorem barT_length (k i : Nat) (bf : Int) (t : Mx) : (barT k i bf t).length = t.length := by simp [barT]
theorem barT_get (k i : Nat) (bf : Int) (t : Mx) (j : Nat) (h : j ≤ k ∨ i ≤ j) : (barT k i bf t).getD j [] = t.getD j [] := by
  simp only [barT, List.getD_eq_getElem?_getD, List.getElem?_mapIdx]
  cases t[j]? with
  | none => rfl
  | some r =>
    simp only [Option.map_some, Option.getD_some]
    rw [if_neg (by omega)]
theorem barT_step (k i : Nat) (bf : Int) (t : Mx) (h : k < i) (hi : i < t.length) : (barT k i bf t).set i (elimRow (ent t k k) bf (t.getD i []) (t.getD k []) (ent t i k)) = barT k (i + 1) bf t := by
  refine List.ext_getElem? fun j => ?_
  by_cases e : i = j
  · subst e
    rw [List.getElem?_set_self (by rw [barT_length]; exact hi)]
    simp only [barT, List.getElem?_mapIdx, List.getElem?_eq_getElem hi, Option.map_some, ent, List.getD_eq_getElem?_getD, Option.getD_some]
    rw [if_pos (by omega)]
  · rw [List.getElem?_set_ne e]
    simp only [barT, List.getElem?_mapIdx]
    cases t[j]? with
    | none => rfl
    | some r =>
      simp only [Option.map_some]
      by_cases c : k < j ∧ j < i
      · rw [if_pos c, if_pos (by omega)]
      · rw [if_neg c, if_neg (by omega)]
theorem barT_zero (k : Nat) (bf : Int) (t : Mx) : barT k (k + 1) bf t = t := by
  refine List.ext_getElem? fun j => ?_
  simp only [barT, List.getElem?_mapIdx]
  cases t[j]? with
  | none => rfl
  | some r =>
    simp only [Option.map_some]
    rw [if_neg (by omega)]
theorem elimRow_length (hk bf : Int) (r head : List Int) (f : Int) : (elimRow hk bf r head f).length = min r.length head.length := by simp [elimRow]
theorem Sh.barT {t : Mx} {n w : Nat} (s : Sh t n w) {k i : Nat} {bf : Int} (hk : k < n) : Sh (barT k i bf t) n w := ⟨by rw [barT_length]; exact s.len, fun r hr => by
  unfold Gp.barT at hr
  obtain ⟨j, hj, rfl⟩ := List.mem_mapIdx.mp hr
  have hs : (t.getD k []).length = w := s.row _ (by
    have hl : k < t.length := by rw [s.len]; exact hk
    rw [List.getD_eq_getElem?_getD, List.getElem?_eq_getElem hl]
    exact List.getElem_mem hl)
  split
  · rw [elimRow_length, hs, s.row _ (List.getElem_mem hj), Nat.min_self]
  · exact s.row _ (List.getElem_mem hj)⟩
theorem ent_barT {t : Mx} {n w : Nat} (s : Sh t n w) {k i : Nat} {bf : Int} (hk : k < n) {a b : Nat} (ha : a < n) (hb : b < w) :
    ent (barT k i bf t) a b = if k < a ∧ a < i then (ent t k k * ent t a b - ent t a k * ent t k b).fdiv bf else ent t a b := by
  have la : a < t.length := by rw [s.len]; exact ha
  have lk : k < t.length := by rw [s.len]; exact hk
  have ra : t[a].length = w := s.row _ (List.getElem_mem la)
  have rk : t[k].length = w := s.row _ (List.getElem_mem lk)
  unfold ent Gp.barT
  simp only [List.getD_eq_getElem?_getD, List.getElem?_mapIdx, List.getElem?_eq_getElem la, List.getElem?_eq_getElem lk, Option.map_some, Option.getD_some]
  split
  · unfold elimRow
    have l1 : b < t[a].length := by omega
    have l2 : b < t[k].length := by omega
    have z : (t[a].zip t[k])[b]? = some (t[a][b], t[k][b]) := List.getElem?_zip_eq_some.mpr ⟨List.getElem?_eq_getElem l1, List.getElem?_eq_getElem l2⟩
    rw [List.getElem?_map, z]
    simp [List.getElem?_eq_getElem (by omega : b < t[a].length), List.getElem?_eq_getElem (by omega : b < t[k].length), ent, List.getD_eq_getElem?_getD, List.getElem?_eq_getElem lk]
  · rfl
theorem ent_swapAt {t : Mx} {i k a b : Nat} (hi : i < t.length) (hk : k < t.length) : ent (swapAt t i k) a b = ent t (if a = k then i else if a = i then k else a) b := by
  have q : (swapAt t i k).getD a [] = t.getD (if a = k then i else if a = i then k else a) [] := by
    unfold swapAt
    rw [List.getElem?_eq_getElem hi, List.getElem?_eq_getElem hk]
    simp only [List.getD_eq_getElem?_getD]
    by_cases e1 : a = k
    · subst e1
      rw [List.getElem?_set_self (by rw [List.length_set]; exact hk), if_pos rfl, List.getElem?_eq_getElem hi]
    · rw [List.getElem?_set_ne (Ne.symm e1), if_neg e1]
      by_cases e2 : a = i
      · subst e2
        rw [List.getElem?_set_self hi, if_pos rfl, List.getElem?_eq_getElem hk]
      · rw [List.getElem?_set_ne (Ne.symm e2), if_neg e2]
  unfold ent
  rw [q]
theorem fdiv_natAbs (a b : Int) (h : b ≠ 0) : (a.fdiv b).natAbs ≤ a.natAbs := by
  by_cases c : 0 ≤ b
  · rw [Int.fdiv_eq_ediv_of_nonneg _ c]
    exact Int.natAbs_ediv_le_natAbs a b
  · have e : a.fdiv b = (-a) / (-b) := by
      rw [← Int.fdiv_eq_ediv_of_nonneg _ (by omega : 0 ≤ -b), Int.neg_fdiv_neg]
    rw [e]
    have := Int.natAbs_ediv_le_natAbs (-a) (-b)
    rw [Int.natAbs_neg] at this
    exact this
end Gp
namespace Gp
theorem swapAt_self {α : Type} (xs : List α) (k : Nat) : swapAt xs k k = xs := by
  unfold swapAt
  split
  · rename_i a b h1 h2
    rw [h1] at h2
    cases h2
    refine List.ext_getElem? fun j => ?_
    by_cases e : k = j
    · subst e
      have hl : k < xs.length := (List.getElem?_eq_some_iff.mp h1).1
      rw [List.getElem?_set_self (by rw [List.length_set]; exact hl), h1]
    · rw [List.getElem?_set_ne e, List.getElem?_set_ne e]
  · rfl
theorem chosen_nil {t : Mx} {k n : Nat} (h : chosen t k n = []) : ∀ i, k ≤ i → i < n → ent t i k = 0 := fun i h1 h2 => by
  by_cases c : ent t i k = 0
  · exact c
  · have : i ∈ chosen t k n := List.mem_filter.mpr ⟨List.mem_range'_1.mpr ⟨h1, by omega⟩, by simpa using c⟩
    rw [h] at this
    cases this
theorem chosen_cons {t : Mx} {k n c : Nat} {r : List Nat} (h : chosen t k n = c :: r) : k ≤ c ∧ c < n ∧ ent t c k ≠ 0 := by
  have : c ∈ chosen t k n := by rw [h]; exact List.mem_cons_self ..
  obtain ⟨h1, h2⟩ := List.mem_filter.mp this
  have := List.mem_range'_1.mp h1
  exact ⟨this.1, by omega, by simpa using h2⟩
/-- the bounds of the entries -/
def bX : Nat → Nat
  | 0 => 2 ^ 14
  | 1 => 2 ^ 29
  | _ => 2 ^ 59
structure BarI (n : Nat) (m : Mx) (k : Nat) (t : Mx) (sg bf : Int) : Prop where
  run : barRun n m k = some (t, sg, bf)
  sh : Sh t n n
  bd : ∀ i j, i < n → j < n → (ent t i j).natAbs ≤ bX k
  sgn : sg = 1 ∨ sg = -1
  bfn : bf ≠ 0 ∧ bf.natAbs ≤ bX k
theorem bX_mono (k : Nat) : bX k ≤ bX (k + 1) := by
  match k with
  | 0 => decide
  | 1 => decide
  | k + 2 => exact Nat.le_refl _
theorem bX_top (k : Nat) : bX k ≤ 2 ^ 59 := by
  match k with
  | 0 => decide
  | 1 => decide
  | k + 2 => exact Nat.le_refl _
theorem BarI.swap {n : Nat} {m : Mx} {k c : Nat} {t : Mx} {sg bf : Int} (I : BarI n m k t sg bf) (hk : k < n) (hc : c < n) : Sh (swapAt t k c) n n ∧ ∀ i j, i < n → j < n → (ent (swapAt t k c) i j).natAbs ≤ bX k := by
  refine ⟨I.sh.swap k c, fun i j hi hj => ?_⟩
  rw [ent_swapAt (by rw [I.sh.len]; exact hk) (by rw [I.sh.len]; exact hc)]
  exact I.bd _ j (by split <;> first | omega | (split <;> omega)) hj
theorem BarI.next {n : Nat} {m : Mx} {k c : Nat} {r : List Nat} {t : Mx} {sg bf : Int} (I : BarI n m k t sg bf) (hk : k < n) (hn : n ≤ 3) (hc : chosen t k n = c :: r) :
    BarI n m (k + 1) (barT k n bf (swapAt t k c)) (if c ≠ k then -sg else sg) (ent (swapAt t k c) k k) := by
  obtain ⟨c1, c2, c3⟩ := chosen_cons hc
  obtain ⟨s1, b1⟩ := I.swap hk c2
  have ekk : ent (swapAt t k c) k k = ent t c k := by
    rw [ent_swapAt (by rw [I.sh.len]; exact hk) (by rw [I.sh.len]; exact c2)]
    by_cases e : k = c
    · rw [if_pos e, ← e]
    · rw [if_neg e, if_pos rfl]
  refine ⟨?_, s1.barT hk, fun i j hi hj => ?_, ?_, ?_, ?_⟩
  · show (barRun n m k).bind (barStep n k) = _
    rw [I.run]
    show barStep n k (t, sg, bf) = _
    unfold barStep
    rw [hc]
    by_cases e : c = k
    · subst e
      simp [swapAt_self]
    · simp [e]
  · rw [ent_barT s1 hk hi hj]
    split
    · rename_i hh
      have b2 := b1 k k hk hk
      have b3 := b1 i j hi hj
      have b4 := b1 i k hi hk
      have b5 := b1 k j hk hj
      refine Nat.le_trans (fdiv_natAbs _ _ I.bfn.1) ?_
      refine Nat.le_trans (Int.natAbs_sub_le _ _) ?_
      rw [Int.natAbs_mul, Int.natAbs_mul]
      have m1 := Nat.mul_le_mul b2 b3
      have m2 := Nat.mul_le_mul b4 b5
      have : bX k * bX k + bX k * bX k ≤ bX (k + 1) := by
        have : k = 0 ∨ k = 1 := by omega
        rcases this with rfl | rfl <;> decide
      omega
    · exact Nat.le_trans (b1 i j hi hj) (bX_mono k)
  · rcases I.sgn with e | e <;> rw [e] <;> split <;> simp
  · rw [ekk]; exact c3
  · exact Nat.le_trans (b1 k k hk hk) (bX_mono k)
end Gp
end
/-! Du -/
section
set_option Elab.async false
set_option linter.all false
namespace Gp
def swF (F : Fn) (k c : Nat) : Fn := fun i j => F (if i = c then k else if i = k then c else i) j
theorem det_sw {n k c : Nat} (hn : n ≤ 3) (hk : k < n) (hc : c < n) (F : Fn) : detF n (swF F k c) = (if c ≠ k then -1 else 1) * detF n F := by
  have : n = 1 ∨ n = 2 ∨ n = 3 := by omega
  rcases this with rfl | rfl | rfl
  · have e1 : k = 0 := by omega
    have e2 : c = 0 := by omega
    subst e1 e2
    simp [detF, swF]
  · have h1 : k = 0 ∨ k = 1 := by omega
    have h2 : c = 0 ∨ c = 1 := by omega
    rcases h1 with rfl | rfl <;> rcases h2 with rfl | rfl <;> simp [detF, swF] <;> grind
  · have h1 : k = 0 ∨ k = 1 ∨ k = 2 := by omega
    have h2 : c = 0 ∨ c = 1 ∨ c = 2 := by omega
    rcases h1 with rfl | rfl | rfl <;> rcases h2 with rfl | rfl | rfl <;> simp [detF, swF] <;> grind
/-- what the table says after k steps -/
def Sem (n : Nat) (F G : Fn) (bf : Int) : Nat → Prop
  | 0 => bf = 1 ∧ ∀ i j, i < n → j < n → G i j = F i j
  | 1 => bf = F 0 0 ∧ ∀ i j, 1 ≤ i → i < n → j < n → G i j = F 0 0 * F i j - F i 0 * F 0 j
  | 2 => bf = F 0 0 * F 1 1 - F 1 0 * F 0 1 ∧ (n = 3 → G 2 2 = detF 3 F)
  | _ => bf = detF 3 F
structure BarS (n : Nat) (m : Mx) (k : Nat) (t : Mx) (sg bf : Int) : Prop where
  I : BarI n m k t sg bf
  sem : ∃ F : Fn, detF n F = sg * detF n (ent m) ∧ Sem n F (ent t) bf k
theorem BarS.start {n : Nat} {m : Mx} (s : Sh m n n) (b : ∀ i j, i < n → j < n → (ent m i j).natAbs ≤ 2 ^ 14) : BarS n m 0 m 1 1 :=
  ⟨⟨rfl, s, b, .inl rfl, by decide, by decide⟩, ent m, by rw [Int.one_mul], rfl, fun _ _ _ _ => rfl⟩
theorem BarS.next {n : Nat} {m : Mx} {k c : Nat} {r : List Nat} {t : Mx} {sg bf : Int} (S : BarS n m k t sg bf) (hk : k < n) (hn : n ≤ 3) (hc : chosen t k n = c :: r) :
    BarS n m (k + 1) (barT k n bf (swapAt t k c)) (if c ≠ k then -sg else sg) (ent (swapAt t k c) k k) := by
  obtain ⟨c1, c2, c3⟩ := chosen_cons hc
  have I := S.I
  obtain ⟨s1, _⟩ := I.swap hk c2
  obtain ⟨F, hd, hs⟩ := S.sem
  refine ⟨I.next hk hn hc, swF F k c, ?_, ?_⟩
  · rw [det_sw hn hk c2, hd]
    by_cases e : c ≠ k
    · simp only [if_pos e]; grind
    · simp only [if_neg e]; grind
  · have H : ∀ i j, ent (swapAt t k c) i j = ent t (if i = c then k else if i = k then c else i) j := fun i j => ent_swapAt (by rw [I.sh.len]; exact hk) (by rw [I.sh.len]; exact c2)
    have hk3 : k = 0 ∨ k = 1 ∨ k = 2 := by omega
    rcases hk3 with rfl | rfl | rfl
    · obtain ⟨hb, hg⟩ := hs
      have H2 : ∀ i j, i < n → j < n → ent (swapAt t 0 c) i j = swF F 0 c i j := fun i j hi hj => by
        rw [H]
        exact hg _ j (by split <;> first | omega | (split <;> omega)) hj
      refine ⟨H2 0 0 hk hk, fun i j i1 hi hj => ?_⟩
      rw [ent_barT s1 hk hi hj, if_pos ⟨by omega, hi⟩, hb, H2 0 0 hk hk, H2 i j hi hj, H2 i 0 hi hk, H2 0 j hk hj, Int.fdiv_one]
    · obtain ⟨hb, hg⟩ := hs
      have f0 : ∀ j, swF F 1 c 0 j = F 0 j := fun j => by
        unfold swF
        rw [if_neg (by omega), if_neg (by omega)]
      have H2 : ∀ i j, 1 ≤ i → i < n → j < n → ent (swapAt t 1 c) i j = swF F 1 c 0 0 * swF F 1 c i j - swF F 1 c i 0 * swF F 1 c 0 j := fun i j i1 hi hj => by
        rw [H, f0, f0]
        exact hg _ j (by split <;> first | omega | (split <;> omega)) (by split <;> first | omega | (split <;> omega)) hj
      refine ⟨H2 1 1 (by omega) hk hk, fun h3 => ?_⟩
      subst h3
      rw [ent_barT s1 hk (by omega) (by omega), if_pos ⟨by omega, by omega⟩, H2 1 1 (by omega) (by omega) (by omega), H2 2 2 (by omega) (by omega) (by omega), H2 2 1 (by omega) (by omega) (by omega), H2 1 2 (by omega) (by omega) (by omega), hb, ← f0]
      have num : (swF F 1 c 0 0 * swF F 1 c 1 1 - swF F 1 c 1 0 * swF F 1 c 0 1) * (swF F 1 c 0 0 * swF F 1 c 2 2 - swF F 1 c 2 0 * swF F 1 c 0 2) -
          (swF F 1 c 0 0 * swF F 1 c 2 1 - swF F 1 c 2 0 * swF F 1 c 0 1) * (swF F 1 c 0 0 * swF F 1 c 1 2 - swF F 1 c 1 0 * swF F 1 c 0 2) = swF F 1 c 0 0 * detF 3 (swF F 1 c) := by
        unfold detF
        grind
      rw [num]
      have h0 : swF F 1 c 0 0 ≠ 0 := by rw [f0, ← hb]; exact I.bfn.1
      exact Int.mul_fdiv_cancel_left _ h0
    · obtain ⟨hb, hg⟩ := hs
      have n3 : n = 3 := by omega
      subst n3
      have e : c = 2 := by omega
      subst e
      have fe : detF 3 (swF F 2 2) = detF 3 F := by rw [det_sw (by omega) (by omega) (by omega)]; simp
      show _ = detF 3 (swF F 2 2)
      rw [fe, H, if_pos rfl]
      exact hg rfl
theorem BarS.done {n : Nat} {m : Mx} {t : Mx} {sg bf : Int} (S : BarS n m n t sg bf) (hn : n ≤ 3) : sg * bf = detF n (ent m) := by
  obtain ⟨F, hd, hs⟩ := S.sem
  have ss : sg * sg = 1 := by rcases S.I.sgn with e | e <;> rw [e] <;> rfl
  have key : bf = detF n F := by
    have : n = 0 ∨ n = 1 ∨ n = 2 ∨ n = 3 := by omega
    rcases this with rfl | rfl | rfl | rfl
    · exact hs.1
    · exact hs.1
    · rw [hs.1]
      unfold detF
      grind
    · exact hs
  rw [key, hd, ← Int.mul_assoc, ss, Int.one_mul]
theorem BarS.zero {n : Nat} {m : Mx} {k : Nat} {t : Mx} {sg bf : Int} (S : BarS n m k t sg bf) (hk : k < n) (hn : n ≤ 3) (h : chosen t k n = []) : detF n (ent m) = 0 := by
  obtain ⟨F, hd, hs⟩ := S.sem
  have z := chosen_nil h
  have key : detF n F = 0 := by
    have hk3 : k = 0 ∨ k = 1 ∨ k = 2 := by omega
    rcases hk3 with rfl | rfl | rfl
    · obtain ⟨hb, hg⟩ := hs
      have zF : ∀ i, i < n → F i 0 = 0 := fun i hi => by rw [← hg i 0 hi hk]; exact z i (Nat.zero_le _) hi
      have : n = 1 ∨ n = 2 ∨ n = 3 := by omega
      rcases this with rfl | rfl | rfl
      · unfold detF; exact zF 0 (by omega)
      · have a0 := zF 0 (by omega)
        have a1 := zF 1 (by omega)
        simp only [detF]
        grind
      · have a0 := zF 0 (by omega)
        have a1 := zF 1 (by omega)
        have a2 := zF 2 (by omega)
        simp only [detF]
        grind
    · obtain ⟨hb, hg⟩ := hs
      have b0 : F 0 0 ≠ 0 := by rw [← hb]; exact S.I.bfn.1
      have : n = 2 ∨ n = 3 := by omega
      rcases this with rfl | rfl
      · have := hg 1 1 (by omega) (by omega) (by omega)
        rw [z 1 (by omega) (by omega)] at this
        unfold detF
        grind
      · have e1 := hg 1 1 (by omega) (by omega) (by omega)
        rw [z 1 (by omega) (by omega)] at e1
        have e2 := hg 2 1 (by omega) (by omega) (by omega)
        rw [z 2 (by omega) (by omega)] at e2
        have num : F 0 0 * detF 3 F = (F 0 0 * F 1 1 - F 1 0 * F 0 1) * (F 0 0 * F 2 2 - F 2 0 * F 0 2) - (F 0 0 * F 2 1 - F 2 0 * F 0 1) * (F 0 0 * F 1 2 - F 1 0 * F 0 2) := by
          unfold detF
          grind
        rw [← e1, ← e2, Int.zero_mul, Int.zero_mul, Int.sub_self] at num
        rcases Int.mul_eq_zero.mp num with q | q
        · exact absurd q b0
        · exact q
    · obtain ⟨hb, hg⟩ := hs
      have n3 : n = 3 := by omega
      subst n3
      rw [← hg rfl]
      exact z 2 (by omega) (by omega)
  rw [key] at hd
  rcases S.I.sgn with e | e <;> rw [e] at hd <;> omega
end Gp
namespace Gp
theorem row1 {r : List Int} (h : r.length = 1) : r = [r.getD 0 0] := by
  match r, h with
  | [a], _ => rfl
theorem row2 {r : List Int} (h : r.length = 2) : r = [r.getD 0 0, r.getD 1 0] := by
  match r, h with
  | [a, b], _ => rfl
theorem row3 {r : List Int} (h : r.length = 3) : r = [r.getD 0 0, r.getD 1 0, r.getD 2 0] := by
  match r, h with
  | [a, b, c], _ => rfl
def dotI (xs ys : List Int) : Int := ((xs.zip ys).map fun p => p.1 * p.2).sum
theorem dot1 {x y : List Int} (hx : x.length = 1) (hy : y.length = 1) : dotI x y = x.getD 0 0 * y.getD 0 0 := by
  match x, y, hx, hy with
  | [a], [d], _, _ => simp [dotI]
theorem dot2 {x y : List Int} (hx : x.length = 2) (hy : y.length = 2) : dotI x y = x.getD 0 0 * y.getD 0 0 + x.getD 1 0 * y.getD 1 0 := by
  match x, y, hx, hy with
  | [a, b], [d, e], _, _ => simp [dotI]
theorem dot3 {x y : List Int} (hx : x.length = 3) (hy : y.length = 3) : dotI x y = x.getD 0 0 * y.getD 0 0 + x.getD 1 0 * y.getD 1 0 + x.getD 2 0 * y.getD 2 0 := by
  match x, y, hx, hy with
  | [a, b, c], [d, e, f], _, _ => simp [dotI]; omega
theorem getD_map {α β : Type} (f : α → β) (xs : List α) (i : Nat) (d : α) (e : β) (h : i < xs.length) : (xs.map f).getD i e = f (xs.getD i d) := by
  simp [List.getD_eq_getElem?_getD, h]
/-- tail_matrix: the Gram determinants of the head bordered -/
def tailF : Nat → Fn → Fn
  | 0, f => f
  | 1, f => fun i j => f 0 0 * f (1 + i) (1 + j) - f (1 + i) 0 * f 0 (1 + j)
  | _, f => fun _ _ => detF 3 f
end Gp
end
/-! Fp -/
section
set_option Elab.async false
set_option linter.all false
namespace Gp
/-! ### short vectors, as the text makes them -/
def sumN (f : Nat → Int) : Nat → Int
  | 0 => 0
  | k + 1 => sumN f k + f k
def restN (f : Fn) (b : List Int) : Nat → Int := sumN fun i => f 0 (i + 1) * b.getD i 0
def knowR (f : Fn) (b : List Int) (i : Nat) : Nat → Int := sumN fun j => f (i + 1) (j + 1) * b.getD i 0 * b.getD j 0
def knowN (f : Fn) (b : List Int) (l : Nat) : Nat → Int := sumN fun i => knowR f b i l
def insideF (f : Fn) (b : List Int) (bd : Int) : Int := restN f b b.length * restN f b b.length - f 0 0 * (knowN f b b.length b.length - bd)
/-- the floor of the root: any number r with r * r <= n < (r + 1) * (r + 1) -/
def loF (rt : Nat → Nat) (f : Fn) (b : List Int) (bd : Int) : Int := -((-(-(restN f b b.length) - (rt (insideF f b bd).toNat : Nat))).fdiv (f 0 0))
def hiF (rt : Nat → Nat) (f : Fn) (b : List Int) (bd : Int) : Int := (-(restN f b b.length) + (rt (insideF f b bd).toNat : Nat)).fdiv (f 0 0)
def ivl (lo : Int) (n : Nat) : List Int := (List.range n).map fun i : Nat => lo + (i : Int)
def chF (rt : Nat → Nat) (f : Fn) (b : List Int) (bd : Int) : List Int := if insideF f b bd < 0 then [] else ivl (loF rt f b bd) (hiF rt f b bd + 1 - loF rt f b bd).toNat
/-- the numbers are small enough -/
structure ChOk (rt : Nat → Nat) (f : Fn) (b : List Int) (bd : Int) : Prop where
  p0 : 0 < f 0 0
  p1 : f 0 0 < 2 ^ 62
  bb : ∀ x ∈ b, x.natAbs ≤ 2 ^ 20
  rs : (restN f b b.length).natAbs ≤ 2 ^ 62
  ins : insideF f b bd < 2 ^ 64
  lo : -(2 ^ 61) ≤ loF rt f b bd ∧ loF rt f b bd < 2 ^ 61
  hi : -(2 ^ 61) ≤ hiF rt f b bd ∧ hiF rt f b bd < 2 ^ 61
  few : (hiF rt f b bd + 1 - loF rt f b bd).toNat ≤ 250
/-- the vectors built from the last coordinate on -/
def nlF (rt : Nat → Nat) (m : Mx) (n : Nat) (N : Int) : Nat → List (List Int)
  | 0 => [[]]
  | j + 1 => (nlF rt m n N j).flatMap fun v => (chF rt (tailF (n - (j + 1)) (ent m)) v (detF (n - (j + 1)) (ent m) * N)).map fun x => x :: v
end Gp
namespace Gp
theorem nlF_length {rt : Nat → Nat} {m : Mx} {n : Nat} {N : Int} : ∀ {j : Nat} {v : List Int}, v ∈ nlF rt m n N j → v.length = j
  | 0, v, h => by
    have : v = [] := by simpa [nlF] using h
    rw [this]
    rfl
  | j + 1, v, h => by
    unfold nlF at h
    obtain ⟨u, hu, h2⟩ := List.mem_flatMap.mp h
    obtain ⟨x, _, rfl⟩ := List.mem_map.mp h2
    rw [List.length_cons, nlF_length hu]
/-- the numbers and the lists are small enough -/
structure NrOk (rt : Nat → Nat) (m : Mx) (n : Nat) (N : Int) : Prop where
  ch : ∀ j, j < n → ∀ v ∈ nlF rt m n N j, ChOk rt (tailF (n - (j + 1)) (ent m)) v (detF (n - (j + 1)) (ent m) * N)
  sz : ∀ j, j ≤ n → (nlF rt m n N j).length ≤ 16000000
  vb : ∀ v ∈ nlF rt m n N n, ∀ x ∈ v, x.natAbs ≤ 2 ^ 20
  hd : ∀ k, k < n → (detF k (ent m)).natAbs ≤ 2 ^ 62
end Gp
end
/-! Mi -/
section
set_option Elab.async false
set_option linter.all false
namespace Gp
theorem skip_getD {α : Type} (xs : List α) (i a : Nat) (d : α) (hi : i < xs.length) : (xs.take i ++ xs.drop (i + 1)).getD a d = xs.getD (if a < i then a else a + 1) d := by
  rw [List.getD_eq_getElem?_getD, List.getD_eq_getElem?_getD]
  congr 1
  by_cases c : a < i
  · rw [if_pos c, List.getElem?_append_left (by rw [List.length_take]; omega), List.getElem?_take, if_pos c]
  · rw [if_neg c, List.getElem?_append_right (by rw [List.length_take]; omega), List.length_take, List.getElem?_drop]
    congr 1
    omega
def minorG (g : Mx) (i j : Nat) : Mx := (g.take i ++ g.drop (i + 1)).map fun r => r.take j ++ r.drop (j + 1)
theorem minorG_sh {g : Mx} {n i j : Nat} (s : Sh g n n) (hi : i < n) (hj : j < n) : Sh (minorG g i j) (n - 1) (n - 1) := by
  refine ⟨?_, fun r hr => ?_⟩
  · unfold minorG
    rw [List.length_map, List.length_append, List.length_take, List.length_drop, s.len]
    omega
  · unfold minorG at hr
    obtain ⟨x, hx, rfl⟩ := List.mem_map.mp hr
    have hx2 : x ∈ g := by
      rcases List.mem_append.mp hx with h | h
      · exact List.mem_of_mem_take h
      · exact List.mem_of_mem_drop h
    rw [List.length_append, List.length_take, List.length_drop, s.row x hx2]
    omega
theorem ent_minorG {g : Mx} {n i j a b : Nat} (s : Sh g n n) (hi : i < n) (hj : j < n) (ha : a < n - 1) : ent (minorG g i j) a b = ent g (if a < i then a else a + 1) (if b < j then b else b + 1) := by
  unfold ent minorG
  have h1 : (if a < i then a else a + 1) < g.length := by rw [s.len]; split <;> omega
  have : (g.getD (if a < i then a else a + 1) []) ∈ g := by
    rw [List.getD_eq_getElem?_getD, List.getElem?_eq_getElem h1]
    exact List.getElem_mem h1
  rw [getD_map _ _ _ [] _ (by rw [List.length_append, List.length_take, List.length_drop, s.len]; omega), skip_getD g i a [] (by rw [s.len]; exact hi), skip_getD _ j b 0 (by rw [s.row _ this]; exact hj)]
/-- the first row's expansion, j items of it -/
def altS (g : Mx) (n : Nat) : Nat → Int
  | 0 => 0
  | j + 1 => if (j : Int).fmod 2 = 0 then altS g n j + ent g 0 j * detF (n - 1) (ent (minorG g 0 j)) else altS g n j - ent g 0 j * detF (n - 1) (ent (minorG g 0 j))
theorem detF_cg {n : Nat} {f g : Fn} (h : ∀ i j, i < n → j < n → f i j = g i j) (hn : n ≤ 3) : detF n f = detF n g := by
  have : n = 0 ∨ n = 1 ∨ n = 2 ∨ n = 3 := by omega
  rcases this with rfl | rfl | rfl | rfl
  · rfl
  · simp only [detF]; rw [h 0 0 (by omega) (by omega)]
  · simp only [detF]; rw [h 0 0 (by omega) (by omega), h 0 1 (by omega) (by omega), h 1 0 (by omega) (by omega), h 1 1 (by omega) (by omega)]
  · simp only [detF]; rw [h 0 0 (by omega) (by omega), h 0 1 (by omega) (by omega), h 1 0 (by omega) (by omega), h 1 1 (by omega) (by omega), h 0 2 (by omega) (by omega), h 1 2 (by omega) (by omega), h 2 0 (by omega) (by omega), h 2 1 (by omega) (by omega), h 2 2 (by omega) (by omega)]
theorem det_minorG {g : Mx} {n i j : Nat} (s : Sh g n n) (hn : n ≤ 3) (hi : i < n) (hj : j < n) : detF (n - 1) (ent (minorG g i j)) = detF (n - 1) fun a b => ent g (if a < i then a else a + 1) (if b < j then b else b + 1) :=
  detF_cg (fun a b ha _ => ent_minorG s hi hj ha) (by omega)
theorem altS_det {g : Mx} {n : Nat} (s : Sh g n n) (h1 : 1 ≤ n) (hn : n ≤ 3) : altS g n n = detF n (ent g) := by
  have : n = 1 ∨ n = 2 ∨ n = 3 := by omega
  rcases this with rfl | rfl | rfl
  · simp [altS, detF]
  · simp only [altS]
    rw [det_minorG s hn (by omega) (by omega), det_minorG s hn (by omega) (by omega)]
    simp [detF]
  · simp only [altS]
    rw [det_minorG s hn (by omega) (by omega), det_minorG s hn (by omega) (by omega), det_minorG s hn (by omega) (by omega)]
    simp [detF]
theorem zi {α : Type} : ∀ (m : List α) (s i : Nat), ((m.zipIdx s).filter fun p => decide (p.2 ≠ s + i)).map (·.1) = m.take i ++ m.drop (i + 1)
  | [], s, i => by simp
  | x :: m, s, 0 => by
    rw [List.zipIdx_cons, List.filter_cons_of_neg (by simp), List.take_zero, List.nil_append, List.drop_one, List.tail_cons]
    rw [List.filter_eq_self.mpr fun p hp => ?_]
    · simp
    · have := List.le_snd_of_mem_zipIdx hp
      exact decide_eq_true (by omega)
  | x :: m, s, i + 1 => by
    rw [List.zipIdx_cons, List.filter_cons_of_pos (by simp), List.map_cons, List.take_succ_cons, List.drop_succ_cons, List.cons_append]
    have := zi m (s + 1) i
    rw [show s + 1 + i = s + (i + 1) from by omega] at this
    rw [this]
theorem det_row {n k : Nat} (h3 : n ≤ 3) (hk : k < n) (F : Fn) (z : ∀ j, j < n → j ≠ k → F k j = 0) : ∃ c, detF n F = F k k * c := by
  have n123 : n = 1 ∨ n = 2 ∨ n = 3 := by omega
  rcases n123 with rfl | rfl | rfl
  · obtain rfl : k = 0 := by omega
    exact ⟨1, by simp [detF]⟩
  · have k2 : k = 0 ∨ k = 1 := by omega
    rcases k2 with rfl | rfl
    · have z1 := z 1 (by decide) (by decide)
      exact ⟨F 1 1, by simp [detF, z1]⟩
    · have z0 := z 0 (by decide) (by decide)
      exact ⟨F 0 0, by simp [detF, z0, Int.mul_comm]⟩
  · have k3 : k = 0 ∨ k = 1 ∨ k = 2 := by omega
    rcases k3 with rfl | rfl | rfl
    · have z1 := z 1 (by decide) (by decide)
      have z2 := z 2 (by decide) (by decide)
      exact ⟨F 1 1 * F 2 2 - F 1 2 * F 2 1, by simp only [detF, z1, z2]; grind⟩
    · have z1 := z 0 (by decide) (by decide)
      have z2 := z 2 (by decide) (by decide)
      exact ⟨F 0 0 * F 2 2 - F 0 2 * F 2 0, by simp only [detF, z1, z2]; grind⟩
    · have z1 := z 0 (by decide) (by decide)
      have z2 := z 1 (by decide) (by decide)
      exact ⟨F 0 0 * F 1 1 - F 0 1 * F 1 0, by simp only [detF, z1, z2]; grind⟩
theorem fs_diag {h n : Nat} {f0 : Fn} {t : Mx} (F : FS h n f0 t) (hn : h ≤ n) (n3 : n ≤ 3) : Comp h n f0 ↔ ∀ k, k < h → ent t k k = 1 := by
  rw [F.eq]
  constructor
  · rintro ⟨G, hG, hd⟩ k hk
    obtain ⟨c, hc⟩ := det_row n3 (show k < n by omega) G fun j hj hne => by rw [hG k j hk hj]; exact F.dg k j hk hj (Ne.symm hne)
    rw [hG k k hk (by omega)] at hc
    have p := F.ps k hk
    have dv : ent t k k ∣ 1 := by
      rcases hd with e | e
      · exact ⟨c, e.symm.trans hc⟩
      · have q : -1 = ent t k k * c := e.symm.trans hc
        exact ⟨-c, by rw [Int.mul_neg, ← q]; rfl⟩
    exact Int.eq_one_of_dvd_one p dv
  · intro h1
    refine ⟨fun i j => if i = j then 1 else 0, fun i j hi hj => ?_, .inl ?_⟩
    · show (if i = j then (1 : Int) else 0) = ent t i j
      by_cases e : i = j
      · subst e
        rw [if_pos rfl, h1 i hi]
      · rw [if_neg e, F.dg i j hi hj e]
    · have n0 : n = 0 ∨ n = 1 ∨ n = 2 ∨ n = 3 := by omega
      rcases n0 with rfl | rfl | rfl | rfl <;> simp [detF]
end Gp
end
/-! St -/
section
set_option Elab.async false
set_option linter.all false
set_option maxRecDepth 100000
namespace Gp
/-! ### what keeps Comp -/
theorem w123 {w : Nat} (h1 : 1 ≤ w) (h3 : w ≤ 3) : w = 1 ∨ w = 2 ∨ w = 3 := by omega
theorem det_tr {w : Nat} (h3 : w ≤ 3) (F : Fn) : detF w (fun a b => F b a) = detF w F := by
  have : w = 0 ∨ w = 1 ∨ w = 2 ∨ w = 3 := by omega
  rcases this with rfl | rfl | rfl | rfl <;> simp only [detF] <;> grind
theorem det_shear {w s : Nat} (h3 : w ≤ 3) (hs : s < w) (q : Nat → Int) (hq : q s = 0) (F : Fn) : detF w (fun a b => F a b - q a * F s b) = detF w F := by
  rcases w123 (by omega) h3 with rfl | rfl | rfl
  · obtain rfl : s = 0 := by omega
    simp [detF, hq]
  · have : s = 0 ∨ s = 1 := by omega
    rcases this with rfl | rfl <;> simp only [detF, hq] <;> grind
  · have : s = 0 ∨ s = 1 ∨ s = 2 := by omega
    rcases this with rfl | rfl | rfl <;> simp only [detF, hq] <;> grind
theorem det_shearC {w s : Nat} (h3 : w ≤ 3) (hs : s < w) (r : Nat → Int) (hr : r s = 0) (F : Fn) : detF w (fun a b => F a b - r b * F a s) = detF w F := by
  rw [← det_tr h3 F, ← det_shear h3 hs r hr (fun a b => F b a), ← det_tr h3]
theorem det_neg {w s : Nat} (h3 : w ≤ 3) (hs : s < w) (F : Fn) : detF w (fun a b => if a = s then -F a b else F a b) = - detF w F := by
  rcases w123 (by omega) h3 with rfl | rfl | rfl
  · obtain rfl : s = 0 := by omega
    simp [detF]
  · have : s = 0 ∨ s = 1 := by omega
    rcases this with rfl | rfl <;> simp [detF] <;> grind
  · have : s = 0 ∨ s = 1 ∨ s = 2 := by omega
    rcases this with rfl | rfl | rfl <;> simp [detF] <;> grind
theorem Comp.op {h w : Nat} {f f' : Fn} (T : Fn → Fn) (hT : ∀ F, detF w (T F) = detF w F ∨ detF w (T F) = - detF w F) (hf : ∀ F : Fn, (∀ i k, i < h → k < w → F i k = f i k) → ∀ i k, i < h → k < w → T F i k = f' i k) (c : Comp h w f) : Comp h w f' := by
  obtain ⟨F, hF, hd⟩ := c
  refine ⟨T F, hf F hF, ?_⟩
  rcases hT F with e | e <;> rcases hd with d | d <;> rw [e, d] <;> simp
theorem Comp.congr {h w : Nat} {f f' : Fn} (e : ∀ i k, i < h → k < w → f i k = f' i k) : Comp h w f ↔ Comp h w f' :=
  ⟨Comp.op id (fun F => .inl rfl) fun F hF i k hi hk => by rw [id, hF i k hi hk, e i k hi hk], Comp.op id (fun F => .inl rfl) fun F hF i k hi hk => by rw [id, hF i k hi hk, e i k hi hk]⟩
theorem Comp.shear1 {h w s : Nat} {f f' : Fn} (h3 : w ≤ 3) (hw : h ≤ w) (hs : s < h) (q : Nat → Int) (hq : q s = 0) (e : ∀ a b, a < h → b < w → f' a b = f a b - q a * f s b) (c : Comp h w f) : Comp h w f' :=
  c.op (fun F a b => F a b - (if a < h then q a else 0) * F s b) (fun F => .inl (det_shear h3 (by omega) (fun a => if a < h then q a else 0) (by simp [hq]) F)) fun F hF a b ha hb => by
    rw [if_pos ha, hF a b ha hb, hF s b hs hb, e a b ha hb]
theorem Comp.shear {h w s : Nat} {f f' : Fn} (h3 : w ≤ 3) (hw : h ≤ w) (hs : s < h) (q : Nat → Int) (hq : q s = 0) (e : ∀ a b, a < h → b < w → f' a b = f a b - q a * f s b) : Comp h w f ↔ Comp h w f' :=
  ⟨Comp.shear1 h3 hw hs q hq e, Comp.shear1 h3 hw hs (fun a => - q a) (by simp [hq]) fun a b ha hb => by
    rw [e a b ha hb, e s b hs hb, hq]
    grind⟩
theorem Comp.shearC1 {h w s : Nat} {f f' : Fn} (h3 : w ≤ 3) (hs : s < w) (r : Nat → Int) (hr : r s = 0) (e : ∀ a b, a < h → b < w → f' a b = f a b - r b * f a s) (c : Comp h w f) : Comp h w f' :=
  c.op (fun F a b => F a b - r b * F a s) (fun F => .inl (det_shearC h3 hs r hr F)) fun F hF a b ha hb => by
    rw [hF a b ha hb, hF a s ha hs, e a b ha hb]
theorem Comp.shearC {h w s : Nat} {f f' : Fn} (h3 : w ≤ 3) (hs : s < w) (r : Nat → Int) (hr : r s = 0) (e : ∀ a b, a < h → b < w → f' a b = f a b - r b * f a s) : Comp h w f ↔ Comp h w f' :=
  ⟨Comp.shearC1 h3 hs r hr e, Comp.shearC1 h3 hs (fun b => - r b) (by simp [hr]) fun a b ha hb => by
    rw [e a b ha hb, e a s ha hs, hr]
    grind⟩
def sw (s i a : Nat) : Nat := if a = i then s else if a = s then i else a
theorem sw_sw (s i a : Nat) : sw s i (sw s i a) = a := by
  unfold sw
  split <;> split <;> first | omega | (split <;> omega)
theorem sw_lt {s i a h : Nat} (hs : s < h) (hi : i < h) (ha : a < h) : sw s i a < h := by
  unfold sw
  split <;> first | omega | (split <;> omega)
theorem Comp.swR1 {h w s i : Nat} {f f' : Fn} (h3 : w ≤ 3) (hw : h ≤ w) (hs : s < h) (hi : i < h) (e : ∀ a b, a < h → b < w → f' a b = f (sw s i a) b) (c : Comp h w f) : Comp h w f' :=
  c.op (fun F => swF F s i) (fun F => by
    rw [det_sw h3 (by omega) (by omega)]
    split
    · right; grind
    · left; grind) fun F hF a b ha hb => by
    show F (sw s i a) b = _
    rw [hF _ b (sw_lt hs hi ha) hb, e a b ha hb]
theorem Comp.swR {h w s i : Nat} {f f' : Fn} (h3 : w ≤ 3) (hw : h ≤ w) (hs : s < h) (hi : i < h) (e : ∀ a b, a < h → b < w → f' a b = f (sw s i a) b) : Comp h w f ↔ Comp h w f' :=
  ⟨Comp.swR1 h3 hw hs hi e, Comp.swR1 h3 hw hs hi fun a b ha hb => by rw [e _ b (sw_lt hs hi ha) hb, sw_sw]⟩
theorem Comp.swC1 {h w s k : Nat} {f f' : Fn} (h3 : w ≤ 3) (hs : s < w) (hk : k < w) (e : ∀ a b, a < h → b < w → f' a b = f a (sw s k b)) (c : Comp h w f) : Comp h w f' :=
  c.op (fun F a b => F a (sw s k b)) (fun F => by
    have := det_sw h3 hs hk (fun a b => F b a)
    rw [det_tr h3 F] at this
    rw [← det_tr h3]
    show detF w (swF (fun a b => F b a) s k) = _ ∨ detF w (swF (fun a b => F b a) s k) = _
    rw [this]
    split
    · right; grind
    · left; grind) fun F hF a b ha hb => by
    rw [hF a _ ha (sw_lt hs hk hb), e a b ha hb]
theorem Comp.swC {h w s k : Nat} {f f' : Fn} (h3 : w ≤ 3) (hs : s < w) (hk : k < w) (e : ∀ a b, a < h → b < w → f' a b = f a (sw s k b)) : Comp h w f ↔ Comp h w f' :=
  ⟨Comp.swC1 h3 hs hk e, Comp.swC1 h3 hs hk fun a b ha hb => by rw [e a _ ha (sw_lt hs hk hb), sw_sw]⟩
theorem Comp.neg1 {h w s : Nat} {f f' : Fn} (h3 : w ≤ 3) (hs : s < w) (e : ∀ a b, a < h → b < w → f' a b = if a = s then - f a b else f a b) (c : Comp h w f) : Comp h w f' :=
  c.op (fun F a b => if a = s then - F a b else F a b) (fun F => .inr (det_neg h3 hs F)) fun F hF a b ha hb => by rw [hF a b ha hb, e a b ha hb]
theorem Comp.neg {h w s : Nat} {f f' : Fn} (h3 : w ≤ 3) (hs : s < w) (e : ∀ a b, a < h → b < w → f' a b = if a = s then - f a b else f a b) : Comp h w f ↔ Comp h w f' :=
  ⟨Comp.neg1 h3 hs e, Comp.neg1 h3 hs fun a b ha hb => by
    rw [e a b ha hb]
    split <;> simp⟩
/-! ### the cells of a turn -/
theorem ent_clrT {t : Mx} {h w : Nat} (sh : Sh t h w) {s i a b : Nat} (hs : s < h) (ha : a < h) (hb : b < w) : ent (clrT s i t) a b = if s < a ∧ a < i then ent t a b - (ent t a s).fdiv (ent t s s) * ent t s b else ent t a b := by
  have la : a < t.length := by rw [sh.len]; exact ha
  have ra := sh.row _ (List.getElem_mem la)
  have ls : s < t.length := by rw [sh.len]; exact hs
  have rs := sh.row _ (List.getElem_mem ls)
  have hb1 : b < t[a].length := by rw [ra]; exact hb
  have hb2 : b < t[s].length := by rw [rs]; exact hb
  unfold ent clrT
  simp only [List.getD_eq_getElem?_getD, List.getElem?_mapIdx, List.getElem?_eq_getElem la, Option.map_some, Option.getD_some, List.getElem?_eq_getElem ls]
  split
  · unfold lessI
    have z : (t[a].zip t[s])[b]? = some (t[a][b], t[s][b]) := List.getElem?_zip_eq_some.mpr ⟨List.getElem?_eq_getElem hb1, List.getElem?_eq_getElem hb2⟩
    rw [List.getElem?_map, z]
    simp [List.getElem?_eq_getElem hb1, List.getElem?_eq_getElem hb2, ent, List.getD_eq_getElem?_getD, List.getElem?_eq_getElem ls]
  · rfl
theorem ent_tu2 {t : Mx} {h w : Nat} (sh : Sh t h w) {s i k a b : Nat} (hs : s < h) (hi : i < h) (hsw : s < w) (hk : k < w) (ha : a < h) (hb : b < w) : ent (tu2 t s i k) a b = ent t (sw s i a) (sw s k b) := by
  have s1 := sh.swap s i
  have la : a < (swapAt t s i).length := by rw [s1.len]; exact ha
  have ra := s1.row _ (List.getElem_mem la)
  unfold tu2
  have e : ent ((swapAt t s i).map fun r => swapAt r s k) a b = ent (swapAt t s i) a (sw s k b) := by
    unfold ent
    rw [getD_map _ _ _ [] _ la]
    generalize hr : (swapAt t s i).getD a [] = r
    have hl : r.length = w := by
      rw [← hr, List.getD_eq_getElem?_getD, List.getElem?_eq_getElem la]
      exact ra
    have := ent_swapAt (t := r.map fun x => [x]) (i := s) (k := k) (a := b) (b := 0) (by rw [List.length_map, hl]; exact hsw) (by rw [List.length_map, hl]; exact hk)
    rw [swapAt_map] at this
    unfold ent at this
    have g : ∀ (l : List Int) (j : Nat), ((l.map fun x => [x]).getD j []).getD 0 0 = l.getD j 0 := fun l j => by
      rw [List.getD_eq_getElem?_getD (l := l.map _), List.getElem?_map, List.getD_eq_getElem?_getD (l := l)]
      cases l[j]? <;> rfl
    rw [g, g] at this
    exact this
  rw [e, ent_swapAt (by rw [sh.len]; exact hs) (by rw [sh.len]; exact hi)]
  rfl
end Gp
end
/-! Su -/
section
set_option Elab.async false
set_option linter.all false
set_option maxRecDepth 100000
namespace Gp
theorem gB_lo (a : Nat) : 2 ^ 20 ≤ gB a := by
  unfold gB
  exact Nat.le_mul_of_pos_left _ (Nat.pow_pos (by decide))
theorem gB_hi (a : Nat) : gB a ≤ 2 ^ 56 := by
  unfold gB
  have : 8 ^ (12 - a / 2) ≤ 8 ^ 12 := Nat.pow_le_pow_right (by decide) (by omega)
  calc 8 ^ (12 - a / 2) * 2 ^ 20 ≤ 8 ^ 12 * 2 ^ 20 := Nat.mul_le_mul_right _ this
    _ = 2 ^ 56 := by decide
theorem gB_mono {a b : Nat} (h : b / 2 ≤ a / 2) : gB a ≤ gB b := by
  unfold gB
  exact Nat.mul_le_mul_right _ (Nat.pow_le_pow_right (by decide) (by omega))
theorem gB_step {a b : Nat} (h : b / 2 + 1 ≤ a / 2) (ha : a ≤ 25) : 8 * gB a ≤ gB b := by
  unfold gB
  rw [← Nat.mul_assoc, ← Nat.pow_succ']
  exact Nat.mul_le_mul_right _ (Nat.pow_le_pow_right (by decide) (by omega))
theorem fmod_abs (a b : Int) (hb : b ≠ 0) : (a - a.fdiv b * b).natAbs < b.natAbs := by
  have e : a - a.fdiv b * b = a.fmod b := by rw [Int.fmod_def, Int.mul_comm]
  rw [e]
  rcases Int.lt_or_gt_of_ne hb with h | h
  · have h1 := Int.fmod_nonneg_of_pos (-a) (b := -b) (by omega)
    have h2 := Int.fmod_lt_of_pos (-a) (b := -b) (by omega)
    rw [Int.neg_fmod_neg] at h1 h2
    omega
  · have h1 := Int.fmod_nonneg_of_pos a h
    have h2 := Int.fmod_lt_of_pos a h
    omega
/-- what a turn makes: p at the corner, ρ below it, γ beside it -/
structure Td (h w s : Nat) (g : Fn) (p : Int) (g4 : Fn) : Prop where
  p0 : p ≠ 0
  gp : g s s = p
  ss : g4 s s = p
  rho : ∀ a, s < a → a < h → (g4 a s).natAbs < p.natAbs
  gam : ∀ b, s < b → b < w → (g4 s b).natAbs < p.natAbs
  X : ∀ a b, s < a → a < h → s < b → b < w → p * g4 a b = mn g s a s b + g4 a s * g4 s b
theorem px_le {p x M r c : Int} {D : Nat} (e : p * x = M + r * c) (hM : M.natAbs ≤ D) (hr : r.natAbs < p.natAbs) (hc : c.natAbs < p.natAbs) : p.natAbs * x.natAbs ≤ D + p.natAbs * p.natAbs := by
  have h1 : p.natAbs * x.natAbs = (M + r * c).natAbs := by rw [← Int.natAbs_mul, e]
  have h2 : (r * c).natAbs ≤ p.natAbs * p.natAbs := by rw [Int.natAbs_mul]; exact Nat.mul_le_mul (by omega) (by omega)
  rw [h1]
  generalize r * c = z at h2 ⊢
  generalize p.natAbs * p.natAbs = y at h2 ⊢
  omega
theorem x_le {p x D : Nat} (h0 : 0 < p) (h : p * x ≤ D + p * p) : x ≤ D + p := by
  refine Nat.le_of_not_lt fun c => ?_
  have h1 := Nat.mul_le_mul_left p (show D + p + 1 ≤ x from c)
  rw [Nat.mul_add, Nat.mul_add, Nat.mul_one] at h1
  have h2 : D ≤ p * D := Nat.le_mul_of_pos_left _ h0
  omega
theorem prod_le {x c p E : Nat} (hc : c < p) (h : p * x ≤ E) : c * x ≤ E := Nat.le_trans (Nat.mul_le_mul_right _ (by omega)) h
theorem div_le {p x D : Nat} (h0 : 0 < p) (h : p * x ≤ D) : x ≤ D := Nat.le_trans (Nat.le_mul_of_pos_left _ h0) h
section
variable {h w s : Nat} {g g4 : Fn} {p : Int}
/-- the minors behind a turn in the whole table -/
theorem Td.minors (T : Td h 3 0 g p g4) (hh : h = 2 ∨ h = 3) {D : Nat} (hm : ∀ i j k l, i < h → j < h → k < 3 → l < 3 → (mn g i j k l).natAbs ≤ D) (h3 : h = 3 → (detF 3 g4).natAbs ≤ 2 ^ 20) (hD : 2 ^ 20 ≤ D) (hp : p.natAbs ≤ 12) :
    (∀ i j k l, i < h → j < h → k < 3 → l < 3 → (mn g4 i j k l).natAbs ≤ 8 * D) ∧ ∀ i k, i < h → k < 3 → (g4 i k).natAbs ≤ D + 12 := by
  have hp0 : 0 < p.natAbs := by have := T.p0; omega
  have hpp : p.natAbs * p.natAbs ≤ 144 := Nat.le_trans (Nat.mul_le_mul hp hp) (by decide)
  have px : ∀ a b, 0 < a → a < h → 0 < b → b < 3 → p.natAbs * (g4 a b).natAbs ≤ D + p.natAbs * p.natAbs := fun a b a0 ah b0 b3 =>
    px_le (T.X a b a0 ah b0 b3) (hm 0 a 0 b (by omega) ah (by decide) b3) (T.rho a a0 ah) (T.gam b b0 b3)
  -- the corner's minors
  have m0 : ∀ a b, 0 < a → a < h → 0 < b → b < 3 → (mn g4 0 a 0 b).natAbs ≤ D := fun a b a0 ah b0 b3 => by
    have e : mn g4 0 a 0 b = mn g 0 a 0 b := by
      have := T.X a b a0 ah b0 b3
      unfold mn at this ⊢
      rw [T.ss]
      rw [this]
      grind
    rw [e]
    exact hm 0 a 0 b (by omega) ah (by decide) b3
  have m1 : ∀ a, 0 < a → a < h → (mn g4 0 a 1 2).natAbs ≤ 2 * (D + 144) := fun a a0 ah => by
    have h1 := prod_le (T.gam 1 (by decide) (by decide)) (px a 2 a0 ah (by decide) (by decide))
    have h2 := prod_le (T.gam 2 (by decide) (by decide)) (px a 1 a0 ah (by decide) (by decide))
    rw [← Int.natAbs_mul] at h1 h2
    unfold mn
    generalize g4 0 1 * g4 a 2 = x at h1 ⊢
    generalize g4 0 2 * g4 a 1 = y at h2 ⊢
    omega
  have sg : ∀ i j k l, (mn g4 j i k l) = - mn g4 i j k l := fun i j k l => by unfold mn; grind
  have sg2 : ∀ i j k l, (mn g4 i j l k) = - mn g4 i j k l := fun i j k l => by unfold mn; grind
  have z1 : ∀ i k l, mn g4 i i k l = 0 := fun i k l => by unfold mn; grind
  have z2 : ∀ i j k, mn g4 i j k k = 0 := fun i j k => by unfold mn; grind
  have three : ∀ k : Nat, k < 3 → k = 0 ∨ k = 1 ∨ k = 2 := fun k hk => by omega
  -- a pair of rows by its three pairs of columns
  have cols : ∀ i j, (mn g4 i j 0 1).natAbs ≤ 8 * D → (mn g4 i j 0 2).natAbs ≤ 8 * D → (mn g4 i j 1 2).natAbs ≤ 8 * D → ∀ k l, k < 3 → l < 3 → (mn g4 i j k l).natAbs ≤ 8 * D := fun i j c1 c2 c3 k l hk hl => by
    rcases three k hk with rfl | rfl | rfl <;> rcases three l hl with rfl | rfl | rfl <;> first | (rw [z2]; simp) | assumption | (rw [sg2, Int.natAbs_neg]; assumption)
  have r0 : ∀ a, 0 < a → a < h → ∀ k l, k < 3 → l < 3 → (mn g4 0 a k l).natAbs ≤ 8 * D := fun a a0 ah => cols 0 a (by have := m0 a 1 a0 ah (by decide) (by decide); omega) (by have := m0 a 2 a0 ah (by decide) (by decide); omega) (by have := m1 a a0 ah; omega)
  have r12 : h = 3 → ∀ k l, k < 3 → l < 3 → (mn g4 1 2 k l).natAbs ≤ 8 * D := fun e3 => by
    subst e3
    have b11 := px 1 1 (by decide) (by decide) (by decide) (by decide)
    have b12 := px 1 2 (by decide) (by decide) (by decide) (by decide)
    have b21 := px 2 1 (by decide) (by decide) (by decide) (by decide)
    have b22 := px 2 2 (by decide) (by decide) (by decide) (by decide)
    have q1 := T.rho 1 (by decide) (by decide)
    have q2 := T.rho 2 (by decide) (by decide)
    have c1 := T.gam 1 (by decide) (by decide)
    have c2 := T.gam 2 (by decide) (by decide)
    refine cols 1 2 ?_ ?_ ?_
    · have h1 := prod_le q1 b21
      have h2 := prod_le q2 b11
      rw [← Int.natAbs_mul] at h1 h2
      unfold mn
      rw [Int.mul_comm (g4 1 1)]
      generalize g4 1 0 * g4 2 1 = x at h1 ⊢
      generalize g4 2 0 * g4 1 1 = y at h2 ⊢
      omega
    · have h1 := prod_le q1 b22
      have h2 := prod_le q2 b12
      rw [← Int.natAbs_mul] at h1 h2
      unfold mn
      rw [Int.mul_comm (g4 1 2)]
      generalize g4 1 0 * g4 2 2 = x at h1 ⊢
      generalize g4 2 0 * g4 1 2 = y at h2 ⊢
      omega
    · have d3 := h3 rfl
      have e : p * mn g4 1 2 1 2 = detF 3 g4 + (g4 0 1 * (g4 1 0 * g4 2 2) - g4 0 1 * (g4 2 0 * g4 1 2)) - (g4 0 2 * (g4 1 0 * g4 2 1) - g4 0 2 * (g4 2 0 * g4 1 1)) := by
        simp only [detF, mn]
        rw [T.ss]
        grind
      have k1 : ∀ (c q x : Int), c.natAbs < p.natAbs → q.natAbs < p.natAbs → p.natAbs * x.natAbs ≤ D + p.natAbs * p.natAbs → (c * (q * x)).natAbs ≤ p.natAbs * (D + 144) := fun c q x hc hq hx => by
        have h1 := prod_le hq hx
        rw [Int.natAbs_mul, Int.natAbs_mul]
        exact Nat.mul_le_mul (by omega) (by omega)
      have y1 := k1 _ _ _ c1 q1 b22
      have y2 := k1 _ _ _ c1 q2 b12
      have y3 := k1 _ _ _ c2 q1 b21
      have y4 := k1 _ _ _ c2 q2 b11
      generalize g4 0 1 * (g4 1 0 * g4 2 2) = x1 at e y1
      generalize g4 0 1 * (g4 2 0 * g4 1 2) = x2 at e y2
      generalize g4 0 2 * (g4 1 0 * g4 2 1) = x3 at e y3
      generalize g4 0 2 * (g4 2 0 * g4 1 1) = x4 at e y4
      have le1 : p.natAbs * (mn g4 1 2 1 2).natAbs ≤ 2 ^ 20 + 4 * (p.natAbs * (D + 144)) := by
        rw [← Int.natAbs_mul, e]
        generalize p.natAbs * (D + 144) = z at *
        omega
      have le2 : p.natAbs * (mn g4 1 2 1 2).natAbs ≤ p.natAbs * (8 * D) := by
        refine Nat.le_trans le1 ?_
        have : 2 ^ 20 + 4 * (p.natAbs * (D + 144)) ≤ p.natAbs * (2 ^ 20 + 4 * (D + 144)) := by
          have e5 : p.natAbs * (2 ^ 20 + 4 * (D + 144)) = p.natAbs * 2 ^ 20 + 4 * (p.natAbs * (D + 144)) := by rw [Nat.mul_add, Nat.mul_left_comm p.natAbs 4]
          rw [e5]
          have := Nat.le_mul_of_pos_left (2 ^ 20) hp0
          omega
        exact Nat.le_trans this (Nat.mul_le_mul_left _ (by omega))
      exact Nat.le_of_mul_le_mul_left le2 hp0
  refine ⟨fun i j k l hi hj hk hl => ?_, fun i k hi hk => ?_⟩
  · have hi3 := three i (by omega)
    have hj3 := three j (by omega)
    rcases hi3 with rfl | rfl | rfl <;> rcases hj3 with rfl | rfl | rfl <;> first
      | (rw [z1]; simp)
      | exact r0 _ (by decide) hj k l hk hl
      | (rw [sg, Int.natAbs_neg]; exact r0 _ (by decide) hi k l hk hl)
      | exact r12 (by omega) k l hk hl
      | (rw [sg, Int.natAbs_neg]; exact r12 (by omega) k l hk hl)
  · by_cases i0 : i = 0
    · subst i0
      by_cases k0 : k = 0
      · subst k0
        rw [T.ss]
        omega
      · have := T.gam k (by omega) hk
        omega
    · by_cases k0 : k = 0
      · subst k0
        have := T.rho i (by omega) hi
        omega
      · have := x_le hp0 (px i k (by omega) hi (by omega) hk)
        omega
end
theorem sw_self (s i : Nat) : sw s i s = i := by
  unfold sw
  split
  · assumption
  · simp
theorem sw_low {s i a : Nat} (ha : a < s) (hi : s ≤ i) : sw s i a = a := by
  unfold sw
  rw [if_neg (by omega), if_neg (by omega)]
theorem sw_high {s i a : Nat} (ha : s ≤ a) (hi : s ≤ i) : s ≤ sw s i a := by
  unfold sw
  split
  · omega
  · split <;> omega
section
variable {h w s a i k : Nat} {f0 : Fn} {t : Mx}
/-- the cells behind the turn -/
theorem SI.td (I : SI h w f0 s a t) (hs : s < h) (p : Pv h w s (ent t) i k) :
    Sh (tu2 t s i k) h w ∧ Sh (tu3 t s h i k) h w ∧ Sh (tu4 t s h w i k) h w ∧ Td h w s (ent (tu2 t s i k)) (ent t i k) (ent (tu4 t s h w i k)) ∧
    (∀ a b, a < h → b < w → ent (tu3 t s h i k) a b = if s < a then ent (tu2 t s i k) a b - (ent (tu2 t s i k) a s).fdiv (ent t i k) * ent (tu2 t s i k) s b else ent (tu2 t s i k) a b) ∧
    (∀ a b, a < h → b < w → ent (tu4 t s h w i k) a b = if s < b then ent (tu3 t s h i k) a b - (ent (tu2 t s i k) s b).fdiv (ent t i k) * ent (tu3 t s h i k) a s else ent (tu3 t s h i k) a b) ∧
    (∀ a b, a < h → b < w → ent (tu2 t s i k) a b = ent t (sw s i a) (sw s k b)) := by
  have hw := I.hw
  have sw' : s < w := by omega
  have s1 : Sh ((swapAt t s i).map fun r => swapAt r s k) h w := (I.sh.swap s i).swapC s k
  have s2 : Sh (tu2 t s i k) h w := s1
  have s3 : Sh (tu3 t s h i k) h w := s2.clrT hs
  have s3t := s3.turned
  have s4 : Sh (tu4 t s h w i k) h w := by
    have := (s3t.clrT (a := s) (i := w) sw').turned
    exact this
  have e2 : ∀ a b, a < h → b < w → ent (tu2 t s i k) a b = ent t (sw s i a) (sw s k b) := fun a b ha hb => ent_tu2 I.sh hs p.hi.2 sw' p.hk.2 ha hb
  have e2s : ent (tu2 t s i k) s s = ent t i k := by
    rw [e2 s s hs sw', sw_self, sw_self]
  have e3 : ∀ a b, a < h → b < w → ent (tu3 t s h i k) a b = if s < a then ent (tu2 t s i k) a b - (ent (tu2 t s i k) a s).fdiv (ent t i k) * ent (tu2 t s i k) s b else ent (tu2 t s i k) a b := fun a b ha hb => by
    unfold tu3
    rw [ent_clrT s2 hs ha hb, e2s]
    by_cases c : s < a
    · rw [if_pos ⟨c, ha⟩, if_pos c]
    · rw [if_neg (fun z => c z.1), if_neg c]
  have e3s : ∀ b, b < w → ent (tu3 t s h i k) s b = ent (tu2 t s i k) s b := fun b hb => by rw [e3 s b hs hb, if_neg (Nat.lt_irrefl s)]
  have e4 : ∀ a b, a < h → b < w → ent (tu4 t s h w i k) a b = if s < b then ent (tu3 t s h i k) a b - (ent (tu2 t s i k) s b).fdiv (ent t i k) * ent (tu3 t s h i k) a s else ent (tu3 t s h i k) a b := fun a b ha hb => by
    unfold tu4
    rw [ent_turned (s3t.clrT (a := s) (i := w) sw') hb ha, ent_clrT s3t sw' hb ha, ent_turned s3 ha hb, ent_turned s3 hs hb, ent_turned s3 hs sw', ent_turned s3 ha sw', e3s s sw', e2s, e3s b hb]
    by_cases c : s < b
    · rw [if_pos ⟨c, hb⟩, if_pos c]
    · rw [if_neg (fun z => c z.1), if_neg c]
  refine ⟨s2, s3, s4, ⟨p.ne, e2s, ?_, fun a sa ha => ?_, fun b sb hb => ?_, fun a b sa ha sb hb => ?_⟩, e3, e4, e2⟩
  · rw [e4 s s hs sw', if_neg (Nat.lt_irrefl s), e3s s sw', e2s]
  · rw [e4 a s ha sw', if_neg (Nat.lt_irrefl s), e3 a s ha sw', if_pos sa, e2s]
    exact fmod_abs _ _ p.ne
  · rw [e4 s b hs hb, if_pos sb, e3s b hb, e3s s sw', e2s]
    exact fmod_abs _ _ p.ne
  · rw [e4 a b ha hb, if_pos sb, e3 a b ha hb, if_pos sa, e4 a s ha sw', if_neg (Nat.lt_irrefl s), e3 a s ha sw', if_pos sa, e4 s b hs hb, if_pos sb, e3s b hb, e3s s sw', e2s]
    unfold mn
    rw [e2s]
    generalize (ent (tu2 t s i k) a s).fdiv (ent t i k) = q
    generalize (ent (tu2 t s i k) s b).fdiv (ent t i k) = r
    generalize ent t i k = p
    grind
end
end Gp
end
/-! Sv -/
section
set_option Elab.async false
set_option linter.all false
set_option maxRecDepth 100000
namespace Gp
theorem detF_cg3 {f g : Fn} (h : ∀ i j, i < 3 → j < 3 → f i j = g i j) : detF 3 f = detF 3 g := by
  simp only [detF]
  rw [h 0 0 (by omega) (by omega), h 0 1 (by omega) (by omega), h 1 0 (by omega) (by omega), h 1 1 (by omega) (by omega), h 0 2 (by omega) (by omega), h 1 2 (by omega) (by omega), h 2 0 (by omega) (by omega), h 2 1 (by omega) (by omega), h 2 2 (by omega) (by omega)]
theorem det_swC {w s k : Nat} (h3 : w ≤ 3) (hs : s < w) (hk : k < w) (F : Fn) : (detF w (fun a b => F a (sw s k b))).natAbs = (detF w F).natAbs := by
  have := det_sw h3 hs hk (fun a b => F b a)
  rw [det_tr h3 F] at this
  rw [← det_tr h3]
  show (detF w (swF (fun a b => F b a) s k)).natAbs = _
  rw [this]
  split <;> simp
section
variable {h w s a i k : Nat} {f0 : Fn} {t : Mx}
theorem SI.cl2 (I : SI h w f0 s a t) (hs : s < h) (p : Pv h w s (ent t) i k) : ∀ x y, x < h → y < w → x < s ∨ y < s → x ≠ y → ent (tu2 t s i k) x y = 0 := by
  intro x y hx hy hc hne
  obtain ⟨_, _, _, _, _, _, e2⟩ := I.td hs p
  have hw := I.hw
  rw [e2 x y hx hy]
  have hx' := sw_lt (s := s) hs p.hi.2 hx
  have hy' := sw_lt (s := s) (by omega) p.hk.2 hy
  by_cases c1 : x < s
  · rw [sw_low c1 p.hi.1] at *
    by_cases c2 : y < s
    · rw [sw_low c2 p.hk.1] at *
      exact I.cl x y hx hy (.inl c1) hne
    · have := sw_high (s := s) (i := k) (a := y) (by omega) p.hk.1
      exact I.cl x _ hx hy' (.inl c1) (by omega)
  · have c2 : y < s := by omega
    rw [sw_low c2 p.hk.1] at *
    have := sw_high (s := s) (i := i) (a := x) (by omega) p.hi.1
    exact I.cl _ y hx' hy (.inr c2) (by omega)
theorem SI.cl4 (I : SI h w f0 s a t) (hs : s < h) (p : Pv h w s (ent t) i k) : ∀ x y, x < h → y < w → x < s ∨ y < s → x ≠ y → ent (tu4 t s h w i k) x y = 0 := by
  intro x y hx hy hc hne
  obtain ⟨_, _, _, _, e3, e4, _⟩ := I.td hs p
  have hw := I.hw
  have z2 := I.cl2 hs p
  have z3 : ∀ x y, x < h → y < w → x < s ∨ y < s → x ≠ y → ent (tu3 t s h i k) x y = 0 := fun x y hx hy hc hne => by
    rw [e3 x y hx hy]
    split
    · rw [z2 x y hx hy hc hne, z2 s y hs hy (.inr (by omega)) (by omega)]
      simp
    · exact z2 x y hx hy hc hne
  rw [e4 x y hx hy]
  split
  · rw [z3 x y hx hy hc hne, z3 x s hx (by omega) (.inl (by omega)) (by omega)]
    simp
  · exact z3 x y hx hy hc hne
theorem SI.ps4 (I : SI h w f0 s a t) (hs : s < h) (p : Pv h w s (ent t) i k) : ∀ x, x < s → 0 ≤ ent (tu4 t s h w i k) x x := by
  intro x hx
  obtain ⟨_, _, _, _, e3, e4, e2⟩ := I.td hs p
  have hw := I.hw
  rw [e4 x x (by omega) (by omega), if_neg (by omega), e3 x x (by omega) (by omega), if_neg (by omega), e2 x x (by omega) (by omega), sw_low hx p.hi.1, sw_low hx p.hk.1]
  exact I.ps x hx
theorem SI.eq4 (I : SI h w f0 s a t) (hs : s < h) (p : Pv h w s (ent t) i k) : Comp h w f0 ↔ Comp h w (ent (tu4 t s h w i k)) := by
  obtain ⟨_, _, _, _, e3, e4, e2⟩ := I.td hs p
  have hw := I.hw
  have w3 := I.w3
  refine I.eq.trans ?_
  refine (Comp.swR (f' := fun x y => ent t (sw s i x) y) w3 hw hs p.hi.2 fun x y _ _ => rfl).trans ?_
  refine (Comp.swC (f' := ent (tu2 t s i k)) w3 (by omega) p.hk.2 fun x y hx hy => e2 x y hx hy).trans ?_
  refine (Comp.shear (f' := ent (tu3 t s h i k)) w3 hw hs (fun x => if s < x then (ent (tu2 t s i k) x s).fdiv (ent t i k) else 0) (by simp) fun x y hx hy => ?_).trans ?_
  · rw [e3 x y hx hy]
    split <;> simp
  · refine Comp.shearC (s := s) w3 (by omega) (fun y => if s < y then (ent (tu2 t s i k) s y).fdiv (ent t i k) else 0) (by simp) fun x y hx hy => ?_
    rw [e4 x y hx hy]
    split <;> simp
theorem SI.det4 (I : SI h w f0 0 a t) (h3 : h = 3) (w3 : w = 3) (p : Pv h w 0 (ent t) i k) : (detF 3 (ent (tu4 t 0 h w i k))).natAbs = (detF 3 (ent t)).natAbs := by
  subst h3 w3
  obtain ⟨_, _, _, _, e3, e4, e2⟩ := I.td (by decide) p
  have d4 : detF 3 (ent (tu4 t 0 3 3 i k)) = detF 3 (ent (tu3 t 0 3 i k)) := by
    rw [← det_shearC (s := 0) (by decide) (by decide) (fun y => if 0 < y then (ent (tu2 t 0 i k) 0 y).fdiv (ent t i k) else 0) (by simp) (ent (tu3 t 0 3 i k))]
    refine detF_cg3 fun x y hx hy => ?_
    rw [e4 x y hx hy]
    split <;> simp
  have d3 : detF 3 (ent (tu3 t 0 3 i k)) = detF 3 (ent (tu2 t 0 i k)) := by
    rw [← det_shear (s := 0) (by decide) (by decide) (fun x => if 0 < x then (ent (tu2 t 0 i k) x 0).fdiv (ent t i k) else 0) (by simp) (ent (tu2 t 0 i k))]
    refine detF_cg3 fun x y hx hy => ?_
    rw [e3 x y hx hy]
    split <;> simp
  have d2 : (detF 3 (ent (tu2 t 0 i k))).natAbs = (detF 3 (ent t)).natAbs := by
    have e : detF 3 (ent (tu2 t 0 i k)) = detF 3 (fun x y => swF (ent t) 0 i x (sw 0 k y)) := detF_cg3 fun x y hx hy => e2 x y hx hy
    rw [e, det_swC (by decide) (by decide) p.hk.2 (swF (ent t) 0 i), det_sw (n := 3) (k := 0) (c := i) (by decide) (by decide) p.hi.2 (ent t)]
    split <;> simp
  rw [d4, d3, d2]
end
end Gp
end
/-! Sw -/
section
set_option Elab.async false
set_option linter.all false
set_option maxRecDepth 100000
namespace Gp
theorem below_nil {t : Mx} {s h : Nat} (e : below t s h = []) : ∀ i, s < i → i < h → ent t i s = 0 := fun i h1 h2 => by
  have := List.filter_eq_nil_iff.mp e i (List.mem_range'_1.mpr ⟨by omega, by omega⟩)
  simpa using this
theorem beside_nil {t : Mx} {s w : Nat} (e : beside t s w = []) : ∀ k, s < k → k < w → ent t s k = 0 := fun k h1 h2 => by
  have := List.filter_eq_nil_iff.mp e k (List.mem_range'_1.mpr ⟨by omega, by omega⟩)
  simpa using this
theorem below_ne {t : Mx} {s h : Nat} (e : below t s h ≠ []) : ∃ i, s < i ∧ i < h ∧ ent t i s ≠ 0 := by
  obtain ⟨i, hi⟩ := List.exists_mem_of_ne_nil _ e
  have h2 := List.mem_filter.mp hi
  have h3 := List.mem_range'_1.mp h2.1
  exact ⟨i, by omega, by omega, by simpa using h2.2⟩
theorem beside_ne {t : Mx} {s w : Nat} (e : beside t s w ≠ []) : ∃ k, s < k ∧ k < w ∧ ent t s k ≠ 0 := by
  obtain ⟨i, hi⟩ := List.exists_mem_of_ne_nil _ e
  have h2 := List.mem_filter.mp hi
  have h3 := List.mem_range'_1.mp h2.1
  exact ⟨i, by omega, by omega, by simpa using h2.2⟩
section
variable {h w s a i k : Nat} {f0 : Fn} {t : Mx}
/-- the pivot's size -/
theorem SI.piv (I : SI h w f0 s a t) (hs : s < h) (p : Pv h w s (ent t) i k) : 2 * (ent t i k).natAbs ≤ a ∧ (2 * (ent t i k).natAbs < a ∨ (ent t s s ≠ 0 ∧ (ent t i k).natAbs = (ent t s s).natAbs ∧ ∃ l, s < l ∧ l < w ∧ ¬ ent t s s ∣ ent t s l)) := by
  have hw := I.hw
  rcases I.ms with z | ⟨x, y, x1, x2, y1, y2, ne, le⟩ | ⟨ne, le, l, l1, l2, nd⟩
  · exact absurd (z i k p.hi.1 p.hi.2 p.hk.1 p.hk.2) p.ne
  · have := p.le x y x1 x2 y1 y2 ne
    exact ⟨by omega, .inl (by omega)⟩
  · have := p.le s s (Nat.le_refl s) hs (Nat.le_refl s) (by omega) ne
    refine ⟨by omega, ?_⟩
    by_cases c : (ent t i k).natAbs = (ent t s s).natAbs
    · exact .inr ⟨ne, c, l, l1, l2, nd⟩
    · exact .inl (by omega)
/-- bounds of the cells and of the corner's minors -/
theorem SI.bnd (I : SI h w f0 s a t) (hs : s < h) (p : Pv h w s (ent t) i k) : ∃ E D, E + D < 2 ^ 62 ∧ (∀ x y, s ≤ x → x < h → s ≤ y → y < w → (ent (tu2 t s i k) x y).natAbs ≤ E) ∧ (∀ x y, s < x → x < h → s < y → y < w → (mn (ent (tu2 t s i k)) s x s y).natAbs ≤ D) := by
  obtain ⟨_, _, _, _, _, _, e2⟩ := I.td hs p
  have hw := I.hw
  have sws : s < w := by omega
  have ge : ∀ {x}, s ≤ x → s ≤ sw s i x := fun hx => sw_high hx p.hi.1
  have gek : ∀ {x}, s ≤ x → s ≤ sw s k x := fun hx => sw_high hx p.hk.1
  have mn2 : ∀ x y, x < h → y < w → mn (ent (tu2 t s i k)) s x s y = mn (ent t) (sw s i s) (sw s i x) (sw s k s) (sw s k y) := fun x y hx hy => by
    unfold mn
    rw [e2 s s hs sws, e2 x y hx hy, e2 s y hs hy, e2 x s hx sws]
  cases I.bd with
  | big h0 hw3 hh ha hm h3 he =>
    have := gB_hi a
    refine ⟨gB a + 2 ^ 20, gB a, by omega, fun x y _ hx _ hy => ?_, fun x y _ hx _ hy => ?_⟩
    · rw [e2 x y hx hy]
      exact he _ _ (sw_lt hs p.hi.2 hx) (sw_lt sws p.hk.2 hy)
    · rw [mn2 x y hx hy]
      exact hm _ _ _ _ (sw_lt hs p.hi.2 hs) (sw_lt hs p.hi.2 hx) (sw_lt sws p.hk.2 sws) (sw_lt sws p.hk.2 hy)
  | two hh hw2 hd he hp =>
    refine ⟨2 ^ 61, 2 ^ 20, by decide, fun x y sx hx sy hy => ?_, fun x y sx hx sy hy => ?_⟩
    · rw [e2 x y hx hy]
      exact he _ _ (ge sx) (sw_lt hs p.hi.2 hx) (gek sy) (sw_lt sws p.hk.2 hy)
    · rw [mn2 x y hx hy]
      obtain rfl : x = s + 1 := by omega
      obtain rfl : y = s + 1 := by omega
      have i2 : i = s ∨ i = s + 1 := by have := p.hi; omega
      have k2 : k = s ∨ k = s + 1 := by have := p.hk; omega
      have a1 : sw s s s = s := sw_self s s
      have a2 : sw s s (s + 1) = s + 1 := by unfold sw; simp
      have a3 : sw s (s + 1) s = s + 1 := sw_self s (s + 1)
      have a4 : sw s (s + 1) (s + 1) = s := by unfold sw; simp
      have g1 : mn (ent t) (s + 1) s s (s + 1) = - mn (ent t) s (s + 1) s (s + 1) := by unfold mn; grind
      have g2 : mn (ent t) s (s + 1) (s + 1) s = - mn (ent t) s (s + 1) s (s + 1) := by unfold mn; grind
      have g3 : mn (ent t) (s + 1) s (s + 1) s = mn (ent t) s (s + 1) s (s + 1) := by unfold mn; grind
      rcases i2 with rfl | rfl <;> rcases k2 with rfl | rfl <;> simp only [a1, a2, a3, a4] <;> first | exact hd | (rw [g1, Int.natAbs_neg]; exact hd) | (rw [g2, Int.natAbs_neg]; exact hd) | (rw [g3]; exact hd)
  | one hh he =>
    refine ⟨2 ^ 61, 0, by decide, fun x y sx hx sy hy => ?_, fun x y sx hx _ _ => by omega⟩
    obtain rfl : x = s := by omega
    have i2 : i = x := by have := p.hi; omega
    rw [e2 x y hx hy, i2, sw_self]
    exact he _ (gek sy) (sw_lt sws p.hk.2 hy)
  | zero hz => exact absurd (hz i k p.hi.1 p.hi.2 p.hk.1 p.hk.2) p.ne
end
end Gp
end
/-! Sx -/
section
set_option Elab.async false
set_option linter.all false
set_option maxRecDepth 100000
namespace Gp
section
variable {h w s a i k : Nat} {f0 : Fn} {t : Mx}
theorem SI.b3 (I : SI h w f0 s a t) (hs : s < h) (p : Pv h w s (ent t) i k) : ∀ x y, s ≤ x → x < h → s ≤ y → y < w → (ent (tu3 t s h i k) x y).natAbs < 2 ^ 63 := by
  obtain ⟨_, _, _, T, e3, e4, e2⟩ := I.td hs p
  have hw := I.hw
  have sws : s < w := by omega
  obtain ⟨E, D, hED, hE, hD⟩ := I.bnd hs p
  intro x y sx hx sy hy
  by_cases cx : s < x
  · have ex := e3 x y hx hy
    rw [if_pos cx] at ex
    have r4 : ent (tu4 t s h w i k) x s = ent (tu3 t s h i k) x s := by rw [e4 x s hx sws, if_neg (Nat.lt_irrefl s)]
    have r3 := e3 x s hx sws
    rw [if_pos cx, T.gp] at r3
    by_cases cy : s < y
    · have rho := T.rho x cx hx
      have m := hD x y cx hx cy hy
      have ee := hE s y (Nat.le_refl s) hs sy hy
      have e : ent t i k * ent (tu3 t s h i k) x y = mn (ent (tu2 t s i k)) s x s y + ent (tu4 t s h w i k) x s * ent (tu2 t s i k) s y := by
        rw [ex, r4, r3]
        unfold mn
        rw [T.gp]
        generalize (ent (tu2 t s i k) x s).fdiv (ent t i k) = q
        grind
      have h1 : (ent t i k).natAbs * (ent (tu3 t s h i k) x y).natAbs ≤ D + (ent t i k).natAbs * E := by
        rw [← Int.natAbs_mul, e]
        have h2 : (ent (tu4 t s h w i k) x s * ent (tu2 t s i k) s y).natAbs ≤ (ent t i k).natAbs * E := by rw [Int.natAbs_mul]; exact Nat.mul_le_mul (by omega) ee
        generalize ent (tu4 t s h w i k) x s * ent (tu2 t s i k) s y = z at h2 ⊢
        omega
      have p0 : 0 < (ent t i k).natAbs := Int.natAbs_pos.mpr p.ne
      have h3 : (ent t i k).natAbs * (ent (tu3 t s h i k) x y).natAbs ≤ (ent t i k).natAbs * (D + E) := by
        rw [Nat.mul_add]
        have := Nat.le_mul_of_pos_left D p0
        omega
      have := Nat.le_of_mul_le_mul_left h3 p0
      omega
    · obtain rfl : y = s := by omega
      have rho := T.rho x cx hx
      rw [r4] at rho
      have ee := hE y y (Nat.le_refl y) hs (Nat.le_refl y) hy
      rw [T.gp] at ee
      omega
  · obtain rfl : x = s := by omega
    rw [e3 x y hx hy, if_neg cx]
    have := hE x y sx hx sy hy
    omega
theorem SI.m2 (I : SI h w f0 s a t) (hs : s < h) (p : Pv h w s (ent t) i k) (hh : h = s + 2) (hw2 : w = s + 2) (hd : (mn (ent t) s (s + 1) s (s + 1)).natAbs ≤ 2 ^ 20) : (mn (ent (tu2 t s i k)) s (s + 1) s (s + 1)).natAbs ≤ 2 ^ 20 := by
  obtain ⟨_, _, _, _, _, _, e2⟩ := I.td hs p
  have sws : s < w := by omega
  have e : mn (ent (tu2 t s i k)) s (s + 1) s (s + 1) = mn (ent t) (sw s i s) (sw s i (s + 1)) (sw s k s) (sw s k (s + 1)) := by
    unfold mn
    rw [e2 s s hs sws, e2 (s + 1) (s + 1) (by omega) (by omega), e2 s (s + 1) hs (by omega), e2 (s + 1) s (by omega) sws]
  have i2 : i = s ∨ i = s + 1 := by have := p.hi; omega
  have k2 : k = s ∨ k = s + 1 := by have := p.hk; omega
  have a1 : sw s s s = s := sw_self s s
  have a2 : sw s s (s + 1) = s + 1 := by unfold sw; simp
  have a3 : sw s (s + 1) s = s + 1 := sw_self s (s + 1)
  have a4 : sw s (s + 1) (s + 1) = s := by unfold sw; simp
  have g1 : mn (ent t) (s + 1) s s (s + 1) = - mn (ent t) s (s + 1) s (s + 1) := by unfold mn; grind
  have g2 : mn (ent t) s (s + 1) (s + 1) s = - mn (ent t) s (s + 1) s (s + 1) := by unfold mn; grind
  have g3 : mn (ent t) (s + 1) s (s + 1) s = mn (ent t) s (s + 1) s (s + 1) := by unfold mn; grind
  rw [e]
  rcases i2 with rfl | rfl <;> rcases k2 with rfl | rfl <;> simp only [a1, a2, a3, a4] <;> first | exact hd | (rw [g1, Int.natAbs_neg]; exact hd) | (rw [g2, Int.natAbs_neg]; exact hd) | (rw [g3]; exact hd)
theorem SI.again (I : SI h w f0 s a t) (hs : s < h) (p : Pv h w s (ent t) i k) (hc : ¬ (below (tu4 t s h w i k) s h = [] ∧ beside (tu4 t s h w i k) s w = [])) : ∃ a', a' < a ∧ SI h w f0 s a' (tu4 t s h w i k) := by
  obtain ⟨s2, _, s4, T, e3, e4, e2⟩ := I.td hs p
  have hw := I.hw
  have w3 := I.w3
  have sws : s < w := by omega
  have pa := (I.piv hs p).1
  have p0 : 0 < (ent t i k).natAbs := Int.natAbs_pos.mpr p.ne
  obtain ⟨x, y, sx, hx, sy, hy, ne, lt⟩ : ∃ x y, s ≤ x ∧ x < h ∧ s ≤ y ∧ y < w ∧ ent (tu4 t s h w i k) x y ≠ 0 ∧ (ent (tu4 t s h w i k) x y).natAbs < (ent t i k).natAbs := by
    by_cases c : below (tu4 t s h w i k) s h = []
    · obtain ⟨y, h1, h2, h3⟩ := beside_ne (fun z => hc ⟨c, z⟩)
      exact ⟨s, y, Nat.le_refl s, hs, by omega, h2, h3, T.gam y h1 h2⟩
    · obtain ⟨x, h1, h2, h3⟩ := below_ne c
      exact ⟨x, s, by omega, h2, Nat.le_refl s, sws, h3, T.rho x h1 h2⟩
  refine ⟨2 * (ent t i k).natAbs - 1, by omega, ⟨s4, I.h1, hw, w3, I.hs, I.cl4 hs p, I.ps4 hs p, I.eq4 hs p, ?_, .inr (.inl ⟨x, y, sx, hx, sy, hy, ne, by omega⟩)⟩⟩
  have B := I.bd
  cases B with
  | big h0 hw3 hh ha hm h3 he =>
    subst h0 hw3
    have hmg : ∀ i' j k' l, i' < h → j < h → k' < 3 → l < 3 → (mn (ent (tu2 t 0 i k)) i' j k' l).natAbs ≤ gB a := fun i' j k' l h1 h2 h3' h4 => by
      have e : mn (ent (tu2 t 0 i k)) i' j k' l = mn (ent t) (sw 0 i i') (sw 0 i j) (sw 0 k k') (sw 0 k l) := by
        unfold mn
        rw [e2 _ _ h1 h3', e2 _ _ h2 h4, e2 _ _ h1 h4, e2 _ _ h2 h3']
      rw [e]
      exact hm _ _ _ _ (sw_lt hs p.hi.2 h1) (sw_lt hs p.hi.2 h2) (sw_lt (by decide) p.hk.2 h3') (sw_lt (by decide) p.hk.2 h4)
    obtain ⟨M1, M2⟩ := T.minors hh hmg (fun e => by rw [I.det4 e rfl p]; exact h3 e) (gB_lo a) (by omega)
    have st : 8 * gB a ≤ gB (2 * (ent t i k).natAbs - 1) := gB_step (by omega) ha
    refine .big rfl rfl hh (by omega) (fun i' j k' l h1 h2 h3 h4 => Nat.le_trans (M1 i' j k' l h1 h2 h3 h4) st) (fun e => by rw [I.det4 e rfl p]; exact h3 e) fun i' k' h1 h2 => ?_
    have := M2 i' k' h1 h2
    omega
  | two hh hw2 hd he hp =>
    obtain ⟨u, v, u1, u2, v1, v2, un, ul⟩ := hp
    have pl := p.le u v u1 u2 v1 v2 un
    have b2 := I.m2 hs p hh hw2 hd
    have X := T.X (s + 1) (s + 1) (by omega) (by omega) (by omega) (by omega)
    have rho := T.rho (s + 1) (by omega) (by omega)
    have gam := T.gam (s + 1) (by omega) (by omega)
    have xl := x_le p0 (px_le X b2 rho gam)
    refine .two hh hw2 ?_ (fun x y sx hx sy hy => ?_) ⟨x, y, sx, hx, sy, hy, ne, by omega⟩
    · have e : mn (ent (tu4 t s h w i k)) s (s + 1) s (s + 1) = mn (ent (tu2 t s i k)) s (s + 1) s (s + 1) := by
        have h2 : mn (ent (tu4 t s h w i k)) s (s + 1) s (s + 1) = ent t i k * ent (tu4 t s h w i k) (s + 1) (s + 1) - ent (tu4 t s h w i k) s (s + 1) * ent (tu4 t s h w i k) (s + 1) s := by
          unfold mn
          rw [T.ss]
        rw [h2, X]
        grind
      rw [e]
      exact b2
    · have x2 : x = s ∨ x = s + 1 := by omega
      have y2 : y = s ∨ y = s + 1 := by omega
      rcases x2 with rfl | rfl <;> rcases y2 with rfl | rfl
      · rw [T.ss]; omega
      · omega
      · omega
      · omega
  | one hh he =>
    have hi2 : i = s := by have := p.hi; omega
    have hp := he k p.hk.1 p.hk.2
    rw [← hi2] at hp
    refine .one hh fun y sy hy => ?_
    by_cases c : s < y
    · have := T.gam y c hy
      omega
    · obtain rfl : y = s := by omega
      rw [T.ss]
      exact hp
  | zero hz => exact absurd (hz i k p.hi.1 p.hi.2 p.hk.1 p.hk.2) p.ne
end
end Gp
end
/-! Sy -/
section
set_option Elab.async false
set_option linter.all false
set_option maxRecDepth 100000
namespace Gp
theorem Sh.rl {t : Mx} {h w i : Nat} (s : Sh t h w) (hi : i < h) : (t.getD i []).length = w := by
  have hl : i < t.length := by rw [s.len]; exact hi
  rw [List.getD_eq_getElem?_getD, List.getElem?_eq_getElem hl]
  exact s.row _ (List.getElem_mem hl)
section
variable {h w s a i k : Nat} {f0 : Fn} {t : Mx}
/-- behind a clear turn: the cells behind the corner -/
theorem SI.clear (I : SI h w f0 s a t) (hs : s < h) (p : Pv h w s (ent t) i k) (hc : below (tu4 t s h w i k) s h = [] ∧ beside (tu4 t s h w i k) s w = []) :
    (∀ x y, s < x → x < h → s < y → y < w → ent t i k * ent (tu4 t s h w i k) x y = mn (ent (tu2 t s i k)) s x s y) := by
  obtain ⟨s2, _, s4, T, e3, e4, e2⟩ := I.td hs p
  intro x y sx hx sy hy
  rw [T.X x y sx hx sy hy, below_nil hc.1 x sx hx]
  simp
theorem ent_setrow {t : Mx} {h w s x y : Nat} {r : List Int} (sh : Sh t h w) (hs : s < h) : ent (t.set s r) x y = if x = s then r.getD y 0 else ent t x y := by
  unfold ent
  by_cases c : x = s
  · subst c
    have : x < t.length := by rw [sh.len]; exact hs
    simp [List.getD_eq_getElem?_getD, this]
  · rw [if_neg c, List.getD_eq_getElem?_getD (l := t.set s r), List.getElem?_set_ne (Ne.symm c), ← List.getD_eq_getElem?_getD]
theorem SI.unfit (I : SI h w f0 s a t) (hs : s < h) (p : Pv h w s (ent t) i k) (hc : below (tu4 t s h w i k) s h = [] ∧ beside (tu4 t s h w i k) s w = []) (r l : Nat) (sr : s < r) (hr : r < h) (sl : s < l) (hl : l < w) (nd : ¬ ent (tu4 t s h w i k) s s ∣ ent (tu4 t s h w i k) r l) :
    ∃ a', a' < a ∧ SI h w f0 s a' ((tu4 t s h w i k).set s (lessI ((tu4 t s h w i k).getD s []) (-1) ((tu4 t s h w i k).getD r []))) := by
  obtain ⟨s2, _, s4, T, e3, e4, e2⟩ := I.td hs p
  have hw := I.hw
  have w3 := I.w3
  have sws : s < w := by omega
  have p0 : 0 < (ent t i k).natAbs := Int.natAbs_pos.mpr p.ne
  have b0 := below_nil hc.1
  have c0 := beside_nil hc.2
  have lt : 2 * (ent t i k).natAbs < a := by
    rcases (I.piv hs p).2 with q | ⟨ne, e, l', l1, l2, nd'⟩
    · exact q
    · exfalso
      obtain ⟨rfl, rfl⟩ := p.tie ne (by rw [e]; exact Nat.le_refl _)
      have z := c0 l' l1 l2
      have z2 := e4 k l' hs l2
      rw [if_pos l1, z] at z2
      have z3 := e3 k l' hs l2
      rw [if_neg (Nat.lt_irrefl _)] at z3
      have z4 := e3 k k hs sws
      rw [if_neg (Nat.lt_irrefl _), T.gp] at z4
      rw [z3, z4] at z2
      have z5 : ent (tu2 t k k k) k l' = ent t k l' := by
        rw [e2 k l' hs l2, sw_self]
        unfold sw
        rw [if_neg (by omega), if_neg (by omega)]
      rw [z5] at z2
      exact nd' ⟨(ent t k l').fdiv (ent t k k), by
        have : ent t k l' = (ent t k l').fdiv (ent t k k) * ent t k k := by omega
        rw [Int.mul_comm]
        exact this⟩
  have s5 : Sh ((tu4 t s h w i k).set s (lessI ((tu4 t s h w i k).getD s []) (-1) ((tu4 t s h w i k).getD r []))) h w := s4.set (by rw [lessI_length, s4.rl hs, s4.rl hr, Nat.min_self])
  have e5 : ∀ x y, x < h → y < w → ent ((tu4 t s h w i k).set s (lessI ((tu4 t s h w i k).getD s []) (-1) ((tu4 t s h w i k).getD r []))) x y = if x = s then ent (tu4 t s h w i k) s y + ent (tu4 t s h w i k) r y else ent (tu4 t s h w i k) x y := fun x y hx hy => by
    rw [ent_setrow s4 hs]
    split
    · unfold lessI
      rw [getD_map _ _ _ (0, 0) _ (by rw [List.length_zip, s4.rl hs, s4.rl hr, Nat.min_self]; exact hy)]
      have z : (((tu4 t s h w i k).getD s []).zip ((tu4 t s h w i k).getD r [])).getD y (0, 0) = (ent (tu4 t s h w i k) s y, ent (tu4 t s h w i k) r y) := by
        unfold ent
        rw [List.getD_eq_getElem?_getD]
        have g1 : y < ((tu4 t s h w i k).getD s []).length := by rw [s4.rl hs]; exact hy
        have g2 : y < ((tu4 t s h w i k).getD r []).length := by rw [s4.rl hr]; exact hy
        have zz : (((tu4 t s h w i k).getD s []).zip ((tu4 t s h w i k).getD r []))[y]? = some (((tu4 t s h w i k).getD s [])[y], ((tu4 t s h w i k).getD r [])[y]) := List.getElem?_zip_eq_some.mpr ⟨List.getElem?_eq_getElem g1, List.getElem?_eq_getElem g2⟩
        rw [zz]
        simp only [Option.getD_some, List.getD_eq_getElem?_getD (i := y), List.getElem?_eq_getElem g1, List.getElem?_eq_getElem g2]
      rw [z]
      simp
    · rfl
  generalize (tu4 t s h w i k).set s (lessI ((tu4 t s h w i k).getD s []) (-1) ((tu4 t s h w i k).getD r [])) = t5 at s5 e5 ⊢
  have cl := I.clear hs p hc
  have e5s : ∀ y, s < y → y < w → ent t5 s y = ent (tu4 t s h w i k) r y := fun y sy hy => by rw [e5 s y hs hy, if_pos rfl, c0 y sy hy, Int.zero_add]
  have e5c : ent t5 s s = ent t i k := by rw [e5 s s hs sws, if_pos rfl, T.ss, b0 r sr hr, Int.add_zero]
  have e5x : ∀ x y, x < h → y < w → x ≠ s → ent t5 x y = ent (tu4 t s h w i k) x y := fun x y hx hy hne => by rw [e5 x y hx hy, if_neg hne]
  refine ⟨2 * (ent t i k).natAbs, lt, ⟨s5, I.h1, hw, w3, I.hs, fun x y hx hy hxy hne => ?_, fun x hx => ?_, (I.eq4 hs p).trans ?_, ?_, .inr (.inr ⟨by rw [e5c]; exact p.ne, by rw [e5c]; exact Nat.le_refl _, l, sl, hl, ?_⟩)⟩⟩
  · have c4 := I.cl4 hs p
    rw [e5 x y hx hy]
    split
    · rename_i ex
      subst ex
      rw [c4 x y hx hy hxy hne, c4 r y hr hy (.inr (by omega)) (by omega)]
      rfl
    · exact c4 x y hx hy hxy hne
  · rw [e5x x x (by omega) (by omega) (by omega)]
    exact I.ps4 hs p x hx
  · refine Comp.shear (s := r) w3 hw hr (fun x => if x = s then -1 else 0) (by rw [if_neg (by omega)]) fun x y hx hy => ?_
    rw [e5 x y hx hy]
    split
    · rename_i ex
      rw [ex]
      omega
    · omega
  · cases I.bd with
    | big h0 hw3 hh ha hm h3 he =>
      subst h0 hw3
      have mono : gB a ≤ gB (2 * (ent t i k).natAbs) := gB_mono (by omega)
      have lo := gB_lo a
      have M : ∀ x y, 0 < x → x < h → 0 < y → y < 3 → (ent t i k * ent (tu4 t 0 h 3 i k) x y).natAbs ≤ gB a := fun x y x0 hx y0 hy => by
        rw [cl x y x0 hx y0 hy]
        have e : mn (ent (tu2 t 0 i k)) 0 x 0 y = mn (ent t) (sw 0 i 0) (sw 0 i x) (sw 0 k 0) (sw 0 k y) := by
          unfold mn
          rw [e2 _ _ hs (by decide), e2 _ _ hx hy, e2 _ _ hs hy, e2 _ _ hx (by decide)]
        rw [e]
        exact hm _ _ _ _ (sw_lt hs p.hi.2 hs) (sw_lt hs p.hi.2 hx) (sw_lt (by decide) p.hk.2 (by decide)) (sw_lt (by decide) p.hk.2 hy)
      have X : ∀ x y, 0 < x → x < h → 0 < y → y < 3 → (ent (tu4 t 0 h 3 i k) x y).natAbs ≤ gB a := fun x y x0 hx y0 hy => by
        have := M x y x0 hx y0 hy
        rw [Int.natAbs_mul] at this
        exact div_le p0 this
      have dX : h = 3 → (mn (ent (tu4 t 0 h 3 i k)) 1 2 1 2).natAbs ≤ 2 ^ 20 := fun e => by
        subst e
        have d := I.det4 rfl rfl p
        have d3 := h3 rfl
        have e : detF 3 (ent (tu4 t 0 3 3 i k)) = ent t i k * mn (ent (tu4 t 0 3 3 i k)) 1 2 1 2 := by
          simp only [detF, mn]
          rw [T.ss, b0 1 (by decide) (by decide), b0 2 (by decide) (by decide), c0 1 (by decide) (by decide), c0 2 (by decide) (by decide)]
          grind
        rw [e, Int.natAbs_mul] at d
        exact div_le p0 (by omega)
      have d5 : h = 3 → (detF 3 (ent t5)).natAbs ≤ 2 ^ 20 := fun e => by
        subst e
        have d := I.det4 rfl rfl p
        have d3 := h3 rfl
        have e : detF 3 (ent t5) = detF 3 (ent (tu4 t 0 3 3 i k)) := by
          rw [← det_shear (s := r) (by decide) hr (fun x => if x = 0 then -1 else 0) (by rw [if_neg (by omega)]) (ent (tu4 t 0 3 3 i k))]
          refine detF_cg3 fun x y hx hy => ?_
          rw [e5 x y hx hy]
          split
          · rename_i ex
            rw [ex]
            omega
          · omega
        rw [e]
        omega
      have sg : ∀ i j k l, (mn (ent t5) j i k l) = - mn (ent t5) i j k l := fun i j k l => by unfold mn; grind
      have sg2 : ∀ i j k l, (mn (ent t5) i j l k) = - mn (ent t5) i j k l := fun i j k l => by unfold mn; grind
      have z1 : ∀ i k l, mn (ent t5) i i k l = 0 := fun i k l => by unfold mn; grind
      have z2 : ∀ i j k, mn (ent t5) i j k k = 0 := fun i j k => by unfold mn; grind
      have three : ∀ k : Nat, k < 3 → k = 0 ∨ k = 1 ∨ k = 2 := fun k hk => by omega
      have cols : ∀ i j, (mn (ent t5) i j 0 1).natAbs ≤ gB a → (mn (ent t5) i j 0 2).natAbs ≤ gB a → (mn (ent t5) i j 1 2).natAbs ≤ gB a → ∀ k l, k < 3 → l < 3 → (mn (ent t5) i j k l).natAbs ≤ gB a := fun i j c1 c2 c3 k l hk hl => by
        rcases three k hk with rfl | rfl | rfl <;> rcases three l hl with rfl | rfl | rfl <;> first | (rw [z2]; simp) | assumption | (rw [sg2, Int.natAbs_neg]; assumption)
      have r0 : ∀ x, 0 < x → x < h → ∀ k' l', k' < 3 → l' < 3 → (mn (ent t5) 0 x k' l').natAbs ≤ gB a := fun x x0 hx => by
        have q : ∀ y, 0 < y → y < 3 → (mn (ent t5) 0 x 0 y).natAbs ≤ gB a := fun y y0 hy => by
          have e : mn (ent t5) 0 x 0 y = ent t i k * ent (tu4 t 0 h 3 i k) x y := by
            unfold mn
            rw [e5c, e5x x y hx hy (by omega), e5x x 0 hx (by decide) (by omega), b0 x x0 hx]
            simp
          rw [e]
          exact M x y x0 hx y0 hy
        refine cols 0 x (q 1 (by decide) (by decide)) (q 2 (by decide) (by decide)) ?_
        have e : mn (ent t5) 0 x 1 2 = mn (ent (tu4 t 0 h 3 i k)) r x 1 2 := by
          unfold mn
          rw [e5s 1 (by decide) (by decide), e5s 2 (by decide) (by decide), e5x x 1 hx (by decide) (by omega), e5x x 2 hx (by decide) (by omega)]
        rw [e]
        have zz : ∀ x, mn (ent (tu4 t 0 h 3 i k)) x x 1 2 = 0 := fun x => by unfold mn; grind
        have ss : mn (ent (tu4 t 0 h 3 i k)) 2 1 1 2 = - mn (ent (tu4 t 0 h 3 i k)) 1 2 1 2 := by unfold mn; grind
        have r2 : r = 1 ∨ r = 2 := by omega
        have x2 : x = 1 ∨ x = 2 := by omega
        rcases r2 with rfl | rfl <;> rcases x2 with rfl | rfl
        · rw [zz]; simp
        · have := dX (by omega); omega
        · rw [ss, Int.natAbs_neg]
          have := dX (by omega); omega
        · rw [zz]; simp
      have r12 : h = 3 → ∀ k' l', k' < 3 → l' < 3 → (mn (ent t5) 1 2 k' l').natAbs ≤ gB a := fun e => by
        have q : ∀ y, 0 < y → y < 3 → (mn (ent t5) 1 2 0 y).natAbs ≤ gB a := fun y y0 hy => by
          have e : mn (ent t5) 1 2 0 y = 0 := by
            unfold mn
            rw [e5x 1 0 (by omega) (by decide) (by decide), e5x 2 0 (by omega) (by decide) (by decide), b0 1 (by decide) (by omega), b0 2 (by decide) (by omega)]
            simp
          rw [e]
          simp
        refine cols 1 2 (q 1 (by decide) (by decide)) (q 2 (by decide) (by decide)) ?_
        have e2' : mn (ent t5) 1 2 1 2 = mn (ent (tu4 t 0 h 3 i k)) 1 2 1 2 := by
          unfold mn
          rw [e5x 1 1 (by omega) (by decide) (by decide), e5x 2 2 (by omega) (by decide) (by decide), e5x 1 2 (by omega) (by decide) (by decide), e5x 2 1 (by omega) (by decide) (by decide)]
        rw [e2']
        have := dX e
        omega
      refine .big rfl rfl hh (by omega) (fun i' j k' l' h1 h2 h3' h4 => Nat.le_trans ?_ mono) d5 fun x y hx hy => ?_
      · have hi3 := three i' (by omega)
        have hj3 := three j (by omega)
        rcases hi3 with rfl | rfl | rfl <;> rcases hj3 with rfl | rfl | rfl <;> first
          | (rw [z1]; simp)
          | exact r0 _ (by decide) h2 k' l' h3' h4
          | (rw [sg, Int.natAbs_neg]; exact r0 _ (by decide) h1 k' l' h3' h4)
          | exact r12 (by omega) k' l' h3' h4
          | (rw [sg, Int.natAbs_neg]; exact r12 (by omega) k' l' h3' h4)
      · by_cases x0 : x = 0
        · subst x0
          by_cases y0 : y = 0
          · subst y0
            rw [e5c]
            omega
          · rw [e5s y (by omega) hy]
            have := X r y sr hr (by omega) hy
            omega
        · rw [e5x x y hx hy x0]
          by_cases y0 : y = 0
          · subst y0
            rw [b0 x (by omega) hx]
            simp
          · have := X x y (by omega) hx (by omega) hy
            omega
    | two hh hw2 hd he hp =>
      obtain ⟨u, v, u1, u2, v1, v2, un, ul⟩ := hp
      have pl := p.le u v u1 u2 v1 v2 un
      obtain rfl : r = s + 1 := by omega
      have b2 := I.m2 hs p hh hw2 hd
      have M := cl (s + 1) (s + 1) (by omega) (by omega) (by omega) (by omega)
      have X : (ent (tu4 t s h w i k) (s + 1) (s + 1)).natAbs ≤ 2 ^ 20 := by
        rw [← M, Int.natAbs_mul] at b2
        exact div_le p0 b2
      refine .two hh hw2 ?_ (fun x y sx hx sy hy => ?_) ⟨s, s, Nat.le_refl s, hs, Nat.le_refl s, sws, by rw [e5c]; exact p.ne, by rw [e5c]; omega⟩
      · have e : mn (ent t5) s (s + 1) s (s + 1) = ent t i k * ent (tu4 t s h w i k) (s + 1) (s + 1) := by
          unfold mn
          rw [e5c, e5x (s + 1) (s + 1) (by omega) (by omega) (by omega), e5x (s + 1) s (by omega) sws (by omega), b0 (s + 1) (by omega) (by omega)]
          simp
        rw [e, M]
        exact b2
      · have x2 : x = s ∨ x = s + 1 := by omega
        have y2 : y = s ∨ y = s + 1 := by omega
        rcases x2 with rfl | rfl <;> rcases y2 with rfl | rfl
        · rw [e5c]; omega
        · rw [e5s _ (by omega) (by omega)]; omega
        · rw [e5x _ _ (by omega) (by omega) (by omega), b0 _ (by omega) (by omega)]; simp
        · rw [e5x _ _ (by omega) (by omega) (by omega)]; omega
    | one hh he => omega
    | zero hz => exact absurd (hz i k p.hi.1 p.hi.2 p.hk.1 p.hk.2) p.ne
  · rw [e5c, e5s l sl hl]
    rw [T.ss] at nd
    exact nd
theorem SI.done (I : SI h w f0 s a t) (hs : s < h) (p : Pv h w s (ent t) i k) (hc : below (tu4 t s h w i k) s h = [] ∧ beside (tu4 t s h w i k) s w = []) :
    ∃ a', a' < 2 ^ 70 ∧ SI h w f0 (s + 1) a' (if ent (tu4 t s h w i k) s s < 0 then (tu4 t s h w i k).set s (timesI (-1) ((tu4 t s h w i k).getD s [])) else tu4 t s h w i k) := by
  obtain ⟨s2, _, s4, T, e3, e4, e2⟩ := I.td hs p
  have hw := I.hw
  have w3 := I.w3
  have sws : s < w := by omega
  have p0 : 0 < (ent t i k).natAbs := Int.natAbs_pos.mpr p.ne
  have b0 := below_nil hc.1
  have c0 := beside_nil hc.2
  have cl := I.clear hs p hc
  have c4 := I.cl4 hs p
  -- the table behind, by its cells
  obtain ⟨t5, ht5, s5, eq5, e5⟩ : ∃ t5, t5 = (if ent (tu4 t s h w i k) s s < 0 then (tu4 t s h w i k).set s (timesI (-1) ((tu4 t s h w i k).getD s [])) else tu4 t s h w i k) ∧ Sh t5 h w ∧ (Comp h w (ent (tu4 t s h w i k)) ↔ Comp h w (ent t5)) ∧
      (∀ x y, x < h → y < w → (x ≠ s → ent t5 x y = ent (tu4 t s h w i k) x y) ∧ (x = s → s ≠ y → ent t5 x y = 0 ∨ ent (tu4 t s h w i k) s y ≠ 0) ∧ (x = s → y = s → 0 ≤ ent t5 x y)) := by
    refine ⟨_, rfl, ?_⟩
    split
    · rename_i neg
      have e6 : ∀ x y, x < h → y < w → ent ((tu4 t s h w i k).set s (timesI (-1) ((tu4 t s h w i k).getD s []))) x y = if x = s then - ent (tu4 t s h w i k) x y else ent (tu4 t s h w i k) x y := fun x y hx hy => by
        rw [ent_setrow s4 hs]
        split
        · rename_i ex
          subst ex
          unfold timesI
          rw [getD_map _ _ _ 0 _ (by rw [s4.rl hs]; exact hy)]
          unfold ent
          omega
        · rfl
      refine ⟨s4.set (by unfold timesI; rw [List.length_map]; exact s4.rl hs), Comp.neg w3 sws e6, fun x y hx hy => ⟨fun hne => by rw [e6 x y hx hy, if_neg hne], fun hx' hy' => ?_, fun hx' hy' => ?_⟩⟩
      · subst hx'
        rw [e6 x y hx hy, if_pos rfl]
        by_cases z : ent (tu4 t x h w i k) x y = 0
        · left; rw [z]; rfl
        · exact .inr z
      · subst hx' hy'
        rw [e6 _ _ hx hy, if_pos rfl]
        omega
    · rename_i pos
      refine ⟨s4, Iff.rfl, fun x y hx hy => ⟨fun _ => rfl, fun hx' hy' => ?_, fun hx' hy' => ?_⟩⟩
      · subst hx'
        by_cases z : ent (tu4 t x h w i k) x y = 0
        · exact .inl z
        · exact .inr z
      · subst hx' hy'
        omega
  rw [← ht5]
  clear ht5
  have e5x : ∀ x y, x < h → y < w → x ≠ s → ent t5 x y = ent (tu4 t s h w i k) x y := fun x y hx hy hne => (e5 x y hx hy).1 hne
  -- the bounds of what is left
  have Bd5 : (∀ x y, s + 1 ≤ x → x < h → s + 1 ≤ y → y < w → ent t5 x y = 0) ∨ ((∀ x y, s + 1 ≤ x → x < h → s + 1 ≤ y → y < w → (ent t5 x y).natAbs ≤ 2 ^ 56) ∧ (h = s + 2 ∨ (h = s + 3 ∧ w = s + 3 ∧ (mn (ent t5) (s + 1) (s + 2) (s + 1) (s + 2)).natAbs ≤ 2 ^ 20))) := by
    cases I.bd with
    | big h0 hw3 hh ha hm h3 he =>
      subst h0 hw3
      have hi := gB_hi a
      have M : ∀ x y, 0 < x → x < h → 0 < y → y < 3 → (ent t i k * ent (tu4 t 0 h 3 i k) x y).natAbs ≤ gB a := fun x y x0 hx y0 hy => by
        rw [cl x y x0 hx y0 hy]
        have e : mn (ent (tu2 t 0 i k)) 0 x 0 y = mn (ent t) (sw 0 i 0) (sw 0 i x) (sw 0 k 0) (sw 0 k y) := by
          unfold mn
          rw [e2 _ _ hs (by decide), e2 _ _ hx hy, e2 _ _ hs hy, e2 _ _ hx (by decide)]
        rw [e]
        exact hm _ _ _ _ (sw_lt hs p.hi.2 hs) (sw_lt hs p.hi.2 hx) (sw_lt (by decide) p.hk.2 (by decide)) (sw_lt (by decide) p.hk.2 hy)
      refine .inr ⟨fun x y sx hx sy hy => ?_, ?_⟩
      · rw [e5x x y hx hy (by omega)]
        have := M x y (by omega) hx (by omega) hy
        rw [Int.natAbs_mul] at this
        have := div_le p0 this
        omega
      · rcases hh with rfl | rfl
        · exact .inl rfl
        · refine .inr ⟨rfl, rfl, ?_⟩
          have d := I.det4 rfl rfl p
          have d3 := h3 rfl
          have e : detF 3 (ent (tu4 t 0 3 3 i k)) = ent t i k * mn (ent (tu4 t 0 3 3 i k)) 1 2 1 2 := by
            simp only [detF, mn]
            rw [T.ss, b0 1 (by decide) (by decide), b0 2 (by decide) (by decide), c0 1 (by decide) (by decide), c0 2 (by decide) (by decide)]
            grind
          rw [e, Int.natAbs_mul] at d
          have e' : mn (ent t5) (0 + 1) (0 + 2) (0 + 1) (0 + 2) = mn (ent (tu4 t 0 3 3 i k)) 1 2 1 2 := by
            unfold mn
            rw [e5x _ _ (by decide) (by decide) (by decide), e5x _ _ (by decide) (by decide) (by decide), e5x _ _ (by decide) (by decide) (by decide), e5x _ _ (by decide) (by decide) (by decide)]
          rw [e']
          exact div_le p0 (by omega)
    | two hh hw2 hd he hp =>
      refine .inr ⟨fun x y sx hx sy hy => ?_, .inl hh⟩
      obtain rfl : x = s + 1 := by omega
      obtain rfl : y = s + 1 := by omega
      rw [e5x _ _ hx hy (by omega)]
      have b2 := I.m2 hs p hh hw2 hd
      rw [← cl (s + 1) (s + 1) (by omega) (by omega) (by omega) (by omega), Int.natAbs_mul] at b2
      have := div_le p0 b2
      omega
    | one hh he => exact .inl fun x y sx hx => by omega
    | zero hz => exact absurd (hz i k p.hi.1 p.hi.2 p.hk.1 p.hk.2) p.ne
  have base : ∀ a', Bd h w (s + 1) a' (ent t5) → Ms h w (s + 1) a' (ent t5) → SI h w f0 (s + 1) a' t5 := fun a' bd ms => by
    refine ⟨s5, I.h1, hw, w3, hs, fun x y hx hy hxy hne => ?_, fun x hx => ?_, (I.eq4 hs p).trans eq5, bd, ms⟩
    · by_cases ex : x = s
      · rcases (e5 x y hx hy).2.1 ex (by omega) with z | z
        · exact z
        · exfalso
          refine z ?_
          by_cases c : y < s
          · exact c4 s y hs hy (.inr c) (by omega)
          · exact c0 y (by omega) hy
      · rw [e5x x y hx hy ex]
        by_cases c : x < s ∨ y < s
        · exact c4 x y hx hy c hne
        · have ey : y = s := by omega
          rw [ey]
          exact b0 x (by omega) hx
    · by_cases ex : x = s
      · exact (e5 x x (by omega) (by omega)).2.2 ex ex
      · rw [e5x x x (by omega) (by omega) ex]
        exact I.ps4 hs p x (by omega)
  by_cases z : ∀ x y, s + 1 ≤ x → x < h → s + 1 ≤ y → y < w → ent t5 x y = 0
  · exact ⟨0, by decide, base 0 (.zero z) (.inl z)⟩
  · rcases Bd5 with z' | ⟨he, hd⟩
    · exact absurd z' z
    · obtain ⟨x, y, x1, x2, y1, y2, ne⟩ : ∃ x y, s + 1 ≤ x ∧ x < h ∧ s + 1 ≤ y ∧ y < w ∧ ent t5 x y ≠ 0 := by
        refine Classical.byContradiction fun q => z fun x y x1 x2 y1 y2 => Classical.byContradiction fun ne => q ⟨x, y, x1, x2, y1, y2, ne⟩
      have := he x y x1 x2 y1 y2
      refine ⟨2 * (ent t5 x y).natAbs + 1, by omega, base _ ?_ (.inr (.inl ⟨x, y, x1, x2, y1, y2, ne, Nat.le_refl _⟩))⟩
      rcases hd with hh | ⟨hh, hw3, hd⟩
      · exact .one hh fun y sy hy => by have := he (s + 1) y (Nat.le_refl _) (by omega) sy hy; omega
      · exact .two hh hw3 hd (fun x y sx hx sy hy => by have := he x y sx hx sy hy; omega) ⟨x, y, x1, x2, y1, y2, ne, by omega⟩
theorem SI.turn (I : SI h w f0 s a t) (hs : s < h) (p : Pv h w s (ent t) i k) : Turn h w f0 s a t i k := by
  obtain ⟨s2, s3, s4, T, e3, e4, e2⟩ := I.td hs p
  have hw := I.hw
  have sws : s < w := by omega
  obtain ⟨E, D, hED, hE, hD⟩ := I.bnd hs p
  refine ⟨s2, by rw [T.gp]; exact p.ne, fun x y sx hx sy hy => by have := hE x y sx hx sy hy; omega, fun y hy => I.cl2 hs p s y hs (by omega) (.inr hy) (by omega), s3, ?_, I.b3 hs p, s4, by rw [T.ss]; exact p.ne, I.again hs p, fun hc r l => I.unfit hs p hc r l, fun hc _ => I.done hs p hc⟩
  rw [ent_turned s3 hs sws, e3 s s hs sws, if_neg (Nat.lt_irrefl s), T.gp]
  exact p.ne
end
end Gp
end
/-! Q -/
section
set_option Elab.async false
set_option linter.all false
set_option maxRecDepth 100000
set_option maxHeartbeats 4000000
namespace Gm
open PySem PySem.Spec PyProof.Rows L2 DL Gp
section
variable {P : Program} {w : World} {K : PySem.W.Frag} {mg : Str → Option Value} {base : Heap}
theorem if_ne {x y : Int} {A B : Prop} (hy : x ≠ y → A) (hn : x = y → B) : if (!decide (x = y)) = true then A else B := by
  by_cases c : x = y
  · simp only [c, decide_true, Bool.not_true, Bool.false_eq_true, if_false]
    exact hn c
  · simp only [c, decide_false, Bool.not_false, if_true]
    exact hy c
theorem if_eq {x y : Int} {A B : Prop} (hy : x = y → A) (hn : x ≠ y → B) : if (id (decide (x = y))) = true then A else B := by
  by_cases c : x = y
  · simp only [c, decide_true, id, if_true]
    exact hy c
  · simp only [c, decide_false, id, Bool.false_eq_true, if_false]
    exact hn c
theorem if_dec {p : Prop} [Decidable p] {A B : Prop} (hy : p → A) (hn : ¬p → B) : if decide p = true then A else B := by
  by_cases c : p
  · simp only [c, decide_true, if_true]
    exact hy c
  · simp only [c, decide_false, Bool.false_eq_true, if_false]
    exact hn c
theorem fmod0 {a b : Int} (h : a.fmod b = 0) : b ∣ a := Int.dvd_of_fmod_eq_zero h
theorem fmod1 {a b : Int} (h : a.fmod b ≠ 0) : ¬ b ∣ a := fun z => h (Int.fmod_eq_zero_of_dvd z)
def phiUnfit : TF := fun ds μ R => ∃ d t s h n, ds = [d, .int (s : Nat), .int (h : Nat), .int (n : Nat)] ∧ Lm d μ t ∧ s < h ∧ s < n ∧ h ≤ t.length ∧ h ≤ sizeLine ∧ n ≤ sizeLine ∧ (∀ r ∈ t, n ≤ r.length) ∧ ent t s s ≠ 0 ∧
  ((∀ i k, s < i → i < h → s < k → k < n → ent t s s ∣ ent t i k) → R (.int (-1)) μ) ∧ ∀ i k : Nat, s < i → i < h → s < k → k < n → ¬ ent t s s ∣ ent t i k → R (.int (i : Int)) μ
theorem sc_Unfit : FnScope ["table", "start", "height", "width", "i", "k"] ["table", "start", "height", "width"] (defScope sUnfit) := ⟨rfl, rfl, rfl, by decide +kernel, rfl, by decide +kernel, by decide +kernel⟩
theorem okUnfit (T : Tx K mg) : FnOk P w K mg base CX0 1 (He.ga K "_unfit") (fdOf K (He.ga K "_unfit")) ["table", "start", "height", "width"] (spD K phiUnfit) := by
  have sc := sc_Unfit
  refine fnd_ok T.d_Unfit sc (fun ds μ R h => ?len) fun cdv A outer s H E hr => ⟨_, _, (ss_cons (s_for PassesOwn.never rfl (i_range2 T.n_range (d_bin o_add (dv 1) d_int) (dv 2)) (g_name 4 sc.nd) (ss_one (s_for PassesOwn.never rfl (i_range2 T.n_range (d_bin o_add (dv 1) d_int) (dv 3)) (g_name 5 sc.nd) (ss_one (s_if (t_cmp (o_ne (hu hr)) (d_bin o_mod (d_ix (d_ix (dv 0) (dv 4)) (dv 5)) (d_ix (d_ix (dv 0) (dv 1)) (dv 1))) d_int) (ss_one (s_ret (dv 4))) ss_nil)))))
      (ss_one (s_ret (d_neg d_int)))), fun ds μ R h => ?_⟩
  case len => obtain ⟨d, t, s, h, n, rfl, _⟩ := h; rfl
  obtain ⟨d, t, s, h, n, rfl, hd, hs, hs2, ht, hz, hz2, hl, h0, hR1, hR2⟩ := h
  refine ⟨⟨by omega, by have := lt62 hz; omega⟩, RB_nat (lt62 hz), ?_⟩
  refine for_rng (s + 1) h (by omega) (by omega) (fun i ρ μ' => (∃ a b, ρ = [some d, some (.int s), some (.int h), some (.int n), a, b]) ∧ μ = μ' ∧ ∀ i' k, s < i' → i' < i → s < k → k < n → ent t s s ∣ ent t i' k) ⟨⟨_, _, rfl⟩, rfl, fun i' k h1 h2 => by omega⟩ ?_ ?_
  · rintro i ρ μ' h1 h2 ⟨⟨a, b, rfl⟩, rfl, hp⟩
    refine ⟨⟨by omega, by have := lt62 hz; omega⟩, RB_nat (lt62 hz2), ?_⟩
    refine for_rng (s + 1) n (by omega) (by omega) (fun k ρ μ' => (∃ b, ρ = [some d, some (.int s), some (.int h), some (.int n), some (.int i), b]) ∧ μ = μ' ∧ ∀ k', s < k' → k' < k → ent t s s ∣ ent t i k') ⟨⟨_, rfl⟩, rfl, fun k' h1 h2 => by omega⟩ ?_ ?_
    · rintro k ρ μ' h3 h4 ⟨⟨b, rfl⟩, rfl, hq⟩
      have wi := hl _ (mem_getD (d := []) (show i < t.length by omega))
      have ws := hl _ (mem_getD (d := []) (show s < t.length by omega))
      refine hd.cell (by omega) (by omega) (hd.cell (by omega) (by omega) ⟨h0, ?_⟩)
      refine if_ne (fun c => fzR.now (hR2 i k (by omega) h2 (by omega) h4 (fmod1 c))) fun c => ⟨⟨_, rfl⟩, rfl, fun k' h5 h6 => ?_⟩
      by_cases e : k' = k
      · rw [e]; exact fmod0 c
      · exact hq k' h5 (by omega)
    · rintro ρ μ' ⟨⟨b, rfl⟩, rfl, hq⟩
      refine ⟨⟨_, _, rfl⟩, rfl, fun i' k h5 h6 h7 h8 => ?_⟩
      by_cases e : i' = i
      · rw [e]; exact hq k h7 (by omega)
      · exact hp i' k h5 (by omega) h7 h8
  · rintro ρ μ' ⟨⟨a, b, rfl⟩, rfl, hp⟩
    exact fzR.now (hR1 fun i k h1 h2 h3 h4 => hp i k h1 (by omega) h3 h4)
/-- the triples of the cells that are not 0 -/
def sz3 (z : List (Int × Nat × Nat)) : List D := z.map fun p => .tup [.int p.1, .int (p.2.1 : Int), .int (p.2.2 : Int)]
theorem dLt3 {a b : Int} {i k j l : Nat} (h : a < b) : dLt (.tup [.int a, .int (i : Int), .int (k : Int)]) (.tup [.int b, .int (j : Int), .int (l : Int)]) = true := by
  show PySem.W.dataLt (.tuple [.int a, .int i, .int k]) (.tuple [.int b, .int j, .int l]) = true
  rw [PySem.W.dataLt_tuple, PySem.W.dataLt_cons (by simp [PySem.W.alike])]
  have e : PyData.eqv (.int a) (.int b) = false := by simp [PyData.eqv]; omega
  rw [e, if_neg Bool.false_ne_true, PySem.W.dataLt_int]
  exact decide_eq_true h
theorem dLt3b {a : Int} {i k j l : Nat} (h : i < j) : dLt (.tup [.int a, .int (i : Int), .int (k : Int)]) (.tup [.int a, .int (j : Int), .int (l : Int)]) = true := by
  show PySem.W.dataLt (.tuple [.int a, .int i, .int k]) (.tuple [.int a, .int j, .int l]) = true
  rw [PySem.W.dataLt_tuple, PySem.W.dataLt_cons (by simp [PySem.W.alike])]
  have e : PyData.eqv (.int a) (.int a) = true := by simp [PyData.eqv]
  rw [e, if_pos rfl, PySem.W.dataLt_cons (by simp [PySem.W.alike])]
  have e : PyData.eqv (.int i) (.int j) = false := by simp [PyData.eqv]; omega
  rw [e, if_neg Bool.false_ne_true, PySem.W.dataLt_int]
  exact decide_eq_true (by omega)
theorem dLt3c {a : Int} {i k l : Nat} (h : k < l) : dLt (.tup [.int a, .int (i : Int), .int (k : Int)]) (.tup [.int a, .int (i : Int), .int (l : Int)]) = true := by
  show PySem.W.dataLt (.tuple [.int a, .int i, .int k]) (.tuple [.int a, .int i, .int l]) = true
  rw [PySem.W.dataLt_tuple, PySem.W.dataLt_cons (by simp [PySem.W.alike])]
  have e : PyData.eqv (.int a) (.int a) = true := by simp [PyData.eqv]
  rw [e, if_pos rfl, PySem.W.dataLt_cons (by simp [PySem.W.alike])]
  have e : PyData.eqv (.int (i : Int)) (.int (i : Int)) = true := by simp [PyData.eqv]
  rw [e, if_pos rfl, PySem.W.dataLt_cons (by simp [PySem.W.alike])]
  have e : PyData.eqv (.int k) (.int l) = false := by simp [PyData.eqv]; omega
  rw [e, if_neg Bool.false_ne_true, PySem.W.dataLt_int]
  exact decide_eq_true (by omega)
theorem sz3_flat (z : List (Int × Nat × Nat)) : D.flats (sz3 z) = true := by
  induction z with
  | nil => rfl
  | cons p z ih => exact ih
theorem sz3_py (z : List (Int × Nat × Nat)) {d : PyData} (h : d ∈ (sz3 z).map D.py) : ∃ a b c : Int, d = .tuple [.int a, .int b, .int c] := by
  unfold sz3 at h
  rw [List.map_map] at h
  obtain ⟨p, _, rfl⟩ := List.mem_map.mp h
  exact ⟨_, _, _, rfl⟩
theorem sz3_alike (z : List (Int × Nat × Nat)) : PySem.W.AlikeAll ((sz3 z).map D.py) := by
  refine ⟨fun x hx y hy => ?_, fun x hx => ?_⟩
  · obtain ⟨a, b, c, rfl⟩ := sz3_py z hx
    obtain ⟨a', b', c', rfl⟩ := sz3_py z hy
    simp [PySem.W.alike, PySem.W.alikeAll]
  · obtain ⟨a, b, c, rfl⟩ := sz3_py z hx
    exact fun z => nomatch z
theorem depthAll_le {n : Nat} : ∀ {l : List PyData}, (∀ d ∈ l, d.depth ≤ n) → PyData.depthAll l ≤ n
  | [], _ => Nat.zero_le _
  | d :: l, h => by
    rw [PyData.depthAll]
    exact Nat.max_le.mpr ⟨h d (List.mem_cons_self ..), depthAll_le fun e he => h e (List.mem_cons_of_mem _ he)⟩
theorem sz3_deep (z : List (Int × Nat × Nat)) : PyData.depthAll ((sz3 z).map D.py) ≤ 60 := depthAll_le fun d hd => by
  obtain ⟨a, b, c, rfl⟩ := sz3_py z hd
  simp [PyData.depth, PyData.depthAll]
def phiLeastPlace : TF := fun ds μ R => ∃ d t s h n, ds = [d, .int (s : Nat), .int (h : Nat), .int (n : Nat)] ∧ Lm d μ t ∧ s < h ∧ h ≤ t.length ∧ h ≤ 1000 ∧ n ≤ 1000 ∧ (∀ r ∈ t, n ≤ r.length) ∧
  ((∀ i k, s ≤ i → i < h → s ≤ k → k < n → ent t i k = 0) → R .non μ) ∧
  ∀ i k : Nat, s ≤ i → i < h → s ≤ k → k < n → ent t i k ≠ 0 → (∀ i' k', s ≤ i' → i' < h → s ≤ k' → k' < n → ent t i' k' ≠ 0 → (ent t i k).natAbs ≤ (ent t i' k').natAbs) → (s < n → ent t s s ≠ 0 → (ent t s s).natAbs ≤ (ent t i k).natAbs → i = s ∧ k = s) → R (.tup [.int (i : Int), .int (k : Int)]) μ
/-- what is in the list of sizes -/
structure SzOk (t : Mx) (s h n : Nat) (In : Nat → Nat → Prop) (z : List (Int × Nat × Nat)) : Prop where
  mem : ∀ p ∈ z, s ≤ p.2.1 ∧ p.2.1 < h ∧ s ≤ p.2.2 ∧ p.2.2 < n ∧ ent t p.2.1 p.2.2 ≠ 0 ∧ p.1 = ((ent t p.2.1 p.2.2).natAbs : Int)
  all : ∀ i k, In i k → s ≤ i → i < h → s ≤ k → k < n → ent t i k ≠ 0 → (((ent t i k).natAbs : Int), i, k) ∈ z
theorem SubS.put_none {μ : Sto} {p : Addr} {o : MO} (h : μ p = none) : SubS μ (μ.put p o) := SubS.refl.put h
theorem sc_LeastPlace : FnScope ["table", "start", "height", "width", "sizes", "i", "k", "found"] ["table", "start", "height", "width"] (defScope sLeastPlace) := ⟨rfl, rfl, rfl, by decide +kernel, rfl, by decide +kernel, by decide +kernel⟩
theorem okLeastPlace (T : Tx K mg) : FnOk P w K mg base CX0 1 (He.ga K "_least_place") (fdOf K (He.ga K "_least_place")) ["table", "start", "height", "width"] (spD K phiLeastPlace) := by
  have sc := sc_LeastPlace
  refine fnd_ok T.d_LeastPlace sc (fun ds μ R h => ?len) fun cdv A outer s H E hr => ⟨_, _, (ss_cons (s_set 4 sc.nd (d_lstM a_nil))
      (ss_cons (s_for PassesOwn.never rfl (i_range2 T.n_range (dv 1) (dv 2)) (g_name 5 sc.nd) (ss_one (s_for PassesOwn.never rfl (i_range2 T.n_range (dv 1) (dv 3)) (g_name 6 sc.nd) (ss_one (s_if (t_cmp (o_ne (hu hr)) (d_ix (d_ix (dv 0) (dv 5)) (dv 6)) d_int) (ss_one (s_expr (d_app (dv 4) (d_tup (a_cons (d_callB (c_abs) T.n_abs (a_cons (d_ix (d_ix (dv 0) (dv 5)) (dv 6)) a_nil)) (a_cons (dv 5) (a_cons (dv 6) a_nil))))))) ss_nil)))))
      (ss_cons (s_if (t_cmp (o_eq (hu hr)) (d_callB (c_len) T.n_len (a_cons (dv 4) a_nil)) d_int) (ss_one (s_ret d_non)) ss_nil)
      (ss_cons (s_set 7 sc.nd (d_callB (c_minT rfl (hu hr)) T.n_min (a_cons (dv 4) a_nil)))
      (ss_one (s_ret (d_tup (a_cons (d_ix (dv 7) d_int) (a_cons (d_ix (dv 7) d_int) a_nil))))))))), fun ds μ R h => ?_⟩
  case len => obtain ⟨d, t, s, h, n, rfl, _⟩ := h; rfl
  obtain ⟨d, t, s, h, n, rfl, hd, hsh, ht, hz, hz2, hl, hR1, hR2⟩ := h
  have s1000 : 1000000 < sizeLine := by decide
  refine ⟨Nat.zero_le _, fun q hq => ?_⟩
  have hdq : ∀ o, Lm d (μ.put q o) t := fun o => hd.elim (fun e => .inl e) fun ⟨p, e1, e2⟩ => .inr ⟨p, e1, SubS.put_none hq _ _ e2⟩
  refine ⟨RB_nat (by omega), RB_nat (by omega), ?_⟩
  refine for_rng s h rfl (by omega) (fun i ρ μ' => s ≤ i ∧ ∃ z a b, ρ = [some d, some (.int s), some (.int h), some (.int n), some (.adr q), a, b, none] ∧ μ' = μ.put q (.lst (sz3 z)) ∧ z.length ≤ i * 1000 ∧ SzOk t s h n (fun i' _ => i' < i) z) ⟨Nat.le_refl _, [], _, _, rfl, rfl, Nat.zero_le _, ⟨fun p hp => by simp at hp, fun i k h1 h2 => by omega⟩⟩ ?_ ?_
  · rintro i ρ μ' h1 h2 ⟨h0, z, a, b, rfl, rfl, hlen, ok⟩
    refine ⟨RB_nat (by omega), RB_nat (by omega), ?_⟩
    refine for_rng s n rfl (by omega) (fun k ρ μ' => s ≤ k ∧ ∃ z b, ρ = [some d, some (.int s), some (.int h), some (.int n), some (.adr q), some (.int i), b, none] ∧ μ' = μ.put q (.lst (sz3 z)) ∧ z.length ≤ i * 1000 + k ∧ SzOk t s h n (fun i' k' => i' < i ∨ i' = i ∧ k' < k) z) ⟨Nat.le_refl _, z, _, rfl, rfl, by omega, ⟨ok.mem, fun i' k' h3 h4 h5 h6 h7 h8 => ok.all i' k' (by omega) h4 h5 h6 h7 h8⟩⟩ ?_ ?_
    · rintro k ρ μ' h3 h4 ⟨h0k, z, b, rfl, rfl, hlen, ok⟩
      have wi := hl _ (mem_getD (d := []) (show i < t.length by omega))
      refine (hdq _).cell (by omega) (by omega) ?_
      refine if_ne (fun c => ?_) fun c => ⟨by omega, z, _, rfl, rfl, by omega, ⟨ok.mem, fun i' k' h5 h6 h7 h8 h9 h10 => ?_⟩⟩
      · refine onL_lst Sto.put_same ((hdq _).cell (by omega) (by omega) ⟨by show 3 ≤ sizeLine; decide, onL_lst Sto.put_same ⟨?_, ?_⟩⟩)
        · unfold sz3
          rw [List.length_map]
          have : i * 1000 ≤ 999000 := by omega
          omega
        · refine ⟨by omega, z ++ [(((ent t i k).natAbs : Int), i, k)], _, rfl, ?_, by rw [List.length_append, List.length_singleton]; omega, ⟨fun p hp => ?_, fun i' k' h5 h6 h7 h8 h9 h10 => ?_⟩⟩
          · rw [Sto.put_put]
            unfold sz3
            rw [List.map_append]
            rfl
          · rcases List.mem_append.mp hp with hp | hp
            · exact ok.mem p hp
            · have e : p = (((ent t i k).natAbs : Int), i, k) := by simpa using hp
              subst e
              exact ⟨h1, h2, h3, h4, c, rfl⟩
          · by_cases e : i' = i ∧ k' = k
            · rw [e.1, e.2]
              exact List.mem_append.mpr (.inr (List.mem_singleton.mpr rfl))
            · exact List.mem_append.mpr (.inl (ok.all i' k' (by omega) h6 h7 h8 h9 h10))
      · by_cases e : i' = i ∧ k' = k
        · rw [e.1, e.2] at h10
          exact absurd c h10
        · exact ok.all i' k' (by omega) h6 h7 h8 h9 h10
    · rintro ρ μ' ⟨h0k, z, b, rfl, rfl, hlen, ok⟩
      refine ⟨by omega, z, _, _, rfl, rfl, by omega, ⟨ok.mem, fun i' k' h5 h6 h7 h8 h9 h10 => ok.all i' k' (by omega) h6 h7 h8 h9 h10⟩⟩
  · rintro ρ μ' ⟨h0, z, a, b, rfl, rfl, hlen, ok⟩
    have sub : SubS μ (μ.put q (.lst (sz3 z))) := SubS.put_none hq
    refine onL_lst Sto.put_same ?_
    refine if_eq (fun c => ?_) fun c => ?_
    · refine ⟨μ, .non, sub, .same _, hR1 fun i k h1 h2 h3 h4 => ?_⟩
      by_cases e : ent t i k = 0
      · exact e
      · have m := ok.all i k (by omega) h1 h2 h3 h4 e
        have z0 : z = [] := by
          unfold sz3 at c
          rw [List.length_map] at c
          exact List.eq_nil_of_length_eq_zero (by omega)
        rw [z0] at m
        simp at m
    · refine onL_lst Sto.put_same ⟨?_, sz3_flat z, sz3_alike z, sz3_deep z, fun d hd hm => ?_⟩
      · omega
      · unfold sz3 at hd
        obtain ⟨p, hp, rfl⟩ := List.mem_map.mp hd
        obtain ⟨m1, m2, m3, m4, m5, m6⟩ := ok.mem p hp
        refine pIx.tup ⟨.int (p.2.1 : Int), rfl, ?_⟩
        refine pIx.tup ⟨.int (p.2.2 : Int), rfl, ?_⟩
        refine ⟨by show 2 ≤ sizeLine; decide, ?_⟩
        refine ⟨μ, _, sub, .same _, hR2 p.2.1 p.2.2 m1 m2 m3 m4 m5 (fun i' k' h1 h2 h3 h4 h5 => ?_) fun hn h5 h6 => ?_⟩
        rotate_left
        · have me := ok.all s s (by omega) (Nat.le_refl _) hsh (Nat.le_refl _) hn h5
          have nl := hm _ (List.mem_map.mpr ⟨_, me, rfl⟩)
          have e1 : p.1 = ((ent t s s).natAbs : Int) := by
            rw [m6]
            by_cases c2 : (ent t p.2.1 p.2.2).natAbs ≤ (ent t s s).natAbs
            · omega
            · have := dLt3 (a := ((ent t s s).natAbs : Int)) (b := p.1) (i := s) (k := s) (j := p.2.1) (l := p.2.2) (by omega)
              rw [nl] at this
              cases this
          have i1 : p.2.1 = s := by
            by_cases c3 : s < p.2.1
            · have := dLt3b (a := p.1) (i := s) (k := s) (j := p.2.1) (l := p.2.2) c3
              rw [e1] at this nl
              rw [nl] at this
              cases this
            · omega
          refine ⟨i1, ?_⟩
          by_cases c3 : s < p.2.2
          · have := dLt3c (a := p.1) (i := s) (k := s) (l := p.2.2) c3
            rw [e1, i1] at nl
            rw [e1] at this
            rw [nl] at this
            cases this
          · omega
        have me := ok.all i' k' (by omega) h1 h2 h3 h4 h5
        have nl := hm _ (List.mem_map.mpr ⟨_, me, rfl⟩)
        have := m6
        by_cases c2 : (ent t p.2.1 p.2.2).natAbs ≤ (ent t i' k').natAbs
        · exact c2
        · have := dLt3 (a := ((ent t i' k').natAbs : Int)) (b := p.1) (i := i') (k := k') (j := p.2.1) (l := p.2.2) (by omega)
          rw [nl] at this
          cases this
end
end Gm
end
/-! R -/
section
set_option Elab.async false
set_option linter.all false
set_option maxRecDepth 100000
set_option maxHeartbeats 4000000
namespace Gm
open PySem PySem.Spec PyProof.Rows L2 DL Gp
theorem put_none {μ : Sto} {p q : Addr} {o : MO} (h : (μ.put q o) p = none) : p ≠ q ∧ μ p = none := by
  by_cases e : p = q
  · rw [e, Sto.put_same] at h
    cases h
  · rw [Sto.put_ne e] at h
    exact ⟨e, h⟩
theorem sub_none {a b : Sto} {p : Addr} (h : SubS a b) (e : b p = none) : a p = none := by
  cases q : a p with
  | none => rfl
  | some o =>
    rw [h p o q] at e
    cases e
abbrev ml (t : Mx) : D := .lst (t.map ri)
abbrev mt (t : Mx) : D := .tup (t.map rt)
/-- a table that was made here, or one that never changes -/
def Lf (μ μ' : Sto) (d : D) (t : Mx) : Prop := d = ml t ∨ ∃ p, d = .adr p ∧ μ p = none ∧ μ' p = some (.lst (t.map ri))
theorem Lf.lm {μ μ' : Sto} {d : D} {t : Mx} (h : Lf μ μ' d t) : Lm d μ' t := h.elim .inl fun ⟨p, e, _, q⟩ => .inr ⟨p, e, q⟩
theorem Lf.fz {μ μ' : Sto} {d : D} {t : Mx} (h : Lf μ μ' d t) : Fz μ μ' d (ml t) := by
  rcases h with rfl | ⟨p, rfl, n, q⟩
  · exact .same _
  · exact .adr n q (Fzs.refl _)
theorem Lf.ext {μ μ' μ2 : Sto} {d : D} {t : Mx} (h : Lf μ μ' d t) (s : SubS μ' μ2) : Lf μ μ2 d t := h.elim .inl fun ⟨p, e, n, q⟩ => .inr ⟨p, e, n, s _ _ q⟩
theorem log63 {x : Int} (h : x.natAbs < 2 ^ 63) : x.natAbs.log2 < 9000 := by
  by_cases c : x.natAbs = 0
  · rw [c]; decide
  · have := (Nat.log2_lt c).mpr h
    omega
theorem mulOk63 {q y : Int} (h : q.natAbs < 2 ^ 63) : IntMulOk q y := .of_left (intBits_le_64 (by omega) (by omega))
theorem if_decT {p : Prop} [Decidable p] {A B : Prop} (h : p) (hB : A) : if decide p = true then A else B := by
  rw [decide_eq_true h]
  exact hB
theorem if_decF {p : Prop} [Decidable p] {A B : Prop} (h : ¬p) (hB : B) : if decide p = true then A else B := by
  rw [decide_eq_false h]
  exact hB
end Gm
namespace Gp
open DL PySem
theorem Sh.get {t : Mx} {h w i : Nat} (s : Sh t h w) (hi : i < h) : (t.getD i []).length = w := s.row _ (Gm.mem_getD (by rw [s.len]; exact hi))
theorem Sh.sz {t : Mx} {h w : Nat} (s : Sh t h w) (h3 : h ≤ 3) : t.length ≤ sizeLine := by
  rw [s.len]
  have : sizeLine = 16777216 := by decide
  omega
end Gp
namespace Gm
open PySem PySem.Spec PyProof.Rows L2 DL Gp
section
variable {P : Program} {w : World} {K : PySem.W.Frag} {mg : Str → Option Value} {base : Heap}
def phiSmithRows : TF := fun ds μ R => ∃ m u v h n, ds = [mt m, .int (n : Nat), ml u, ml v] ∧ Sh u h h ∧ Sh v n n ∧ (∃ a, a < 2 ^ 70 ∧ SI h n (ent m) 0 a m) ∧
  ∀ t u v, FS h n (ent m) t → Sh u h h → Sh v n n → R (.tup [ml t, ml u, ml v]) μ
theorem sc_SmithRows : FnScope ["rows", "width", "u", "v", "row", "table", "height", "start", "place", "turned", "unfit"] ["rows", "width", "u", "v"] (defScope sSmithRows) := ⟨rfl, rfl, rfl, by decide +kernel, rfl, by decide +kernel, by decide +kernel⟩
theorem okSmithRows (T : Tx K mg) : FnOk P w K mg base CX0 3 (He.ga K "smith_rows") (fdOf K (He.ga K "smith_rows")) ["rows", "width", "u", "v"] (spD K phiSmithRows) := by
  have sc := sc_SmithRows
  have FClearColumn := okClearColumn (P := P) (w := w) (base := base) T
  have FIsClear := okIsClear (P := P) (w := w) (base := base) T
  have FLeastPlace := okLeastPlace (P := P) (w := w) (base := base) T
  have FLess := okLess (P := P) (w := w) (base := base) T
  have FSwap := okSwap (P := P) (w := w) (base := base) T
  have FSwapItems := okSwapItems (P := P) (w := w) (base := base) T
  have FTimesRow := okTimesRow (P := P) (w := w) (base := base) T
  have FTurned := okTurned (P := P) (w := w) (base := base) T
  have FUnfit := okUnfit (P := P) (w := w) (base := base) T
  refine fnd_ok T.d_SmithRows sc (fun ds μ R h => ?len) fun cdv A outer s H E hr => ⟨_, _, (ss_cons (s_setLc 5 rfl sc.nd (i_seq (dv 0)) (blkOk_by (own := [("row", 4)]) (by first | rfl | kernel_rfl)) fr_name (fun s H C cl fp => (g_name 4 sc.nd)) (fun s H C cl fp => ts_nil) (fun s H C cl fp => (d_callTy (c_list) T.n_list (a_cons (dv 4) a_nil))))
      (ss_cons (s_set 6 sc.nd (d_callB (c_len) T.n_len (a_cons (dv 5) a_nil)))
      (ss_cons (s_set 7 sc.nd d_int)
      (ss_cons (s_while PassesOwn.never (t_cmp o_ltI (dv 7) (d_callB (c_min2 rfl) T.n_min (a_cons (dv 6) (a_cons (dv 1) a_nil)))) (ss_cons (s_set 8 sc.nd (d_call FLeastPlace (hr.mono (by decide)) T.g_LeastPlace T.d_LeastPlace.kp T.b_LeastPlace (a_cons (dv 5) (a_cons (dv 7) (a_cons (dv 6) (a_cons (dv 1) a_nil))))))
      (ss_cons (s_if (t_cmp o_isN (dv 8) d_non) (ss_one (s_ret (d_tup (a_cons (dv 5) (a_cons (dv 2) (a_cons (dv 3) a_nil)))))) ss_nil)
      (ss_cons (s_par 5 2 rfl sc.nd (a_cons (d_call FSwap (hr.mono (by decide)) T.g_Swap T.d_Swap.kp T.b_Swap (a_cons (dv 5) (a_cons (dv 7) (a_cons (d_ix (dv 8) d_int) a_nil)))) (a_cons (d_call FSwap (hr.mono (by decide)) T.g_Swap T.d_Swap.kp T.b_Swap (a_cons (dv 2) (a_cons (dv 7) (a_cons (d_ix (dv 8) d_int) a_nil)))) a_nil)))
      (ss_cons (s_par 5 3 rfl sc.nd (a_cons (d_call FSwapItems (hr.mono (by decide)) T.g_SwapItems T.d_SwapItems.kp T.b_SwapItems (a_cons (dv 5) (a_cons (dv 7) (a_cons (d_ix (dv 8) d_int) a_nil)))) (a_cons (d_call FSwap (hr.mono (by decide)) T.g_Swap T.d_Swap.kp T.b_Swap (a_cons (dv 3) (a_cons (dv 7) (a_cons (d_ix (dv 8) d_int) a_nil)))) a_nil)))
      (ss_cons (s_asg (d_call FClearColumn (hr.mono (by decide)) T.g_ClearColumn T.d_ClearColumn.kp T.b_ClearColumn (a_cons (dv 5) (a_cons (dv 2) (a_cons (dv 7) (a_cons (dv 6) a_nil))))) (g_tup (n := 2) rfl (gs_cons (g_name 5 sc.nd) (gs_cons (g_name 2 sc.nd) gs_nil))))
      (ss_cons (s_asg (d_call FClearColumn (hr.mono (by decide)) T.g_ClearColumn T.d_ClearColumn.kp T.b_ClearColumn (a_cons (d_call FTurned (hr.mono (by decide)) T.g_Turned T.d_Turned.kp T.b_Turned (a_cons (dv 5) (a_cons (dv 1) a_nil))) (a_cons (dv 3) (a_cons (dv 7) (a_cons (dv 1) a_nil))))) (g_tup (n := 2) rfl (gs_cons (g_name 9 sc.nd) (gs_cons (g_name 3 sc.nd) gs_nil))))
      (ss_cons (s_set 5 sc.nd (d_call FTurned (hr.mono (by decide)) T.g_Turned T.d_Turned.kp T.b_Turned (a_cons (dv 9) (a_cons (dv 6) a_nil))))
      (ss_cons (s_if (t_not (t_val (d_call FIsClear (hr.mono (by decide)) T.g_IsClear T.d_IsClear.kp T.b_IsClear (a_cons (dv 5) (a_cons (dv 7) (a_cons (dv 6) (a_cons (dv 1) a_nil))))))) (ss_one s_cnt) ss_nil)
      (ss_cons (s_set 10 sc.nd (d_call FUnfit (hr.mono (by decide)) T.g_Unfit T.d_Unfit.kp T.b_Unfit (a_cons (dv 5) (a_cons (dv 7) (a_cons (dv 6) (a_cons (dv 1) a_nil))))))
      (ss_cons (s_if (t_cmp o_geI (dv 10) d_int) (ss_cons (s_asg (d_call FLess (hr.mono (by decide)) T.g_Less T.d_Less.kp T.b_Less (a_cons (d_ix (dv 5) (dv 7)) (a_cons (d_neg d_int) (a_cons (d_ix (dv 5) (dv 10)) a_nil)))) (g_sub (dv 5) (dv 7)))
      (ss_cons (s_asg (d_call FLess (hr.mono (by decide)) T.g_Less T.d_Less.kp T.b_Less (a_cons (d_ix (dv 2) (dv 7)) (a_cons (d_neg d_int) (a_cons (d_ix (dv 2) (dv 10)) a_nil)))) (g_sub (dv 2) (dv 7)))
      (ss_one s_cnt))) ss_nil)
      (ss_cons (s_if (t_cmp o_ltI (d_ix (d_ix (dv 5) (dv 7)) (dv 7)) d_int) (ss_one (s_asg (d_tup (a_cons (d_call FTimesRow (hr.mono (by decide)) T.g_TimesRow T.d_TimesRow.kp T.b_TimesRow (a_cons (d_neg d_int) (a_cons (d_ix (dv 5) (dv 7)) a_nil))) (a_cons (d_call FTimesRow (hr.mono (by decide)) T.g_TimesRow T.d_TimesRow.kp T.b_TimesRow (a_cons (d_neg d_int) (a_cons (d_ix (dv 2) (dv 7)) a_nil))) a_nil))) (g_tup (n := 2) rfl (gs_cons (g_sub (dv 5) (dv 7)) (gs_cons (g_sub (dv 2) (dv 7)) gs_nil))))) ss_nil)
      (ss_one (s_set 7 sc.nd (d_bin o_add (dv 7) d_int)))))))))))))))
      (ss_one (s_ret (d_tup (a_cons (dv 5) (a_cons (dv 2) (a_cons (dv 3) a_nil)))))))))), fun ds μ R h => ?_⟩
  case len => obtain ⟨m, u, v, h, n, rfl, _⟩ := h; rfl
  obtain ⟨m, u0, v0, h, n, rfl, hu0, hv0, ⟨a0, ha0, I0⟩, hR⟩ := h
  have hn3 := I0.w3
  have hhn := I0.hw
  have h1 := I0.h1
  have sL : sizeLine = 16777216 := by decide
  refine Sq.tup (lc_map m rt ri rfl (by rw [I0.sh.len, sL]; omega) trivial (fun r hr Y hY => hY) ?_)
  refine ⟨fun b ρ μ' => ∃ s a t u v dt du dv x4 x8 x9 x10, b = (h - s) * 2 ^ 70 + a ∧ a < 2 ^ 70 ∧ SI h n (ent m) s a t ∧ Sh u h h ∧ Sh v n n ∧ SubS μ μ' ∧ Lf μ μ' dt t ∧ Lf μ μ' du u ∧ Lf μ μ' dv v ∧
    ρ = [some (mt m), some (.int (n : Int)), some du, some dv, x4, some dt, some (.int (h : Int)), some (.int (s : Int)), x8, x9, x10], ⟨_, 0, a0, m, u0, v0, ml m, ml u0, ml v0, none, none, none, none, rfl, ha0, I0, hu0, hv0, SubS.refl, .inl rfl, .inl rfl, .inl rfl, ?_⟩, ?_⟩
  · show _ = [some (mt m), some (.int (n : Int)), some (ml u0), some (ml v0), none, some (ml m), some (.int (h : Int)), some (.int ((0 : Nat) : Int)), none, none, none]
    have e : (((m.map ri).length : Nat) : Int) = (h : Int) := by rw [List.length_map, I0.sh.len]
    rw [← e]
    rfl
  · rintro b ρ μ1 ⟨s, a, t, u, v, dt, du, dv, x4, x8, x9, x10, rfl, ha, I, hu, hv, sub, ht, hdu, hdv, rfl⟩
    have sh := I.sh
    refine if_dec (fun hs => ?_) fun hs => ?_
    rotate_left
    · have es : s = h := by have := I.hs; omega
      subst es
      exact ⟨by show 3 ≤ sizeLine; rw [sL]; omega, μ, .tup [ml t, ml u, ml v], sub, .tup (.cons ht.fz (.cons hdu.fz (.cons hdv.fz .nil))), hR t u v I.fin hu hv⟩
    have hs : s < h := by omega
    refine ⟨dt, t, s, h, n, rfl, ht.lm, hs, by rw [sh.len]; exact Nat.le_refl _, by omega, by omega, fun r hr => by rw [sh.row r hr]; exact Nat.le_refl _, fun hz => ?_, fun i k i1 i2 k1 k2 ne le tie => ?_⟩
    · exact ⟨by show 3 ≤ sizeLine; rw [sL]; omega, μ, .tup [ml t, ml u, ml v], sub, .tup (.cons ht.fz (.cons hdu.fz (.cons hdv.fz .nil))), hR t u v (I.zero hz) hu hv⟩
    have Tn := I.turn hs (i := i) (k := k) ⟨⟨i1, i2⟩, ⟨k1, k2⟩, ne, le, fun c1 c2 => tie (by omega) c1 c2⟩
    -- table, u = swap, swap
    refine pIx.tup ⟨.int (i : Int), rfl, ?_⟩
    refine ⟨dt, t.map ri, s, i, rfl, ht.lm, by rw [List.length_map, sh.len]; exact hs, by rw [List.length_map, sh.len]; exact i2, fun q1 hq1 => ?_⟩
    rw [swapAt_map]
    refine pIx.tup ⟨.int (i : Int), rfl, ?_⟩
    have s1 : SubS μ1 (μ1.put q1 (.lst ((swapAt t s i).map ri))) := SubS.put_none hq1
    refine ⟨du, u.map ri, s, i, rfl, (hdu.ext s1).lm, by rw [List.length_map, hu.len]; exact hs, by rw [List.length_map, hu.len]; exact i2, fun q2 hq2 => ?_⟩
    rw [swapAt_map]
    obtain ⟨n21, hq2b⟩ := put_none hq2
    have s2 := s1.trans (SubS.put_none (o := .lst ((swapAt u s i).map ri)) hq2)
    -- table, v = swap_items, swap
    have sw1 := sh.swap s i
    refine pIx.tup ⟨.int (k : Int), rfl, ?_⟩
    refine ⟨.adr q1, swapAt t s i, s, k, rfl, .inr ⟨q1, rfl, ?_⟩, sw1.sz (by omega), fun r hr => ?_, fun q3 hq3 => ?_⟩
    · rw [Sto.put_ne (Ne.symm n21), Sto.put_same]
    · rw [sw1.row r hr]; omega
    refine pIx.tup ⟨.int (k : Int), rfl, ?_⟩
    have s3 := s2.trans (SubS.put_none (o := .lst (((swapAt t s i).map fun r => swapAt r s k).map ri)) hq3)
    refine ⟨dv, v.map ri, s, k, rfl, (hdv.ext s3).lm, by rw [List.length_map, hv.len]; omega, by rw [List.length_map, hv.len]; exact k2, fun q4 hq4 => ?_⟩
    rw [swapAt_map]
    obtain ⟨n32, hq3b⟩ := put_none hq3
    obtain ⟨n31, hq3c⟩ := put_none hq3b
    obtain ⟨n43, hq4b⟩ := put_none hq4
    obtain ⟨n42, hq4c⟩ := put_none hq4b
    obtain ⟨n41, hq4d⟩ := put_none hq4c
    have s4 := s3.trans (SubS.put_none (o := .lst ((swapAt v s k).map ri)) hq4)
    have su := hu.swap s i
    have sv := hv.swap s k
    -- table, u = clear_column
    refine ⟨q3, q2, tu2 t s i k, swapAt u s i, s, h, rfl, n32, ?_, ?_, ?_, ?_, hs, by omega, ?_, ?_, ⟨Tn.n2, ?_⟩, ?_, ?_⟩
    · rw [Sto.put_ne (Ne.symm n43), Sto.put_same]; rfl
    · rw [Sto.put_ne (Ne.symm n42), Sto.put_ne (Ne.symm n32), Sto.put_same]
    · rw [Tn.s2.len]; exact Nat.le_refl _
    · rw [su.len]; exact Nat.le_refl _
    · intro r hr; rw [Tn.s2.row r hr]; omega
    · intro r hr; rw [su.row r hr]; omega
    · exact log63 (Tn.b2 s s (Nat.le_refl _) hs (Nat.le_refl _) (by omega))
    · intro j j1 j2
      have q63 : ((ent (tu2 t s i k) j s).fdiv (ent (tu2 t s i k) s s)).natAbs < 2 ^ 63 := Nat.lt_of_le_of_lt (fdiv_natAbs _ _ Tn.n2) (Tn.b2 j s (by omega) j2 (Nat.le_refl _) (by omega))
      exact ⟨fun y _ => mulOk63 q63, fun y _ => mulOk63 q63⟩
    refine ⟨by show 2 = 2; rfl, ?_⟩
    -- turned, v = clear_column
    have s3u := su.clrU (t := tu2 t s i k) (i := h) hs
    refine ⟨.adr q3, tu3 t s h i k, n, rfl, .inr ⟨q3, rfl, ?_⟩, Tn.s3.sz (by omega), by omega, fun r hr => by rw [Tn.s3.row r hr]; exact Nat.le_refl _, fun q5 hq5 => ?_⟩
    · rw [Sto.put_ne n32, Sto.put_same]; rfl
    obtain ⟨n52, hq5b⟩ := put_none hq5
    obtain ⟨n53, hq5c⟩ := put_none hq5b
    obtain ⟨n54, hq5d⟩ := put_none hq5c
    obtain ⟨_, hq5e⟩ := put_none hq5d
    obtain ⟨_, hq5f⟩ := put_none hq5e
    obtain ⟨n51, hq5g⟩ := put_none hq5f
    have st := Tn.s3.turned
    refine ⟨q5, q4, turned (tu3 t s h i k) n, swapAt v s k, s, n, rfl, n54, Sto.put_same, ?_, ?_, ?_, by omega, by omega, ?_, ?_, ⟨Tn.n3, ?_⟩, ?_, ?_⟩
    · rw [Sto.put_ne (Ne.symm n54), Sto.put_ne n42, Sto.put_ne n43, Sto.put_same]
    · rw [st.len]; exact Nat.le_refl _
    · rw [sv.len]; exact Nat.le_refl _
    · intro r hr; rw [st.row r hr]; omega
    · intro r hr; rw [sv.row r hr]; omega
    · rw [ent_turned Tn.s3 hs (by omega)]
      exact log63 (Tn.b3 s s (Nat.le_refl _) hs (Nat.le_refl _) (by omega))
    · intro j j1 j2
      have q63 : ((ent (turned (tu3 t s h i k) n) j s).fdiv (ent (turned (tu3 t s h i k) n) s s)).natAbs < 2 ^ 63 := by
        refine Nat.lt_of_le_of_lt (fdiv_natAbs _ _ Tn.n3) ?_
        rw [ent_turned Tn.s3 hs j2]
        exact Tn.b3 s j (Nat.le_refl _) hs (by omega) j2
      exact ⟨fun y _ => mulOk63 q63, fun y _ => mulOk63 q63⟩
    refine ⟨by show 2 = 2; rfl, ?_⟩
    -- table = turned
    have s4v := sv.clrU (t := turned (tu3 t s h i k) n) (i := n) (show s < n by omega)
    have s4t := st.clrT (i := n) (show s < n by omega)
    refine ⟨.adr q5, clrT s n (turned (tu3 t s h i k) n), h, rfl, .inr ⟨q5, rfl, ?_⟩, s4t.sz (by omega), by omega, fun r hr => by rw [s4t.row r hr]; exact Nat.le_refl _, fun q6 hq6 => ?_⟩
    · rw [Sto.put_ne n54, Sto.put_same]
    obtain ⟨n64, hq6b⟩ := put_none hq6
    obtain ⟨n65, hq6c⟩ := put_none hq6b
    obtain ⟨_, hq6d⟩ := put_none hq6c
    obtain ⟨n62, hq6e⟩ := put_none hq6d
    obtain ⟨n63, hq6f⟩ := put_none hq6e
    obtain ⟨_, hq6g⟩ := put_none hq6f
    obtain ⟨_, hq6h⟩ := put_none hq6g
    obtain ⟨_, hq6i⟩ := put_none hq6h
    obtain ⟨n61, hq6j⟩ := put_none hq6i
    have hT : tu4 t s h n i k = turned (clrT s n (turned (tu3 t s h i k) n)) h := rfl
    rw [← hT]
    -- the store as it is now
    generalize hμ7 : Sto.put _ q6 _ = μ7
    have l6 : μ7 q6 = some (.lst ((tu4 t s h n i k).map ri)) := by rw [← hμ7]; exact Sto.put_same
    have l2 : μ7 q2 = some (.lst ((clrU s h (tu2 t s i k) (swapAt u s i)).map ri)) := by
      rw [← hμ7, Sto.put_ne (Ne.symm n62), Sto.put_ne (Ne.symm n42), Sto.put_ne (Ne.symm n52), Sto.put_ne (Ne.symm n52), Sto.put_same]
    have l4 : μ7 q4 = some (.lst ((clrU s n (turned (tu3 t s h i k) n) (swapAt v s k)).map ri)) := by
      rw [← hμ7, Sto.put_ne (Ne.symm n64), Sto.put_same]
    have s7 : SubS μ μ7 := by
      have z : ∀ {p : Addr}, μ1 p = none → μ p = none := fun e => sub_none sub e
      rw [← hμ7]
      exact ((((((((((sub.put (z hq1)).put (z hq2b)).put (z hq3c)).put (z hq4d)).put (z hq3c)).put (z hq2b)).put (z hq5g)).put (z hq5g)).put (z hq4d)).put (z hq6j))
    clear hμ7
    have m6 : μ q6 = none := sub_none sub hq6j
    have m2 : μ q2 = none := sub_none sub hq2b
    have m4 : μ q4 = none := sub_none sub hq4d
    have t7 : Lf μ μ7 (.adr q6) (tu4 t s h n i k) := .inr ⟨q6, rfl, m6, l6⟩
    have u7 : Lf μ μ7 (.adr q2) (clrU s h (tu2 t s i k) (swapAt u s i)) := .inr ⟨q2, rfl, m2, l2⟩
    have v7 : Lf μ μ7 (.adr q4) (clrU s n (turned (tu3 t s h i k) n) (swapAt v s k)) := .inr ⟨q4, rfl, m4, l4⟩
    have S4 := Tn.s4
    have lm : ∀ a', a' < a → (h - s) * 2 ^ 70 + a' < (h - s) * 2 ^ 70 + a := fun a' h => by omega
    -- is it clear
    refine ⟨.adr q6, tu4 t s h n i k, s, h, n, rfl, t7.lm, hs, by omega, by rw [S4.len]; exact Nat.le_refl _, by omega, by omega, fun r hr => by rw [S4.row r hr]; exact Nat.le_refl _, ?_⟩
    have isc : ∀ b : Bool, b = decide (below (tu4 t s h n i k) s h = [] ∧ beside (tu4 t s h n i k) s n = []) → ∀ A B : Prop, (¬ (below (tu4 t s h n i k) s h = [] ∧ beside (tu4 t s h n i k) s n = []) → A) → ((below (tu4 t s h n i k) s h = [] ∧ beside (tu4 t s h n i k) s n = []) → B) → if (!b) = true then A else B := fun b e A B hA hB => by
      subst e
      by_cases c : below (tu4 t s h n i k) s h = [] ∧ beside (tu4 t s h n i k) s n = []
      · rw [decide_eq_true c]
        exact hB c
      · rw [decide_eq_false c]
        exact hA c
    refine isc _ rfl _ _ (fun c => ?_) fun c => ?_
    · obtain ⟨a', la, I'⟩ := Tn.again c
      exact ⟨_, lm a' la, s, a', _, _, _, _, _, _, _, _, _, _, rfl, by omega, I', s3u, s4v, s7, t7, u7, v7, rfl⟩
    -- unfit
    refine ⟨.adr q6, tu4 t s h n i k, s, h, n, rfl, t7.lm, hs, by omega, by rw [S4.len]; exact Nat.le_refl _, by omega, by omega, fun r hr => by rw [S4.row r hr]; exact Nat.le_refl _, Tn.n4, fun dvd => ?_, fun r l r1 r2 lc1 lc2 nd => ?_⟩
    rotate_left
    · obtain ⟨a', la, I'⟩ := Tn.unfit c r l r1 r2 lc1 lc2 nd
      have rl := S4.len
      have ok1 : ∀ y : Int, IntMulOk (-1) y := fun y => mulOk63 (by decide)
      refine t7.lm.row (by omega) ?_
      refine t7.lm.row (by omega) ?_
      refine ⟨_, -1, _, _, _, rfl, .inl rfl, .inl rfl, by rw [S4.get hs]; omega, fun y _ => ok1 y, ?_⟩
      refine onL_lst l6 ⟨s, ixN_nat (by rw [List.length_map]; omega), ?_⟩
      rw [← List.map_set]
      have u8 : Lf μ (μ7.put q6 (.lst (((tu4 t s h n i k).set s (lessI ((tu4 t s h n i k).getD s []) (-1) ((tu4 t s h n i k).getD r []))).map ri))) (.adr q2) (clrU s h (tu2 t s i k) (swapAt u s i)) := .inr ⟨q2, rfl, m2, by rw [Sto.put_ne (Ne.symm n62)]; exact l2⟩
      have ul := s3u.len
      refine u8.lm.row (by omega) ?_
      refine u8.lm.row (by omega) ?_
      refine ⟨_, -1, _, _, _, rfl, .inl rfl, .inl rfl, by rw [s3u.get hs]; omega, fun y _ => ok1 y, ?_⟩
      refine onL_lst (by rw [Sto.put_ne (Ne.symm n62)]; exact l2) ⟨s, ixN_nat (by rw [List.length_map]; omega), ?_⟩
      rw [← List.map_set]
      refine ⟨_, lm a' la, s, a', _, _, _, _, _, _, _, _, _, _, rfl, by omega, I', s3u.set (r := lessI ((clrU s h (tu2 t s i k) (swapAt u s i)).getD s []) (-1) ((clrU s h (tu2 t s i k) (swapAt u s i)).getD r [])) (by rw [lessI_length, s3u.get hs, s3u.get r2, Nat.min_self]), s4v, (s7.put m6).put m2, .inr ⟨q6, rfl, m6, ?_⟩, .inr ⟨q2, rfl, m2, Sto.put_same⟩, .inr ⟨q4, rfl, m4, ?_⟩, rfl⟩
      · rw [Sto.put_ne n62, Sto.put_same]
      · rw [Sto.put_ne n42, Sto.put_ne (Ne.symm n64)]
        exact l4
    -- done
    obtain ⟨a', la, I'⟩ := Tn.done c dvd
    have rl := S4.len
    have ok1 : ∀ y : Int, IntMulOk (-1) y := fun y => mulOk63 (by decide)
    refine t7.lm.cell (by omega) (by rw [S4.get hs]; omega) ?_
    refine if_dec (fun neg => ?_) fun neg => ?_
    · rw [if_pos neg] at I'
      refine t7.lm.row (by omega) ?_
      refine ⟨-1, _, _, rfl, .inl rfl, by rw [S4.get hs]; omega, fun y _ => ok1 y, ?_⟩
      have ul := s3u.len
      refine u7.lm.row (by omega) ?_
      refine ⟨-1, _, _, rfl, .inl rfl, by rw [s3u.get hs]; omega, fun y _ => ok1 y, ?_⟩
      refine ⟨by show 2 ≤ sizeLine; rw [sL]; omega, by show 2 = 2; rfl, ?_⟩
      refine onL_lst l6 ⟨s, ixN_nat (by rw [List.length_map]; omega), ?_⟩
      rw [← List.map_set]
      refine onL_lst (by rw [Sto.put_ne (Ne.symm n62)]; exact l2) ⟨s, ixN_nat (by rw [List.length_map]; omega), ?_⟩
      rw [← List.map_set]
      refine ⟨_, ?_, s + 1, a', _, _, _, _, _, _, _, _, _, _, rfl, la, I', s3u.set (r := timesI (-1) ((clrU s h (tu2 t s i k) (swapAt u s i)).getD s [])) (by unfold timesI; rw [List.length_map, s3u.get hs]), s4v, (s7.put m6).put m2, .inr ⟨q6, rfl, m6, ?_⟩, .inr ⟨q2, rfl, m2, Sto.put_same⟩, .inr ⟨q4, rfl, m4, ?_⟩, rfl⟩
      · have : h - s = (h - (s + 1)) + 1 := by omega
        rw [this, Nat.add_mul]
        omega
      · rw [Sto.put_ne n62, Sto.put_same]
      · rw [Sto.put_ne n42, Sto.put_ne (Ne.symm n64)]
        exact l4
    · rw [if_neg neg] at I'
      refine ⟨_, ?_, s + 1, a', _, _, _, _, _, _, _, _, _, _, rfl, la, I', s3u, s4v, s7, t7, u7, v7, rfl⟩
      have : h - s = (h - (s + 1)) + 1 := by omega
      rw [this, Nat.add_mul]
      omega
end
end Gm
end
/-! S -/
section
set_option Elab.async false
set_option linter.all false
set_option maxRecDepth 100000
set_option maxHeartbeats 4000000
namespace Gm
open PySem PySem.Spec PyProof.Rows L2 DL Gp
theorem sLine : sizeLine = 16777216 := by decide
section
variable {P : Program} {w : World} {K : PySem.W.Frag} {mg : Str → Option Value} {base : Heap}
def phiIsInteger : TF := fun ds μ R => ∃ i, ds = [.int i] ∧ R (.bl true) μ
theorem sc_IsInteger : FnScope ["value"] ["value"] (defScope sIsInteger) := ⟨rfl, rfl, rfl, by decide +kernel, rfl, by decide +kernel, by decide +kernel⟩
theorem okIsInteger (T : Tx K mg) : FnOk P w K mg base CX0 1 (He.ga K "is_integer") (fdOf K (He.ga K "is_integer")) ["value"] (spD K phiIsInteger) := by
  have sc := sc_IsInteger
  refine fnd_ok T.d_IsInteger sc (fun ds μ R h => ?len) fun cdv A outer s H E hr => ⟨_, _, (ss_one (s_ret (d_and (d_isi (T := "int") T.n_isinstance T.n_int (dv 0)) (d_one (d_not (d_isi (T := "bool") T.n_isinstance T.n_bool (dv 0))))))), fun ds μ R h => ?_⟩
  case len => obtain ⟨i, rfl, _⟩ := h; rfl
  obtain ⟨i, rfl, hR⟩ := h
  exact ⟨"int", true, rfl, by decide +kernel, "int", false, rfl, by decide +kernel, fzR.now hR⟩
def phiRootFloor : TF := fun ds μ R => ∃ i : Int, ds = [.int i] ∧ 0 ≤ i ∧ i < 2 ^ 64 ∧ R (.int (Float64.isqrt i.toNat : Nat)) μ
theorem sc_RootFloor : FnScope ["n"] ["n"] (defScope sRootFloor) := ⟨rfl, rfl, rfl, by decide +kernel, rfl, by decide +kernel, by decide +kernel⟩
theorem okRootFloor (T : Tx K mg) : FnOk P w K mg base CX0 1 (He.ga K "root_floor") (fdOf K (He.ga K "root_floor")) ["n"] (spD K phiRootFloor) := by
  have sc := sc_RootFloor
  refine fnd_ok T.d_RootFloor sc (fun ds μ R h => ?len) fun cdv A outer s H E hr => ⟨_, _, (ss_cons (s_if (t_cmp o_ltI (dv 0) d_int) (ss_one s_never) ss_nil)
      (ss_one (s_ret (d_callG c_sqrt T.g_isqrt (a_cons (dv 0) a_nil))))), fun ds μ R h => ?_⟩
  case len => obtain ⟨i, rfl, _⟩ := h; rfl
  obtain ⟨i, rfl, h0, h1, hR⟩ := h
  exact if_dec (fun c => absurd c (by omega)) fun _ => ⟨h0, h1, fzR.now hR⟩
def phiUpper : TF := fun ds μ R => ∃ a b : Int, ds = [.int a, .int b] ∧ CDv 0 b ∧ R (.int (-((-a).fdiv b))) μ
theorem sc_Upper : FnScope ["a", "b"] ["a", "b"] (defScope sUpper) := ⟨rfl, rfl, rfl, by decide +kernel, rfl, by decide +kernel, by decide +kernel⟩
theorem okUpper (T : Tx K mg) : FnOk P w K mg base CX0 1 (He.ga K "upper") (fdOf K (He.ga K "upper")) ["a", "b"] (spD K phiUpper) := by
  have sc := sc_Upper
  refine fnd_ok T.d_Upper sc (fun ds μ R h => ?len) fun cdv A outer s H E hr => ⟨_, _, (ss_one (s_ret (d_neg (d_bin o_fdiv (d_neg (dv 0)) (dv 1))))), fun ds μ R h => ?_⟩
  case len => obtain ⟨a, b, rfl, _⟩ := h; rfl
  obtain ⟨a, b, rfl, hb, hR⟩ := h
  exact ⟨hb, fzR.now hR⟩
def phiLower : TF := fun ds μ R => ∃ a b : Int, ds = [.int a, .int b] ∧ CDv 0 b ∧ R (.int (a.fdiv b)) μ
theorem sc_Lower : FnScope ["a", "b"] ["a", "b"] (defScope sLower) := ⟨rfl, rfl, rfl, by decide +kernel, rfl, by decide +kernel, by decide +kernel⟩
theorem okLower (T : Tx K mg) : FnOk P w K mg base CX0 1 (He.ga K "lower") (fdOf K (He.ga K "lower")) ["a", "b"] (spD K phiLower) := by
  have sc := sc_Lower
  refine fnd_ok T.d_Lower sc (fun ds μ R h => ?len) fun cdv A outer s H E hr => ⟨_, _, (ss_one (s_ret (d_bin o_fdiv (dv 0) (dv 1)))), fun ds μ R h => ?_⟩
  case len => obtain ⟨a, b, rfl, _⟩ := h; rfl
  obtain ⟨a, b, rfl, hb, hR⟩ := h
  exact ⟨hb, fzR.now hR⟩

def phiDot : TF := fun ds μ R => ∃ d e xs ys, ds = [d, e] ∧ IsRow d xs ∧ IsRow e ys ∧ xs.length ≤ sizeLine ∧ (∀ p ∈ xs.zip ys, IntMulOk p.1 p.2) ∧ R (.int (dotI xs ys)) μ
theorem sc_Dot : FnScope ["a", "b", "x", "y"] ["a", "b"] (defScope sDot) := ⟨rfl, rfl, rfl, by decide +kernel, rfl, by decide +kernel, by decide +kernel⟩
theorem okDot (T : Tx K mg) : FnOk P w K mg base CX0 1 (He.ga K "dot") (fdOf K (He.ga K "dot")) ["a", "b"] (spD K phiDot) := by
  have sc := sc_Dot
  refine fnd_ok T.d_Dot sc (fun ds μ R h => ?len) fun cdv A outer s H E hr => ⟨_, _, (ss_one (s_ret (d_callB (c_sum rfl) T.n_sum (a_cons (d_lc rfl sc.nd (i_zip T.n_zip (dv 0) (dv 1)) (blkOk_by (own := [("x", 2), ("y", 3)]) (by first | rfl | kernel_rfl)) fr_two (fun s H C cl fp => (g_tup (n := 2) rfl (gs_cons (g_name 2 sc.nd) (gs_cons (g_name 3 sc.nd) gs_nil)))) (fun s H C cl fp => ts_nil) (fun s H C cl fp => (d_bin o_mulI (dv 2) (dv 3)))) a_nil)))), fun ds μ R h => ?_⟩
  case len => obtain ⟨d, e, xs, ys, rfl, _⟩ := h; rfl
  obtain ⟨d, e, xs, ys, rfl, hd, he, hz, hm, hR⟩ := h
  have key : ∀ kp : Sto → Prop, kp μ → (zipD (xs.map D.int) (ys.map D.int)).length ≤ sizeLine ∧ ∃ W : Nat → List D → Sto → Prop, W 0 [] μ ∧ (∀ i acc μ, W i acc μ → kp μ) ∧
      (∀ i z acc μ, (zipD (xs.map D.int) (ys.map D.int))[i]? = some z → acc.length ≤ i → W i acc μ → gTp 2 (gCn (gNm 2) (gCn (gNm 3) gNl)) z (wipeD [some d, some e, none, none] [2, 3]) μ fun ρ2 μ2 => dYes ρ2 μ2 fun b μ3 => if b = true then d2 (pI IntMulOk fun i j => .int (i * j)) (dVar 2) (dVar 3) ρ2 μ3 fun e μ4 => W (i + 1) (acc ++ [e]) μ4 else W (i + 1) acc μ3) ∧
      ∀ acc μ, W (zipD (xs.map D.int) (ys.map D.int)).length acc μ → pSum [.lst acc] μ (fzR R) := fun kp hk =>
    lc_map (xs.zip ys) (fun p => .tup [.int p.1, .int p.2]) (fun p => .int (p.1 * p.2)) (zipD_map _ _ _ _) (by rw [List.length_zip]; omega) hk (fun p hp Y hY => ⟨rfl, hm p hp, hY⟩) (by
      have e : ((xs.zip ys).map fun p => D.int (p.1 * p.2)) = ((xs.zip ys).map fun p => p.1 * p.2).map D.int := by rw [List.map_map]; rfl
      rw [e]
      exact onNs_map (fzR.now hR))
  rcases hd with rfl | rfl <;> rcases he with rfl | rfl <;> exact key _ trivial
/-- rows of one kind in a list or a tuple -/
def IsM (d : D) (m : Mx) : Prop := ∃ e, (e = ri ∨ e = rt) ∧ (d = .lst (m.map e) ∨ d = .tup (m.map e))
theorem IsM.ml {m : Mx} : IsM (ml m) m := ⟨ri, .inl rfl, .inl rfl⟩
theorem IsM.mt {m : Mx} : IsM (mt m) m := ⟨rt, .inr rfl, .inr rfl⟩
theorem IsM.lt {m : Mx} : IsM (.lst (m.map rt)) m := ⟨rt, .inr rfl, .inl rfl⟩
theorem row_sq {e : List Int → D} (he : e = ri ∨ e = rt) {r : List Int} {μ : Sto} {R : List D → (Sto → Prop) → Sto → Prop} (h : R (r.map D.int) always μ) : onSq (e r) μ R := by
  rcases he with rfl | rfl
  · exact Sq.lst h
  · exact Sq.tup h
theorem row_seq {e : List Int → D} (he : e = ri ∨ e = rt) {r : List Int} {μ : Sto} {k : List D → Prop} (h : k (r.map D.int)) : onSeq (e r) μ k := by
  rcases he with rfl | rfl <;> exact h
theorem row_ix {e : List Int → D} (he : e = ri ∨ e = rt) {r : List Int} {μ : Sto} {i : Nat} {R : RD} (hi : i < r.length) (h : R (.int (r.getD i 0)) μ) : pIx (e r) (.int (i : Int)) μ R := by
  rcases he with rfl | rfl
  · exact pIx.lst (dAt_map 0 hi h)
  · exact pIx.tup (dAt_map 0 hi h)
theorem row_ty {e : List Int → D} (he : e = ri ∨ e = rt) {r : List Int} {μ : Sto} : tyS μ (e r) = some "list" ∨ tyS μ (e r) = some "tuple" := by
  rcases he with rfl | rfl
  · exact .inl rfl
  · exact .inr rfl
theorem IsM.sq {d : D} {m : Mx} {μ : Sto} {R : List D → (Sto → Prop) → Sto → Prop} (h : IsM d m) (k : ∀ e, (e = ri ∨ e = rt) → R (m.map e) always μ) : onSq d μ R := by
  obtain ⟨e, he, rfl | rfl⟩ := h
  · exact Sq.lst (k e he)
  · exact Sq.tup (k e he)
theorem IsM.seq {d : D} {m : Mx} {μ : Sto} {k : List D → Prop} (h : IsM d m) (hk : ∀ e, (e = ri ∨ e = rt) → k (m.map e)) : onSeq d μ k := by
  obtain ⟨e, he, rfl | rfl⟩ := h <;> exact hk e he
theorem IsM.row {d : D} {m : Mx} {μ : Sto} {i : Nat} {R : RD} (h : IsM d m) (hi : i < m.length) (hk : ∀ e, (e = ri ∨ e = rt) → R (e (m.getD i [])) μ) : pIx d (.int (i : Int)) μ R := by
  obtain ⟨e, he, rfl | rfl⟩ := h
  · exact pIx.lst (dAt_map [] hi (hk e he))
  · exact pIx.tup (dAt_map [] hi (hk e he))
theorem IsM.cell {d : D} {m : Mx} {μ : Sto} {i k : Nat} {R : RD} (h : IsM d m) (hi : i < m.length) (hk : k < (m.getD i []).length) (hR : R (.int (ent m i k)) μ) : pIx d (.int (i : Int)) μ fun e μ1 => pIx e (.int (k : Int)) μ1 R :=
  h.row hi fun e he => row_ix he hk hR
def phiChecked : TF := fun ds μ R => ∃ d m n, ds = [d, .int (n : Nat)] ∧ IsM d m ∧ m.length ≤ sizeLine ∧ (∀ r ∈ m, r.length = n) ∧ R (mt m) μ
theorem sc_Checked : FnScope ["rows", "width", "out", "row", "item"] ["rows", "width"] (defScope sChecked) := ⟨rfl, rfl, rfl, by decide +kernel, rfl, by decide +kernel, by decide +kernel⟩
theorem okChecked (T : Tx K mg) : FnOk P w K mg base CX0 2 (He.ga K "_checked") (fdOf K (He.ga K "_checked")) ["rows", "width"] (spD K phiChecked) := by
  have sc := sc_Checked
  have FIsInteger := okIsInteger (P := P) (w := w) (base := base) T
  refine fnd_ok T.d_Checked sc (fun ds μ R h => ?len) fun cdv A outer s H E hr => ⟨_, _, (ss_cons (s_set 2 sc.nd (d_lstM a_nil))
      (ss_cons (s_for PassesOwn.never rfl (i_seq (dv 0)) (g_name 3 sc.nd) (ss_cons (s_if (t_w (tw_or (t_not (t_val (d_isLT T.n_isinstance T.n_list T.n_tuple (dv 3)))) (tw_or1 (t_cmp (o_ne (hu hr)) (d_callB (c_len) T.n_len (a_cons (dv 3) a_nil)) (dv 1))))) (ss_one s_never) ss_nil)
      (ss_cons (s_for PassesOwn.never rfl (i_seq (dv 3)) (g_name 4 sc.nd) (ss_one (s_if (t_not (t_val (d_call FIsInteger (hr.mono (by decide)) T.g_IsInteger T.d_IsInteger.kp T.b_IsInteger (a_cons (dv 4) a_nil)))) (ss_one s_never) ss_nil)))
      (ss_one (s_expr (d_app (dv 2) (d_callTy (c_tuple) T.n_tuple (a_cons (dv 3) a_nil))))))))
      (ss_one (s_ret (d_callTy (c_tuple) T.n_tuple (a_cons (dv 2) a_nil)))))), fun ds μ R h => ?_⟩
  case len => obtain ⟨d, m, n, rfl, _⟩ := h; rfl
  obtain ⟨d, m, n, rfl, hd, hz, hl, hR⟩ := h
  refine ⟨Nat.zero_le _, fun q hq => ?_⟩
  refine hd.sq fun e he => ?_
  refine for_seq m e rfl (fun i ρ μ' => (∃ a b, ρ = [some d, some (.int (n : Int)), some (.adr q), a, b]) ∧ μ' = μ.put q (.lst ((m.take i).map rt))) ⟨⟨_, _, rfl⟩, rfl⟩ (fun _ _ _ _ => trivial) ?_ ?_
  · rintro i r ρ μ' hr ⟨⟨a, b, rfl⟩, rfl⟩
    have hn := hl r (List.mem_of_getElem? hr)
    refine ⟨row_ty he, ?_⟩
    refine row_seq he ?_
    refine if_ne (fun c => absurd (by rw [List.length_map, hn]) c) fun _ => ?_
    refine row_sq he ?_
    refine for_seq r D.int rfl (fun j ρ μ' => (∃ b, ρ = [some d, some (.int (n : Int)), some (.adr q), some (e r), b]) ∧ μ' = μ.put q (.lst ((m.take i).map rt))) ⟨⟨_, rfl⟩, rfl⟩ (fun _ _ _ _ => trivial) ?_ ?_
    · rintro j x ρ μ' hx ⟨⟨b, rfl⟩, rfl⟩
      exact ⟨x, rfl, ⟨_, rfl⟩, rfl⟩
    · rintro ρ μ' ⟨⟨b, rfl⟩, rfl⟩
      refine onL_lst Sto.put_same ?_
      refine row_seq he ?_
      refine onL_lst Sto.put_same ⟨?_, ⟨_, _, rfl⟩, ?_⟩
      · have := (List.getElem?_eq_some_iff.mp hr).1
        rw [List.length_map, List.length_take]
        omega
      · rw [Sto.put_put, List.take_add_one, hr, List.map_append]
        rfl
  · rintro ρ μ' ⟨⟨a, b, rfl⟩, rfl⟩
    rw [List.take_length]
    exact onL_lst Sto.put_same ⟨μ, _, SubS.put_none hq, .same _, hR⟩
def unitM (n : Nat) : Mx := (List.range n).map fun i => (List.range n).map fun k => if i = k then 1 else 0
theorem rng0 (n : Nat) : rngD 0 ((n : Int)).toNat = (List.range n).map fun i : Nat => D.int (i : Int) := by
  rw [show (0 : Int) = ((0 : Nat) : Int) from rfl, rngD_nat, List.range_eq_range']
  rfl
def phiUnitRows : TF := fun ds μ R => ∃ n, ds = [.int (n : Nat)] ∧ n ≤ sizeLine ∧ R (ml (unitM n)) μ
theorem sc_UnitRows : FnScope ["n", "i", "k"] ["n"] (defScope sUnitRows) := ⟨rfl, rfl, rfl, by decide +kernel, rfl, by decide +kernel, by decide +kernel⟩
theorem okUnitRows (T : Tx K mg) : FnOk P w K mg base CX0 1 (He.ga K "_unit_rows") (fdOf K (He.ga K "_unit_rows")) ["n"] (spD K phiUnitRows) := by
  have sc := sc_UnitRows
  refine fnd_ok T.d_UnitRows sc (fun ds μ R h => ?len) fun cdv A outer s H E hr => ⟨_, _, (ss_one (s_ret (d_lc rfl sc.nd (i_range1 T.n_range (dv 0)) (blkOk_by (own := [("i", 1)]) (by first | rfl | kernel_rfl)) fr_name (fun s H C cl fp => (g_name 1 sc.nd)) (fun s H C cl fp => ts_nil) (fun s H C cl fp => (d_lc rfl sc.nd (i_range1 T.n_range (dv 0)) (blkOk_by (own := [("k", 2)]) (by first | rfl | kernel_rfl)) fr_name (fun s H C cl fp => (g_name 2 sc.nd)) (fun s H C cl fp => ts_nil) (fun s H C cl fp => (d_callTy (c_int) T.n_int (a_cons (d_cmp (o_eq (hu hr)) (dv 1) (dv 2)) a_nil)))))))), fun ds μ R h => ?_⟩
  case len => obtain ⟨n, rfl, _⟩ := h; rfl
  obtain ⟨n, rfl, hn, hR⟩ := h
  unfold ml unitM at hR
  rw [List.map_map] at hR
  refine ⟨RB_nat (lt62 hn), lc_map (List.range n) (fun i : Nat => .int (i : Int)) _ (rng0 n) (by rw [List.length_range]; exact hn) trivial (fun i hi Y hY => ?_) (fzR.now hR)⟩
  refine ⟨RB_nat (lt62 hn), lc_map (List.range n) (fun i : Nat => .int (i : Int)) (fun k => D.int (if i = k then 1 else 0)) (rng0 n) (by rw [List.length_range]; exact hn) trivial (fun k hk Z hZ => ?_) ?_⟩
  · have e : (if (id (decide ((i : Int) = (k : Int)))) = true then (1 : Int) else 0) = if i = k then 1 else 0 := by
      by_cases c : i = k
      · simp [c]
      · simp [c]
        omega
    rw [← e] at hZ
    exact hZ
  · unfold ri at hY
    simp only [Function.comp, List.map_map] at hY
    exact hY
end
end Gm
end
/-! U -/
section
set_option Elab.async false
set_option linter.all false
set_option maxRecDepth 100000
set_option maxHeartbeats 4000000
namespace Gm
open PySem PySem.Spec PyProof.Rows L2 DL Gp
theorem enumD_map {α : Type} (f : α → D) (xs : List α) : enumD (xs.map f) = xs.zipIdx.map fun p => D.tup [.int (p.2 : Nat), f p.1] := by
  unfold enumD
  refine List.ext_getElem? fun i => ?_
  rw [List.getElem?_mapIdx, List.getElem?_map, List.getElem?_map, List.getElem?_zipIdx]
  cases xs[i]? with
  | none => rfl
  | some a => simp
theorem cut_take {α : Type} (xs : List α) (k : Nat) : cut xs none (some (k : Int)) = xs.take k := by
  unfold cut
  rw [HT.sIx_nat, HT.sIx_none, List.drop_zero, Nat.sub_zero]
  by_cases h : k ≤ xs.length
  · rw [Nat.min_eq_left h]
  · rw [Nat.min_eq_right (by omega), List.take_of_length_le (Nat.le_refl _), List.take_of_length_le (by omega)]
theorem cut_drop {α : Type} (xs : List α) (k : Nat) : cut xs (some (k : Int)) none = xs.drop k := by
  unfold cut
  rw [HT.sIx_nat, HT.sIx_none]
  by_cases h : k ≤ xs.length
  · rw [Nat.min_eq_left h, List.take_of_length_le (by rw [List.length_drop]; omega)]
  · rw [Nat.min_eq_right (by omega), List.drop_of_length_le (Nat.le_refl _), List.drop_of_length_le (by omega), List.take_nil]
def minorL (m : Mx) (i k : Nat) : Mx := (m.zipIdx.filter fun p => decide (p.2 ≠ i)).map fun p => p.1.take k ++ p.1.drop (k + 1)
section
variable {P : Program} {w : World} {K : PySem.W.Frag} {mg : Str → Option Value} {base : Heap}
def phiMinor : TF := fun ds μ R => ∃ m i k, ds = [mt m, .int (i : Nat), .int (k : Nat)] ∧ m.length ≤ sizeLine ∧ (∀ r ∈ m, r.length ≤ 1000) ∧ R (.lst ((minorL m i k).map rt)) μ
theorem sc_Minor : FnScope ["rows", "i", "k", "at", "row"] ["rows", "i", "k"] (defScope sMinor) := ⟨rfl, rfl, rfl, by decide +kernel, rfl, by decide +kernel, by decide +kernel⟩
theorem okMinor (T : Tx K mg) : FnOk P w K mg base CX0 1 (He.ga K "_minor") (fdOf K (He.ga K "_minor")) ["rows", "i", "k"] (spD K phiMinor) := by
  have sc := sc_Minor
  refine fnd_ok T.d_Minor sc (fun ds μ R h => ?len) fun cdv A outer s H E hr => ⟨_, _, (ss_one (s_ret (d_lc rfl sc.nd (i_enum T.n_enumerate (dv 0)) (blkOk_by (own := [("at", 3), ("row", 4)]) (by first | rfl | kernel_rfl)) fr_two (fun s H C cl fp => (g_tup (n := 2) rfl (gs_cons (g_name 3 sc.nd) (gs_cons (g_name 4 sc.nd) gs_nil)))) (fun s H C cl fp => (ts_one (t_cmp (o_ne (hu hr)) (dv 3) (dv 1)))) (fun s H C cl fp => (d_bin o_add (d_slice (dv 4) o_none (o_some (dv 2))) (d_slice (dv 4) (o_some (d_bin o_add (dv 2) d_int)) o_none)))))), fun ds μ R h => ?_⟩
  case len => obtain ⟨m, i, k, rfl, _⟩ := h; rfl
  obtain ⟨m, i, k, rfl, hz, hl, hR⟩ := h
  unfold minorL at hR
  rw [List.map_map] at hR
  refine lc_fil m.zipIdx (fun p => .tup [.int (p.2 : Nat), rt p.1]) _ (fun p => decide (p.2 ≠ i)) (enumD_map rt m) (by rw [List.length_zipIdx]; exact hz) trivial (fun p hp Y N hy hn => ?_) (fzR.now hR)
  refine ⟨rfl, if_ne (fun c => ?_) fun c => hn (by have c2 : (p.2 : Int) = (i : Int) := c; simp; omega)⟩
  · have hpl := hl p.1 (List.fst_mem_of_mem_zipIdx hp)
    have c2 : ¬ (p.2 : Int) = (i : Int) := c
    have yy := hy (by simp; omega)
    have e1 : cut (p.1.map D.int) none (some (k : Int)) = (p.1.take k).map D.int := by rw [cut_take, List.map_take]
    have e2 : cut (p.1.map D.int) (some ((k : Int) + 1)) none = (p.1.drop (k + 1)).map D.int := by
      rw [show (k : Int) + 1 = ((k + 1 : Nat) : Int) from rfl, cut_drop, List.map_drop]
    show pAdd (.tup (cut (p.1.map D.int) none (some (k : Int)))) (.tup (cut (p.1.map D.int) (some ((k : Int) + 1)) none)) μ Y
    rw [e1, e2]
    refine ⟨?_, ?_⟩
    · rw [List.length_map, List.length_map, List.length_take, List.length_drop, sLine]
      omega
    · rw [← List.map_append]
      exact yy
abbrev gr (K : PySem.W.Frag) (m : Mx) (n : Nat) : D := .ins (He.ga K "Grid") [("rows", mt m), ("width", .int (n : Int))]
def phiGridInit (K : PySem.W.Frag) : TF := fun ds μ R => ∃ q d m n wd, ds = [.adr q, d, wd] ∧ μ q = some (.ins (He.ga K "Grid") []) ∧ IsM d m ∧ m.length ≤ sizeLine ∧ (∀ r ∈ m, r.length = n) ∧ (wd = .int (n : Nat) ∨ wd = .non ∧ (m = [] → n = 0)) ∧
  R .non (μ.put q (.ins (He.ga K "Grid") [("rows", mt m), ("width", .int (n : Int))]))
theorem isM_ty {d : D} {m : Mx} {μ : Sto} (h : IsM d m) : tyS μ d = some "list" ∨ tyS μ d = some "tuple" := by
  obtain ⟨e, he, rfl | rfl⟩ := h
  · exact .inl rfl
  · exact .inr rfl
theorem sc_GridInit : FnScope ["self", "rows", "width"] ["self", "rows", "width"] (defScope sGridInit) := ⟨rfl, rfl, rfl, by decide +kernel, rfl, by decide +kernel, by decide +kernel⟩
theorem okGridInit (T : Tx K mg) : FnOk P w K mg base CX0 3 (He.ma K (He.ga K "Grid") "__init__") (fdOf K (He.ma K (He.ga K "Grid") "__init__")) ["self", "rows", "width"] (spD K (phiGridInit K)) := by
  have sc := sc_GridInit
  have FChecked := okChecked (P := P) (w := w) (base := base) T
  refine fnd_ok T.d_GridInit sc (fun ds μ R h => ?len) fun cdv A outer s H E hr => ⟨_, _, (ss_cons (s_if (t_not (t_val (d_isLT T.n_isinstance T.n_list T.n_tuple (dv 1)))) (ss_one s_never) ss_nil)
      (ss_cons (s_if (t_cmp o_isN (dv 2) d_non) (ss_cons (s_set 2 sc.nd d_int)
      (ss_one (s_if (t_w (tw_and (t_cmp o_gtI (d_callB (c_len) T.n_len (a_cons (dv 1) a_nil)) d_int) (tw_and1 (t_val (d_isLT T.n_isinstance T.n_list T.n_tuple (d_ix (dv 1) d_int)))))) (ss_one (s_set 2 sc.nd (d_callB (c_len) T.n_len (a_cons (d_ix (dv 1) d_int) a_nil)))) ss_nil))) ss_nil)
      (ss_cons (s_fld T.cls_Grid T.no_Grid_rows (dv 0) (d_call FChecked (hr.mono (by decide)) T.g_Checked T.d_Checked.kp T.b_Checked (a_cons (dv 1) (a_cons (dv 2) a_nil))))
      (ss_one (s_fld T.cls_Grid T.no_Grid_width (dv 0) (dv 2)))))), fun ds μ R h => ?_⟩
  case len => obtain ⟨q, d, m, n, wd, rfl, _⟩ := h; rfl
  obtain ⟨q, d, m, n, wd, rfl, hq, hd, hz, hl, hw, hR⟩ := h
  refine ⟨isM_ty hd, ?_⟩
  have hne : (("width" : Str) == ("rows" : Str)) = false := by decide +kernel
  have fin2 : ∃ fs, μ q = some (.ins (He.ga K "Grid") fs) ∧ fs.lookup ("rows" : Str) = none ∧ fs.length < 1000 ∧ ∃ gs, (μ.put q (.ins (He.ga K "Grid") (fs ++ [(("rows" : Str), mt m)]))) q = some (.ins (He.ga K "Grid") gs) ∧ gs.lookup ("width" : Str) = none ∧ gs.length < 1000 ∧
      fzR R .non ((μ.put q (.ins (He.ga K "Grid") (fs ++ [(("rows" : Str), mt m)]))).put q (.ins (He.ga K "Grid") (gs ++ [(("width" : Str), D.int (n : Int))]))) := by
    refine ⟨[], hq, rfl, by decide, [(("rows" : Str), mt m)], Sto.put_same, by rw [List.lookup_cons, hne]; rfl, (by show 1 < 1000; decide), ?_⟩
    rw [Sto.put_put]
    exact fzR.now hR
  rcases hw with rfl | ⟨rfl, h0⟩
  · exact ⟨d, _, n, rfl, hd, hz, hl, fin2⟩
  · refine hd.seq fun e he => ?_
    cases m with
    | nil =>
      have h00 := h0 rfl
      subst h00
      exact ⟨d, _, 0, rfl, hd, hz, hl, fin2⟩
    | cons r m' =>
      have e0 : (r.length : Int) = (n : Int) := by rw [hl r (List.mem_cons_self ..)]
      refine if_dec (fun _ => ?_) fun c => absurd (by simp) c
      refine hd.row (i := 0) (by simp) fun e2 he2 => ⟨row_ty he2, ?_⟩
      refine hd.row (i := 0) (by simp) fun e2 he2 => ?_
      refine row_seq he2 ?_
      rw [show ((((r :: m').getD 0 []).map D.int).length : Int) = (n : Int) from by rw [List.length_map]; exact e0]
      exact ⟨d, _, n, rfl, hd, hz, hl, fin2⟩
/-- a Grid is made -/
theorem mk_grid {d : D} {m : Mx} {n : Nat} {μ : Sto} {R : RD} (hd : IsM d m) (hz : m.length ≤ sizeLine) (hl : ∀ r ∈ m, r.length = n) (hR : R (gr K m n) μ) :
    dMk (He.ga K "Grid") (phiGridInit K) [d, .int (n : Int)] μ R := by
  unfold dMk
  exact fun q hq =>
  ⟨q, d, m, n, _, rfl, Sto.put_same, hd, hz, hl, .inl rfl, rfl, _, Sto.put_same, by rw [Sto.put_put, Sto.del_put hq]; exact hR⟩
theorem mk_grid1 {d : D} {m : Mx} {n : Nat} {μ : Sto} {R : RD} (hd : IsM d m) (hz : m.length ≤ sizeLine) (hl : ∀ r ∈ m, r.length = n) (h0 : m = [] → n = 0) (hR : R (gr K m n) μ) :
    dMk (He.ga K "Grid") (phiGridInit K) [d, .non] μ R := by
  unfold dMk
  exact fun q hq =>
  ⟨q, d, m, n, _, rfl, Sto.put_same, hd, hz, hl, .inr ⟨rfl, h0⟩, rfl, _, Sto.put_same, by rw [Sto.put_put, Sto.del_put hq]; exact hR⟩
theorem lk_rows {m : Mx} {n : Nat} : ([(("rows" : Str), mt m), (("width" : Str), D.int (n : Int))] : List (Str × D)).lookup ("rows" : Str) = some (mt m) := by
  rw [List.lookup_cons, beq_self_eq_true]
theorem lk_width {m : Mx} {n : Nat} : ([(("rows" : Str), mt m), (("width" : Str), D.int (n : Int))] : List (Str × D)).lookup ("width" : Str) = some (D.int (n : Int)) := by
  have hne : (("width" : Str) == ("rows" : Str)) = false := by decide +kernel
  rw [List.lookup_cons, hne, List.lookup_cons, beq_self_eq_true]
/-- no such field -/
theorem lk_none {m : Mx} {n : Nat} {x : Str} (h1 : (x == ("rows" : Str)) = false) (h2 : (x == ("width" : Str)) = false) : ([(("rows" : Str), mt m), (("width" : Str), D.int (n : Int))] : List (Str × D)).lookup x = none := by
  rw [List.lookup_cons, h1, List.lookup_cons, h2]
  rfl
def phiGridLen (K : PySem.W.Frag) : TF := fun ds μ R => ∃ m n, ds = [gr K m n] ∧ R (.int (m.length : Int)) μ
theorem sc_GridLen : FnScope ["self"] ["self"] (defScope sGridLen) := ⟨rfl, rfl, rfl, by decide +kernel, rfl, by decide +kernel, by decide +kernel⟩
theorem okGridLen (T : Tx K mg) : FnOk P w K mg base CX0 1 (He.ma K (He.ga K "Grid") "__len__") (fdOf K (He.ma K (He.ga K "Grid") "__len__")) ["self"] (spD K (phiGridLen K)) := by
  have sc := sc_GridLen
  refine fnd_ok T.d_GridLen sc (fun ds μ R h => ?len) fun cdv A outer s H E hr => ⟨_, _, (ss_one (s_ret (d_callB (c_len) T.n_len (a_cons (d_fld T.cls_Grid T.no_Grid_rows (dv 0)) a_nil)))), fun ds μ R h => ?_⟩
  case len => obtain ⟨m, n, rfl, _⟩ := h; rfl
  obtain ⟨m, n, rfl, hR⟩ := h
  refine ⟨rfl, _, lk_rows, ?_⟩
  show fzR R (.int ((m.map rt).length : Nat)) μ
  rw [List.length_map]
  exact fzR.now hR
def phiGridIsSquare (K : PySem.W.Frag) : TF := fun ds μ R => ∃ m n, ds = [gr K m n] ∧ m.length = n ∧ R (.bl true) μ
theorem sc_GridIsSquare : FnScope ["self"] ["self"] (defScope sGridIsSquare) := ⟨rfl, rfl, rfl, by decide +kernel, rfl, by decide +kernel, by decide +kernel⟩
theorem okGridIsSquare (T : Tx K mg) : FnOk P w K mg base CX0 1 (He.ma K (He.ga K "Grid") "is_square") (fdOf K (He.ma K (He.ga K "Grid") "is_square")) ["self"] (spD K (phiGridIsSquare K)) := by
  have sc := sc_GridIsSquare
  refine fnd_ok T.d_GridIsSquare sc (fun ds μ R h => ?len) fun cdv A outer s H E hr => ⟨_, _, (ss_one (s_ret (d_cmp (o_eq (hu hr)) (d_callB (c_len) T.n_len (a_cons (d_fld T.cls_Grid T.no_Grid_rows (dv 0)) a_nil)) (d_fld T.cls_Grid T.no_Grid_width (dv 0))))), fun ds μ R h => ?_⟩
  case len => obtain ⟨m, n, rfl, _⟩ := h; rfl
  obtain ⟨m, n, rfl, hn, hR⟩ := h
  refine ⟨rfl, _, lk_rows, ?_⟩
  show dFld (He.ga K "Grid") "width" (dVar 0) [some (gr K m n)] μ fun y μ2 => pEq id (.int ((m.map rt).length : Nat)) y μ2 (fzR R)
  refine ⟨rfl, _, lk_width, ?_⟩
  show fzR R (.bl (id (decide ((((m.map rt).length : Nat) : Int) = (n : Int))))) μ
  rw [List.length_map, hn]
  have e : id (decide ((n : Int) = (n : Int))) = true := by simp
  rw [e]
  exact fzR.now hR
def scaleM (k : Int) (m : Mx) : Mx := m.map (timesI k)
def phiGridScaled (K : PySem.W.Frag) : TF := fun ds μ R => ∃ m n k, ds = [gr K m n, .int k] ∧ m.length ≤ sizeLine ∧ (∀ r ∈ m, r.length = n ∧ ∀ x ∈ r, IntMulOk k x) ∧ n ≤ sizeLine ∧ R (gr K (scaleM k m) n) μ
theorem sc_GridScaled : FnScope ["self", "k", "row", "x"] ["self", "k"] (defScope sGridScaled) := ⟨rfl, rfl, rfl, by decide +kernel, rfl, by decide +kernel, by decide +kernel⟩
theorem okGridScaled (T : Tx K mg) : FnOk P w K mg base CX0 5 (He.ma K (He.ga K "Grid") "scaled") (fdOf K (He.ma K (He.ga K "Grid") "scaled")) ["self", "k"] (spD K (phiGridScaled K)) := by
  have sc := sc_GridScaled
  have FGridInit := okGridInit (P := P) (w := w) (base := base) T
  refine fnd_ok T.d_GridScaled sc (fun ds μ R h => ?len) fun cdv A outer s H E hr => ⟨_, _, (ss_one (s_ret (d_make T.mk_Grid FGridInit (hr.mono (by decide)) T.g_Grid T.b_GridInit .nil (fun _ => .nil) (a_cons (d_lc rfl sc.nd (i_seq (d_fld T.cls_Grid T.no_Grid_rows (dv 0))) (blkOk_by (own := [("row", 2)]) (by first | rfl | kernel_rfl)) fr_name (fun s H C cl fp => (g_name 2 sc.nd)) (fun s H C cl fp => ts_nil) (fun s H C cl fp => (d_lc rfl sc.nd (i_seq (dv 2)) (blkOk_by (own := [("x", 3)]) (by first | rfl | kernel_rfl)) fr_name (fun s H C cl fp => (g_name 3 sc.nd)) (fun s H C cl fp => ts_nil) (fun s H C cl fp => (d_bin o_mulI (dv 1) (dv 3)))))) (a_cons (d_fld T.cls_Grid T.no_Grid_width (dv 0)) a_nil))))), fun ds μ R h => ?_⟩
  case len => obtain ⟨m, n, k, rfl, _⟩ := h; rfl
  obtain ⟨m, n, k, rfl, hz, hl, hn, hR⟩ := h
  refine ⟨rfl, _, lk_rows, Sq.tup ?_⟩
  refine lc_map m rt (ri ∘ timesI k) rfl hz trivial (fun r hr Y hY => Sq.tup ?_) ?_
  · refine lc_map r D.int (fun x => .int (k * x)) rfl (by rw [(hl r hr).1]; exact hn) trivial (fun x hx Z hZ => ⟨(hl r hr).2 x hx, hZ⟩) ?_
    have e : (r.map fun x => D.int (k * x)) = (timesI k r).map D.int := by unfold timesI; rw [List.map_map]; rfl
    rw [e]
    exact hY
  · refine ⟨rfl, _, lk_width, ?_⟩
    rw [← List.map_map]
    exact mk_grid (m := scaleM k m) .ml (by unfold scaleM; rw [List.length_map]; exact hz) (fun r hr => by
      obtain ⟨x, hx, rfl⟩ := List.mem_map.mp hr
      unfold timesI
      rw [List.length_map]
      exact (hl x hx).1) (fzR.now hR)
def phiGridTransposed (K : PySem.W.Frag) : TF := fun ds μ R => ∃ m n, ds = [gr K m n] ∧ m.length ≤ sizeLine ∧ (∀ r ∈ m, r.length = n) ∧ n ≤ sizeLine ∧ R (gr K (turned m n) m.length) μ
theorem sc_GridTransposed : FnScope ["self", "k", "row"] ["self"] (defScope sGridTransposed) := ⟨rfl, rfl, rfl, by decide +kernel, rfl, by decide +kernel, by decide +kernel⟩
theorem okGridTransposed (T : Tx K mg) : FnOk P w K mg base CX0 5 (He.ma K (He.ga K "Grid") "transposed") (fdOf K (He.ma K (He.ga K "Grid") "transposed")) ["self"] (spD K (phiGridTransposed K)) := by
  have sc := sc_GridTransposed
  have FGridInit := okGridInit (P := P) (w := w) (base := base) T
  refine fnd_ok T.d_GridTransposed sc (fun ds μ R h => ?len) fun cdv A outer s H E hr => ⟨_, _, (ss_one (s_ret (d_make T.mk_Grid FGridInit (hr.mono (by decide)) T.g_Grid T.b_GridInit .nil (fun _ => .nil) (a_cons (d_lc rfl sc.nd (i_range1 T.n_range (d_fld T.cls_Grid T.no_Grid_width (dv 0))) (blkOk_by (own := [("k", 1)]) (by first | rfl | kernel_rfl)) fr_name (fun s H C cl fp => (g_name 1 sc.nd)) (fun s H C cl fp => ts_nil) (fun s H C cl fp => (d_lc rfl sc.nd (i_seq (d_fld T.cls_Grid T.no_Grid_rows (dv 0))) (blkOk_by (own := [("row", 2)]) (by first | rfl | kernel_rfl)) fr_name (fun s H C cl fp => (g_name 2 sc.nd)) (fun s H C cl fp => ts_nil) (fun s H C cl fp => (d_ix (dv 2) (dv 1)))))) (a_cons (d_callB (c_len) T.n_len (a_cons (d_fld T.cls_Grid T.no_Grid_rows (dv 0)) a_nil)) a_nil))))), fun ds μ R h => ?_⟩
  case len => obtain ⟨m, n, rfl, _⟩ := h; rfl
  obtain ⟨m, n, rfl, hz, hl, hn, hR⟩ := h
  refine ⟨rfl, _, lk_width, RB_nat (lt62 hn), ?_⟩
  refine lc_map (List.range n) (fun k : Nat => .int (k : Int)) (ri ∘ fun k => m.map fun r => r.getD k 0) (rng0 n) (by rw [List.length_range]; exact hn) trivial (fun k hk Y hY => ?_) ?_
  · refine ⟨rfl, _, lk_rows, Sq.tup ?_⟩
    refine lc_map m rt (fun r => .int (r.getD k 0)) rfl hz trivial (fun r hr Z hZ => pIx.tup (dAt_map 0 (by rw [hl r hr]; exact List.mem_range.mp hk) hZ)) ?_
    have e : (m.map fun r => D.int (r.getD k 0)) = (m.map fun r => r.getD k 0).map D.int := by rw [List.map_map]; rfl
    rw [e]
    exact hY
  · refine ⟨rfl, _, lk_rows, ?_⟩
    rw [← List.map_map]
    have e : ((m.map rt).length : Int) = (m.length : Int) := by rw [List.length_map]
    show dMk (He.ga K "Grid") (phiGridInit K) [ml (turned m n), .int (((m.map rt).length : Nat) : Int)] μ (fzR R)
    rw [List.length_map]
    exact mk_grid (m := turned m n) .ml (by unfold turned; rw [List.length_map, List.length_range]; exact hn) (fun r hr => by
      unfold turned at hr
      obtain ⟨x, hx, rfl⟩ := List.mem_map.mp hr
      rw [List.length_map]) (fzR.now hR)
def timesV (m : Mx) (v : List Int) : List Int := m.map fun r => dotI r v
def phiGridTimes (K : PySem.W.Frag) : TF := fun ds μ R => ∃ m n d v, ds = [gr K m n, d] ∧ IsRow d v ∧ v.length = n ∧ m.length ≤ sizeLine ∧ n ≤ sizeLine ∧ (∀ r ∈ m, r.length = n ∧ ∀ p ∈ r.zip v, IntMulOk p.1 p.2) ∧ R (rt (timesV m v)) μ
theorem isRow_e {d : D} {v : List Int} (h : IsRow d v) : ∃ e, (e = ri ∨ e = rt) ∧ d = e v := h.elim (fun h => ⟨ri, .inl rfl, h⟩) fun h => ⟨rt, .inr rfl, h⟩
theorem sc_GridTimes : FnScope ["self", "row", "line"] ["self", "row"] (defScope sGridTimes) := ⟨rfl, rfl, rfl, by decide +kernel, rfl, by decide +kernel, by decide +kernel⟩
theorem okGridTimes (T : Tx K mg) : FnOk P w K mg base CX0 2 (He.ma K (He.ga K "Grid") "times") (fdOf K (He.ma K (He.ga K "Grid") "times")) ["self", "row"] (spD K (phiGridTimes K)) := by
  have sc := sc_GridTimes
  have FDot := okDot (P := P) (w := w) (base := base) T
  refine fnd_ok T.d_GridTimes sc (fun ds μ R h => ?len) fun cdv A outer s H E hr => ⟨_, _, (ss_cons (s_if (t_cmp (o_ne (hu hr)) (d_callB (c_len) T.n_len (a_cons (dv 1) a_nil)) (d_fld T.cls_Grid T.no_Grid_width (dv 0))) (ss_one s_never) ss_nil)
      (ss_one (s_ret (d_callTy (c_tuple) T.n_tuple (a_cons (d_lc rfl sc.nd (i_seq (d_fld T.cls_Grid T.no_Grid_rows (dv 0))) (blkOk_by (own := [("line", 2)]) (by first | rfl | kernel_rfl)) fr_name (fun s H C cl fp => (g_name 2 sc.nd)) (fun s H C cl fp => ts_nil) (fun s H C cl fp => (d_call FDot (hr.mono (by decide)) T.g_Dot T.d_Dot.kp T.b_Dot (a_cons (dv 2) (a_cons (dv 1) a_nil))))) a_nil))))), fun ds μ R h => ?_⟩
  case len => obtain ⟨m, n, d, v, rfl, _⟩ := h; rfl
  obtain ⟨m, n, d, v, rfl, hd, hv, hz, hn, hl, hR⟩ := h
  obtain ⟨e, he, rfl⟩ := isRow_e hd
  refine row_seq he ?_
  refine ⟨rfl, _, lk_width, ?_⟩
  refine if_ne (fun c => absurd (by rw [List.length_map, hv]) c) fun _ => ?_
  refine ⟨rfl, _, lk_rows, Sq.tup ?_⟩
  refine lc_map m rt (fun r => .int (dotI r v)) rfl hz trivial (fun r hr Y hY => ⟨_, _, r, v, rfl, .rt, hd, by rw [(hl r hr).1]; exact hn, (hl r hr).2, hY⟩) ?_
  have e2 : (m.map fun r => D.int (dotI r v)) = (timesV m v).map D.int := by unfold timesV; rw [List.map_map]; rfl
  rw [e2]
  exact fzR.now hR
end
end Gm
end
/-! V -/
section
set_option Elab.async false
set_option linter.all false
set_option maxRecDepth 100000
set_option maxHeartbeats 4000000
namespace Gm
open PySem PySem.Spec PyProof.Rows L2 DL Gp
theorem mulOk {a b : Int} (h : a.natAbs ≤ 2 ^ 62) : IntMulOk a b := mulOk63 (by omega)
theorem cdvOk {b : Int} (h0 : b ≠ 0) (h : b.natAbs ≤ 2 ^ 62) : CDv 0 b := ⟨h0, log63 (by omega)⟩
theorem IsM.iter {d : D} {m : Mx} {μ : Sto} {R : List D → (Sto → Prop) → Sto → Prop} (h : IsM d m) (k : ∀ e, (e = ri ∨ e = rt) → R (m.map e) always μ) : onSq d μ R := h.sq k
section
variable {P : Program} {w : World} {K : PySem.W.Frag} {mg : Str → Option Value} {base : Heap}
def phiDeterminant : TF := fun ds μ R => ∃ d m n, ds = [d] ∧ IsM d m ∧ Sh m n n ∧ n ≤ 3 ∧ (∀ i j, i < n → j < n → (ent m i j).natAbs ≤ 2 ^ 14) ∧ R (.int (detF n (ent m))) μ
theorem sc_Determinant : FnScope ["rows", "row", "table", "size", "sign", "before", "k", "i", "chosen", "head", "factor", "x", "y"] ["rows"] (defScope sDeterminant) := ⟨rfl, rfl, rfl, by decide +kernel, rfl, by decide +kernel, by decide +kernel⟩
theorem okDeterminant (T : Tx K mg) : FnOk P w K mg base CX0 1 (He.ga K "_determinant") (fdOf K (He.ga K "_determinant")) ["rows"] (spD K phiDeterminant) := by
  have sc := sc_Determinant
  refine fnd_ok T.d_Determinant sc (fun ds μ R h => ?len) fun cdv A outer s H E hr => ⟨_, _, (ss_cons (s_set 2 sc.nd (d_lcM rfl sc.nd (i_seq (dv 0)) (blkOk_by (own := [("row", 1)]) (by first | rfl | kernel_rfl)) fr_name (fun s H C cl fp => (g_name 1 sc.nd)) (fun s H C cl fp => ts_nil) (fun s H C cl fp => (d_callTy (c_list) T.n_list (a_cons (dv 1) a_nil)))))
      (ss_cons (s_set 3 sc.nd (d_callB (c_len) T.n_len (a_cons (dv 2) a_nil)))
      (ss_cons (s_asg (d_tup (a_cons d_int (a_cons d_int a_nil))) (g_tup (n := 2) rfl (gs_cons (g_name 4 sc.nd) (gs_cons (g_name 5 sc.nd) gs_nil))))
      (ss_cons (s_for PassesOwn.never rfl (i_range1 T.n_range (dv 3)) (g_name 6 sc.nd) (ss_cons (s_setLc 8 rfl sc.nd (i_range2 T.n_range (dv 6) (dv 3)) (blkOk_by (own := [("i", 7)]) (by first | rfl | kernel_rfl)) fr_name (fun s H C cl fp => (g_name 7 sc.nd)) (fun s H C cl fp => (ts_one (t_cmp (o_ne (hu hr)) (d_ix (d_ix (dv 2) (dv 7)) (dv 6)) d_int))) (fun s H C cl fp => (dv 7)))
      (ss_cons (s_if (t_cmp (o_eq (hu hr)) (d_callB (c_len) T.n_len (a_cons (dv 8) a_nil)) d_int) (ss_one (s_ret d_int)) ss_nil)
      (ss_cons (s_if (t_cmp (o_ne (hu hr)) (d_ix (dv 8) d_int) (dv 6)) (ss_cons (s_set 1 sc.nd (d_ix (dv 2) (dv 6)))
      (ss_cons (s_asg (d_ix (dv 2) (d_ix (dv 8) d_int)) (g_sub (dv 2) (dv 6)))
      (ss_cons (s_asg (dv 1) (g_sub (dv 2) (d_ix (dv 8) d_int)))
      (ss_one (s_set 4 sc.nd (d_neg (dv 4))))))) ss_nil)
      (ss_cons (s_set 9 sc.nd (d_ix (dv 2) (dv 6)))
      (ss_cons (s_for PassesOwn.never rfl (i_range2 T.n_range (d_bin o_add (dv 6) d_int) (dv 3)) (g_name 7 sc.nd) (ss_cons (s_set 10 sc.nd (d_ix (d_ix (dv 2) (dv 7)) (dv 6)))
      (ss_one (s_asg (d_lc rfl sc.nd (i_zip T.n_zip (d_ix (dv 2) (dv 7)) (dv 9)) (blkOk_by (own := [("x", 11), ("y", 12)]) (by first | rfl | kernel_rfl)) fr_two (fun s H C cl fp => (g_tup (n := 2) rfl (gs_cons (g_name 11 sc.nd) (gs_cons (g_name 12 sc.nd) gs_nil)))) (fun s H C cl fp => ts_nil) (fun s H C cl fp => (d_bin o_fdiv (d_bin o_sub (d_bin o_mulI (d_ix (dv 9) (dv 6)) (dv 11)) (d_bin o_mulI (dv 10) (dv 12))) (dv 5)))) (g_sub (dv 2) (dv 7))))))
      (ss_one (s_set 5 sc.nd (d_ix (dv 9) (dv 6))))))))))
      (ss_one (s_ret (d_bin o_mulI (dv 4) (dv 5)))))))), fun ds μ R h => ?_⟩
  case len => obtain ⟨d, m, n, rfl, _⟩ := h; rfl
  obtain ⟨d, m, n, rfl, hd, sh, hn, hb, hR⟩ := h
  refine hd.sq fun e he => ?_
  refine lc_map m e ri rfl (sh.sz hn) trivial (fun r hr Y hY => row_seq he hY) fun q hq => ?_
  refine onL_lst Sto.put_same ?_
  rw [List.length_map, sh.len]
  refine ⟨by show 2 ≤ sizeLine; rw [sLine]; omega, rfl, RB_nat (n := n) (by omega), ?_⟩
  refine for_rng 0 n rfl rfl (fun k ρ μ' => k ≤ n ∧ ∃ t sg bf x1 x6 x7 x8 x9 x10 x11 x12, BarS n m k t sg bf ∧ μ' = μ.put q (.lst (t.map ri)) ∧
    ρ = [some d, x1, some (.adr q), some (.int (n : Int)), some (.int sg), some (.int bf), x6, x7, x8, x9, x10, x11, x12]) ⟨Nat.zero_le _, m, 1, 1, _, _, _, _, _, _, _, _, BarS.start sh hb, rfl, rfl⟩ ?_ ?_
  · rintro k ρ μ' _ hk ⟨_, t, sg, bf, x1, x6, x7, x8, x9, x10, x11, x12, S, rfl, rfl⟩
    have st := S.I.sh
    have sub : SubS μ (μ.put q (.lst (t.map ri))) := SubS.put_none hq
    have Tq : Lm (.adr q) (μ.put q (.lst (t.map ri))) t := .inr ⟨q, rfl, Sto.put_same⟩
    refine ⟨RB_nat (by omega), RB_nat (by omega), ?_⟩
    refine lc_fil (List.range' k (n - k)) (fun i : Nat => .int (i : Int)) (fun i : Nat => .int (i : Int)) (fun i => decide (ent t i k ≠ 0)) (rng_nat2 rfl rfl) (by rw [List.length_range', sLine]; omega) trivial (fun i hi Y N hy hn' => ?_) ?_
    · have hi' := List.mem_range'_1.mp hi
      refine Tq.cell (by rw [st.len]; omega) (by rw [st.get (by omega)]; exact hk) ?_
      exact if_ne (fun c => hy (by simpa using c)) fun c => hn' (by simpa using c)
    cases hc : chosen t k n with
    | nil =>
      have e0 : ((List.range' k (n - k)).filter fun i => decide (ent t i k ≠ 0)) = [] := hc
      rw [e0]
      have z := S.zero hk hn hc
      rw [z] at hR
      exact ⟨μ, _, sub, .same _, hR⟩
    | cons c r =>
      have e0 : ((List.range' k (n - k)).filter fun i => decide (ent t i k ≠ 0)) = c :: r := hc
      rw [e0]
      obtain ⟨c1, c2, c3⟩ := chosen_cons hc
      have Sn := S.next hk hn hc
      have s1 := (S.I.swap hk c2).1
      have b1 := (S.I.swap hk c2).2
      have cix : ∀ {R : RD} {μ : Sto}, R (.int (c : Int)) μ → pIx (.lst ((c :: r).map fun i : Nat => D.int (i : Int))) (.int 0) μ R := fun h => pIx.lst (dAt_nat (xs := (c :: r).map fun i : Nat => D.int (i : Int)) (i := 0) (by simp) h)
      have hb' := S.I.bfn
      have top := bX_top k
      have lk : k < t.length := by rw [st.len]; exact hk
      have lc : c < t.length := by rw [st.len]; exact c2
      refine cix ?_
      refine if_ne (fun hne => ?ba) fun heq => ?bb
      case' ba =>
        have hne' : c ≠ k := fun z => hne (by rw [z])
        rw [if_pos hne'] at Sn
        refine Tq.row (by rw [st.len]; exact hk) ?_
        refine cix ?_
        refine Tq.row (by rw [st.len]; exact c2) ?_
        refine onL_lst Sto.put_same ⟨k, ixN_nat (by rw [List.length_map, st.len]; exact hk), ?_⟩
        refine cix ?_
        refine onL_lst Sto.put_same ⟨c, ixN_nat (by rw [List.length_set, List.length_map, st.len]; exact c2), ?_⟩
        have esw : ((t.map ri).set k (ri (t.getD c []))).set c (ri (t.getD k [])) = (swapAt t k c).map ri := by
          rw [← List.map_set, ← List.map_set]
          unfold swapAt
          rw [List.getElem?_eq_getElem lk, List.getElem?_eq_getElem lc]
          simp [List.getD_eq_getElem?_getD, lk, lc]
        rw [Sto.put_put, Sto.put_put, esw]
        generalize swapAt t k c = t' at Sn s1 b1 ⊢
        obtain ⟨sg', hsg⟩ : ∃ z, z = -sg := ⟨_, rfl⟩
        rw [← hsg] at Sn
        obtain ⟨x1v, hx1v⟩ : ∃ z : Option D, z = some (ri (t.getD k [])) := ⟨_, rfl⟩
      case' bb =>
        have heq' : c = k := by have z : (c : Int) = (k : Int) := heq; omega
        rw [if_neg (fun z => z heq')] at Sn
        rw [heq', swapAt_self] at Sn s1 b1
        generalize t = t' at Sn s1 b1 ⊢
        obtain ⟨sg', hsg⟩ : ∃ z, z = sg := ⟨_, rfl⟩
        rw [← hsg] at Sn
        obtain ⟨x1v, hx1v⟩ : ∃ z : Option D, z = x1 := ⟨_, rfl⟩
      all_goals
        have Un : Lm (.adr q) (μ.put q (.lst (t'.map ri))) t' := .inr ⟨q, rfl, Sto.put_same⟩
        refine Un.row (by rw [s1.len]; exact hk) ?_
        refine ⟨⟨by omega, by omega⟩, RB_nat (by omega), ?_⟩
        have hh := s1.get hk
        refine for_rng (k + 1) n (by omega) (by omega) (fun i ρ μ' => k < i ∧ i ≤ n ∧ ∃ x1 x7 x8 x10 x11 x12, μ' = μ.put q (.lst ((barT k i bf t').map ri)) ∧
          ρ = [some d, x1, some (.adr q), some (.int (n : Int)), some (.int sg'), some (.int bf), some (.int (k : Int)), x7, x8, some (ri (t'.getD k [])), x10, x11, x12]) ⟨by omega, by omega, x1v, x7, some (.lst ((c :: r).map fun i : Nat => D.int (i : Int))), x10, x11, x12, by rw [barT_zero], by rw [hsg, hx1v]; rfl⟩ ?_ ?_
        · rintro i ρ μ' i1 i2 ⟨i3, i4, x1, x7, x8, x10, x11, x12, rfl, rfl⟩
          have sB := s1.barT (i := i) (bf := bf) hk
          have Bq : Lm (.adr q) (μ.put q (.lst ((barT k i bf t').map ri))) (barT k i bf t') := .inr ⟨q, rfl, Sto.put_same⟩
          have gi : (barT k i bf t').getD i [] = t'.getD i [] := barT_get k i bf t' i (.inr (Nat.le_refl _))
          have hi := s1.get i2
          have ei : ent (barT k i bf t') i k = ent t' i k := by unfold ent; rw [gi]
          refine Bq.cell (by rw [sB.len]; exact i2) (by rw [sB.get i2]; exact hk) ?_
          rw [ei]
          refine Bq.row (by rw [sB.len]; exact i2) ?_
          rw [gi]
          refine lc_map ((t'.getD i []).zip (t'.getD k [])) (fun p => .tup [.int p.1, .int p.2]) (fun p => .int ((ent t' k k * p.1 - ent t' i k * p.2).fdiv bf)) (zipD_map _ _ _ _) (by rw [List.length_zip, hi, hh, sLine]; omega) trivial (fun p hp Y hY => ⟨rfl, ?_⟩) ?_
          · refine pIx.lst (dAt_map 0 (by rw [hh]; exact hk) ?_)
            have v1 : (ent t' k k).natAbs ≤ 2 ^ 62 := by have := b1 k k hk hk; omega
            have v2 : (ent t' i k).natAbs ≤ 2 ^ 62 := by have := b1 i k i2 hk; omega
            exact ⟨mulOk v1, mulOk v2, cdvOk hb'.1 (by omega), hY⟩
          · refine onL_lst Sto.put_same ⟨i, ixN_nat (by rw [List.length_map, sB.len]; exact i2), ?_⟩
            have er : (((t'.getD i []).zip (t'.getD k [])).map fun p => D.int ((ent t' k k * p.1 - ent t' i k * p.2).fdiv bf)) = (elimRow (ent t' k k) bf (t'.getD i []) (t'.getD k []) (ent t' i k)).map D.int := by
              unfold elimRow
              rw [List.map_map]
              rfl
            rw [er]
            have es : ((barT k i bf t').map ri).set i (.lst ((elimRow (ent t' k k) bf (t'.getD i []) (t'.getD k []) (ent t' i k)).map D.int)) = (barT k (i + 1) bf t').map ri := by
              rw [← barT_step k i bf t' i3 (by rw [s1.len]; exact i2), List.map_set]
            rw [es, Sto.put_put]
            exact ⟨by omega, by omega, _, _, _, _, _, _, rfl, rfl⟩
        · rintro ρ μ' ⟨i3, i4, x1, x7, x8, x10, x11, x12, rfl, rfl⟩
          rw [show max (k + 1) n = n from by omega]
          refine pIx.lst (dAt_map 0 (by rw [hh]; exact hk) ?_)
          exact ⟨by omega, _, _, _, _, _, _, _, _, _, _, _, Sn, rfl, rfl⟩
  · rintro ρ μ' ⟨_, t, sg, bf, x1, x6, x7, x8, x9, x10, x11, x12, S, rfl, rfl⟩
    rw [show max 0 n = n from by omega] at S
    have e := S.done hn
    rw [← e] at hR
    exact ⟨mulOk (by rcases S.I.sgn with z | z <;> rw [z] <;> decide), μ, _, SubS.put_none hq, .same _, hR⟩
end
end Gm
end
/-! W -/
section
set_option Elab.async false
set_option linter.all false
set_option maxRecDepth 100000
set_option maxHeartbeats 4000000
namespace Gm
open PySem PySem.Spec PyProof.Rows L2 DL Gp
theorem py_row : ∀ r : List Int, (rt r).py = .tuple (r.map PyData.int)
  | r => by
    show PyData.tuple (D.pys (r.map D.int)) = _
    rw [pys_map, List.map_map]
    rfl
theorem py_mt (m : Mx) : (mt m).py = .tuple (m.map fun r => .tuple (r.map PyData.int)) := by
  show PyData.tuple (D.pys (m.map rt)) = _
  rw [pys_map, List.map_map]
  congr 1
  exact List.map_congr_left fun r _ => py_row r
theorem eqv_ints : ∀ xs ys : List Int, PyData.eqvAll (xs.map PyData.int) (ys.map PyData.int) = decide (xs = ys)
  | [], [] => rfl
  | [], _ :: _ => rfl
  | _ :: _, [] => rfl
  | x :: xs, y :: ys => by
    rw [List.map_cons, List.map_cons, PyData.eqvAll, eqv_ints xs ys]
    have e : PyData.eqv (.int x) (.int y) = decide (x = y) := by
      rw [Bool.eq_iff_iff]
      simp [PyData.eqv]
    rw [e]
    by_cases h1 : x = y <;> by_cases h2 : xs = ys <;> simp [h1, h2]
theorem eqv_rows : ∀ m m' : Mx, PyData.eqvAll (m.map fun r => .tuple (r.map PyData.int)) (m'.map fun r => .tuple (r.map PyData.int)) = decide (m = m')
  | [], [] => rfl
  | [], _ :: _ => rfl
  | _ :: _, [] => rfl
  | x :: xs, y :: ys => by
    rw [List.map_cons, List.map_cons, PyData.eqvAll, eqv_rows xs ys]
    have e : PyData.eqv (.tuple (x.map PyData.int)) (.tuple (y.map PyData.int)) = decide (x = y) := by
      rw [PyData.eqv]
      exact eqv_ints x y
    rw [e]
    by_cases h1 : x = y <;> by_cases h2 : xs = ys <;> simp [h1, h2]
theorem eqv_mt (m m' : Mx) : PyData.eqv (mt m).py (mt m').py = decide (m = m') := by
  rw [py_mt, py_mt, PyData.eqv]
  exact eqv_rows m m'
theorem flat_ints : ∀ r : List Int, D.flats (r.map D.int) = true
  | [] => rfl
  | _ :: r => flat_ints r
theorem flat_rows : ∀ m : Mx, D.flats (m.map rt) = true
  | [] => rfl
  | x :: m => by
    show (D.flats (x.map D.int) && D.flats (m.map rt)) = true
    rw [flat_ints, flat_rows m]
    rfl
theorem depth_row (r : List Int) : (PyData.tuple (r.map PyData.int)).depth ≤ 1 := by
  rw [PyData.depth]
  have := depthAll_le (n := 0) (l := r.map PyData.int) fun d hd => by
    obtain ⟨x, _, rfl⟩ := List.mem_map.mp hd
    exact Nat.le_refl _
  omega
theorem depth_mt (m : Mx) : (mt m).py.depth ≤ 2 := by
  rw [py_mt, PyData.depth]
  have := depthAll_le (n := 1) (l := m.map fun r => PyData.tuple (r.map PyData.int)) fun d hd => by
    obtain ⟨x, _, rfl⟩ := List.mem_map.mp hd
    exact depth_row x
  omega
theorem eqq_mt (m : Mx) : (mt m).eqq := ⟨flat_rows m, by have := depth_mt m; omega⟩
section
variable {P : Program} {w : World} {K : PySem.W.Frag} {mg : Str → Option Value} {base : Heap}
def phiGridEq (K : PySem.W.Frag) : TF := fun ds μ R => ∃ m n m' n', ds = [gr K m n, gr K m' n'] ∧ R (.bl (decide (m = m' ∧ n = n'))) μ
theorem sc_GridEq : FnScope ["self", "other"] ["self", "other"] (defScope sGridEq) := ⟨rfl, rfl, rfl, by decide +kernel, rfl, by decide +kernel, by decide +kernel⟩
theorem okGridEq (T : Tx K mg) : FnOk P w K mg base CX0 1 (He.ma K (He.ga K "Grid") "__eq__") (fdOf K (He.ma K (He.ga K "Grid") "__eq__")) ["self", "other"] (spD K (phiGridEq K)) := by
  have sc := sc_GridEq
  refine fnd_ok T.d_GridEq sc (fun ds μ R h => ?len) fun cdv A outer s H E hr => ⟨_, _, (ss_one (s_ret (d_and (d_isO T.iso_Grid T.n_isinstance T.g_Grid (dv 1)) (d_and (d_cmp (o_eq (hu hr)) (d_fld T.cls_Grid T.no_Grid_rows (dv 0)) (d_fld T.cls_Grid T.no_Grid_rows (dv 1))) (d_one (d_cmp (o_eq (hu hr)) (d_fld T.cls_Grid T.no_Grid_width (dv 0)) (d_fld T.cls_Grid T.no_Grid_width (dv 1)))))))), fun ds μ R h => ?_⟩
  case len => obtain ⟨m, n, m', n', rfl, _⟩ := h; rfl
  obtain ⟨m, n, m', n', rfl, hR⟩ := h
  refine ⟨true, by unfold isO; simp, ?_⟩
  refine ⟨rfl, _, lk_rows, ?_⟩
  refine ⟨rfl, _, lk_rows, ?_⟩
  refine ⟨eqq_mt m, eqq_mt m', ?_⟩
  have g : ∀ b : Bool, b = decide (m = m') → ∀ A B : Prop, (m = m' → A) → (m ≠ m' → B) → if b = true then A else B := fun b e A B hA hB => by
    subst e
    by_cases c : m = m'
    · rw [decide_eq_true c]; exact hA c
    · rw [decide_eq_false c]; exact hB c
  refine g _ (eqv_mt m m') _ _ (fun c => ?_) fun c => ?_
  · refine ⟨rfl, _, lk_width, ?_⟩
    refine ⟨rfl, _, lk_width, ?_⟩
    have e : id (decide ((n : Int) = (n' : Int))) = decide (m = m' ∧ n = n') := by
      by_cases c2 : n = n'
      · simp [c, c2]
      · simp [c2]
        omega
    rw [← e] at hR
    exact fzR.now hR
  · have e : decide (m = m' ∧ n = n') = false := by simp [c]
    rw [e] at hR
    exact fzR.now hR
def subM (m m' : Mx) : Mx := (m.zip m').map fun p => (p.1.zip p.2).map fun q => q.1 - q.2
def phiGridSub (K : PySem.W.Frag) : TF := fun ds μ R => ∃ m n m', ds = [gr K m n, gr K m' n] ∧ m.length = m'.length ∧ m.length ≤ sizeLine ∧ (∀ r ∈ m, r.length = n) ∧ (∀ r ∈ m', r.length = n) ∧ n ≤ sizeLine ∧ R (gr K (subM m m') n) μ
theorem sc_GridSub : FnScope ["self", "other", "a", "b", "x", "y"] ["self", "other"] (defScope sGridSub) := ⟨rfl, rfl, rfl, by decide +kernel, rfl, by decide +kernel, by decide +kernel⟩
theorem okGridSub (T : Tx K mg) : FnOk P w K mg base CX0 5 (He.ma K (He.ga K "Grid") "__sub__") (fdOf K (He.ma K (He.ga K "Grid") "__sub__")) ["self", "other"] (spD K (phiGridSub K)) := by
  have sc := sc_GridSub
  have FGridInit := okGridInit (P := P) (w := w) (base := base) T
  refine fnd_ok T.d_GridSub sc (fun ds μ R h => ?len) fun cdv A outer s H E hr => ⟨_, _, (ss_cons (s_if (t_w (tw_or (t_cmp (o_ne (hu hr)) (d_callB (c_len) T.n_len (a_cons (d_fld T.cls_Grid T.no_Grid_rows (dv 0)) a_nil)) (d_callB (c_len) T.n_len (a_cons (d_fld T.cls_Grid T.no_Grid_rows (dv 1)) a_nil))) (tw_or1 (t_cmp (o_ne (hu hr)) (d_fld T.cls_Grid T.no_Grid_width (dv 0)) (d_fld T.cls_Grid T.no_Grid_width (dv 1)))))) (ss_one s_never) ss_nil)
      (ss_one (s_ret (d_make T.mk_Grid FGridInit (hr.mono (by decide)) T.g_Grid T.b_GridInit .nil (fun _ => .nil) (a_cons (d_lc rfl sc.nd (i_zip T.n_zip (d_fld T.cls_Grid T.no_Grid_rows (dv 0)) (d_fld T.cls_Grid T.no_Grid_rows (dv 1))) (blkOk_by (own := [("a", 2), ("b", 3)]) (by first | rfl | kernel_rfl)) fr_two (fun s H C cl fp => (g_tup (n := 2) rfl (gs_cons (g_name 2 sc.nd) (gs_cons (g_name 3 sc.nd) gs_nil)))) (fun s H C cl fp => ts_nil) (fun s H C cl fp => (d_lc rfl sc.nd (i_zip T.n_zip (dv 2) (dv 3)) (blkOk_by (own := [("x", 4), ("y", 5)]) (by first | rfl | kernel_rfl)) fr_two (fun s H C cl fp => (g_tup (n := 2) rfl (gs_cons (g_name 4 sc.nd) (gs_cons (g_name 5 sc.nd) gs_nil)))) (fun s H C cl fp => ts_nil) (fun s H C cl fp => (d_bin o_sub (dv 4) (dv 5)))))) (a_cons (d_fld T.cls_Grid T.no_Grid_width (dv 0)) a_nil)))))), fun ds μ R h => ?_⟩
  case len => obtain ⟨m, n, m', rfl, _⟩ := h; rfl
  obtain ⟨m, n, m', rfl, hl, hz, h1, h2, hn, hR⟩ := h
  refine ⟨rfl, _, lk_rows, ?_⟩
  refine ⟨rfl, _, lk_rows, ?_⟩
  refine if_ne (fun c => absurd (by simp only [List.length_map]; omega) c) fun _ => ?_
  refine ⟨rfl, _, lk_width, ?_⟩
  refine ⟨rfl, _, lk_width, ?_⟩
  refine if_ne (fun c => absurd rfl c) fun _ => ?_
  refine ⟨rfl, _, lk_rows, ?_⟩
  refine ⟨rfl, _, lk_rows, ?_⟩
  refine lc_map (m.zip m') (fun p => .tup [rt p.1, rt p.2]) (fun p => ri ((p.1.zip p.2).map fun q => q.1 - q.2)) (zipD_map _ _ _ _) (by rw [List.length_zip]; omega) trivial (fun p hp Y hY => ⟨rfl, ?_⟩) ?_
  · refine lc_map (p.1.zip p.2) (fun q => .tup [.int q.1, .int q.2]) (fun q => .int (q.1 - q.2)) (zipD_map _ _ _ _) (by rw [List.length_zip, h1 p.1 (List.of_mem_zip hp).1]; omega) trivial (fun q hq Z hZ => ⟨rfl, hZ⟩) ?_
    unfold ri at hY
    rw [List.map_map] at hY
    exact hY
  · refine ⟨rfl, _, lk_width, ?_⟩
    have e : ((m.zip m').map fun p => ri ((p.1.zip p.2).map fun q => q.1 - q.2)) = (subM m m').map ri := by unfold subM; rw [List.map_map]; rfl
    rw [e]
    exact mk_grid (m := subM m m') .ml (by unfold subM; rw [List.length_map, List.length_zip]; omega) (fun r hr => by
      obtain ⟨p, hp, rfl⟩ := List.mem_map.mp hr
      rw [List.length_map, List.length_zip, h1 p.1 (List.of_mem_zip hp).1, h2 p.2 (List.of_mem_zip hp).2, Nat.min_self]) (fzR.now hR)
def mulM (m m' : Mx) (n' : Nat) : Mx := m.map fun r => (turned m' n').map fun c => dotI r c
def phiGridMul (K : PySem.W.Frag) : TF := fun ds μ R => ∃ m n m' n', ds = [gr K m n, gr K m' n'] ∧ m'.length = n ∧ m.length ≤ sizeLine ∧ n ≤ sizeLine ∧ n' ≤ sizeLine ∧ (∀ r ∈ m, r.length = n) ∧ (∀ r ∈ m', r.length = n') ∧
  (∀ r ∈ m, ∀ c ∈ turned m' n', ∀ p ∈ r.zip c, IntMulOk p.1 p.2) ∧ R (gr K (mulM m m' n') n') μ
theorem sc_GridMul : FnScope ["self", "other", "k", "row", "columns", "column"] ["self", "other"] (defScope sGridMul) := ⟨rfl, rfl, rfl, by decide +kernel, rfl, by decide +kernel, by decide +kernel⟩
theorem okGridMul (T : Tx K mg) : FnOk P w K mg base CX0 5 (He.ma K (He.ga K "Grid") "__mul__") (fdOf K (He.ma K (He.ga K "Grid") "__mul__")) ["self", "other"] (spD K (phiGridMul K)) := by
  have sc := sc_GridMul
  have FGridInit := okGridInit (P := P) (w := w) (base := base) T
  have FDot := okDot (P := P) (w := w) (base := base) T
  refine fnd_ok T.d_GridMul sc (fun ds μ R h => ?len) fun cdv A outer s H E hr => ⟨_, _, (ss_cons (s_if (t_cmp (o_ne (hu hr)) (d_fld T.cls_Grid T.no_Grid_width (dv 0)) (d_callB (c_len) T.n_len (a_cons (d_fld T.cls_Grid T.no_Grid_rows (dv 1)) a_nil))) (ss_one s_never) ss_nil)
      (ss_cons (s_set 4 sc.nd (d_lc rfl sc.nd (i_range1 T.n_range (d_fld T.cls_Grid T.no_Grid_width (dv 1))) (blkOk_by (own := [("k", 2)]) (by first | rfl | kernel_rfl)) fr_name (fun s H C cl fp => (g_name 2 sc.nd)) (fun s H C cl fp => ts_nil) (fun s H C cl fp => (d_lc rfl sc.nd (i_seq (d_fld T.cls_Grid T.no_Grid_rows (dv 1))) (blkOk_by (own := [("row", 3)]) (by first | rfl | kernel_rfl)) fr_name (fun s H C cl fp => (g_name 3 sc.nd)) (fun s H C cl fp => ts_nil) (fun s H C cl fp => (d_ix (dv 3) (dv 2)))))))
      (ss_one (s_ret (d_make T.mk_Grid FGridInit (hr.mono (by decide)) T.g_Grid T.b_GridInit .nil (fun _ => .nil) (a_cons (d_lc rfl sc.nd (i_seq (d_fld T.cls_Grid T.no_Grid_rows (dv 0))) (blkOk_by (own := [("row", 3)]) (by first | rfl | kernel_rfl)) fr_name (fun s H C cl fp => (g_name 3 sc.nd)) (fun s H C cl fp => ts_nil) (fun s H C cl fp => (d_lc rfl sc.nd (i_seq (dv 4)) (blkOk_by (own := [("column", 5)]) (by first | rfl | kernel_rfl)) fr_name (fun s H C cl fp => (g_name 5 sc.nd)) (fun s H C cl fp => ts_nil) (fun s H C cl fp => (d_call FDot (hr.mono (by decide)) T.g_Dot T.d_Dot.kp T.b_Dot (a_cons (dv 3) (a_cons (dv 5) a_nil))))))) (a_cons (d_fld T.cls_Grid T.no_Grid_width (dv 1)) a_nil))))))), fun ds μ R h => ?_⟩
  case len => obtain ⟨m, n, m', n', rfl, _⟩ := h; rfl
  obtain ⟨m, n, m', n', rfl, hl, hz, hn, hn', h1, h2, hm, hR⟩ := h
  refine ⟨rfl, _, lk_width, ?_⟩
  refine ⟨rfl, _, lk_rows, ?_⟩
  refine if_ne (fun c => absurd (by simp only [List.length_map]; omega) c) fun _ => ?_
  refine ⟨rfl, _, lk_width, RB_nat (lt62 hn'), ?_⟩
  refine lc_map (List.range n') (fun k : Nat => .int (k : Int)) (ri ∘ fun k => m'.map fun r => r.getD k 0) (rng0 n') (by rw [List.length_range]; exact hn') trivial (fun k hk Y hY => ?_) ?_
  · refine ⟨rfl, _, lk_rows, Sq.tup ?_⟩
    refine lc_map m' rt (fun r => .int (r.getD k 0)) rfl (by rw [hl]; exact hn) trivial (fun r hr Z hZ => pIx.tup (dAt_map 0 (by rw [h2 r hr]; exact List.mem_range.mp hk) hZ)) ?_
    have e : (m'.map fun r => D.int (r.getD k 0)) = (m'.map fun r => r.getD k 0).map D.int := by rw [List.map_map]; rfl
    rw [e]
    exact hY
  · rw [← List.map_map]
    refine ⟨rfl, _, lk_rows, Sq.tup ?_⟩
    refine lc_map m rt (fun r => ri ((turned m' n').map fun c => dotI r c)) rfl hz trivial (fun r hr Y hY => Sq.lst ?_) ?_
    · refine lc_map (turned m' n') ri (fun c => .int (dotI r c)) rfl (by unfold turned; rw [List.length_map, List.length_range]; exact hn') trivial (fun c hc Z hZ => ⟨_, _, r, c, rfl, .rt, .ri, by rw [h1 r hr]; exact hn, hm r hr c hc, hZ⟩) ?_
      unfold ri at hY
      rw [List.map_map] at hY
      exact hY
    · refine ⟨rfl, _, lk_width, ?_⟩
      have e : (m.map fun r => ri ((turned m' n').map fun c => dotI r c)) = (mulM m m' n').map ri := by unfold mulM; rw [List.map_map]; rfl
      rw [e]
      exact mk_grid (m := mulM m m' n') .ml (by unfold mulM; rw [List.length_map]; exact hz) (fun r hr => by
        obtain ⟨x, hx, rfl⟩ := List.mem_map.mp hr
        unfold turned
        rw [List.length_map, List.length_map, List.length_range]) (fzR.now hR)
structure Sq3 (m : Mx) (n : Nat) : Prop where
  sh : Sh m n n
  n3 : n ≤ 3
  bd : ∀ i j, i < n → j < n → (ent m i j).natAbs ≤ 2 ^ 14
def phiGridDeterminant (K : PySem.W.Frag) : TF := fun ds μ R => ∃ m n, ds = [gr K m n] ∧ Sq3 m n ∧ R (.int (detF n (ent m))) μ
theorem sc_GridDeterminant : FnScope ["self"] ["self"] (defScope sGridDeterminant) := ⟨rfl, rfl, rfl, by decide +kernel, rfl, by decide +kernel, by decide +kernel⟩
theorem okGridDeterminant (T : Tx K mg) : FnOk P w K mg base CX0 2 (He.ma K (He.ga K "Grid") "determinant") (fdOf K (He.ma K (He.ga K "Grid") "determinant")) ["self"] (spD K (phiGridDeterminant K)) := by
  have sc := sc_GridDeterminant
  have FGridIsSquare := okGridIsSquare (P := P) (w := w) (base := base) T
  have FDeterminant := okDeterminant (P := P) (w := w) (base := base) T
  refine fnd_ok T.d_GridDeterminant sc (fun ds μ R h => ?len) fun cdv A outer s H E hr => ⟨_, _, (ss_cons (s_if (t_not (t_val (d_meth0 (dv 0) T.cls_Grid T.m_GridIsSquare FGridIsSquare (hr.mono (by decide)) T.b_GridIsSquare))) (ss_one s_never) ss_nil)
      (ss_one (s_ret (d_call FDeterminant (hr.mono (by decide)) T.g_Determinant T.d_Determinant.kp T.b_Determinant (a_cons (d_fld T.cls_Grid T.no_Grid_rows (dv 0)) a_nil))))), fun ds μ R h => ?_⟩
  case len => obtain ⟨m, n, rfl, _⟩ := h; rfl
  obtain ⟨m, n, rfl, q, hR⟩ := h
  refine ⟨rfl, lk_none (by decide +kernel) (by decide +kernel), m, n, rfl, q.sh.len, ?_⟩
  exact ⟨rfl, _, lk_rows, _, m, n, rfl, .mt, q.sh, q.n3, q.bd, fzR.now hR⟩
def phiGridIsUnimodular (K : PySem.W.Frag) : TF := fun ds μ R => ∃ m n, ds = [gr K m n] ∧ Sq3 m n ∧ R (.bl (decide ((detF n (ent m)).natAbs = 1))) μ
theorem sc_GridIsUnimodular : FnScope ["self"] ["self"] (defScope sGridIsUnimodular) := ⟨rfl, rfl, rfl, by decide +kernel, rfl, by decide +kernel, by decide +kernel⟩
theorem okGridIsUnimodular (T : Tx K mg) : FnOk P w K mg base CX0 2 (He.ma K (He.ga K "Grid") "is_unimodular") (fdOf K (He.ma K (He.ga K "Grid") "is_unimodular")) ["self"] (spD K (phiGridIsUnimodular K)) := by
  have sc := sc_GridIsUnimodular
  have FGridIsSquare := okGridIsSquare (P := P) (w := w) (base := base) T
  have FDeterminant := okDeterminant (P := P) (w := w) (base := base) T
  refine fnd_ok T.d_GridIsUnimodular sc (fun ds μ R h => ?len) fun cdv A outer s H E hr => ⟨_, _, (ss_one (s_ret (d_and (d_meth0 (dv 0) T.cls_Grid T.m_GridIsSquare FGridIsSquare (hr.mono (by decide)) T.b_GridIsSquare) (d_one (d_cmp (o_eq (hu hr)) (d_callB (c_abs) T.n_abs (a_cons (d_call FDeterminant (hr.mono (by decide)) T.g_Determinant T.d_Determinant.kp T.b_Determinant (a_cons (d_fld T.cls_Grid T.no_Grid_rows (dv 0)) a_nil)) a_nil)) d_int))))), fun ds μ R h => ?_⟩
  case len => obtain ⟨m, n, rfl, _⟩ := h; rfl
  obtain ⟨m, n, rfl, q, hR⟩ := h
  refine ⟨rfl, lk_none (by decide +kernel) (by decide +kernel), m, n, rfl, q.sh.len, ?_⟩
  refine ⟨rfl, _, lk_rows, _, m, n, rfl, .mt, q.sh, q.n3, q.bd, ?_⟩
  have e : id (decide (((detF n (ent m)).natAbs : Int) = 1)) = decide ((detF n (ent m)).natAbs = 1) := by
    by_cases c : (detF n (ent m)).natAbs = 1
    · simp [c]
    · have : ¬ ((detF n (ent m)).natAbs : Int) = 1 := by omega
      simp [c, this]
  have hR2 := hR
  rw [← e] at hR2
  exact fzR.now hR2
def adjE (m : Mx) (n i k : Nat) : Int := if (i + k) % 2 = 1 then -(detF (n - 1) (ent (minorL m k i))) else detF (n - 1) (ent (minorL m k i))
def adjM (m : Mx) (n : Nat) : Mx := (List.range n).map fun i => (List.range n).map fun k => adjE m n i k
theorem minorL_eq (m : Mx) (i k : Nat) : minorL m i k = minorG m i k := by
  have z := zi m 0 i
  rw [Nat.zero_add] at z
  unfold minorL minorG
  rw [← z, List.map_map]
  rfl
theorem minorL_sh {m : Mx} {n i k : Nat} (s : Sh m n n) (hi : i < n) (hk : k < n) : Sh (minorL m i k) (n - 1) (n - 1) := by
  rw [minorL_eq]
  exact minorG_sh s hi hk
theorem minorL_bd {m : Mx} {n i k : Nat} {b : Nat} (s : Sh m n n) (h : ∀ a c, a < n → c < n → (ent m a c).natAbs ≤ b) (hi : i < n) (hk : k < n) : ∀ a c, a < n - 1 → c < n - 1 → (ent (minorL m i k) a c).natAbs ≤ b := by
  intro a c ha hc
  rw [minorL_eq, ent_minorG s hi hk ha]
  exact h _ _ (by split <;> omega) (by split <;> omega)
def phiGridAdjugate (K : PySem.W.Frag) : TF := fun ds μ R => ∃ m n, ds = [gr K m n] ∧ Sq3 m n ∧ R (gr K (adjM m n) n) μ
theorem sc_GridAdjugate : FnScope ["self", "out", "i", "line", "k", "minor"] ["self"] (defScope sGridAdjugate) := ⟨rfl, rfl, rfl, by decide +kernel, rfl, by decide +kernel, by decide +kernel⟩
theorem okGridAdjugate (T : Tx K mg) : FnOk P w K mg base CX0 5 (He.ma K (He.ga K "Grid") "adjugate") (fdOf K (He.ma K (He.ga K "Grid") "adjugate")) ["self"] (spD K (phiGridAdjugate K)) := by
  have sc := sc_GridAdjugate
  have FGridInit := okGridInit (P := P) (w := w) (base := base) T
  have FGridIsSquare := okGridIsSquare (P := P) (w := w) (base := base) T
  have FDeterminant := okDeterminant (P := P) (w := w) (base := base) T
  have FMinor := okMinor (P := P) (w := w) (base := base) T
  refine fnd_ok T.d_GridAdjugate sc (fun ds μ R h => ?len) fun cdv A outer s H E hr => ⟨_, _, (ss_cons (s_if (t_not (t_val (d_meth0 (dv 0) T.cls_Grid T.m_GridIsSquare FGridIsSquare (hr.mono (by decide)) T.b_GridIsSquare))) (ss_one s_never) ss_nil)
      (ss_cons (s_set 1 sc.nd (d_lstM a_nil))
      (ss_cons (s_for PassesOwn.never rfl (i_range1 T.n_range (d_fld T.cls_Grid T.no_Grid_width (dv 0))) (g_name 2 sc.nd) (ss_cons (s_set 3 sc.nd (d_lstM a_nil))
      (ss_cons (s_for PassesOwn.never rfl (i_range1 T.n_range (d_fld T.cls_Grid T.no_Grid_width (dv 0))) (g_name 4 sc.nd) (ss_cons (s_set 5 sc.nd (d_call FDeterminant (hr.mono (by decide)) T.g_Determinant T.d_Determinant.kp T.b_Determinant (a_cons (d_call FMinor (hr.mono (by decide)) T.g_Minor T.d_Minor.kp T.b_Minor (a_cons (d_fld T.cls_Grid T.no_Grid_rows (dv 0)) (a_cons (dv 4) (a_cons (dv 2) a_nil)))) a_nil)))
      (ss_one (s_expr (d_app (dv 3) (d_ifexp (t_cmp (o_eq (hu hr)) (d_bin o_mod (d_bin o_add (dv 2) (dv 4)) d_int) d_int) (d_neg (dv 5)) (dv 5)))))))
      (ss_one (s_expr (d_app (dv 1) (d_fz (dv 3))))))))
      (ss_one (s_ret (d_make T.mk_Grid FGridInit (hr.mono (by decide)) T.g_Grid T.b_GridInit .nil (fun _ => .nil) (a_cons (d_fz (dv 1)) (a_cons (d_fld T.cls_Grid T.no_Grid_width (dv 0)) a_nil)))))))), fun ds μ R h => ?_⟩
  case len => obtain ⟨m, n, rfl, _⟩ := h; rfl
  obtain ⟨m, n, rfl, q, hR⟩ := h
  have n3 := q.n3
  refine ⟨rfl, lk_none (by decide +kernel) (by decide +kernel), m, n, rfl, q.sh.len, ?_⟩
  refine ⟨Nat.zero_le _, fun p hp => ?_⟩
  refine ⟨rfl, _, lk_width, RB_nat (by omega), ?_⟩
  refine for_rng 0 n rfl rfl (fun i ρ μ' => i ≤ n ∧ ∃ x2 x3 x4 x5, μ' = μ.put p (.lst (((List.range i).map fun i => (List.range n).map fun k => adjE m n i k).map ri)) ∧ ρ = [some (gr K m n), some (.adr p), x2, x3, x4, x5]) ⟨Nat.zero_le _, none, none, none, none, rfl, rfl⟩ ?_ ?_
  · rintro i ρ μ' _ hi ⟨_, x2, x3, x4, x5, rfl, rfl⟩
    refine ⟨Nat.zero_le _, fun p2 hp2 => ?_⟩
    obtain ⟨n21, hp2'⟩ := put_none hp2
    refine ⟨rfl, _, lk_width, RB_nat (by omega), ?_⟩
    generalize hrows : (((List.range i).map fun i => (List.range n).map fun k => adjE m n i k).map ri) = rows at hp2 ⊢
    refine for_rng 0 n rfl rfl (fun k ρ μ' => k ≤ n ∧ ∃ x4 x5, μ' = (μ.put p (.lst rows)).put p2 (.lst (((List.range k).map fun k => adjE m n i k).map D.int)) ∧ ρ = [some (gr K m n), some (.adr p), some (.int (i : Int)), some (.adr p2), x4, x5]) ⟨Nat.zero_le _, x4, x5, rfl, rfl⟩ ?_ ?_
    · rintro k ρ μ' _ hk ⟨_, x4, x5, rfl, rfl⟩
      refine ⟨rfl, _, lk_rows, ?_⟩
      refine ⟨m, k, i, rfl, by rw [q.sh.len, sLine]; omega, fun r hr => by rw [q.sh.row r hr]; omega, ?_⟩
      refine ⟨_, _, n - 1, rfl, .lt, minorL_sh q.sh hk hi, by omega, minorL_bd q.sh q.bd hk hi, ?_⟩
      refine onL_lst Sto.put_same ⟨by show (2 : Int) ≠ 0; decide, ?_⟩
      have fin : ∀ z : Int, z = adjE m n i k → onL (((μ.put p (.lst rows)).put p2 (.lst (((List.range k).map fun k => adjE m n i k).map D.int))) p2) (fun ds => ds.length < sizeLine ∧ (fun (_ : D) μ1 => k + 1 ≤ n ∧ ∃ x4 x5, μ1 = (μ.put p (.lst rows)).put p2 (.lst (((List.range (k + 1)).map fun k => adjE m n i k).map D.int)) ∧ [some (gr K m n), some (.adr p), some (.int (i : Int)), some (.adr p2), some (.int (k : Int)), some (.int (detF (n - 1) (ent (minorL m k i))))] = [some (gr K m n), some (.adr p), some (.int (i : Int)), some (.adr p2), x4, x5]) .non (((μ.put p (.lst rows)).put p2 (.lst (((List.range k).map fun k => adjE m n i k).map D.int))).put p2 (.lst (ds ++ [.int z])))) := by
        intro z hz
        subst hz
        refine onL_lst Sto.put_same ⟨by simp only [List.length_map, List.length_range]; rw [sLine]; omega, by omega, _, _, ?_, rfl⟩
        rw [Sto.put_put, List.range_succ, List.map_append, List.map_append]
        rfl
      have md : (((i : Int) + (k : Int)).fmod 2) = (((i + k) % 2 : Nat) : Int) := by
        rw [Int.fmod_eq_emod_of_nonneg _ (by decide)]
        omega
      refine if_eq (fun c => ?_) fun c => ?_
      · exact fin _ (by unfold adjE; rw [if_pos (by rw [md] at c; omega)])
      · exact fin _ (by unfold adjE; rw [if_neg (by rw [md] at c; omega)])
    · rintro ρ μ' ⟨_, x4, x5, rfl, rfl⟩
      rw [show max 0 n = n from by omega]
      refine onL_lst (ds := rows) (by rw [Sto.put_ne (Ne.symm n21), Sto.put_same]) ?_
      refine ⟨μ.put p (.lst rows), ri ((List.range n).map fun k => adjE m n i k), SubS.put_none hp2, .adr hp2 Sto.put_same (Fzs.refl _), onL_lst Sto.put_same ⟨?_, ?_⟩⟩
      · rw [← hrows]
        simp only [List.length_map, List.length_range]
        rw [sLine]
        omega
      · refine ⟨by omega, _, _, _, _, ?_, rfl⟩
        rw [Sto.put_put, List.range_succ, List.map_append, List.map_append, ← hrows]
        rfl
  · rintro ρ μ' ⟨_, x2, x3, x4, x5, rfl, rfl⟩
    rw [show max 0 n = n from by omega]
    refine ⟨μ, ml (adjM m n), SubS.put_none hp, .adr hp Sto.put_same (Fzs.refl _), ?_⟩
    refine ⟨rfl, _, lk_width, ?_⟩
    exact mk_grid (m := adjM m n) .ml (by unfold adjM; rw [List.length_map, List.length_range, sLine]; omega) (fun r hr => by
      unfold adjM at hr
      obtain ⟨x, hx, rfl⟩ := List.mem_map.mp hr
      rw [List.length_map, List.length_range]) (fzR.now hR)
end
end Gm
end
/-! X -/
section
set_option Elab.async false
set_option linter.all false
set_option maxRecDepth 100000
set_option maxHeartbeats 4000000
namespace Gm
open PySem PySem.Spec PyProof.Rows L2 DL Gp
section
variable {P : Program} {w : World} {K : PySem.W.Frag} {mg : Str → Option Value} {base : Heap}
theorem adjM_sh (m : Mx) (n : Nat) : Sh (adjM m n) n n := ⟨by unfold adjM; rw [List.length_map, List.length_range], fun r hr => by
  unfold adjM at hr
  obtain ⟨x, hx, rfl⟩ := List.mem_map.mp hr
  rw [List.length_map, List.length_range]⟩
def phiGridInverse (K : PySem.W.Frag) : TF := fun ds μ R => ∃ m n, ds = [gr K m n] ∧ Sq3 m n ∧ (detF n (ent m)).natAbs = 1 ∧ R (gr K (scaleM (detF n (ent m)) (adjM m n)) n) μ
theorem sc_GridInverse : FnScope ["self"] ["self"] (defScope sGridInverse) := ⟨rfl, rfl, rfl, by decide +kernel, rfl, by decide +kernel, by decide +kernel⟩
theorem okGridInverse (T : Tx K mg) : FnOk P w K mg base CX0 6 (He.ma K (He.ga K "Grid") "inverse") (fdOf K (He.ma K (He.ga K "Grid") "inverse")) ["self"] (spD K (phiGridInverse K)) := by
  have sc := sc_GridInverse
  have FGridAdjugate := okGridAdjugate (P := P) (w := w) (base := base) T
  have FGridIsUnimodular := okGridIsUnimodular (P := P) (w := w) (base := base) T
  have FGridScaled := okGridScaled (P := P) (w := w) (base := base) T
  have FDeterminant := okDeterminant (P := P) (w := w) (base := base) T
  refine fnd_ok T.d_GridInverse sc (fun ds μ R h => ?len) fun cdv A outer s H E hr => ⟨_, _, (ss_cons (s_if (t_not (t_val (d_meth0 (dv 0) T.cls_Grid T.m_GridIsUnimodular FGridIsUnimodular (hr.mono (by decide)) T.b_GridIsUnimodular))) (ss_one s_never) ss_nil)
      (ss_one (s_ret (d_meth (d_meth0 (dv 0) T.cls_Grid T.m_GridAdjugate FGridAdjugate (hr.mono (by decide)) T.b_GridAdjugate) T.cls_Grid T.m_GridScaled FGridScaled (hr.mono (by decide)) T.b_GridScaled (a_cons (d_call FDeterminant (hr.mono (by decide)) T.g_Determinant T.d_Determinant.kp T.b_Determinant (a_cons (d_fld T.cls_Grid T.no_Grid_rows (dv 0)) a_nil)) a_nil))))), fun ds μ R h => ?_⟩
  case len => obtain ⟨m, n, rfl, _⟩ := h; rfl
  obtain ⟨m, n, rfl, q, hd, hR⟩ := h
  have n3 := q.n3
  refine ⟨rfl, lk_none (by decide +kernel) (by decide +kernel), m, n, rfl, q, ?_⟩
  rw [decide_eq_true hd]
  refine ⟨rfl, lk_none (by decide +kernel) (by decide +kernel), m, n, rfl, q, ?_⟩
  refine ⟨rfl, lk_none (by decide +kernel) (by decide +kernel), ?_⟩
  refine ⟨rfl, _, lk_rows, _, m, n, rfl, .mt, q.sh, n3, q.bd, ?_⟩
  have sA := adjM_sh m n
  exact ⟨adjM m n, n, _, rfl, sA.sz n3, fun r hr => ⟨sA.row r hr, fun x _ => mulOk (by omega)⟩, by rw [sLine]; omega, fzR.now hR⟩
theorem unitM_sh (n : Nat) : Sh (unitM n) n n := ⟨by unfold unitM; rw [List.length_map, List.length_range], fun r hr => by
  unfold unitM at hr
  obtain ⟨x, hx, rfl⟩ := List.mem_map.mp hr
  rw [List.length_map, List.length_range]⟩
/-- fit for Smith's form -/
structure SmOk (m : Mx) (h n : Nat) : Prop where
  start : ∃ a, a < 2 ^ 70 ∧ SI h n (ent m) 0 a m
def phiGridSmith (K : PySem.W.Frag) : TF := fun ds μ R => ∃ m h n, ds = [gr K m n] ∧ SmOk m h n ∧ ∀ t u v, FS h n (ent m) t → R (.tup [gr K t n, u, v]) μ
theorem sc_GridSmith : FnScope ["self", "size", "table", "u", "v"] ["self"] (defScope sGridSmith) := ⟨rfl, rfl, rfl, by decide +kernel, rfl, by decide +kernel, by decide +kernel⟩
theorem okGridSmith (T : Tx K mg) : FnOk P w K mg base CX0 6 (He.ma K (He.ga K "Grid") "smith") (fdOf K (He.ma K (He.ga K "Grid") "smith")) ["self"] (spD K (phiGridSmith K)) := by
  have sc := sc_GridSmith
  have FGridInit := okGridInit (P := P) (w := w) (base := base) T
  have FGridTransposed := okGridTransposed (P := P) (w := w) (base := base) T
  have FUnitRows := okUnitRows (P := P) (w := w) (base := base) T
  have FSmithRows := okSmithRows (P := P) (w := w) (base := base) T
  refine fnd_ok T.d_GridSmith sc (fun ds μ R h => ?len) fun cdv A outer s H E hr => ⟨_, _, (ss_cons (s_set 1 sc.nd (d_callB (c_len) T.n_len (a_cons (d_fld T.cls_Grid T.no_Grid_rows (dv 0)) a_nil)))
      (ss_cons (s_asg (d_call FSmithRows (hr.mono (by decide)) T.g_SmithRows T.d_SmithRows.kp T.b_SmithRows (a_cons (d_fld T.cls_Grid T.no_Grid_rows (dv 0)) (a_cons (d_fld T.cls_Grid T.no_Grid_width (dv 0)) (a_cons (d_call FUnitRows (hr.mono (by decide)) T.g_UnitRows T.d_UnitRows.kp T.b_UnitRows (a_cons (dv 1) a_nil)) (a_cons (d_call FUnitRows (hr.mono (by decide)) T.g_UnitRows T.d_UnitRows.kp T.b_UnitRows (a_cons (d_fld T.cls_Grid T.no_Grid_width (dv 0)) a_nil)) a_nil))))) (g_tup (n := 3) rfl (gs_cons (g_name 2 sc.nd) (gs_cons (g_name 3 sc.nd) (gs_cons (g_name 4 sc.nd) gs_nil)))))
      (ss_one (s_ret (d_tup (a_cons (d_make T.mk_Grid FGridInit (hr.mono (by decide)) T.g_Grid T.b_GridInit .nil (fun _ => .nil) (a_cons (dv 2) (a_cons (d_fld T.cls_Grid T.no_Grid_width (dv 0)) a_nil))) (a_cons (d_make T.mk_Grid FGridInit (hr.mono (by decide)) T.g_Grid T.b_GridInit .nil (fun _ => .nil) (a_cons (dv 3) (a_cons (dv 1) a_nil))) (a_cons (d_meth0 (d_make T.mk_Grid FGridInit (hr.mono (by decide)) T.g_Grid T.b_GridInit .nil (fun _ => .nil) (a_cons (dv 4) (a_cons (d_fld T.cls_Grid T.no_Grid_width (dv 0)) a_nil))) T.cls_Grid T.m_GridTransposed FGridTransposed (hr.mono (by decide)) T.b_GridTransposed) a_nil)))))))), fun ds μ R h => ?_⟩
  case len => obtain ⟨m, h, n, rfl, _⟩ := h; rfl
  obtain ⟨m, h, n, rfl, ⟨a, ha, I⟩, hR⟩ := h
  have sh := I.sh
  have hw := I.hw
  have w3 := I.w3
  refine ⟨rfl, _, lk_rows, ?_⟩
  have el : (((m.map rt).length : Nat) : Int) = ((h : Nat) : Int) := by rw [List.length_map, sh.len]
  have key : phiUnitRows [.int (((m.map rt).length : Nat) : Int)] μ = phiUnitRows [.int (h : Int)] μ := by rw [el]
  refine ⟨rfl, _, lk_rows, ?_⟩
  refine ⟨rfl, _, lk_width, ?_⟩
  rw [List.length_map, sh.len]
  refine ⟨h, rfl, by rw [sLine]; omega, ?_⟩
  refine ⟨rfl, _, lk_width, n, rfl, by rw [sLine]; omega, ?_⟩
  refine ⟨m, unitM h, unitM n, h, n, rfl, unitM_sh h, unitM_sh n, ⟨a, ha, I⟩, fun t u v fs su sv => ?_⟩
  refine ⟨rfl, ?_⟩
  refine ⟨rfl, _, lk_width, ?_⟩
  refine mk_grid (m := t) .ml (fs.sh.sz (by omega)) fs.sh.row ?_
  refine mk_grid (m := u) .ml (su.sz (by omega)) su.row ?_
  refine ⟨rfl, _, lk_width, ?_⟩
  refine mk_grid (m := v) .ml (sv.sz (by omega)) sv.row ?_
  refine ⟨rfl, lk_none (by decide +kernel) (by decide +kernel), v, n, rfl, sv.sz (by omega), sv.row, by rw [sLine]; omega, ?_⟩
  exact ⟨by show 3 ≤ sizeLine; rw [sLine]; omega, fzR.now (hR t _ _ fs)⟩
def diagL (t : Mx) (n : Nat) : List Int := (List.range n).map fun k => ent t k k
def phiGridFactors (K : PySem.W.Frag) : TF := fun ds μ R => ∃ m h n, ds = [gr K m n] ∧ SmOk m h n ∧ ∀ t, FS h n (ent m) t → R (rt (diagL t h)) μ
theorem sc_GridFactors : FnScope ["self", "d", "k"] ["self"] (defScope sGridFactors) := ⟨rfl, rfl, rfl, by decide +kernel, rfl, by decide +kernel, by decide +kernel⟩
theorem okGridFactors (T : Tx K mg) : FnOk P w K mg base CX0 7 (He.ma K (He.ga K "Grid") "factors") (fdOf K (He.ma K (He.ga K "Grid") "factors")) ["self"] (spD K (phiGridFactors K)) := by
  have sc := sc_GridFactors
  have FGridSmith := okGridSmith (P := P) (w := w) (base := base) T
  refine fnd_ok T.d_GridFactors sc (fun ds μ R h => ?len) fun cdv A outer s H E hr => ⟨_, _, (ss_cons (s_set 1 sc.nd (d_fld T.cls_Grid T.no_Grid_rows (d_ix (d_meth0 (dv 0) T.cls_Grid T.m_GridSmith FGridSmith (hr.mono (by decide)) T.b_GridSmith) d_int)))
      (ss_one (s_ret (d_callTy (c_tuple) T.n_tuple (a_cons (d_lc rfl sc.nd (i_range1 T.n_range (d_callB (c_min2 rfl) T.n_min (a_cons (d_callB (c_len) T.n_len (a_cons (d_fld T.cls_Grid T.no_Grid_rows (dv 0)) a_nil)) (a_cons (d_fld T.cls_Grid T.no_Grid_width (dv 0)) a_nil)))) (blkOk_by (own := [("k", 2)]) (by first | rfl | kernel_rfl)) fr_name (fun s H C cl fp => (g_name 2 sc.nd)) (fun s H C cl fp => ts_nil) (fun s H C cl fp => (d_ix (d_ix (dv 1) (dv 2)) (dv 2)))) a_nil))))), fun ds μ R h => ?_⟩
  case len => obtain ⟨m, h, n, rfl, _⟩ := h; rfl
  obtain ⟨m, h, n, rfl, so, hR⟩ := h
  obtain ⟨a, ha, I⟩ := id so
  have sh := I.sh
  have hw := I.hw
  have w3 := I.w3
  refine ⟨rfl, lk_none (by decide +kernel) (by decide +kernel), m, h, n, rfl, so, fun t u v fs => ?_⟩
  refine pIx.tup ⟨gr K t n, rfl, ?_⟩
  refine ⟨rfl, _, lk_rows, ?_⟩
  refine ⟨rfl, _, lk_rows, ?_⟩
  refine ⟨rfl, _, lk_width, ?_⟩
  have e : min (((m.map rt).length : Nat) : Int) (n : Int) = (h : Int) := by rw [List.length_map, sh.len]; omega
  have s2 := fs.sh
  refine ⟨by rw [e]; exact RB_nat (by omega), ?_⟩
  refine lc_map (List.range h) (fun k : Nat => .int (k : Int)) (fun k => .int (ent t k k)) (by rw [e]; exact rng0 h) (by rw [List.length_range, sLine]; omega) trivial (fun k hk Y hY => ?_) ?_
  · have hk' := List.mem_range.mp hk
    have lk : k < t.length := by rw [s2.len]; exact hk'
    refine pIx.tup (dAt_map [] lk ?_)
    exact pIx.tup (dAt_map 0 (by rw [s2.get hk']; omega) hY)
  · have e2 : ((List.range h).map fun k => D.int (ent t k k)) = (diagL t h).map D.int := by unfold diagL; rw [List.map_map]; rfl
    rw [e2]
    exact fzR.now (hR t fs)
theorem comp_diag {h n : Nat} {f0 : Fn} {t : Mx} (F : FS h n f0 t) (hn : h ≤ n) (n3 : n ≤ 3) : Comp h n f0 ↔ ∀ k, k < h → ent t k k = 1 := fs_diag F hn n3
def phiGridIsPrimitive (K : PySem.W.Frag) : TF := fun ds μ R => ∃ m h n, ds = [gr K m n] ∧ SmOk m h n ∧ ∀ b : Bool, (b = true ↔ Comp h n (ent m)) → R (.bl b) μ
theorem sc_GridIsPrimitive : FnScope ["self", "d"] ["self"] (defScope sGridIsPrimitive) := ⟨rfl, rfl, rfl, by decide +kernel, rfl, by decide +kernel, by decide +kernel⟩
theorem okGridIsPrimitive (T : Tx K mg) : FnOk P w K mg base CX0 8 (He.ma K (He.ga K "Grid") "is_primitive") (fdOf K (He.ma K (He.ga K "Grid") "is_primitive")) ["self"] (spD K (phiGridIsPrimitive K)) := by
  have sc := sc_GridIsPrimitive
  have FGridFactors := okGridFactors (P := P) (w := w) (base := base) T
  refine fnd_ok T.d_GridIsPrimitive sc (fun ds μ R h => ?len) fun cdv A outer s H E hr => ⟨_, _, (ss_cons (s_if (t_cmp o_gtI (d_callB (c_len) T.n_len (a_cons (d_fld T.cls_Grid T.no_Grid_rows (dv 0)) a_nil)) (d_fld T.cls_Grid T.no_Grid_width (dv 0))) (ss_one (s_ret d_bl)) ss_nil)
      (ss_one (s_ret (d_cmp (o_eq (hu hr)) (d_callB (c_len) T.n_len (a_cons (d_lc rfl sc.nd (i_seq (d_meth0 (dv 0) T.cls_Grid T.m_GridFactors FGridFactors (hr.mono (by decide)) T.b_GridFactors)) (blkOk_by (own := [("d", 1)]) (by first | rfl | kernel_rfl)) fr_name (fun s H C cl fp => (g_name 1 sc.nd)) (fun s H C cl fp => (ts_one (t_cmp (o_ne (hu hr)) (dv 1) d_int))) (fun s H C cl fp => (dv 1))) a_nil)) d_int)))), fun ds μ R h => ?_⟩
  case len => obtain ⟨m, h, n, rfl, _⟩ := h; rfl
  obtain ⟨m, h, n, rfl, so, hR⟩ := h
  obtain ⟨a, ha, I⟩ := id so
  have sh := I.sh
  have hw := I.hw
  have w3 := I.w3
  refine ⟨rfl, _, lk_rows, ?_⟩
  refine ⟨rfl, _, lk_width, ?_⟩
  refine if_dec (fun c => absurd c (by simp only [List.length_map]; rw [sh.len]; omega)) fun _ => ?_
  refine ⟨rfl, lk_none (by decide +kernel) (by decide +kernel), m, h, n, rfl, so, fun t fs => ?_⟩
  refine Sq.tup ?_
  refine lc_fil (diagL t h) D.int D.int (fun d => decide (d ≠ 1)) rfl (by unfold diagL; rw [List.length_map, List.length_range, sLine]; omega) trivial (fun d hd Y N hy hn => if_ne (fun c => hy (by simpa using c)) fun c => hn (by simpa using c)) ?_
  refine fzR.now (hR _ ?_)
  rw [comp_diag fs hw w3]
  have e : ∀ l : List Int, id (decide ((((l.map D.int).length : Nat) : Int) = 0)) = true ↔ l = [] := fun l => by
    cases l with
    | nil => simp
    | cons a r => simp; omega
  rw [e, List.filter_eq_nil_iff]
  constructor
  · intro hz k hk
    have := hz (ent t k k) (List.mem_map.mpr ⟨k, List.mem_range.mpr hk, rfl⟩)
    simpa using this
  · intro hz d hd
    obtain ⟨k, hk, rfl⟩ := List.mem_map.mp hd
    simpa using hz k (List.mem_range.mp hk)
end
end Gm
end
/-! Y -/
section
set_option Elab.async false
set_option linter.all false
set_option maxRecDepth 100000
set_option maxHeartbeats 4000000
namespace Gm
open PySem PySem.Spec PyProof.Rows L2 DL Gp
abbrev lat (K : PySem.W.Frag) (m : Mx) (n : Nat) : D := .ins (He.ga K "Lattice") [("gram", gr K m n)]
theorem lk_gram {d : D} : ([(("gram" : Str), d)] : List (Str × D)).lookup ("gram" : Str) = some d := by
  rw [List.lookup_cons, beq_self_eq_true]
theorem lk_gnone {d : D} {x : Str} (h1 : (x == ("gram" : Str)) = false) : ([(("gram" : Str), d)] : List (Str × D)).lookup x = none := by
  rw [List.lookup_cons, h1]
  rfl
theorem isM_len {d : D} {m : Mx} {μ : Sto} {k : List D → Prop} (h : IsM d m) (hk : ∀ ds : List D, ds.length = m.length → k ds) : onSeq d μ k := h.seq fun e _ => hk _ (List.length_map _)
section
variable {P : Program} {w : World} {K : PySem.W.Frag} {mg : Str → Option Value} {base : Heap}
def phiSquareRows : TF := fun ds μ R => ∃ m n, ds = [ml m] ∧ Sh m n n ∧ 1 ≤ n ∧ n ≤ 4 ∧ R (ml m) μ
theorem sc_SquareRows : FnScope ["gram", "rows", "row", "item"] ["gram"] (defScope sSquareRows) := ⟨rfl, rfl, rfl, by decide +kernel, rfl, by decide +kernel, by decide +kernel⟩
theorem okSquareRows (T : Tx K mg) : FnOk P w K mg base CX0 2 (He.ga K "square_rows") (fdOf K (He.ga K "square_rows")) ["gram"] (spD K phiSquareRows) := by
  have sc := sc_SquareRows
  have FIsInteger := okIsInteger (P := P) (w := w) (base := base) T
  refine fnd_ok T.d_SquareRows sc (fun ds μ R h => ?len) fun cdv A outer s H E hr => ⟨_, _, (ss_cons (s_if (t_val (d_isO T.iso_Grid T.n_isinstance T.g_Grid (dv 0))) (ss_one (s_set 1 sc.nd (d_fld T.cls_Grid T.no_Grid_rows (dv 0)))) (ss_one (s_set 1 sc.nd (dv 0))))
      (ss_cons (s_if (t_w (tw_or (t_not (t_val (d_isLT T.n_isinstance T.n_list T.n_tuple (dv 1)))) (tw_or1 (t_cmp o_ltI (d_callB (c_len) T.n_len (a_cons (dv 1) a_nil)) d_int)))) (ss_one s_never) ss_nil)
      (ss_cons (s_if (t_cmp o_gtI (d_callB (c_len) T.n_len (a_cons (dv 1) a_nil)) (d_gint rfl T.c_MOST_RANK.choose_spec ⟨_, rfl⟩)) (ss_one s_never) ss_nil)
      (ss_cons (s_for PassesOwn.never rfl (i_seq (dv 1)) (g_name 2 sc.nd) (ss_cons (s_if (t_w (tw_or (t_not (t_val (d_isLT T.n_isinstance T.n_list T.n_tuple (dv 2)))) (tw_or1 (t_cmp (o_ne (hu hr)) (d_callB (c_len) T.n_len (a_cons (dv 2) a_nil)) (d_callB (c_len) T.n_len (a_cons (dv 1) a_nil)))))) (ss_one s_never) ss_nil)
      (ss_one (s_for PassesOwn.never rfl (i_seq (dv 2)) (g_name 3 sc.nd) (ss_one (s_if (t_not (t_val (d_call FIsInteger (hr.mono (by decide)) T.g_IsInteger T.d_IsInteger.kp T.b_IsInteger (a_cons (dv 3) a_nil)))) (ss_one s_never) ss_nil))))))
      (ss_one (s_ret (dv 1))))))), fun ds μ R h => ?_⟩
  case len => obtain ⟨m, n, rfl, _⟩ := h; rfl
  obtain ⟨m, n, rfl, sh, n1, n4, hR⟩ := h
  refine ⟨false, rfl, ?_⟩
  refine ⟨.inl rfl, ?_⟩
  have el : (((m.map ri).length : Nat) : Int) = (n : Int) := by rw [List.length_map, sh.len]
  refine if_dec (fun c => absurd c (by rw [el]; omega)) fun _ => ?_
  refine if_dec (fun c => absurd c (by rw [el]; omega)) fun _ => ?_
  refine Sq.lst ?_
  refine for_seq m ri rfl (fun i ρ μ' => μ' = μ ∧ ∃ a b, ρ = [some (ml m), some (ml m), a, b]) ⟨rfl, _, _, rfl⟩ (fun _ _ _ _ => trivial) ?_ ?_
  · rintro i r ρ μ' hr ⟨rfl, a, b, rfl⟩
    refine ⟨.inl rfl, ?_⟩
    refine if_ne (fun c => absurd (by rw [el, List.length_map, sh.row r (List.mem_of_getElem? hr)]) c) fun _ => ?_
    refine Sq.lst ?_
    refine for_seq r D.int rfl (fun j ρ μ2 => μ2 = μ' ∧ ∃ b, ρ = [some (ml m), some (ml m), some (ri r), b]) ⟨rfl, _, rfl⟩ (fun _ _ _ _ => trivial) ?_ ?_
    · rintro j x ρ μ2 hx ⟨rfl, b, rfl⟩
      exact ⟨x, rfl, rfl, _, rfl⟩
    · rintro ρ μ2 ⟨rfl, b, rfl⟩
      exact ⟨rfl, _, _, rfl⟩
  · rintro ρ μ' ⟨rfl, a, b, rfl⟩
    exact fzR.now hR
def phiCheckSymmetric : TF := fun ds μ R => ∃ m n, ds = [ml m] ∧ Sh m n n ∧ n ≤ 4 ∧ (∀ i j, i < n → j < n → ent m i j = ent m j i) ∧ R .non μ
theorem sc_CheckSymmetric : FnScope ["rows", "i", "j"] ["rows"] (defScope sCheckSymmetric) := ⟨rfl, rfl, rfl, by decide +kernel, rfl, by decide +kernel, by decide +kernel⟩
theorem okCheckSymmetric (T : Tx K mg) : FnOk P w K mg base CX0 1 (He.ga K "check_symmetric") (fdOf K (He.ga K "check_symmetric")) ["rows"] (spD K phiCheckSymmetric) := by
  have sc := sc_CheckSymmetric
  refine fnd_ok T.d_CheckSymmetric sc (fun ds μ R h => ?len) fun cdv A outer s H E hr => ⟨_, _, (ss_one (s_for PassesOwn.never rfl (i_range1 T.n_range (d_callB (c_len) T.n_len (a_cons (dv 0) a_nil))) (g_name 1 sc.nd) (ss_one (s_for PassesOwn.never rfl (i_range1 T.n_range (dv 1)) (g_name 2 sc.nd) (ss_one (s_if (t_cmp (o_ne (hu hr)) (d_ix (d_ix (dv 0) (dv 1)) (dv 2)) (d_ix (d_ix (dv 0) (dv 2)) (dv 1))) (ss_one s_never) ss_nil)))))), fun ds μ R h => ?_⟩
  case len => obtain ⟨m, n, rfl, _⟩ := h; rfl
  obtain ⟨m, n, rfl, sh, n4, sy, hR⟩ := h
  have el : (((m.map ri).length : Nat) : Int) = (n : Int) := by rw [List.length_map, sh.len]
  refine ⟨by rw [el]; exact RB_nat (by omega), ?_⟩
  refine for_rng 0 n rfl (by rw [el]; rfl) (fun i ρ μ' => μ' = μ ∧ ∃ a b, ρ = [some (ml m), a, b]) ⟨rfl, _, _, rfl⟩ ?_ ?_
  · rintro i ρ μ' _ hi ⟨rfl, a, b, rfl⟩
    refine ⟨RB_nat (by omega), ?_⟩
    refine for_rng 0 i rfl rfl (fun j ρ μ2 => μ2 = μ' ∧ ∃ b, ρ = [some (ml m), some (.int (i : Int)), b]) ⟨rfl, _, rfl⟩ ?_ ?_
    · rintro j ρ μ2 _ hj ⟨rfl, b, rfl⟩
      have L : Lm (ml m) μ2 m := .inl rfl
      refine L.cell (by rw [sh.len]; exact hi) (by rw [sh.get hi]; omega) ?_
      refine L.cell (by rw [sh.len]; omega) (by rw [sh.get (by omega)]; exact hi) ?_
      exact if_ne (fun c => absurd (sy i j hi (by omega)) c) fun _ => ⟨rfl, _, rfl⟩
    · rintro ρ μ2 ⟨rfl, b, rfl⟩
      exact ⟨rfl, _, _, rfl⟩
  · rintro ρ μ' ⟨rfl, a, b, rfl⟩
    exact fzR.now hR
/-- fit for a Lattice -/
structure LatOk (m : Mx) (n : Nat) : Prop where
  sh : Sh m n n
  n1 : 1 ≤ n
  n3 : n ≤ 3
  sy : ∀ i j, i < n → j < n → ent m i j = ent m j i
  bd : ∀ i j, i < n → j < n → (ent m i j).natAbs ≤ 10000
  ld : ∀ k, 1 ≤ k → k ≤ n → 1 ≤ detF k (ent m)
def leadM (m : Mx) (k : Nat) : Mx := (m.take k).map fun r => r.take k
theorem leadM_ent {m : Mx} {k i j : Nat} (hi : i < k) (hj : j < k) : ent (leadM m k) i j = ent m i j := by
  unfold ent leadM
  simp only [List.getD_eq_getElem?_getD, List.getElem?_map, List.getElem?_take, if_pos hi]
  cases m[i]? with
  | none => rfl
  | some r => simp [List.getElem?_take, hj]
theorem detF_congr {n : Nat} {f g : Fn} (h : ∀ i j, i < n → j < n → f i j = g i j) (hn : n ≤ 3) : detF n f = detF n g := by
  have : n = 0 ∨ n = 1 ∨ n = 2 ∨ n = 3 := by omega
  rcases this with rfl | rfl | rfl | rfl
  · rfl
  · exact h 0 0 (by omega) (by omega)
  · simp only [detF]
    rw [h 0 0 (by omega) (by omega), h 0 1 (by omega) (by omega), h 1 0 (by omega) (by omega), h 1 1 (by omega) (by omega)]
  · simp only [detF]
    rw [h 0 0 (by omega) (by omega), h 0 1 (by omega) (by omega), h 0 2 (by omega) (by omega), h 1 0 (by omega) (by omega), h 1 1 (by omega) (by omega), h 1 2 (by omega) (by omega), h 2 0 (by omega) (by omega), h 2 1 (by omega) (by omega), h 2 2 (by omega) (by omega)]
theorem leadM_sh {m : Mx} {n k : Nat} (s : Sh m n n) (hk : k ≤ n) : Sh (leadM m k) k k := ⟨by unfold leadM; rw [List.length_map, List.length_take, s.len]; omega, fun r hr => by
  unfold leadM at hr
  obtain ⟨x, hx, rfl⟩ := List.mem_map.mp hr
  rw [List.length_take, s.row x (List.mem_of_mem_take hx)]
  omega⟩
theorem ent_mem {m : Mx} {n w : Nat} (s : Sh m n w) {r : List Int} {x : Int} (hr : r ∈ m) (hx : x ∈ r) : ∃ i j, i < n ∧ j < w ∧ ent m i j = x := by
  obtain ⟨i, hi, e1⟩ := List.mem_iff_getElem.mp hr
  obtain ⟨j, hj, e2⟩ := List.mem_iff_getElem.mp hx
  refine ⟨i, j, by rw [← s.len]; exact hi, by rw [← s.row r hr]; exact hj, ?_⟩
  unfold ent
  subst e1 e2
  simp [List.getD_eq_getElem?_getD, hi, hj]
def phiLatticeInit (K : PySem.W.Frag) : TF := fun ds μ R => ∃ q m n, ds = [.adr q, ml m] ∧ μ q = some (.ins (He.ga K "Lattice") []) ∧ LatOk m n ∧ R .non (μ.put q (.ins (He.ga K "Lattice") [("gram", gr K m n)]))
theorem sc_LatticeInit : FnScope ["self", "gram", "rows", "row", "item", "k"] ["self", "gram"] (defScope sLatticeInit) := ⟨rfl, rfl, rfl, by decide +kernel, rfl, by decide +kernel, by decide +kernel⟩
theorem okLatticeInit (T : Tx K mg) : FnOk P w K mg base CX0 5 (He.ma K (He.ga K "Lattice") "__init__") (fdOf K (He.ma K (He.ga K "Lattice") "__init__")) ["self", "gram"] (spD K (phiLatticeInit K)) := by
  have sc := sc_LatticeInit
  have FGridInit := okGridInit (P := P) (w := w) (base := base) T
  have FGridDeterminant := okGridDeterminant (P := P) (w := w) (base := base) T
  have FCheckSymmetric := okCheckSymmetric (P := P) (w := w) (base := base) T
  have FSquareRows := okSquareRows (P := P) (w := w) (base := base) T
  refine fnd_ok T.d_LatticeInit sc (fun ds μ R h => ?len) fun cdv A outer s H E hr => ⟨_, _, (ss_cons (s_set 2 sc.nd (d_call FSquareRows (hr.mono (by decide)) T.g_SquareRows T.d_SquareRows.kp T.b_SquareRows (a_cons (dv 1) a_nil)))
      (ss_cons (s_expr (d_call FCheckSymmetric (hr.mono (by decide)) T.g_CheckSymmetric T.d_CheckSymmetric.kp T.b_CheckSymmetric (a_cons (dv 2) a_nil)))
      (ss_cons (s_for PassesOwn.never rfl (i_seq (dv 2)) (g_name 3 sc.nd) (ss_one (s_for PassesOwn.never rfl (i_seq (dv 3)) (g_name 4 sc.nd) (ss_one (s_if (t_cmp o_gtI (d_callB (c_abs) T.n_abs (a_cons (dv 4) a_nil)) (d_gint rfl T.c_MOST_ITEM.choose_spec ⟨_, rfl⟩)) (ss_one s_never) ss_nil)))))
      (ss_cons (s_for PassesOwn.never rfl (i_range2 T.n_range d_int (d_bin o_add (d_callB (c_len) T.n_len (a_cons (dv 2) a_nil)) d_int)) (g_name 5 sc.nd) (ss_one (s_if (t_cmp o_ltI (d_meth0 (d_make T.mk_Grid FGridInit (hr.mono (by decide)) T.g_Grid T.b_GridInit .nil (fun _ => .nil) (a_cons (d_lc rfl sc.nd (i_seq (d_slice (dv 2) o_none (o_some (dv 5)))) (blkOk_by (own := [("row", 3)]) (by first | rfl | kernel_rfl)) fr_name (fun s H C cl fp => (g_name 3 sc.nd)) (fun s H C cl fp => ts_nil) (fun s H C cl fp => (d_slice (dv 3) o_none (o_some (dv 5))))) (a_cons (dv 5) a_nil))) T.cls_Grid T.m_GridDeterminant FGridDeterminant (hr.mono (by decide)) T.b_GridDeterminant) d_int) (ss_one s_never) ss_nil)))
      (ss_one (s_fld T.cls_Lattice T.no_Lattice_gram (dv 0) (d_make T.mk_Grid FGridInit (hr.mono (by decide)) T.g_Grid T.b2_GridInit.choose_spec.2 T.b2_GridInit.choose_spec.1 atsNon (a_cons (dv 2) a_nil)))))))), fun ds μ R h => ?_⟩
  case len => obtain ⟨q, m, n, rfl, _⟩ := h; rfl
  obtain ⟨q, m, n, rfl, hq, L, hR⟩ := h
  have sh := L.sh
  have n3 := L.n3
  have n1 := L.n1
  have el : (((m.map ri).length : Nat) : Int) = (n : Int) := by rw [List.length_map, sh.len]
  refine ⟨m, n, rfl, sh, n1, by omega, ?_⟩
  refine ⟨m, n, rfl, sh, by omega, L.sy, ?_⟩
  refine Sq.lst ?_
  refine for_seq m ri rfl (fun i ρ μ' => μ' = μ ∧ ∃ a b c, ρ = [some (.adr q), some (ml m), some (ml m), a, b, c]) ⟨rfl, _, _, _, rfl⟩ (fun _ _ _ _ => trivial) ?_ ?_
  · rintro i r ρ μ' hr ⟨rfl, a, b, c, rfl⟩
    refine Sq.lst ?_
    refine for_seq r D.int rfl (fun j ρ μ2 => μ2 = μ' ∧ ∃ b c, ρ = [some (.adr q), some (ml m), some (ml m), some (ri r), b, c]) ⟨rfl, _, _, rfl⟩ (fun _ _ _ _ => trivial) ?_ ?_
    · rintro j x ρ μ2 hx ⟨rfl, b, c, rfl⟩
      obtain ⟨i2, j2, h1, h2, e⟩ := ent_mem sh (List.mem_of_getElem? hr) (List.mem_of_getElem? hx)
      have := L.bd i2 j2 h1 h2
      rw [e] at this
      exact if_dec (fun c => absurd c (by omega)) fun _ => ⟨rfl, _, _, rfl⟩
    · rintro ρ μ2 ⟨rfl, b, c, rfl⟩
      exact ⟨rfl, _, _, _, rfl⟩
  · rintro ρ μ' ⟨rfl, a, b, c, rfl⟩
    refine ⟨RB_nat (n := 1) (by decide), by rw [el]; exact RB_nat (n := n + 1) (by omega), ?_⟩
    refine for_rng 1 (n + 1) rfl (by rw [el]; omega) (fun i ρ μ2 => μ2 = μ' ∧ 1 ≤ i ∧ ∃ a b c, ρ = [some (.adr q), some (ml m), some (ml m), a, b, c]) ⟨rfl, Nat.le_refl _, _, _, _, rfl⟩ ?_ ?_
    · rintro k ρ μ2 k1 k2 ⟨rfl, _, a, b, c, rfl⟩
      have sl := leadM_sh sh (show k ≤ n by omega)
      have hcut : cut (m.map ri) none (some (k : Int)) = (m.take k).map ri := by rw [cut_take, List.map_take]
      refine Sq.lst ?_
      refine lc_map (m.take k) ri (fun r => ri (r.take k)) hcut (by rw [List.length_take, sLine]; omega) trivial (fun r hr Y hY => ?_) ?_
      · show Y (.lst (cut (r.map D.int) none (some (k : Int)))) μ2
        rw [cut_take, ← List.map_take]
        exact hY
      · have e : ((m.take k).map fun r => ri (r.take k)) = (leadM m k).map ri := by unfold leadM; rw [List.map_map]; rfl
        rw [e]
        refine mk_grid (m := leadM m k) .ml (sl.sz (by omega)) sl.row ?_
        refine ⟨rfl, lk_none (by decide +kernel) (by decide +kernel), leadM m k, k, rfl, ⟨sl, by omega, fun i j hi hj => ?_⟩, ?_⟩
        · rw [leadM_ent hi hj]
          have := L.bd i j (by omega) (by omega)
          omega
        · rw [detF_congr (g := ent m) (fun i j hi hj => leadM_ent hi hj) (by omega)]
          have := L.ld k k1 (by omega)
          exact if_dec (fun c => absurd c (by omega)) fun _ => ⟨rfl, by omega, _, _, _, rfl⟩
    · rintro ρ μ2 ⟨rfl, _, a, b, c, rfl⟩
      refine mk_grid1 (m := m) (n := n) .ml (sh.sz n3) sh.row (fun e => by have := sh.len; rw [e] at this; simp at this; omega) ?_
      refine ⟨[], hq, rfl, by show 0 < 1000; decide, ?_⟩
      exact fzR.now hR
theorem mk_lat {m : Mx} {n : Nat} {μ : Sto} {R : RD} (L : LatOk m n) (hR : R (lat K m n) μ) : dMk (He.ga K "Lattice") (phiLatticeInit K) [ml m] μ R := by
  unfold dMk
  exact fun q hq => ⟨q, m, n, rfl, Sto.put_same, L, rfl, _, Sto.put_same, by rw [Sto.put_put, Sto.del_put hq]; exact hR⟩
def phiLatticeEq (K : PySem.W.Frag) : TF := fun ds μ R => ∃ m n m' n', ds = [lat K m n, lat K m' n'] ∧ R (.bl (decide (m = m' ∧ n = n'))) μ
theorem sc_LatticeEq : FnScope ["self", "other"] ["self", "other"] (defScope sLatticeEq) := ⟨rfl, rfl, rfl, by decide +kernel, rfl, by decide +kernel, by decide +kernel⟩
theorem okLatticeEq (T : Tx K mg) : FnOk P w K mg base CX0 2 (He.ma K (He.ga K "Lattice") "__eq__") (fdOf K (He.ma K (He.ga K "Lattice") "__eq__")) ["self", "other"] (spD K (phiLatticeEq K)) := by
  have sc := sc_LatticeEq
  have FGridEq := okGridEq (P := P) (w := w) (base := base) T
  refine fnd_ok T.d_LatticeEq sc (fun ds μ R h => ?len) fun cdv A outer s H E hr => ⟨_, _, (ss_one (s_ret (d_and (d_isO T.iso_Lattice T.n_isinstance T.g_Lattice (dv 1)) (d_one (d_cmp (o_eqI FGridEq T.m_GridEq (hr.mono (by decide)) T.b_GridEq) (d_fld T.cls_Lattice T.no_Lattice_gram (dv 0)) (d_fld T.cls_Lattice T.no_Lattice_gram (dv 1))))))), fun ds μ R h => ?_⟩
  case len => obtain ⟨m, n, m', n', rfl, _⟩ := h; rfl
  obtain ⟨m, n, m', n', rfl, hR⟩ := h
  refine ⟨true, by unfold isO; simp, ?_⟩
  refine ⟨rfl, _, lk_gram, ?_⟩
  refine ⟨rfl, _, lk_gram, ?_⟩
  exact ⟨rfl, rfl, m, n, m', n', rfl, fzR.now hR⟩
def phiLatticeContains (K : PySem.W.Frag) : TF := fun ds μ R => ∃ m n v, ds = [lat K m n, rt v] ∧ v.length = m.length ∧ m.length ≤ sizeLine ∧ R (.bl true) μ
theorem sc_LatticeContains : FnScope ["self", "v", "item"] ["self", "v"] (defScope sLatticeContains) := ⟨rfl, rfl, rfl, by decide +kernel, rfl, by decide +kernel, by decide +kernel⟩
theorem okLatticeContains (T : Tx K mg) : FnOk P w K mg base CX0 2 (He.ma K (He.ga K "Lattice") "__contains__") (fdOf K (He.ma K (He.ga K "Lattice") "__contains__")) ["self", "v"] (spD K (phiLatticeContains K)) := by
  have sc := sc_LatticeContains
  have FIsInteger := okIsInteger (P := P) (w := w) (base := base) T
  refine fnd_ok T.d_LatticeContains sc (fun ds μ R h => ?len) fun cdv A outer s H E hr => ⟨_, _, (ss_cons (s_if (t_w (tw_or (t_not (t_val (d_isi (T := "tuple") T.n_isinstance T.n_tuple (dv 1)))) (tw_or1 (t_cmp (o_ne (hu hr)) (d_callB (c_len) T.n_len (a_cons (dv 1) a_nil)) (d_callB (c_len) T.n_len (a_cons (d_fld T.cls_Grid T.no_Grid_rows (d_fld T.cls_Lattice T.no_Lattice_gram (dv 0))) a_nil)))))) (ss_one (s_ret d_bl)) ss_nil)
      (ss_one (s_ret (d_callB (c_all rfl) T.n_all (a_cons (d_lc rfl sc.nd (i_seq (dv 1)) (blkOk_by (own := [("item", 2)]) (by first | rfl | kernel_rfl)) fr_name (fun s H C cl fp => (g_name 2 sc.nd)) (fun s H C cl fp => ts_nil) (fun s H C cl fp => (d_call FIsInteger (hr.mono (by decide)) T.g_IsInteger T.d_IsInteger.kp T.b_IsInteger (a_cons (dv 2) a_nil)))) a_nil))))), fun ds μ R h => ?_⟩
  case len => obtain ⟨m, n, v, rfl, _⟩ := h; rfl
  obtain ⟨m, n, v, rfl, hv, hz, hR⟩ := h
  refine ⟨"tuple", true, rfl, by decide +kernel, ?_⟩
  refine ⟨rfl, _, lk_gram, ?_⟩
  refine ⟨rfl, _, lk_rows, ?_⟩
  refine if_ne (fun c => absurd (by simp only [List.length_map]; omega) c) fun _ => ?_
  refine Sq.tup ?_
  refine lc_map v D.int (fun _ => .bl true) rfl (by omega) trivial (fun x hx Y hY => ⟨x, rfl, hY⟩) ?_
  refine ⟨v.map fun _ => true, ?_, ?_⟩
  · have e : (v.map fun _ => D.bl true) = (v.map fun _ => true).map D.bl := by rw [List.map_map]; rfl
    rw [e]
    exact bls?_map _
  · have e : ((v.map fun _ => true).all fun b => b) = true := by simp
    rw [e]
    exact fzR.now hR
def phiLatticeRank (K : PySem.W.Frag) : TF := fun ds μ R => ∃ m n, ds = [lat K m n] ∧ R (.int (m.length : Int)) μ
theorem sc_LatticeRank : FnScope ["self"] ["self"] (defScope sLatticeRank) := ⟨rfl, rfl, rfl, by decide +kernel, rfl, by decide +kernel, by decide +kernel⟩
theorem okLatticeRank (T : Tx K mg) : FnOk P w K mg base CX0 1 (He.ma K (He.ga K "Lattice") "rank") (fdOf K (He.ma K (He.ga K "Lattice") "rank")) ["self"] (spD K (phiLatticeRank K)) := by
  have sc := sc_LatticeRank
  refine fnd_ok T.d_LatticeRank sc (fun ds μ R h => ?len) fun cdv A outer s H E hr => ⟨_, _, (ss_one (s_ret (d_callB (c_len) T.n_len (a_cons (d_fld T.cls_Grid T.no_Grid_rows (d_fld T.cls_Lattice T.no_Lattice_gram (dv 0))) a_nil)))), fun ds μ R h => ?_⟩
  case len => obtain ⟨m, n, rfl, _⟩ := h; rfl
  obtain ⟨m, n, rfl, hR⟩ := h
  refine ⟨rfl, _, lk_gram, ?_⟩
  refine ⟨rfl, _, lk_rows, ?_⟩
  have hR2 := hR
  rw [← List.length_map (f := rt)] at hR2
  exact fzR.now hR2
def prodI (m : Mx) (v w : List Int) : Int := dotI v (timesV m w)
/-- small vectors and Gram matrices -/
structure VecOk (m : Mx) (n : Nat) (v : List Int) : Prop where
  len : v.length = n
  bd : ∀ x ∈ v, x.natAbs ≤ 2 ^ 20
def phiLatticeProduct (K : PySem.W.Frag) : TF := fun ds μ R => ∃ m n v w, ds = [lat K m n, rt v, rt w] ∧ LatOk m n ∧ VecOk m n v ∧ VecOk m n w ∧ R (.int (prodI m v w)) μ
theorem sc_LatticeProduct : FnScope ["self", "v", "w"] ["self", "v", "w"] (defScope sLatticeProduct) := ⟨rfl, rfl, rfl, by decide +kernel, rfl, by decide +kernel, by decide +kernel⟩
theorem okLatticeProduct (T : Tx K mg) : FnOk P w K mg base CX0 3 (He.ma K (He.ga K "Lattice") "product") (fdOf K (He.ma K (He.ga K "Lattice") "product")) ["self", "v", "w"] (spD K (phiLatticeProduct K)) := by
  have sc := sc_LatticeProduct
  have FGridTimes := okGridTimes (P := P) (w := w) (base := base) T
  have FLatticeContains := okLatticeContains (P := P) (w := w) (base := base) T
  have FDot := okDot (P := P) (w := w) (base := base) T
  refine fnd_ok T.d_LatticeProduct sc (fun ds μ R h => ?len) fun cdv A outer s H E hr => ⟨_, _, (ss_cons (s_if (t_w (tw_or (t_cmp (o_notInI FLatticeContains T.m_LatticeContains (hr.mono (by decide)) T.b_LatticeContains) (dv 1) (dv 0)) (tw_or1 (t_cmp (o_notInI FLatticeContains T.m_LatticeContains (hr.mono (by decide)) T.b_LatticeContains) (dv 2) (dv 0))))) (ss_one s_never) ss_nil)
      (ss_one (s_ret (d_call FDot (hr.mono (by decide)) T.g_Dot T.d_Dot.kp T.b_Dot (a_cons (dv 1) (a_cons (d_meth (d_fld T.cls_Lattice T.no_Lattice_gram (dv 0)) T.cls_Grid T.m_GridTimes FGridTimes (hr.mono (by decide)) T.b_GridTimes (a_cons (dv 2) a_nil)) a_nil)))))), fun ds μ R h => ?_⟩
  case len => obtain ⟨m, n, v, w, rfl, _⟩ := h; rfl
  obtain ⟨m, n, v, w, rfl, L, hv, hw, hR⟩ := h
  have sh := L.sh
  have n3 := L.n3
  refine ⟨rfl, m, n, v, rfl, by rw [hv.len, sh.len], sh.sz n3, ?_⟩
  refine ⟨rfl, m, n, w, rfl, by rw [hw.len, sh.len], sh.sz n3, ?_⟩
  refine ⟨rfl, _, lk_gram, ?_⟩
  refine ⟨rfl, lk_none (by decide +kernel) (by decide +kernel), m, n, _, w, rfl, .rt, hw.len, sh.sz n3, by rw [sLine]; omega, fun r hr => ⟨sh.row r hr, fun p hp => ?_⟩, ?_⟩
  · obtain ⟨i, j, hi, hj, e⟩ := ent_mem sh hr (List.of_mem_zip hp).1
    have := L.bd i j hi hj
    rw [e] at this
    exact mulOk (by omega)
  · refine ⟨_, _, v, timesV m w, rfl, .rt, .rt, by rw [hv.len, sLine]; omega, fun p hp => ?_, fzR.now hR⟩
    have := hv.bd p.1 (List.of_mem_zip hp).1
    exact mulOk (by omega)
def phiLatticeNorm (K : PySem.W.Frag) : TF := fun ds μ R => ∃ m n v, ds = [lat K m n, rt v] ∧ LatOk m n ∧ VecOk m n v ∧ R (.int (prodI m v v)) μ
theorem sc_LatticeNorm : FnScope ["self", "v"] ["self", "v"] (defScope sLatticeNorm) := ⟨rfl, rfl, rfl, by decide +kernel, rfl, by decide +kernel, by decide +kernel⟩
theorem okLatticeNorm (T : Tx K mg) : FnOk P w K mg base CX0 4 (He.ma K (He.ga K "Lattice") "norm") (fdOf K (He.ma K (He.ga K "Lattice") "norm")) ["self", "v"] (spD K (phiLatticeNorm K)) := by
  have sc := sc_LatticeNorm
  have FLatticeProduct := okLatticeProduct (P := P) (w := w) (base := base) T
  refine fnd_ok T.d_LatticeNorm sc (fun ds μ R h => ?len) fun cdv A outer s H E hr => ⟨_, _, (ss_one (s_ret (d_meth (dv 0) T.cls_Lattice T.m_LatticeProduct FLatticeProduct (hr.mono (by decide)) T.b_LatticeProduct (a_cons (dv 1) (a_cons (dv 1) a_nil))))), fun ds μ R h => ?_⟩
  case len => obtain ⟨m, n, v, rfl, _⟩ := h; rfl
  obtain ⟨m, n, v, rfl, L, hv, hR⟩ := h
  exact ⟨rfl, lk_gnone (by decide +kernel), m, n, v, v, rfl, L, hv, hv, fzR.now hR⟩
end
end Gm
end
/-! Z -/
section
set_option Elab.async false
set_option linter.all false
set_option maxRecDepth 100000
set_option maxHeartbeats 4000000
namespace Gm
open PySem PySem.Spec PyProof.Rows L2 DL Gp
theorem mulOkR {a b : Int} (h : b.natAbs ≤ 2 ^ 62) : IntMulOk a b := .of_right (intBits_le_64 (by omega) (by omega))
theorem ent_scale {m : Mx} {k : Int} {h w i j : Nat} (s : Sh m h w) (hi : i < h) (hj : j < w) : ent (scaleM k m) i j = k * ent m i j := by
  unfold ent scaleM timesI
  rw [getD_map _ _ _ [] _ (by rw [s.len]; exact hi), getD_map _ _ _ 0 _ (by rw [s.get hi]; exact hj)]
theorem ent_sub {m m' : Mx} {h w i j : Nat} (s : Sh m h w) (s' : Sh m' h w) (hi : i < h) (hj : j < w) : ent (subM m m') i j = ent m i j - ent m' i j := by
  have l1 : i < m.length := by rw [s.len]; exact hi
  have l2 : i < m'.length := by rw [s'.len]; exact hi
  have r1 : m[i].length = w := s.row _ (List.getElem_mem l1)
  have r2 : m'[i].length = w := s'.row _ (List.getElem_mem l2)
  have j1 : j < m[i].length := by omega
  have j2 : j < m'[i].length := by omega
  have z : (m.zip m')[i]? = some (m[i], m'[i]) := List.getElem?_zip_eq_some.mpr ⟨List.getElem?_eq_getElem l1, List.getElem?_eq_getElem l2⟩
  have z2 : (m[i].zip m'[i])[j]? = some (m[i][j], m'[i][j]) := List.getElem?_zip_eq_some.mpr ⟨List.getElem?_eq_getElem j1, List.getElem?_eq_getElem j2⟩
  unfold ent subM
  simp only [List.getD_eq_getElem?_getD, List.getElem?_map, z, Option.map_some, Option.getD_some, z2, List.getElem?_eq_getElem l1, List.getElem?_eq_getElem l2, List.getElem?_eq_getElem j1, List.getElem?_eq_getElem j2]
theorem ent_mul {m m' : Mx} {h n w i j : Nat} (s : Sh m h n) (s' : Sh m' n w) (hi : i < h) (hj : j < w) : ent (mulM m m' w) i j = dotI (m.getD i []) (m'.map fun r => r.getD j 0) := by
  unfold ent mulM turned
  rw [getD_map _ _ _ [] _ (by rw [s.len]; exact hi)]
  rw [getD_map _ _ _ [] _ (by rw [List.length_map, List.length_range]; exact hj), getD_map _ _ _ 0 _ (by rw [List.length_range]; exact hj)]
  have e : (List.range w).getD j 0 = j := by simp [List.getD_eq_getElem?_getD, hj]
  rw [e]
theorem mulM_sh {m m' : Mx} {h n w : Nat} (s : Sh m h n) : Sh (mulM m m' w) h w := ⟨by unfold mulM; rw [List.length_map]; exact s.len, fun r hr => by
  unfold mulM turned at hr
  obtain ⟨x, hx, rfl⟩ := List.mem_map.mp hr
  rw [List.length_map, List.length_map, List.length_range]⟩
theorem scaleM_sh {m : Mx} {h w : Nat} {k : Int} (s : Sh m h w) : Sh (scaleM k m) h w := ⟨by unfold scaleM; rw [List.length_map]; exact s.len, fun r hr => by
  unfold scaleM timesI at hr
  obtain ⟨x, hx, rfl⟩ := List.mem_map.mp hr
  rw [List.length_map]
  exact s.row x hx⟩
theorem subM_sh {m m' : Mx} {h w : Nat} (s : Sh m h w) (s' : Sh m' h w) : Sh (subM m m') h w := ⟨by unfold subM; rw [List.length_map, List.length_zip, s.len, s'.len, Nat.min_self], fun r hr => by
  unfold subM at hr
  obtain ⟨p, hp, rfl⟩ := List.mem_map.mp hr
  rw [List.length_map, List.length_zip, s.row _ (List.of_mem_zip hp).1, s'.row _ (List.of_mem_zip hp).2, Nat.min_self]⟩
/-- rows a .. b - 1 of m, each cut by g -/
def partM (m : Mx) (a b : Nat) (g : List Int → List Int) : Mx := (List.range' a (b - a)).map fun i => g (m.getD i [])
theorem ent_part {m : Mx} {a b i j : Nat} {g : List Int → List Int} (hi : a + i < b) : ent (partM m a b g) i j = (g (m.getD (a + i) [])).getD j 0 := by
  unfold ent partM
  rw [getD_map _ _ _ 0 _ (by rw [List.length_range']; omega)]
  have e : (List.range' a (b - a)).getD i 0 = a + i := by
    rw [List.getD_eq_getElem?_getD, List.getElem?_range' (by omega)]
    simp
  rw [e]
theorem partM_sh {m : Mx} {n a b w : Nat} {g : List Int → List Int} (s : Sh m n n) (hb : b ≤ n) (hg : ∀ r : List Int, r.length = n → (g r).length = w) : Sh (partM m a b g) (b - a) w := ⟨by unfold partM; rw [List.length_map, List.length_range'], fun r hr => by
  unfold partM at hr
  obtain ⟨i, hi, rfl⟩ := List.mem_map.mp hr
  have := List.mem_range'_1.mp hi
  exact hg _ (s.get (by omega))⟩
section
variable {P : Program} {w : World} {K : PySem.W.Frag} {mg : Str → Option Value} {base : Heap}
theorem tail_eq {m : Mx} {n h : Nat} (L : LatOk m n) (hh : h < n) (h0 : h ≠ 0) : ∀ i j, i < n - h → j < n - h →
    ent (subM (scaleM (detF h (ent (partM m 0 h fun r => r.take h))) (partM m h n fun r => r.drop h)) (mulM (mulM (turned (partM m 0 h fun r => r.drop h) (n - h)) (adjM (partM m 0 h fun r => r.take h) h) h) (partM m 0 h fun r => r.drop h) (n - h))) i j = tailF h (ent m) i j := by
  intro i j hi hj
  have sh := L.sh
  have n3 := L.n3
  have sy := L.sy
  have c : (n = 2 ∧ h = 1) ∨ (n = 3 ∧ h = 1) ∨ (n = 3 ∧ h = 2) := by omega
  rcases c with ⟨rfl, rfl⟩ | ⟨rfl, rfl⟩ | ⟨rfl, rfl⟩
  · obtain ⟨r0, r1, rfl⟩ : ∃ a b, m = [a, b] := by
      match m, sh.len with
      | [a, b], _ => exact ⟨a, b, rfl⟩
    have s01 := sy 0 1 (by decide) (by decide)
    simp [ent] at s01
    rw [row2 (sh.row r0 (by simp)), row2 (sh.row r1 (by simp))]
    obtain rfl : i = 0 := by omega
    obtain rfl : j = 0 := by omega
    simp [subM, scaleM, partM, mulM, turned, adjM, adjE, minorL, detF, ent, dotI, timesI, tailF, List.range'_eq_map_range, List.range_succ]
    all_goals grind
  · obtain ⟨r0, r1, r2, rfl⟩ : ∃ a b c, m = [a, b, c] := by
      match m, sh.len with
      | [a, b, c], _ => exact ⟨a, b, c, rfl⟩
    have s01 := sy 0 1 (by decide) (by decide)
    have s02 := sy 0 2 (by decide) (by decide)
    have s12 := sy 1 2 (by decide) (by decide)
    simp [ent] at s01 s02 s12
    rw [row3 (sh.row r0 (by simp)), row3 (sh.row r1 (by simp)), row3 (sh.row r2 (by simp))]
    have i2 : i = 0 ∨ i = 1 := by omega
    have j2 : j = 0 ∨ j = 1 := by omega
    rcases i2 with rfl | rfl <;> rcases j2 with rfl | rfl <;>
      simp [subM, scaleM, partM, mulM, turned, adjM, adjE, minorL, detF, ent, dotI, timesI, tailF, List.range'_eq_map_range, List.range_succ] <;> grind
  · have s01 := sy 0 1 (by decide) (by decide)
    have s02 := sy 0 2 (by decide) (by decide)
    have s12 := sy 1 2 (by decide) (by decide)
    obtain ⟨r0, r1, r2, rfl⟩ : ∃ a b c, m = [a, b, c] := by
      match m, sh.len with
      | [a, b, c], _ => exact ⟨a, b, c, rfl⟩
    have e0 := row3 (sh.row r0 (by simp))
    have e1 := row3 (sh.row r1 (by simp))
    have e2 := row3 (sh.row r2 (by simp))
    simp only [ent] at s01 s02 s12
    obtain rfl : i = 0 := by omega
    obtain rfl : j = 0 := by omega
    rw [e0, e1, e2] at *
    simp [subM, scaleM, partM, mulM, turned, adjM, adjE, minorL, detF, ent, dotI, timesI, tailF, List.range'_eq_map_range, List.range_succ] at s01 s02 s12 ⊢
    try grind
def phiTailMatrix (K : PySem.W.Frag) : TF := fun ds μ R => ∃ m n h, ds = [gr K m n, .int ((h + 1 : Nat) : Int)] ∧ LatOk m n ∧ h < n ∧ ∀ t, Sh t (n - h) (n - h) → (∀ i j, i < n - h → j < n - h → ent t i j = tailF h (ent m) i j) → R (gr K t (n - h)) μ
theorem sc_TailMatrix : FnScope ["gram", "k", "head", "size", "i", "block", "side", "tail"] ["gram", "k"] (defScope sTailMatrix) := ⟨rfl, rfl, rfl, by decide +kernel, rfl, by decide +kernel, by decide +kernel⟩
theorem okTailMatrix (T : Tx K mg) : FnOk P w K mg base CX0 6 (He.ga K "tail_matrix") (fdOf K (He.ga K "tail_matrix")) ["gram", "k"] (spD K (phiTailMatrix K)) := by
  have sc := sc_TailMatrix
  have FGridInit := okGridInit (P := P) (w := w) (base := base) T
  have FGridLen := okGridLen (P := P) (w := w) (base := base) T
  have FGridMul := okGridMul (P := P) (w := w) (base := base) T
  have FGridSub := okGridSub (P := P) (w := w) (base := base) T
  have FGridAdjugate := okGridAdjugate (P := P) (w := w) (base := base) T
  have FGridDeterminant := okGridDeterminant (P := P) (w := w) (base := base) T
  have FGridScaled := okGridScaled (P := P) (w := w) (base := base) T
  have FGridTransposed := okGridTransposed (P := P) (w := w) (base := base) T
  refine fnd_ok T.d_TailMatrix sc (fun ds μ R h => ?len) fun cdv A outer s H E hr => ⟨_, _, (ss_cons (s_set 2 sc.nd (d_bin o_sub (dv 1) d_int))
      (ss_cons (s_set 3 sc.nd (d_callB (c_lenI FGridLen T.m_GridLen (hr.mono (by decide)) T.b_GridLen) T.n_len (a_cons (dv 0) a_nil)))
      (ss_cons (s_set 5 sc.nd (d_make T.mk_Grid FGridInit (hr.mono (by decide)) T.g_Grid T.b_GridInit .nil (fun _ => .nil) (a_cons (d_lc rfl sc.nd (i_range1 T.n_range (dv 2)) (blkOk_by (own := [("i", 4)]) (by first | rfl | kernel_rfl)) fr_name (fun s H C cl fp => (g_name 4 sc.nd)) (fun s H C cl fp => ts_nil) (fun s H C cl fp => (d_slice (d_ix (d_fld T.cls_Grid T.no_Grid_rows (dv 0)) (dv 4)) o_none (o_some (dv 2))))) (a_cons (dv 2) a_nil))))
      (ss_cons (s_set 6 sc.nd (d_make T.mk_Grid FGridInit (hr.mono (by decide)) T.g_Grid T.b_GridInit .nil (fun _ => .nil) (a_cons (d_lc rfl sc.nd (i_range1 T.n_range (dv 2)) (blkOk_by (own := [("i", 4)]) (by first | rfl | kernel_rfl)) fr_name (fun s H C cl fp => (g_name 4 sc.nd)) (fun s H C cl fp => ts_nil) (fun s H C cl fp => (d_slice (d_ix (d_fld T.cls_Grid T.no_Grid_rows (dv 0)) (dv 4)) (o_some (dv 2)) o_none))) (a_cons (d_bin o_sub (dv 3) (dv 2)) a_nil))))
      (ss_cons (s_set 7 sc.nd (d_make T.mk_Grid FGridInit (hr.mono (by decide)) T.g_Grid T.b_GridInit .nil (fun _ => .nil) (a_cons (d_lc rfl sc.nd (i_range2 T.n_range (dv 2) (dv 3)) (blkOk_by (own := [("i", 4)]) (by first | rfl | kernel_rfl)) fr_name (fun s H C cl fp => (g_name 4 sc.nd)) (fun s H C cl fp => ts_nil) (fun s H C cl fp => (d_slice (d_ix (d_fld T.cls_Grid T.no_Grid_rows (dv 0)) (dv 4)) (o_some (dv 2)) o_none))) (a_cons (d_bin o_sub (dv 3) (dv 2)) a_nil))))
      (ss_cons (s_if (t_cmp (o_eq (hu hr)) (dv 2) d_int) (ss_one (s_ret (dv 7))) ss_nil)
      (ss_one (s_ret (d_bin (o_binI (nm := "__sub__") rfl FGridSub T.m_GridSub T.self_Grid (hr.mono (by decide)) T.b_GridSub) (d_meth (dv 7) T.cls_Grid T.m_GridScaled FGridScaled (hr.mono (by decide)) T.b_GridScaled (a_cons (d_meth0 (dv 5) T.cls_Grid T.m_GridDeterminant FGridDeterminant (hr.mono (by decide)) T.b_GridDeterminant) a_nil)) (d_bin (o_binI (nm := "__mul__") rfl FGridMul T.m_GridMul T.self_Grid (hr.mono (by decide)) T.b_GridMul) (d_bin (o_binI (nm := "__mul__") rfl FGridMul T.m_GridMul T.self_Grid (hr.mono (by decide)) T.b_GridMul) (d_meth0 (dv 6) T.cls_Grid T.m_GridTransposed FGridTransposed (hr.mono (by decide)) T.b_GridTransposed) (d_meth0 (dv 5) T.cls_Grid T.m_GridAdjugate FGridAdjugate (hr.mono (by decide)) T.b_GridAdjugate)) (dv 6))))))))))), fun ds μ R h => ?_⟩
  case len => obtain ⟨m, n, h, rfl, _⟩ := h; rfl
  obtain ⟨m, n, h, rfl, L, hh, hR⟩ := h
  have sh := L.sh
  have n3 := L.n3
  have e1 : ((h + 1 : Nat) : Int) - 1 = (h : Int) := by omega
  have c1 : ∀ i, cut ((m.getD i []).map D.int) none (some (h : Int)) = ((m.getD i []).take h).map D.int := fun i => by rw [cut_take, List.map_take]
  have c2 : ∀ i, cut ((m.getD i []).map D.int) (some (h : Int)) none = ((m.getD i []).drop h).map D.int := fun i => by rw [cut_drop, List.map_drop]
  have sB := partM_sh (a := 0) (b := h) (w := h) (g := fun r => r.take h) sh (by omega) (fun r hr => by rw [List.length_take]; omega)
  have sS := partM_sh (a := 0) (b := h) (w := n - h) (g := fun r => r.drop h) sh (by omega) (fun r hr => by rw [List.length_drop]; omega)
  have sT := partM_sh (a := h) (b := n) (w := n - h) (g := fun r => r.drop h) sh (by omega) (fun r hr => by rw [List.length_drop]; omega)
  rw [Nat.sub_zero] at sB sS
  have hn : ((n : Int) - (h : Int)) = ((n - h : Nat) : Int) := by omega
  have pr : ∀ (g : List Int → List Int), (List.range h).map (fun i => rt (g (m.getD i []))) = (partM m 0 h g).map rt := fun g => by
    unfold partM
    rw [List.map_map, Nat.sub_zero, ← List.range_eq_range']
    rfl
  have pt : (List.range' h (n - h)).map (fun i => rt ((m.getD i []).drop h)) = (partM m h n fun r => r.drop h).map rt := by
    unfold partM
    rw [List.map_map]
    rfl
  have cell : ∀ {i : Nat} {Y : D → Sto → Prop}, i < n → Y (rt (m.getD i [])) μ → pIx (mt m) (.int (i : Int)) μ Y := fun hi hy => pIx.tup (dAt_map [] (by rw [sh.len]; exact hi) hy)
  have start : ∀ z : Int, z = (h : Int) → sSeq (sAsg (dCB (pLenI (He.ga K "Grid") (phiGridLen K)) (dCons (dVar 0) dNil)) (gNm 3)) sNext { nx := fun _ _ => True, rt := fun _ _ => True } [some (gr K m n), some (.int ((h + 1 : Nat) : Int)), some (.int z), none, none, none, none, none] μ → True := fun _ _ _ => trivial
  clear start
  rw [← e1] at c1 c2
  refine ⟨rfl, m, n, rfl, Int.natCast_nonneg _, by rw [sh.len]; omega, ?_⟩
  have hnl : ((m.length : Nat) : Int) = (n : Int) := by rw [sh.len]
  have hsub : ((m.length : Nat) : Int) - (((h + 1 : Nat) : Int) - 1) = ((n - h : Nat) : Int) := by rw [hnl, e1]; omega
  have rgh : rngD 0 ((((h + 1 : Nat) : Int) - 1)).toNat = (List.range h).map fun i : Nat => D.int (i : Int) := by rw [e1]; exact rng0 h
  have rgt : rngD (((h + 1 : Nat) : Int) - 1) (((m.length : Nat) : Int) - (((h + 1 : Nat) : Int) - 1)).toNat = (List.range' h (n - h)).map fun i : Nat => D.int (i : Int) := rng_nat2 e1 hnl
  -- block
  refine ⟨by rw [e1]; exact RB_nat (by omega), ?_⟩
  refine lc_map (List.range h) (fun i : Nat => .int (i : Int)) (fun i => rt ((m.getD i []).take h)) rgh (by rw [List.length_range, sLine]; omega) trivial (fun i hi Y hY => ?_) ?_
  · have hi' := List.mem_range.mp hi
    refine ⟨rfl, _, lk_rows, cell (by omega) ?_⟩
    show Y (.tup (cut ((m.getD i []).map D.int) none (some (((h + 1 : Nat) : Int) - 1)))) μ
    rw [c1]
    exact hY
  rw [pr fun r => r.take h]
  have mkB : ∀ {z : Int} {Y : RD}, z = (h : Int) → Y (gr K (partM m 0 h fun r => r.take h) h) μ → dMk (He.ga K "Grid") (phiGridInit K) [.lst ((partM m 0 h fun r => r.take h).map rt), .int z] μ Y := fun e y => by
    subst e
    exact mk_grid .lt (sB.sz (by omega)) sB.row y
  refine mkB e1 ?_
  -- side
  refine ⟨by rw [e1]; exact RB_nat (by omega), ?_⟩
  refine lc_map (List.range h) (fun i : Nat => .int (i : Int)) (fun i => rt ((m.getD i []).drop h)) rgh (by rw [List.length_range, sLine]; omega) trivial (fun i hi Y hY => ?_) ?_
  · have hi' := List.mem_range.mp hi
    refine ⟨rfl, _, lk_rows, cell (by omega) ?_⟩
    show Y (.tup (cut ((m.getD i []).map D.int) (some (((h + 1 : Nat) : Int) - 1)) none)) μ
    rw [c2]
    exact hY
  rw [pr fun r => r.drop h]
  have mkS : ∀ {z : Int} {Y : RD}, z = ((n - h : Nat) : Int) → Y (gr K (partM m 0 h fun r => r.drop h) (n - h)) μ → dMk (He.ga K "Grid") (phiGridInit K) [.lst ((partM m 0 h fun r => r.drop h).map rt), .int z] μ Y := fun e y => by
    subst e
    exact mk_grid .lt (sS.sz (by omega)) sS.row y
  refine mkS hsub ?_
  -- tail
  refine ⟨by rw [e1]; exact RB_nat (by omega), by rw [hnl]; exact RB_nat (by omega), ?_⟩
  refine lc_map (List.range' h (n - h)) (fun i : Nat => .int (i : Int)) (fun i => rt ((m.getD i []).drop h)) rgt (by rw [List.length_range', sLine]; omega) trivial (fun i hi Y hY => ?_) ?_
  · have hi' := List.mem_range'_1.mp hi
    refine ⟨rfl, _, lk_rows, cell (by omega) ?_⟩
    show Y (.tup (cut ((m.getD i []).map D.int) (some (((h + 1 : Nat) : Int) - 1)) none)) μ
    rw [c2]
    exact hY
  rw [pt]
  have mkT : ∀ {z : Int} {Y : RD}, z = ((n - h : Nat) : Int) → Y (gr K (partM m h n fun r => r.drop h) (n - h)) μ → dMk (He.ga K "Grid") (phiGridInit K) [.lst ((partM m h n fun r => r.drop h).map rt), .int z] μ Y := fun e y => by
    subst e
    exact mk_grid .lt (sT.sz (by omega)) sT.row y
  refine mkT hsub ?_
  refine if_eq (fun c => ?_) fun c => ?_
  · have h0 : h = 0 := by rw [e1] at c; omega
    subst h0
    refine fzR.now (hR _ sT fun i j hi hj => ?_)
    rw [ent_part (by omega)]
    show _ = ent m i j
    unfold ent
    rw [Nat.zero_add, List.drop_zero]
  have h0 : h ≠ 0 := fun z => c (by rw [e1]; omega)
  have bB : ∀ i j, i < h → j < h → (ent (partM m 0 h fun r => r.take h) i j).natAbs ≤ 10000 := fun i j hi hj => by
    rw [ent_part (by omega), Nat.zero_add]
    have e : ((m.getD i []).take h).getD j 0 = ent m i j := by
      unfold ent
      simp only [List.getD_eq_getElem?_getD, List.getElem?_take, if_pos hj]
    rw [e]
    exact L.bd i j (by omega) (by omega)
  have dB : (detF h (ent (partM m 0 h fun r => r.take h))).natAbs ≤ 2 ^ 62 := by
    have h12 : h = 1 ∨ h = 2 := by omega
    rcases h12 with rfl | rfl
    · have := bB 0 0 (by decide) (by decide)
      simp only [detF]
      omega
    · have b0 := bB 0 0 (by decide) (by decide)
      have b1 := bB 0 1 (by decide) (by decide)
      have b2 := bB 1 0 (by decide) (by decide)
      have b3 := bB 1 1 (by decide) (by decide)
      simp only [detF]
      have m1 := Nat.mul_le_mul b0 b3
      have m2 := Nat.mul_le_mul b1 b2
      rw [← Int.natAbs_mul] at m1 m2
      omega
  have bS : ∀ r ∈ partM m 0 h fun r => r.drop h, ∀ x ∈ r, x.natAbs ≤ 10000 := fun r hr x hx => by
    unfold partM at hr
    obtain ⟨i, hi, rfl⟩ := List.mem_map.mp hr
    have hi2 := List.mem_range'_1.mp hi
    have hx2 := List.mem_of_mem_drop hx
    have hl : i < m.length := by rw [L.sh.len]; omega
    have hr2 : m.getD i [] ∈ m := by
      rw [List.getD_eq_getElem?_getD, List.getElem?_eq_getElem hl]
      exact List.getElem_mem hl
    obtain ⟨u, v, hu, hv, rfl⟩ := ent_mem L.sh hr2 hx2
    exact L.bd u v hu hv
  have bT : ∀ r ∈ turned (partM m 0 h fun r => r.drop h) (n - h), ∀ x ∈ r, x.natAbs ≤ 10000 := fun r hr x hx => by
    unfold turned at hr
    obtain ⟨k, _, rfl⟩ := List.mem_map.mp hr
    obtain ⟨q, hq, rfl⟩ := List.mem_map.mp hx
    rw [List.getD_eq_getElem?_getD]
    cases e : q[k]? with
    | none => exact Nat.zero_le _
    | some y => exact bS q hq y (List.mem_of_getElem? e)
  have q3 : Sq3 (partM m 0 h fun r => r.take h) h := ⟨sB, by omega, fun i j hi hj => by have := bB i j hi hj; omega⟩
  refine ⟨rfl, lk_none (by decide +kernel) (by decide +kernel), ?_⟩
  refine ⟨rfl, lk_none (by decide +kernel) (by decide +kernel), _, h, rfl, q3, ?_⟩
  refine ⟨_, n - h, _, rfl, sT.sz (by omega), fun r hr => ⟨sT.row r hr, fun x _ => mulOk dB⟩, by rw [sLine]; omega, ?_⟩
  refine ⟨rfl, lk_none (by decide +kernel) (by decide +kernel), _, n - h, rfl, sS.sz (by omega), sS.row, by rw [sLine]; omega, ?_⟩
  rw [sS.len]
  refine ⟨rfl, lk_none (by decide +kernel) (by decide +kernel), _, h, rfl, q3, ?_⟩
  have sA := adjM_sh (partM m 0 h fun r => r.take h) h
  have sSt := sS.turned
  have z : sizeLine = 16777216 := sLine
  refine ⟨rfl, rfl, _, h, _, h, rfl, sA.len, sSt.sz (by omega), by omega, by omega, sSt.row, sA.row, fun r hr c hc p hp => ?_, ?_⟩
  · have := bT r hr p.1 (List.of_mem_zip hp).1
    exact mulOk (by omega)
  have sM1 := mulM_sh (m' := adjM (partM m 0 h fun r => r.take h) h) (w := h) sSt
  refine ⟨rfl, rfl, _, h, _, n - h, rfl, sS.len, sM1.sz (by omega), by omega, by omega, sM1.row, sS.row, fun r hr c hc p hp => ?_, ?_⟩
  · have := bT c hc p.2 (List.of_mem_zip hp).2
    exact mulOkR (by omega)
  have sM2 := mulM_sh (m' := partM m 0 h fun r => r.drop h) (w := n - h) sM1
  have sC := scaleM_sh (k := detF h (ent (partM m 0 h fun r => r.take h))) sT
  refine ⟨rfl, rfl, _, n - h, _, rfl, by rw [sC.len, sM2.len], sC.sz (by omega), sC.row, sM2.row, by omega, ?_⟩
  exact fzR.now (hR _ (subM_sh sC sM2) (tail_eq L hh h0))
end
end Gm
end
/-! Aa -/
section
set_option Elab.async false
set_option linter.all false
set_option maxRecDepth 100000
set_option maxHeartbeats 4000000
namespace Gm
open PySem PySem.Spec PyProof.Rows L2 DL Gp
abbrev rt64 : Nat → Nat := Float64.isqrt
section
variable {P : Program} {w : World} {K : PySem.W.Frag} {mg : Str → Option Value} {base : Heap}
def phiIsPoint (K : PySem.W.Frag) : TF := fun ds μ R => ∃ m n a d, ds = [lat K m n, rt a, .int d] ∧ a.length = m.length ∧ m.length ≤ sizeLine ∧ 0 < d ∧ R (.bl true) μ
theorem sc_IsPoint : FnScope ["lattice", "a", "d", "item"] ["lattice", "a", "d"] (defScope sIsPoint) := ⟨rfl, rfl, rfl, by decide +kernel, rfl, by decide +kernel, by decide +kernel⟩
theorem okIsPoint (T : Tx K mg) : FnOk P w K mg base CX0 2 (He.ga K "is_point") (fdOf K (He.ga K "is_point")) ["lattice", "a", "d"] (spD K (phiIsPoint K)) := by
  have sc := sc_IsPoint
  have FLatticeRank := okLatticeRank (P := P) (w := w) (base := base) T
  have FIsInteger := okIsInteger (P := P) (w := w) (base := base) T
  refine fnd_ok T.d_IsPoint sc (fun ds μ R h => ?len) fun cdv A outer s H E hr => ⟨_, _, (ss_cons (s_if (t_w (tw_or (t_not (t_val (d_isi (T := "tuple") T.n_isinstance T.n_tuple (dv 1)))) (tw_or1 (t_cmp (o_ne (hu hr)) (d_callB (c_len) T.n_len (a_cons (dv 1) a_nil)) (d_meth0 (dv 0) T.cls_Lattice T.m_LatticeRank FLatticeRank (hr.mono (by decide)) T.b_LatticeRank))))) (ss_one (s_ret d_bl)) ss_nil)
      (ss_one (s_ret (d_and (d_callB (c_all rfl) T.n_all (a_cons (d_lc rfl sc.nd (i_seq (dv 1)) (blkOk_by (own := [("item", 3)]) (by first | rfl | kernel_rfl)) fr_name (fun s H C cl fp => (g_name 3 sc.nd)) (fun s H C cl fp => ts_nil) (fun s H C cl fp => (d_call FIsInteger (hr.mono (by decide)) T.g_IsInteger T.d_IsInteger.kp T.b_IsInteger (a_cons (dv 3) a_nil)))) a_nil)) (d_and (d_call FIsInteger (hr.mono (by decide)) T.g_IsInteger T.d_IsInteger.kp T.b_IsInteger (a_cons (dv 2) a_nil)) (d_one (d_cmp o_gtI (dv 2) d_int))))))), fun ds μ R h => ?_⟩
  case len => obtain ⟨m, n, a, d, rfl, _⟩ := h; rfl
  obtain ⟨m, n, a, d, rfl, ha, hz, hd, hR⟩ := h
  refine ⟨"tuple", true, rfl, by decide +kernel, ?_⟩
  refine ⟨rfl, lk_gnone (by decide +kernel), m, n, rfl, ?_⟩
  refine if_ne (fun c => absurd (by simp only [List.length_map]; omega) c) fun _ => ?_
  refine Sq.tup ?_
  refine lc_map a D.int (fun _ => .bl true) rfl (by omega) trivial (fun x hx Y hY => ⟨x, rfl, hY⟩) ?_
  refine ⟨a.map fun _ => true, ?_, ?_⟩
  · have e : (a.map fun _ => D.bl true) = (a.map fun _ => true).map D.bl := by rw [List.map_map]; rfl
    rw [e]
    exact bls?_map _
  · have e : ((a.map fun _ => true).all fun b => b) = true := by simp
    rw [e]
    refine ⟨d, rfl, ?_⟩
    have e2 : decide ((0 : Int) < d) = true := decide_eq_true hd
    have hR2 := hR
    rw [← e2] at hR2
    exact fzR.now hR2
def headsL (m : Mx) (n : Nat) : List Int := (List.range n).map fun k => detF k (ent m)
def phiHeadDeterminants (K : PySem.W.Frag) : TF := fun ds μ R => ∃ m n, ds = [gr K m n] ∧ LatOk m n ∧ R (ri (headsL m n)) μ
theorem sc_HeadDeterminants : FnScope ["gram", "found", "size", "i"] ["gram"] (defScope sHeadDeterminants) := ⟨rfl, rfl, rfl, by decide +kernel, rfl, by decide +kernel, by decide +kernel⟩
theorem okHeadDeterminants (T : Tx K mg) : FnOk P w K mg base CX0 5 (He.ga K "head_determinants") (fdOf K (He.ga K "head_determinants")) ["gram"] (spD K (phiHeadDeterminants K)) := by
  have sc := sc_HeadDeterminants
  have FGridInit := okGridInit (P := P) (w := w) (base := base) T
  have FGridLen := okGridLen (P := P) (w := w) (base := base) T
  have FGridDeterminant := okGridDeterminant (P := P) (w := w) (base := base) T
  refine fnd_ok T.d_HeadDeterminants sc (fun ds μ R h => ?len) fun cdv A outer s H E hr => ⟨_, _, (ss_cons (s_set 1 sc.nd (d_lstM a_nil))
      (ss_cons (s_for PassesOwn.never rfl (i_range1 T.n_range (d_callB (c_lenI FGridLen T.m_GridLen (hr.mono (by decide)) T.b_GridLen) T.n_len (a_cons (dv 0) a_nil))) (g_name 2 sc.nd) (ss_one (s_expr (d_app (dv 1) (d_meth0 (d_make T.mk_Grid FGridInit (hr.mono (by decide)) T.g_Grid T.b_GridInit .nil (fun _ => .nil) (a_cons (d_lc rfl sc.nd (i_range1 T.n_range (dv 2)) (blkOk_by (own := [("i", 3)]) (by first | rfl | kernel_rfl)) fr_name (fun s H C cl fp => (g_name 3 sc.nd)) (fun s H C cl fp => ts_nil) (fun s H C cl fp => (d_slice (d_ix (d_fld T.cls_Grid T.no_Grid_rows (dv 0)) (dv 3)) o_none (o_some (dv 2))))) (a_cons (dv 2) a_nil))) T.cls_Grid T.m_GridDeterminant FGridDeterminant (hr.mono (by decide)) T.b_GridDeterminant)))))
      (ss_one (s_ret (dv 1))))), fun ds μ R h => ?_⟩
  case len => obtain ⟨m, n, rfl, _⟩ := h; rfl
  obtain ⟨m, n, rfl, L, hR⟩ := h
  have sh := L.sh
  have n3 := L.n3
  have hnl : ((m.length : Nat) : Int) = (n : Int) := by rw [sh.len]
  refine ⟨Nat.zero_le _, fun q hq => ?_⟩
  refine ⟨rfl, m, n, rfl, Int.natCast_nonneg _, by rw [sh.len]; omega, ?_⟩
  refine ⟨by rw [hnl]; exact RB_nat (by omega), ?_⟩
  refine for_rng 0 n rfl (by rw [hnl]; rfl) (fun i ρ μ' => i ≤ n ∧ ∃ a b, μ' = μ.put q (.lst (((List.range i).map fun k => detF k (ent m)).map D.int)) ∧ ρ = [some (gr K m n), some (.adr q), a, b]) ⟨Nat.zero_le _, _, _, rfl, rfl⟩ ?_ ?_
  · rintro i ρ μ' _ hi ⟨_, a, b, rfl, rfl⟩
    have sl := leadM_sh sh (show i ≤ n by omega)
    refine onL_lst Sto.put_same ?_
    refine ⟨RB_nat (by omega), ?_⟩
    have c1 : ∀ j, cut ((m.getD j []).map D.int) none (some (i : Int)) = ((m.getD j []).take i).map D.int := fun j => by rw [cut_take, List.map_take]
    refine lc_map (List.range i) (fun j : Nat => .int (j : Int)) (fun j => rt ((m.getD j []).take i)) (rng0 i) (by rw [List.length_range, sLine]; omega) trivial (fun j hj Y hY => ?_) ?_
    · have hj' := List.mem_range.mp hj
      refine ⟨rfl, _, lk_rows, pIx.tup (dAt_map [] (by rw [sh.len]; omega) ?_)⟩
      show Y (.tup (cut ((m.getD j []).map D.int) none (some (i : Int)))) _
      rw [c1]
      exact hY
    · have e : ((List.range i).map fun j => rt ((m.getD j []).take i)) = (leadM m i).map rt := by
        unfold leadM
        rw [List.map_map]
        refine List.ext_getElem? fun j => ?_
        rw [List.getElem?_map, List.getElem?_map, List.getElem?_take]
        by_cases c : j < i
        · have lj : j < m.length := by rw [sh.len]; omega
          rw [List.getElem?_range c, if_pos c, List.getElem?_eq_getElem lj]
          simp [List.getD_eq_getElem?_getD, lj]
        · rw [if_neg c, List.getElem?_eq_none (by rw [List.length_range]; omega)]
          rfl
      rw [e]
      refine mk_grid (m := leadM m i) .lt (sl.sz (by omega)) sl.row ?_
      refine ⟨rfl, lk_none (by decide +kernel) (by decide +kernel), leadM m i, i, rfl, ⟨sl, by omega, fun a b ha hb => ?_⟩, ?_⟩
      · rw [leadM_ent ha hb]
        have := L.bd a b (by omega) (by omega)
        omega
      · refine onL_lst Sto.put_same ⟨by simp only [List.length_map, List.length_range]; rw [sLine]; omega, ?_⟩
        rw [detF_congr (g := ent m) (fun a b ha hb => leadM_ent ha hb) (by omega)]
        refine ⟨by omega, _, _, ?_, rfl⟩
        rw [Sto.put_put, List.range_succ, List.map_append, List.map_append]
        rfl
  · rintro ρ μ' ⟨_, a, b, rfl, rfl⟩
    rw [show max 0 n = n from by omega]
    exact ⟨μ, _, SubS.put_none hq, .adr hq Sto.put_same (Fzs.refl _), hR⟩
def phiChoices (K : PySem.W.Frag) : TF := fun ds μ R => ∃ t s b bd f, ds = [gr K t s, rt b, .int 0, .int 1, .int bd] ∧ Sh t s s ∧ s = b.length + 1 ∧ s ≤ 3 ∧ (∀ i j, i < s → j < s → ent t i j = f i j) ∧ ChOk rt64 f b bd ∧ R (ri (chF rt64 f b bd)) μ
theorem sc_Choices : FnScope ["tail", "behind", "a", "d", "bound", "first", "rest", "i", "known", "j", "inside", "root", "low", "high"] ["tail", "behind", "a", "d", "bound"] (defScope sChoices) := ⟨rfl, rfl, rfl, by decide +kernel, rfl, by decide +kernel, by decide +kernel⟩
theorem okChoices (T : Tx K mg) : FnOk P w K mg base CX0 2 (He.ga K "choices") (fdOf K (He.ga K "choices")) ["tail", "behind", "a", "d", "bound"] (spD K (phiChoices K)) := by
  have sc := sc_Choices
  have FLower := okLower (P := P) (w := w) (base := base) T
  have FRootFloor := okRootFloor (P := P) (w := w) (base := base) T
  have FUpper := okUpper (P := P) (w := w) (base := base) T
  refine fnd_ok T.d_Choices sc (fun ds μ R h => ?len) fun cdv A outer s H E hr => ⟨_, _, (ss_cons (s_set 5 sc.nd (d_ix (d_fld T.cls_Grid T.no_Grid_rows (dv 0)) d_int))
      (ss_cons (s_set 6 sc.nd d_int)
      (ss_cons (s_for PassesOwn.never rfl (i_range1 T.n_range (d_callB (c_len) T.n_len (a_cons (dv 1) a_nil))) (g_name 7 sc.nd) (ss_one (s_augAdd 6 sc.nd (d_bin o_mulI (d_ix (dv 5) (d_bin o_add (dv 7) d_int)) (d_ix (dv 1) (dv 7))))))
      (ss_cons (s_set 8 sc.nd d_int)
      (ss_cons (s_for PassesOwn.never rfl (i_range1 T.n_range (d_callB (c_len) T.n_len (a_cons (dv 1) a_nil))) (g_name 7 sc.nd) (ss_one (s_for PassesOwn.never rfl (i_range1 T.n_range (d_callB (c_len) T.n_len (a_cons (dv 1) a_nil))) (g_name 9 sc.nd) (ss_one (s_augAdd 8 sc.nd (d_bin o_mulI (d_bin o_mulI (d_ix (d_ix (d_fld T.cls_Grid T.no_Grid_rows (dv 0)) (d_bin o_add (dv 7) d_int)) (d_bin o_add (dv 9) d_int)) (d_ix (dv 1) (dv 7))) (d_ix (dv 1) (dv 9))))))))
      (ss_cons (s_set 10 sc.nd (d_bin o_sub (d_bin o_mulI (dv 6) (dv 6)) (d_bin o_mulI (d_ix (dv 5) d_int) (d_bin o_sub (dv 8) (dv 4)))))
      (ss_cons (s_if (t_cmp o_ltI (dv 10) d_int) (ss_one (s_ret (d_lst a_nil))) ss_nil)
      (ss_cons (s_set 11 sc.nd (d_call FRootFloor (hr.mono (by decide)) T.g_RootFloor T.d_RootFloor.kp T.b_RootFloor (a_cons (dv 10) a_nil)))
      (ss_cons (s_set 12 sc.nd (d_call FUpper (hr.mono (by decide)) T.g_Upper T.d_Upper.kp T.b_Upper (a_cons (d_bin o_sub (d_neg (dv 6)) (dv 11)) (a_cons (d_ix (dv 5) d_int) a_nil))))
      (ss_cons (s_set 13 sc.nd (d_call FLower (hr.mono (by decide)) T.g_Lower T.d_Lower.kp T.b_Lower (a_cons (d_bin o_add (d_neg (dv 6)) (dv 11)) (a_cons (d_ix (dv 5) d_int) a_nil))))
      (ss_one (s_ret (d_listRg rfl T.n_list T.n_range (d_call FUpper (hr.mono (by decide)) T.g_Upper T.d_Upper.kp T.b_Upper (a_cons (d_bin o_add (dv 12) (dv 2)) (a_cons (dv 3) a_nil))) (d_bin o_add (d_call FLower (hr.mono (by decide)) T.g_Lower T.d_Lower.kp T.b_Lower (a_cons (d_bin o_add (dv 13) (dv 2)) (a_cons (dv 3) a_nil))) d_int)))))))))))))), fun ds μ R h => ?_⟩
  case len => obtain ⟨t, s, b, bd, f, rfl, _⟩ := h; rfl
  obtain ⟨t, s, b, bd, f, rfl, sh, hs, s3, he, C, hR⟩ := h
  have hbl : (((b.map D.int).length : Nat) : Int) = (b.length : Int) := by rw [List.length_map]
  have row : ∀ {i : Nat} {Y : D → Sto → Prop} {μ : Sto}, i < s → Y (rt (t.getD i [])) μ → pIx (mt t) (.int (i : Int)) μ Y := fun hi hy => pIx.tup (dAt_map [] (by rw [sh.len]; exact hi) hy)
  have cel : ∀ {i j : Nat} {Y : D → Sto → Prop} {μ : Sto}, i < s → j < s → Y (.int (f i j)) μ → pIx (rt (t.getD i [])) (.int (j : Int)) μ Y := fun {i j Y μ} hi hj hy => pIx.tup (dAt_map 0 (by rw [sh.get hi]; exact hj) (by rw [← he i j hi hj] at hy; exact hy))
  have bix : ∀ {i : Nat} {Y : D → Sto → Prop} {μ : Sto}, i < b.length → Y (.int (b.getD i 0)) μ → pIx (rt b) (.int (i : Int)) μ Y := fun hi hy => pIx.tup (dAt_map 0 hi hy)
  have bsm : ∀ i, i < b.length → (b.getD i 0).natAbs ≤ 2 ^ 62 := fun i hi => by
    have := C.bb _ (mem_getD (d := 0) hi)
    omega
  refine ⟨rfl, _, lk_rows, row (i := 0) (by omega) ?_⟩
  refine ⟨by rw [hbl]; exact RB_nat (by omega), ?_⟩
  refine for_rng 0 b.length rfl (by rw [hbl]; rfl) (fun i ρ μ' => μ' = μ ∧ i ≤ b.length ∧ ∃ x7, ρ = [some (gr K t s), some (rt b), some (.int 0), some (.int 1), some (.int bd), some (rt (t.getD 0 [])), some (.int (restN f b i)), x7, none, none, none, none, none, none]) ⟨rfl, Nat.zero_le _, _, rfl⟩ ?_ ?_
  · rintro i ρ μ' _ hi ⟨rfl, _, x7, rfl⟩
    refine cel (i := 0) (j := i + 1) (by omega) (by omega) ?_
    refine bix hi ?_
    exact ⟨mulOkR (bsm i hi), rfl, by omega, _, rfl⟩
  rintro ρ μ' ⟨rfl, _, x7, rfl⟩
  rw [show max 0 b.length = b.length from by omega]
  refine ⟨by rw [hbl]; exact RB_nat (by omega), ?_⟩
  refine for_rng 0 b.length rfl (by rw [hbl]; rfl) (fun i ρ μ2 => μ2 = μ' ∧ i ≤ b.length ∧ ∃ x7 x9, ρ = [some (gr K t s), some (rt b), some (.int 0), some (.int 1), some (.int bd), some (rt (t.getD 0 [])), some (.int (restN f b b.length)), x7, some (.int (knowN f b b.length i)), x9, none, none, none, none]) ⟨rfl, Nat.zero_le _, _, _, rfl⟩ ?_ ?_
  · rintro i ρ μ2 _ hi ⟨rfl, _, x7, x9, rfl⟩
    refine ⟨by rw [hbl]; exact RB_nat (by omega), ?_⟩
    refine for_rng 0 b.length rfl (by rw [hbl]; rfl) (fun j ρ μ3 => μ3 = μ2 ∧ j ≤ b.length ∧ ∃ x9, ρ = [some (gr K t s), some (rt b), some (.int 0), some (.int 1), some (.int bd), some (rt (t.getD 0 [])), some (.int (restN f b b.length)), some (.int (i : Int)), some (.int (knowN f b b.length i + knowR f b i j)), x9, none, none, none, none]) ⟨rfl, Nat.zero_le _, x9, ?_⟩ ?_ ?_
    · show _ = [some (gr K t s), some (rt b), some (.int 0), some (.int 1), some (.int bd), some (rt (t.getD 0 [])), some (.int (restN f b b.length)), some (.int (i : Int)), some (.int (knowN f b b.length i + 0)), x9, none, none, none, none]
      rw [Int.add_zero]
      rfl
    · rintro j ρ μ3 _ hj ⟨rfl, _, x9, rfl⟩
      refine ⟨rfl, _, lk_rows, row (i := i + 1) (by omega) ?_⟩
      refine cel (i := i + 1) (j := j + 1) (by omega) (by omega) ?_
      refine bix hi ⟨mulOkR (bsm i hi), ?_⟩
      refine bix hj ⟨mulOkR (bsm j hj), ?_⟩
      refine ⟨rfl, by omega, some (.int (j : Int)), ?_⟩
      show _ = [some (gr K t s), some (rt b), some (.int 0), some (.int 1), some (.int bd), some (rt (t.getD 0 [])), some (.int (restN f b b.length)), some (.int (i : Int)), some (.int (knowN f b b.length i + (knowR f b i j + f (i + 1) (j + 1) * b.getD i 0 * b.getD j 0))), some (.int (j : Int)), none, none, none, none]
      rw [← Int.add_assoc]
      rfl
    · rintro ρ μ3 ⟨rfl, _, x9, rfl⟩
      rw [show max 0 b.length = b.length from by omega]
      exact ⟨rfl, by omega, _, _, rfl⟩
  rintro ρ μ2 ⟨rfl, _, x7, x9, rfl⟩
  rw [show max 0 b.length = b.length from by omega]
  refine ⟨mulOk C.rs, ?_⟩
  refine cel (i := 0) (j := 0) (by omega) (by omega) ⟨mulOk (by have := C.p0; have := C.p1; omega), ?_⟩
  refine if_dec (fun neg => ?_) fun neg => ?_
  · have neg' : insideF f b bd < 0 := neg
    have e : chF rt64 f b bd = [] := by unfold chF; rw [if_pos neg']
    rw [e] at hR
    exact ⟨Nat.zero_le _, fzR.now hR⟩
  have neg' : ¬ insideF f b bd < 0 := neg
  have cd : CDv 0 (f 0 0) := cdvOk (by have := C.p0; omega) (by have := C.p0; have := C.p1; omega)
  have one : CDv 0 (1 : Int) := cdvOk (by decide) (by decide)
  have cin : insideF f b bd < 2 ^ 64 := C.ins
  refine ⟨insideF f b bd, rfl, by have := neg; show 0 ≤ insideF f b bd; exact Int.not_lt.mp neg, cin, ?_⟩
  refine cel (i := 0) (j := 0) (by omega) (by omega) ⟨_, f 0 0, rfl, cd, ?_⟩
  refine cel (i := 0) (j := 0) (by omega) (by omega) ⟨_, f 0 0, rfl, cd, ?_⟩
  refine ⟨_, 1, rfl, one, ?_⟩
  refine ⟨_, 1, rfl, one, ?_⟩
  have el : -((-(loF rt64 f b bd + 0)).fdiv 1) = loF rt64 f b bd := by rw [Int.fdiv_one]; omega
  have eh : (hiF rt64 f b bd + 0).fdiv 1 = hiF rt64 f b bd := by rw [Int.fdiv_one]; omega
  have l1 := C.lo
  have l2 := C.hi
  have l3 := C.few
  have key : ∀ x y : Int, x = loF rt64 f b bd → y = hiF rt64 f b bd → RgOk x (y + 1) ∧ fzR R (.lst (rngD x (y + 1 - x).toNat)) μ2 := fun x y hx hy => by
    subst hx hy
    refine ⟨⟨by omega, by omega, by omega, by omega, by omega⟩, ?_⟩
    have e : rngD (loF rt64 f b bd) (hiF rt64 f b bd + 1 - loF rt64 f b bd).toNat = (chF rt64 f b bd).map D.int := by
      unfold chF
      rw [if_neg neg']
      unfold ivl
      rw [List.map_map, rngD_eq]
      rfl
    rw [e]
    exact fzR.now hR
  exact key _ _ el eh
end
end Gm
end
/-! Ab -/
section
set_option Elab.async false
set_option linter.all false
set_option maxRecDepth 100000
set_option maxHeartbeats 4000000
namespace Gm
open PySem PySem.Spec PyProof.Rows L2 DL Gp
def zeros (n : Nat) : List Int := List.replicate n 0
theorem zeros_get {n i : Nat} : (zeros n).getD i 0 = 0 := by
  unfold zeros
  rw [List.getD_eq_getElem?_getD, List.getElem?_replicate]
  split <;> rfl
abbrev nl (m : Mx) (n : Nat) (N : Int) : Nat → List (List Int) := nlF rt64 m n N
/-- a pair of a vector and itself -/
def vv (v : List Int) : D := .tup [rt v, rt v]
/-- a vector behind its norm -/
def nv (m : Mx) (v : List Int) : D := .tup [.int (prodI m v v), rt v]
theorem py_nv (m : Mx) (v : List Int) : (nv m v).py = .tuple [.int (prodI m v v), .tuple (v.map PyData.int)] := by
  show PyData.tuple [_, (rt v).py] = _
  rw [py_row]
  rfl
theorem nv_sort (m : Mx) (l : List (List Int)) (hl : l.length ≤ sizeLine) : SortOk (l.map (nv m)) := by
  have mem : ∀ d ∈ (l.map (nv m)).map D.py, ∃ v, d = .tuple [.int (prodI m v v), .tuple (v.map PyData.int)] := fun d hd => by
    rw [List.map_map] at hd
    obtain ⟨v, _, rfl⟩ := List.mem_map.mp hd
    exact ⟨v, py_nv m v⟩
  refine ⟨by rw [List.length_map]; exact hl, ?_, fun d hd => ?_, fun a ha b hb => ?_, .inl fun d hd => ?_⟩
  · induction l with
    | nil => rfl
    | cons v l ih =>
      show ((true && (D.flats (v.map D.int) && true)) && D.flats (l.map (nv m))) = true
      rw [flat_ints, ih (by rw [List.length_cons] at hl; omega) fun d hd => mem d (List.mem_cons_of_mem _ hd)]
      rfl
  · obtain ⟨v, _, rfl⟩ := List.mem_map.mp hd
    rw [py_nv]
    have := depth_row v
    rw [PyData.depth]
    have : PyData.depthAll [PyData.int (prodI m v v), .tuple (v.map PyData.int)] ≤ 1 := depthAll_le fun e he => by
      rcases List.mem_cons.mp he with rfl | he
      · exact Nat.zero_le _
      · have : e = .tuple (v.map PyData.int) := by simpa using he
        rw [this]
        exact depth_row v
    omega
  · obtain ⟨v, rfl⟩ := mem a ha
    obtain ⟨u, rfl⟩ := mem b hb
    simp [PySem.W.alike, PySem.W.alikeAll, PySem.W.alike_ints]
  · obtain ⟨v, rfl⟩ := mem d hd
    exact ⟨_, _, rfl⟩
theorem nv_lt {m : Mx} {a b : List Int} (h : prodI m a a < prodI m b b) : dLt (nv m a) (nv m b) = true := by
  show PySem.W.dataLt (nv m a).py (nv m b).py = true
  rw [py_nv, py_nv, PySem.W.dataLt_tuple, PySem.W.dataLt_cons (by simp [PySem.W.alike])]
  have e : PyData.eqv (.int (prodI m a a)) (.int (prodI m b b)) = false := by simp [PyData.eqv]; omega
  rw [e, if_neg Bool.false_ne_true, PySem.W.dataLt_int]
  exact decide_eq_true h
theorem flat_len {α β : Type} (xs : List α) (g : α → List β) {a b : Nat} {v : α} (h : xs[a]? = some v) (hb : b ≤ (g v).length) : ((xs.take a).flatMap g).length + b ≤ (xs.flatMap g).length := by
  obtain ⟨hl, e⟩ := List.getElem?_eq_some_iff.mp h
  have e2 : xs.flatMap g = (xs.take a).flatMap g ++ (xs.drop a).flatMap g := by rw [← List.flatMap_append, List.take_append_drop]
  have e3 : xs.drop a = v :: xs.drop (a + 1) := by rw [List.drop_eq_getElem_cons hl, e]
  rw [e2, e3, List.flatMap_cons, List.length_append, List.length_append]
  omega
section
variable {P : Program} {w : World} {K : PySem.W.Frag} {mg : Str → Option Value} {base : Heap}
def phiNearVectors (K : PySem.W.Frag) : TF := fun ds μ R => ∃ m n N, ds = [lat K m n, rt (zeros n), .int 1, .int N] ∧ LatOk m n ∧ NrOk rt64 m n N ∧
  ∀ vs : List (List Int), vs.Perm (nl m n N n) → vs.Pairwise (fun a b => prodI m a a ≤ prodI m b b) → R (.tup (vs.map rt)) μ
theorem sc_NearVectors : FnScope ["lattice", "a", "d", "most", "gram", "minors", "partial", "k", "tail", "longer", "vector", "behind", "x", "v", "w", "_"] ["lattice", "a", "d", "most"] (defScope sNearVectors) := ⟨rfl, rfl, rfl, by decide +kernel, rfl, by decide +kernel, by decide +kernel⟩
theorem okNearVectors (T : Tx K mg) : FnOk P w K mg base CX0 7 (He.ga K "near_vectors") (fdOf K (He.ga K "near_vectors")) ["lattice", "a", "d", "most"] (spD K (phiNearVectors K)) := by
  have sc := sc_NearVectors
  have FGridLen := okGridLen (P := P) (w := w) (base := base) T
  have FLatticeNorm := okLatticeNorm (P := P) (w := w) (base := base) T
  have FChoices := okChoices (P := P) (w := w) (base := base) T
  have FHeadDeterminants := okHeadDeterminants (P := P) (w := w) (base := base) T
  have FIsPoint := okIsPoint (P := P) (w := w) (base := base) T
  have FTailMatrix := okTailMatrix (P := P) (w := w) (base := base) T
  refine fnd_ok T.d_NearVectors sc (fun ds μ R h => ?len) fun cdv A outer s H E hr => ⟨_, _, (ss_cons (s_if (t_not (t_val (d_call FIsPoint (hr.mono (by decide)) T.g_IsPoint T.d_IsPoint.kp T.b_IsPoint (a_cons (dv 0) (a_cons (dv 1) (a_cons (dv 2) a_nil)))))) (ss_one s_never) ss_nil)
      (ss_cons (s_set 4 sc.nd (d_fld T.cls_Lattice T.no_Lattice_gram (dv 0)))
      (ss_cons (s_set 5 sc.nd (d_call FHeadDeterminants (hr.mono (by decide)) T.g_HeadDeterminants T.d_HeadDeterminants.kp T.b_HeadDeterminants (a_cons (dv 4) a_nil)))
      (ss_cons (s_set 6 sc.nd (d_lst (a_cons (d_tup (a_cons (d_tup a_nil) (a_cons (d_tup a_nil) a_nil))) a_nil)))
      (ss_cons (s_for PassesOwn.never rfl (i_range3 T.n_range (d_callB (c_lenI FGridLen T.m_GridLen (hr.mono (by decide)) T.b_GridLen) T.n_len (a_cons (dv 4) a_nil)) d_int (d_neg d_int)) (g_name 7 sc.nd) (ss_cons (s_set 8 sc.nd (d_call FTailMatrix (hr.mono (by decide)) T.g_TailMatrix T.d_TailMatrix.kp T.b_TailMatrix (a_cons (dv 4) (a_cons (dv 7) a_nil))))
      (ss_cons (s_set 9 sc.nd (d_lstM a_nil))
      (ss_cons (s_for PassesOwn.never rfl (i_seq (d_callTy (c_list) T.n_list (a_cons (dv 6) a_nil))) (g_tup (n := 2) rfl (gs_cons (g_name 10 sc.nd) (gs_cons (g_name 11 sc.nd) gs_nil))) (ss_one (s_for PassesOwn.never rfl (i_seq (d_call FChoices (hr.mono (by decide)) T.g_Choices T.d_Choices.kp T.b_Choices (a_cons (dv 8) (a_cons (dv 11) (a_cons (d_ix (dv 1) (d_bin o_sub (dv 7) d_int)) (a_cons (dv 2) (a_cons (d_bin o_mulI (d_ix (dv 5) (d_bin o_sub (dv 7) d_int)) (dv 3)) a_nil))))))) (g_name 12 sc.nd) (ss_one (s_expr (d_app (dv 9) (d_tup (a_cons (d_bin o_add (d_tup (a_cons (dv 12) a_nil)) (dv 10)) (a_cons (d_bin o_add (d_tup (a_cons (d_bin o_sub (d_bin o_mulI (dv 2) (dv 12)) (d_ix (dv 1) (d_bin o_sub (dv 7) d_int))) a_nil)) (dv 11)) a_nil)))))))))
      (ss_one (s_set 6 sc.nd (d_fz (dv 9))))))))
      (ss_one (s_ret (d_callTy (c_tuple) T.n_tuple (a_cons (d_lc rfl sc.nd (i_seq (d_callB (c_sort (hu hr)) T.n_sorted (a_cons (d_lc rfl sc.nd (i_seq (dv 6)) (blkOk_by (own := [("v", 13), ("w", 14)]) (by first | rfl | kernel_rfl)) fr_two (fun s H C cl fp => (g_tup (n := 2) rfl (gs_cons (g_name 13 sc.nd) (gs_cons (g_name 14 sc.nd) gs_nil)))) (fun s H C cl fp => ts_nil) (fun s H C cl fp => (d_tup (a_cons (d_meth (dv 0) T.cls_Lattice T.m_LatticeNorm FLatticeNorm (hr.mono (by decide)) T.b_LatticeNorm (a_cons (dv 14) a_nil)) (a_cons (dv 13) a_nil))))) a_nil))) (blkOk_by (own := [("_", 15), ("v", 13)]) (by first | rfl | kernel_rfl)) fr_two (fun s H C cl fp => (g_tup (n := 2) rfl (gs_cons (g_name 15 sc.nd) (gs_cons (g_name 13 sc.nd) gs_nil)))) (fun s H C cl fp => ts_nil) (fun s H C cl fp => (dv 13))) a_nil))))))))), fun ds μ R h => ?_⟩
  case len => obtain ⟨m, n, N, rfl, _⟩ := h; rfl
  obtain ⟨m, n, N, rfl, L, C, hR⟩ := h
  have sh := L.sh
  have n3 := L.n3
  have hnl : ((m.length : Nat) : Int) = (n : Int) := by rw [sh.len]
  refine ⟨m, n, zeros n, 1, rfl, by unfold zeros; rw [List.length_replicate, sh.len], sh.sz n3, by decide, ?_⟩
  refine ⟨rfl, _, lk_gram, ?_⟩
  refine ⟨m, n, rfl, L, ?_⟩
  have zl : (zeros n).length = n := by unfold zeros; rw [List.length_replicate]
  have mkvv : ∀ v : List Int, vv v = .tup [rt v, rt v] := fun v => rfl
  have sL := sLine
  -- partial
  refine ⟨Nat.zero_le _, Nat.zero_le _, by show 2 ≤ sizeLine; omega, by show 1 ≤ sizeLine; omega, ?_⟩
  -- the loop downwards
  refine ⟨rfl, m, n, rfl, Int.natCast_nonneg _, by rw [sh.len]; omega, ?_⟩
  rw [sh.len]
  refine ⟨rfl, RB_nat (by omega), RB_nat (n := 0) (by decide), ?_⟩
  have e0 : ((n : Int) - 0).toNat = n := by omega
  rw [e0]
  refine ⟨fun i ρ μ' => μ' = μ ∧ ∃ x7 x8 x9 x10 x11 x12 x13 x14 x15, ρ = [some (lat K m n), some (rt (zeros n)), some (.int 1), some (.int N), some (gr K m n), some (ri (headsL m n)), some (.lst ((nl m n N i).map vv)), x7, x8, x9, x10, x11, x12, x13, x14, x15],
    ⟨rfl, none, none, none, none, none, none, none, none, none, rfl⟩, fun _ _ _ _ => trivial, ?_, ?_⟩
  · rintro i d ρ μ' hd ⟨rfl, x7, x8, x9, x10, x11, x12, x13, x14, x15, rfl⟩
    obtain ⟨hi, rfl⟩ := dwnD_get hd
    obtain ⟨h, hh⟩ : ∃ h, h = n - (i + 1) := ⟨_, rfl⟩
    have hn : h < n := by omega
    have ek : (n : Int) - (i : Nat) = ((h + 1 : Nat) : Int) := by omega
    have ek1 : (n : Int) - (i : Nat) - 1 = (h : Int) := by omega
    rw [ek]
    have ek2 : ((h + 1 : Nat) : Int) - 1 = (h : Int) := by omega
    refine ⟨m, n, h, rfl, L, hn, fun t st et => ?_⟩
    have hs : n - h = i + 1 := by omega
    rw [hs] at st et ⊢
    refine ⟨Nat.zero_le _, fun q hq => ?_⟩
    have len_nl := C.sz i (by omega)
    have ch := C.ch i hi
    rw [← hh] at ch
    refine Sq.lst ?_
    refine for_seq (nl m n N i) vv rfl (fun a ρ μ2 => ∃ x10 x11 x12, μ2 = μ'.put q (.lst ((((nl m n N i).take a).flatMap fun v => (chF rt64 (tailF h (ent m)) v (detF h (ent m) * N)).map fun x => x :: v).map vv)) ∧
      ρ = [some (lat K m n), some (rt (zeros n)), some (.int 1), some (.int N), some (gr K m n), some (ri (headsL m n)), some (.lst ((nl m n N i).map vv)), some (.int ((h + 1 : Nat) : Int)), some (gr K t (i + 1)), some (.adr q), x10, x11, x12, x13, x14, x15]) ⟨x10, x11, x12, rfl, rfl⟩ (fun _ _ _ _ => trivial) ?_ ?_
    · rintro a v ρ μ2 hv ⟨x10, x11, x12, rfl, rfl⟩
      have mv : v ∈ nl m n N i := List.mem_of_getElem? hv
      have lv := nlF_length mv
      refine ⟨rfl, ?_⟩
      have zg : ∀ {Y : D → Sto → Prop} {μ : Sto}, Y (.int 0) μ → pIx (rt (zeros n)) (.int (((h + 1 : Nat) : Int) - 1)) μ Y := fun y => by
        rw [ek2]
        exact pIx.tup (dAt_map 0 (i := h) (by rw [zl]; exact hn) (by rw [zeros_get]; exact y))
      have hg : ∀ {Y : D → Sto → Prop} {μ : Sto}, Y (.int (detF h (ent m))) μ → pIx (ri (headsL m n)) (.int (((h + 1 : Nat) : Int) - 1)) μ Y := fun y => by
        rw [ek2]
        refine pIx.lst (dAt_map 0 (i := h) (by unfold headsL; rw [List.length_map, List.length_range]; exact hn) ?_)
        have e : (headsL m n).getD h 0 = detF h (ent m) := by
          unfold headsL
          rw [getD_map _ _ _ 0 _ (by rw [List.length_range]; exact hn)]
          have : (List.range n).getD h 0 = h := by simp [List.getD_eq_getElem?_getD, hn]
          rw [this]
        rw [e]
        exact y
      refine zg ?_
      refine hg ⟨mulOk (C.hd h hn), ?_⟩
      refine ⟨t, i + 1, v, _, tailF h (ent m), rfl, st, by rw [lv], by omega, fun a b ha hb => et a b (by omega) (by omega), ch v mv, ?_⟩
      refine Sq.lst ?_
      have few : (chF rt64 (tailF h (ent m)) v (detF h (ent m) * N)).length ≤ 250 := by
        unfold chF
        split
        · exact Nat.zero_le _
        · unfold ivl
          rw [List.length_map, List.length_range]
          exact (ch v mv).few
      refine for_seq (chF rt64 (tailF h (ent m)) v (detF h (ent m) * N)) D.int rfl (fun b ρ μ3 => ∃ x12, μ3 = μ'.put q (.lst ((((nl m n N i).take a).flatMap fun v => (chF rt64 (tailF h (ent m)) v (detF h (ent m) * N)).map fun x => x :: v).map vv ++ (((chF rt64 (tailF h (ent m)) v (detF h (ent m) * N)).take b).map fun x => x :: v).map vv)) ∧
        ρ = [some (lat K m n), some (rt (zeros n)), some (.int 1), some (.int N), some (gr K m n), some (ri (headsL m n)), some (.lst ((nl m n N i).map vv)), some (.int ((h + 1 : Nat) : Int)), some (gr K t (i + 1)), some (.adr q), some (rt v), some (rt v), x12, x13, x14, x15]) ⟨x12, by rw [List.take_zero, List.map_nil, List.map_nil, List.append_nil], rfl⟩ (fun _ _ _ _ => trivial) ?_ ?_
      · rintro b x ρ μ3 hx ⟨x12, rfl, rfl⟩
        refine onL_lst Sto.put_same ?_
        have l1 : ([D.int x] ++ v.map D.int).length ≤ sizeLine := by rw [List.length_append, List.length_singleton, List.length_map, lv]; omega
        refine ⟨by show 1 ≤ sizeLine; omega, by show ([D.int x]).length + (v.map D.int).length ≤ sizeLine; rw [← List.length_append]; exact l1, ?_⟩
        refine ⟨mulOk (by decide), ?_⟩
        refine zg ⟨by show 1 ≤ sizeLine; omega, by show ([D.int (1 * x - 0)]).length + (v.map D.int).length ≤ sizeLine; rw [← List.length_append]; simpa using l1, by show 2 ≤ sizeLine; omega, ?_⟩
        refine onL_lst Sto.put_same ⟨?_, ?_⟩
        · have bl : b < (chF rt64 (tailF h (ent m)) v (detF h (ent m) * N)).length := (List.getElem?_eq_some_iff.mp hx).1
          have := flat_len (nl m n N i) (fun v => (chF rt64 (tailF h (ent m)) v (detF h (ent m) * N)).map fun x => x :: v) hv (b := b) (by rw [List.length_map]; omega)
          have sz := C.sz (i + 1) (by omega)
          unfold nlF at sz
          rw [← hh] at sz
          have z2 : ((nl m n N i).flatMap fun v => (chF rt64 (tailF h (ent m)) v (detF h (ent m) * N)).map fun x => x :: v).length ≤ 16000000 := sz
          rw [List.length_append, List.length_map, List.length_map, List.length_map, List.length_take]
          omega
        · refine ⟨_, ?_, rfl⟩
          rw [Sto.put_put]
          have e1 : (1 * x - 0 : Int) = x := by omega
          have e2 : (chF rt64 (tailF h (ent m)) v (detF h (ent m) * N)).take (b + 1) = (chF rt64 (tailF h (ent m)) v (detF h (ent m) * N)).take b ++ [x] := by
            rw [List.take_add_one, hx]
            rfl
          rw [e2, List.map_append, List.map_append, ← List.append_assoc]
          show μ'.put q (.lst (_ ++ [.tup [.tup ([.int x] ++ v.map D.int), .tup ([.int (1 * x - 0)] ++ v.map D.int)]])) = _
          rw [e1]
          rfl
      · rintro ρ μ3 ⟨x12, rfl, rfl⟩
        refine ⟨_, _, _, ?_, rfl⟩
        rw [List.take_length]
        have e2 : (nl m n N i).take (a + 1) = (nl m n N i).take a ++ [v] := by
          rw [List.take_add_one, hv]
          rfl
        rw [e2, List.flatMap_append, List.map_append]
        congr 3
        simp
    · rintro ρ μ2 ⟨x10, x11, x12, rfl, rfl⟩
      rw [List.take_length]
      refine ⟨μ', .lst ((nl m n N (i + 1)).map vv), SubS.put_none hq, .adr hq Sto.put_same ?_, rfl, _, _, _, _, _, _, _, _, _, rfl⟩
      have e : nl m n N (i + 1) = (nl m n N i).flatMap fun v => (chF rt64 (tailF h (ent m)) v (detF h (ent m) * N)).map fun x => x :: v := by
        rw [hh]
        rfl
      rw [e]
      exact Fzs.refl _
  · rintro ρ μ' ⟨rfl, x7, x8, x9, x10, x11, x12, x13, x14, x15, rfl⟩
    rw [dwnD_length]
    have sz : (nl m n N n).length ≤ 16000000 := C.sz n (Nat.le_refl _)
    refine Sq.lst ?_
    refine lc_map (nl m n N n) vv (nv m) rfl (by omega) trivial (fun v hv Y hY => ⟨rfl, rfl, lk_gnone (by decide +kernel), m, n, v, rfl, L, ⟨nlF_length hv, C.vb v hv⟩, by show 2 ≤ sizeLine; omega, hY⟩) ?_
    refine ⟨nv_sort m _ (by omega), ?_⟩
    have srt : ((nl m n N n).map (nv m)).mergeSort dLe = ((nl m n N n).mergeSort fun a b => dLe (nv m a) (nv m b)).map (nv m) := (PySem.W.sort_maps (nv m) fun a _ b _ => rfl).symm
    rw [srt]
    refine Sq.lst ?_
    refine lc_map ((nl m n N n).mergeSort fun a b => dLe (nv m a) (nv m b)) (nv m) rt rfl (by rw [List.length_mergeSort]; omega) trivial (fun v hv Y hY => ⟨rfl, hY⟩) ?_
    refine fzR.now (hR _ (List.mergeSort_perm _ _) ?_)
    have tot : PySem.W.TotalLe (PySem.W.dataLe false fun v => (nv m v).py) := PySem.W.sortLe_total _ _ _
    refine (PySem.W.sort_pairwise tot (nl m n N n)).imp fun {a b} hab => ?_
    by_cases c : prodI m a a ≤ prodI m b b
    · exact c
    · have := nv_lt (m := m) (a := b) (b := a) (by omega)
      have h2 : (!dLt (nv m b) (nv m a)) = true := hab
      rw [this] at h2
      cases h2
end
end Gm
end
/-! Ac -/
section
set_option Elab.async false
set_option linter.all false
set_option maxRecDepth 100000
set_option maxHeartbeats 4000000
namespace Gm
open PySem PySem.Spec PyProof.Rows L2 DL Gp
theorem zeros_rt (n : Nat) : D.tup (List.replicate n [D.int 0]).flatten = rt (zeros n) := by
  unfold zeros rt
  rw [flatten_rep, List.map_replicate]
theorem eqv_rt (v u : List Int) : PyData.eqv (rt v).py (rt u).py = decide (v = u) := by
  rw [py_row, py_row, PyData.eqv]
  exact eqv_ints v u
theorem eqq_rt (v : List Int) : (rt v).eqq := ⟨flat_ints v, by rw [py_row]; have := depth_row v; omega⟩
/-- what short_vectors gives -/
structure SvOk (m : Mx) (n : Nat) (N : Int) (vs : List (List Int)) : Prop where
  mem : ∀ v, v ∈ vs ↔ v ∈ nl m n N n ∧ v ≠ zeros n
  ord : vs.Pairwise (fun a b => prodI m a a ≤ prodI m b b)
  few : vs.length ≤ 16000000
  nd : (nl m n N n).Nodup → vs.Nodup
section
variable {P : Program} {w : World} {K : PySem.W.Frag} {mg : Str → Option Value} {base : Heap}
def phiShortVectors (K : PySem.W.Frag) : TF := fun ds μ R => ∃ m n N, ds = [lat K m n, .int N] ∧ LatOk m n ∧ 1 ≤ N ∧ NrOk rt64 m n N ∧ ∀ vs, SvOk m n N vs → R (.tup (vs.map rt)) μ
theorem sc_ShortVectors : FnScope ["lattice", "most", "zero", "v"] ["lattice", "most"] (defScope sShortVectors) := ⟨rfl, rfl, rfl, by decide +kernel, rfl, by decide +kernel, by decide +kernel⟩
theorem okShortVectors (T : Tx K mg) : FnOk P w K mg base CX0 8 (He.ga K "short_vectors") (fdOf K (He.ga K "short_vectors")) ["lattice", "most"] (spD K (phiShortVectors K)) := by
  have sc := sc_ShortVectors
  have FLatticeRank := okLatticeRank (P := P) (w := w) (base := base) T
  have FNearVectors := okNearVectors (P := P) (w := w) (base := base) T
  refine fnd_ok T.d_ShortVectors sc (fun ds μ R h => ?len) fun cdv A outer s H E hr => ⟨_, _, (ss_cons (s_if (t_cmp o_ltI (dv 1) d_int) (ss_one (s_ret (d_tup a_nil))) ss_nil)
      (ss_cons (s_set 2 sc.nd (d_bin o_repT (d_tup (a_cons d_int a_nil)) (d_meth0 (dv 0) T.cls_Lattice T.m_LatticeRank FLatticeRank (hr.mono (by decide)) T.b_LatticeRank)))
      (ss_one (s_ret (d_callTy (c_tuple) T.n_tuple (a_cons (d_lc rfl sc.nd (i_seq (d_call FNearVectors (hr.mono (by decide)) T.g_NearVectors T.d_NearVectors.kp T.b_NearVectors (a_cons (dv 0) (a_cons (dv 2) (a_cons d_int (a_cons (dv 1) a_nil)))))) (blkOk_by (own := [("v", 3)]) (by first | rfl | kernel_rfl)) fr_name (fun s H C cl fp => (g_name 3 sc.nd)) (fun s H C cl fp => (ts_one (t_cmp (o_ne (hu hr)) (dv 3) (dv 2)))) (fun s H C cl fp => (dv 3))) a_nil)))))), fun ds μ R h => ?_⟩
  case len => obtain ⟨m, n, N, rfl, _⟩ := h; rfl
  obtain ⟨m, n, N, rfl, L, hN, C, hR⟩ := h
  have sh := L.sh
  have n1 := L.n1
  have n3 := L.n3
  have sL := sLine
  refine if_dec (fun c => absurd c (by omega)) fun _ => ?_
  refine ⟨by show 1 ≤ sizeLine; omega, rfl, lk_gnone (by decide +kernel), m, n, rfl, ?_⟩
  rw [sh.len]
  refine ⟨by omega, by omega, by simp, by show 1 ≤ 1000; omega, ?_⟩
  rw [show (n : Int).toNat = n from by omega, zeros_rt]
  refine ⟨m, n, N, rfl, L, C, fun vs pm po => ?_⟩
  have lv : vs.length ≤ 16000000 := by rw [pm.length_eq]; exact C.sz n (Nat.le_refl _)
  refine Sq.tup ?_
  have g : ∀ (b : Bool) (v : List Int), b = decide (v = zeros n) → ∀ A B : Prop, (v ≠ zeros n → A) → (v = zeros n → B) → if (!b) = true then A else B := fun b v e A B hA hB => by
    subst e
    by_cases c : v = zeros n
    · rw [decide_eq_true c]; exact hB c
    · rw [decide_eq_false c]; exact hA c
  refine lc_fil vs rt rt (fun v => decide (v ≠ zeros n)) rfl (by omega) trivial (fun v hv Y N hy hn => ?_) ?_
  · exact ⟨eqq_rt v, eqq_rt (zeros n), g _ v (eqv_rt v (zeros n)) _ _ (fun c => hy (by simpa using c)) fun c => hn (by simpa using c)⟩
  · refine fzR.now (hR _ ⟨fun v => ?_, po.filter _, ?_, fun nd => ?_⟩)
    · rw [List.mem_filter, pm.mem_iff]
      simp
    · have := List.length_filter_le (fun v => decide (v ≠ zeros n)) vs
      omega
    · exact (pm.nodup_iff.mpr nd).filter _
def markI (m : Mx) (T : Mx) (v : List Int) : List Int := prodI m v v :: T.map fun b => prodI m b v
def phiMarkOf (K : PySem.W.Frag) : TF := fun ds μ R => ∃ m n T v, ds = [lat K m n, mt T, rt v] ∧ LatOk m n ∧ T.length ≤ 3 ∧ (∀ b ∈ T, VecOk m n b) ∧ VecOk m n v ∧ R (rt (markI m T v)) μ
theorem sc_MarkOf : FnScope ["lattice", "vectors", "v", "b"] ["lattice", "vectors", "v"] (defScope sMarkOf) := ⟨rfl, rfl, rfl, by decide +kernel, rfl, by decide +kernel, by decide +kernel⟩
theorem okMarkOf (T : Tx K mg) : FnOk P w K mg base CX0 5 (He.ga K "mark_of") (fdOf K (He.ga K "mark_of")) ["lattice", "vectors", "v"] (spD K (phiMarkOf K)) := by
  have sc := sc_MarkOf
  have FLatticeNorm := okLatticeNorm (P := P) (w := w) (base := base) T
  have FLatticeProduct := okLatticeProduct (P := P) (w := w) (base := base) T
  refine fnd_ok T.d_MarkOf sc (fun ds μ R h => ?len) fun cdv A outer s H E hr => ⟨_, _, (ss_one (s_ret (d_bin o_add (d_tup (a_cons (d_meth (dv 0) T.cls_Lattice T.m_LatticeNorm FLatticeNorm (hr.mono (by decide)) T.b_LatticeNorm (a_cons (dv 2) a_nil)) a_nil)) (d_callTy (c_tuple) T.n_tuple (a_cons (d_lc rfl sc.nd (i_seq (dv 1)) (blkOk_by (own := [("b", 3)]) (by first | rfl | kernel_rfl)) fr_name (fun s H C cl fp => (g_name 3 sc.nd)) (fun s H C cl fp => ts_nil) (fun s H C cl fp => (d_meth (dv 0) T.cls_Lattice T.m_LatticeProduct FLatticeProduct (hr.mono (by decide)) T.b_LatticeProduct (a_cons (dv 3) (a_cons (dv 2) a_nil))))) a_nil))))), fun ds μ R h => ?_⟩
  case len => obtain ⟨m, n, T, v, rfl, _⟩ := h; rfl
  obtain ⟨m, n, T, v, rfl, L, hT, hb, hv, hR⟩ := h
  have sL := sLine
  refine ⟨rfl, lk_gnone (by decide +kernel), m, n, v, rfl, L, hv, by show 1 ≤ sizeLine; omega, ?_⟩
  refine Sq.tup ?_
  refine lc_map T rt (fun b => .int (prodI m b v)) rfl (by omega) trivial (fun b hb' Y hY => ⟨rfl, lk_gnone (by decide +kernel), m, n, b, v, rfl, L, hb b hb', hv, hY⟩) ?_
  refine ⟨by show 1 + _ ≤ sizeLine; rw [List.length_map]; omega, ?_⟩
  have e : ([D.int (prodI m v v)] ++ T.map fun b => D.int (prodI m b v)) = (markI m T v).map D.int := by
    unfold markI
    rw [List.map_cons, List.map_map]
    rfl
  rw [e]
  exact fzR.now hR
def phiIsPrimitive : TF := fun ds μ R => ∃ T h n, ds = [mt T] ∧ SmOk T h n ∧ ∀ b : Bool, (b = true ↔ Comp h n (ent T)) → R (.bl b) μ
theorem sc_IsPrimitive : FnScope ["vectors"] ["vectors"] (defScope sIsPrimitive) := ⟨rfl, rfl, rfl, by decide +kernel, rfl, by decide +kernel, by decide +kernel⟩
theorem okIsPrimitive (T : Tx K mg) : FnOk P w K mg base CX0 9 (He.ga K "is_primitive") (fdOf K (He.ga K "is_primitive")) ["vectors"] (spD K phiIsPrimitive) := by
  have sc := sc_IsPrimitive
  have FGridInit := okGridInit (P := P) (w := w) (base := base) T
  have FGridIsPrimitive := okGridIsPrimitive (P := P) (w := w) (base := base) T
  refine fnd_ok T.d_IsPrimitive sc (fun ds μ R h => ?len) fun cdv A outer s H E hr => ⟨_, _, (ss_one (s_ret (d_meth0 (d_make T.mk_Grid FGridInit (hr.mono (by decide)) T.g_Grid T.b2_GridInit.choose_spec.2 T.b2_GridInit.choose_spec.1 atsNon (a_cons (dv 0) a_nil)) T.cls_Grid T.m_GridIsPrimitive FGridIsPrimitive (hr.mono (by decide)) T.b_GridIsPrimitive))), fun ds μ R h => ?_⟩
  case len => obtain ⟨T, h, n, rfl, _⟩ := h; rfl
  obtain ⟨T', h, n, rfl, so, hR⟩ := h
  obtain ⟨a, ha, I⟩ := id so
  have hw := I.hw
  have w3 := I.w3
  have h1 := I.h1
  refine mk_grid1 (m := T') (n := n) .mt (I.sh.sz (by omega)) I.sh.row (fun e => by have := I.sh.len; rw [e] at this; simp at this; omega) ?_
  exact ⟨rfl, lk_none (by decide +kernel) (by decide +kernel), T', h, n, rfl, so, fun b hb => fzR.now (hR b hb)⟩
end
end Gm
end
/-! Lx -/
section
set_option Elab.async false
set_option linter.all false
set_option maxRecDepth 100000
set_option maxHeartbeats 4000000
namespace Gm
open PySem PySem.Spec PyProof.Rows L2 DL Gp
theorem lx_irr : ∀ a : List Int, HT.lexLt a a = false
  | [] => rfl
  | x :: a => by rw [HT.lexLt_cons, if_pos rfl, lx_irr a]
theorem lx_trans : ∀ a b c : List Int, HT.lexLt a b = true → HT.lexLt b c = true → HT.lexLt a c = true
  | [], [], _, h, _ => by cases h
  | [], _ :: _, [], _, h => by cases h
  | [], _ :: _, _ :: _, _, _ => rfl
  | _ :: _, [], _, h, _ => by cases h
  | _ :: _, _ :: _, [], _, h => by cases h
  | x :: a, y :: b, z :: c, h1, h2 => by
    rw [HT.lexLt_cons] at h1 h2 ⊢
    by_cases e1 : x = y
    · rw [if_pos e1] at h1
      by_cases e2 : y = z
      · rw [if_pos e2] at h2
        rw [if_pos (e1.trans e2)]
        exact lx_trans a b c h1 h2
      · rw [if_neg e2] at h2
        rw [if_neg (fun q => e2 (e1 ▸ q)), e1]
        exact h2
    · rw [if_neg e1] at h1
      have l1 := of_decide_eq_true h1
      by_cases e2 : y = z
      · rw [if_neg (fun q => e1 (q.trans e2.symm)), ← e2]
        exact h1
      · rw [if_neg e2] at h2
        have l2 := of_decide_eq_true h2
        rw [if_neg (by omega)]
        exact decide_eq_true (by omega)
theorem lx_tri : ∀ a b : List Int, HT.lexLt a b = false → HT.lexLt b a = false → a = b
  | [], [], _, _ => rfl
  | [], _ :: _, h, _ => by cases h
  | _ :: _, [], _, h => by cases h
  | x :: a, y :: b, h1, h2 => by
    rw [HT.lexLt_cons] at h1 h2
    by_cases e : x = y
    · rw [if_pos e] at h1
      rw [if_pos e.symm] at h2
      rw [e, lx_tri a b h1 h2]
    · rw [if_neg e] at h1
      rw [if_neg (Ne.symm e)] at h2
      have l1 := of_decide_eq_false h1
      have l2 := of_decide_eq_false h2
      omega
theorem lx_le : ∀ (ns ms p1 p2 : List Int), p1.length = p2.length → Ob.lexAt (fun j => decide ((p1 ++ ns).getD j 0 = (p2 ++ ms).getD j 0)) (fun j => decide ((p1 ++ ns).getD j 0 ≤ (p2 ++ ms).getD j 0)) (decide ((p1 ++ ns).length ≤ (p2 ++ ms).length)) p1.length (min ns.length ms.length) = !HT.lexLt ms ns
  | [], [], p1, p2, h => by
    simp [Ob.lexAt, HT.lexLt, h]
  | [], y :: ms, p1, p2, h => by
    simp [Ob.lexAt, HT.lexLt, h]
  | x :: ns, [], p1, p2, h => by
    simp [Ob.lexAt, HT.lexLt, h]
  | x :: ns, y :: ms, p1, p2, h => by
    have g1 : (p1 ++ x :: ns).getD p1.length 0 = x := by simp [List.getD_eq_getElem?_getD]
    have g2 : (p2 ++ y :: ms).getD p1.length 0 = y := by rw [h]; simp [List.getD_eq_getElem?_getD]
    rw [List.length_cons, List.length_cons, show min (ns.length + 1) (ms.length + 1) = min ns.length ms.length + 1 from by omega, Ob.lexAt_succ, g1, g2, HT.lexLt_cons]
    by_cases e : x = y
    · have ih := lx_le ns ms (p1 ++ [x]) (p2 ++ [y]) (by simp [h])
      rw [List.append_assoc, List.append_assoc, show (p1 ++ [x]).length = p1.length + 1 from by simp] at ih
      rw [if_pos (decide_eq_true e), if_pos e.symm]
      exact ih
    · rw [if_neg (by simp [e]), if_neg (Ne.symm e)]
      by_cases c : y < x
      · have : ¬ x ≤ y := by omega
        simp [c, this]
      · have : x ≤ y := by omega
        simp [c, this]
theorem lexLeB_eq (ns ms : List Int) : lexLeB ns ms = !HT.lexLt ms ns := lx_le ns ms [] [] rfl
end Gm
end
/-! Lc -/
section
set_option Elab.async false
set_option linter.all false
set_option maxRecDepth 100000
set_option maxHeartbeats 4000000
namespace Gm
open PySem PySem.Spec PyProof.Rows L2 DL Gp
/-- the rows of W complete to a unimodular matrix -/
def Pr (n : Nat) (W : Mx) : Prop := Comp W.length n (ent W)
/-- the pairs in the order of the loops -/
def prs (Ts : List Mx) (vs : List (List Int)) : List (Mx × List Int) := vs.flatMap fun v => Ts.map fun T => (T, v)
abbrev mmt (Ts : List Mx) : D := .tup (Ts.map mt)
/-- best and found, over the pairs done so far -/
inductive Lc (m : Mx) (n : Nat) (ps : List (Mx × List Int)) : Option (List Int) → List Mx → Prop where
  | nil (h : ∀ p ∈ ps, ¬ Pr n (p.1 ++ [p.2])) : Lc m n ps none []
  | one (mk : List Int) (F : List Mx) (ex : ∃ p ∈ ps, Pr n (p.1 ++ [p.2]) ∧ markI m p.1 p.2 = mk) (le : ∀ p ∈ ps, Pr n (p.1 ++ [p.2]) → HT.lexLt (markI m p.1 p.2) mk = false)
      (mem : ∀ W, W ∈ F ↔ ∃ p ∈ ps, Pr n (p.1 ++ [p.2]) ∧ markI m p.1 p.2 = mk ∧ W = p.1 ++ [p.2]) (few : F.length ≤ (ps.filter fun p => decide (markI m p.1 p.2 = mk)).length) (nd : ps.Nodup → F.Nodup) : Lc m n ps (some mk) F
/-- one pair more -/
theorem Lc.step {m : Mx} {n : Nat} {ps : List (Mx × List Int)} {best : Option (List Int)} {F : List Mx} (h : Lc m n ps best F) (p : Mx × List Int) :
    (¬ Pr n (p.1 ++ [p.2]) → Lc m n (ps ++ [p]) best F) ∧
    (Pr n (p.1 ++ [p.2]) → (best = none → Lc m n (ps ++ [p]) (some (markI m p.1 p.2)) [p.1 ++ [p.2]]) ∧ ∀ mk, best = some mk →
      (HT.lexLt mk (markI m p.1 p.2) = true → Lc m n (ps ++ [p]) best F) ∧ (HT.lexLt (markI m p.1 p.2) mk = true → Lc m n (ps ++ [p]) (some (markI m p.1 p.2)) [p.1 ++ [p.2]]) ∧ (markI m p.1 p.2 = mk → Lc m n (ps ++ [p]) best (F ++ [p.1 ++ [p.2]]))) := by
  have mem1 : ∀ q, q ∈ ps ++ [p] ↔ q ∈ ps ∨ q = p := fun q => by rw [List.mem_append, List.mem_singleton]
  have fm : ∀ (mk : List Int), (ps.filter fun p => decide (markI m p.1 p.2 = mk)).length ≤ ((ps ++ [p]).filter fun p => decide (markI m p.1 p.2 = mk)).length := fun mk => by
    rw [List.filter_append, List.length_append]
    omega
  have one1 : ∀ (mk : List Int), markI m p.1 p.2 = mk → ([p].filter fun p => decide (markI m p.1 p.2 = mk)).length = 1 := fun mk e => by
    rw [List.filter_cons, if_pos (decide_eq_true e)]
    rfl
  have ndp : (ps ++ [p]).Nodup → ps.Nodup := fun h => (List.nodup_append.mp h).1
  have fresh : ∀ mk, (∀ q ∈ ps, Pr n (q.1 ++ [q.2]) → HT.lexLt mk (markI m q.1 q.2) = true) → Pr n (p.1 ++ [p.2]) → markI m p.1 p.2 = mk → Lc m n (ps ++ [p]) (some mk) [p.1 ++ [p.2]] := fun mk lt hp e => by
    refine .one mk _ ⟨p, (mem1 p).mpr (.inr rfl), hp, e⟩ (fun q hq hP => ?_) (fun W => ⟨fun hW => ?_, fun ⟨q, hq, hP, e2, eW⟩ => ?_⟩) ?_ fun _ => (List.pairwise_singleton _ _)
    · rcases (mem1 q).mp hq with hq | rfl
      · cases c : HT.lexLt (markI m q.1 q.2) mk with
        | false => rfl
        | true => exact absurd (lx_trans _ _ _ c (lt q hq hP)) (by rw [lx_irr]; exact Bool.false_ne_true)
      · rw [e]
        exact lx_irr mk
    · exact ⟨p, (mem1 p).mpr (.inr rfl), hp, e, List.mem_singleton.mp hW⟩
    · rcases (mem1 q).mp hq with hq | rfl
      · have := lt q hq hP
        rw [e2, lx_irr] at this
        exact absurd this Bool.false_ne_true
      · exact List.mem_singleton.mpr eW
    · rw [List.filter_append, List.length_append, one1 mk e]
      simp
  constructor
  · intro np
    cases h with
    | nil h =>
      refine .nil fun q hq => ?_
      rcases (mem1 q).mp hq with hq | rfl
      · exact h q hq
      · exact np
    | one mk _ ex le mem few nd =>
      obtain ⟨q, hq, h1, h2⟩ := ex
      refine .one mk _ ⟨q, (mem1 q).mpr (.inl hq), h1, h2⟩ (fun q hq hP => ?_) (fun W => ?_) (Nat.le_trans few (fm mk)) fun h => nd (ndp h)
      · rcases (mem1 q).mp hq with hq | rfl
        · exact le q hq hP
        · exact absurd hP np
      · rw [mem W]
        refine ⟨fun ⟨q, hq, r⟩ => ⟨q, (mem1 q).mpr (.inl hq), r⟩, fun ⟨q, hq, hP, r⟩ => ?_⟩
        rcases (mem1 q).mp hq with hq | rfl
        · exact ⟨q, hq, hP, r⟩
        · exact absurd hP np
  · intro hp
    constructor
    · intro hb
      cases h with
      | nil h => exact fresh _ (fun q hq hP => absurd hP (h q hq)) hp rfl
      | one mk _ ex le mem few nd => cases hb
    · intro mk0 hb
      cases h with
      | nil h => cases hb
      | one mk _ ex le mem few nd =>
        obtain rfl : mk = mk0 := Option.some.inj hb
        refine ⟨fun lt => ?_, fun lt => ?_, fun e => ?_⟩
        · obtain ⟨q, hq, h1, h2⟩ := ex
          refine .one mk _ ⟨q, (mem1 q).mpr (.inl hq), h1, h2⟩ (fun q hq hP => ?_) (fun W => ?_) (Nat.le_trans few (fm mk)) fun h => nd (ndp h)
          · rcases (mem1 q).mp hq with hq | rfl
            · exact le q hq hP
            · cases c : HT.lexLt (markI m q.1 q.2) mk with
              | false => rfl
              | true => exact absurd (lx_trans _ _ _ c lt) (by rw [lx_irr]; exact Bool.false_ne_true)
          · rw [mem W]
            refine ⟨fun ⟨q, hq, r⟩ => ⟨q, (mem1 q).mpr (.inl hq), r⟩, fun ⟨q, hq, hP, r⟩ => ?_⟩
            rcases (mem1 q).mp hq with hq | rfl
            · exact ⟨q, hq, hP, r⟩
            · rw [r.1, lx_irr] at lt
              cases lt
        · refine fresh _ (fun q hq hP => ?_) hp rfl
          cases c : HT.lexLt mk (markI m q.1 q.2) with
          | true => exact lx_trans _ _ _ lt c
          | false =>
            rw [← lx_tri _ _ c (le q hq hP)]
            exact lt
        · obtain ⟨q0, hq0, h1, h2⟩ := ex
          refine .one mk _ ⟨q0, (mem1 q0).mpr (.inl hq0), h1, h2⟩ (fun q hq hP => ?_) (fun W => ?_) ?_ fun hN => ?_
          · rcases (mem1 q).mp hq with hq | rfl
            · exact le q hq hP
            · rw [e]
              exact lx_irr mk
          · rw [List.mem_append, List.mem_singleton, mem W]
            refine ⟨fun h => h.elim (fun ⟨q, hq, r⟩ => ⟨q, (mem1 q).mpr (.inl hq), r⟩) fun hW => ⟨p, (mem1 p).mpr (.inr rfl), hp, e, hW⟩, fun ⟨q, hq, hP, r⟩ => ?_⟩
            rcases (mem1 q).mp hq with hq | rfl
            · exact .inl ⟨q, hq, hP, r⟩
            · exact .inr r.2
          · rw [List.filter_append, List.length_append, List.length_append, one1 mk e, List.length_singleton]
            omega
          · refine List.nodup_append.mpr ⟨nd (ndp hN), (List.pairwise_singleton _ _), fun W hW W' hW' eW => ?_⟩
            rw [List.mem_singleton.mp hW'] at eW
            obtain ⟨q, hq, _, _, e3⟩ := (mem W).mp hW
            have hh := List.append_inj' (e3.symm.trans eW) rfl
            have eq : q = p := Prod.ext hh.1 (List.cons.inj hh.2).1
            subst eq
            exact (List.nodup_append.mp hN).2.2 q hq q (List.mem_singleton.mpr rfl) rfl
/-- pairs behind, none of which can be better -/
theorem Lc.stop {m : Mx} {n : Nat} {ps qs : List (Mx × List Int)} {mk : List Int} {F : List Mx} (h : Lc m n ps (some mk) F) (hq : ∀ p ∈ qs, HT.lexLt mk (markI m p.1 p.2) = true) : Lc m n (ps ++ qs) (some mk) F := by
  cases h with
  | one _ _ ex le mem few nd =>
    obtain ⟨q0, hq0, h1, h2⟩ := ex
    refine .one mk _ ⟨q0, List.mem_append_left _ hq0, h1, h2⟩ (fun q hq2 hP => ?_) (fun W => ?_) ?_ fun hN => nd (List.nodup_append.mp hN).1
    · rcases List.mem_append.mp hq2 with hq2 | hq2
      · exact le q hq2 hP
      · cases c : HT.lexLt (markI m q.1 q.2) mk with
        | false => rfl
        | true => exact absurd (lx_trans _ _ _ c (hq q hq2)) (by rw [lx_irr]; exact Bool.false_ne_true)
    · rw [mem W]
      refine ⟨fun ⟨q, hq, r⟩ => ⟨q, List.mem_append_left _ hq, r⟩, fun ⟨q, hq2, hP, r⟩ => ?_⟩
      rcases List.mem_append.mp hq2 with hq2 | hq2
      · exact ⟨q, hq2, hP, r⟩
      · have := hq q hq2
        rw [r.1, lx_irr] at this
        cases this
    · rw [List.filter_append, List.length_append]
      omega
theorem Lc.few' {m : Mx} {n : Nat} {ps : List (Mx × List Int)} {best : Option (List Int)} {F : List Mx} (h : Lc m n ps best F) (hf : ∀ mk, (ps.filter fun p => decide (markI m p.1 p.2 = mk)).length ≤ 16000000) : F.length ≤ 16000000 := by
  cases h with
  | nil h => exact Nat.zero_le _
  | one mk _ ex le mem few nd => exact Nat.le_trans few (hf mk)
theorem Lc.ne {m : Mx} {n : Nat} {ps : List (Mx × List Int)} {best : Option (List Int)} {F : List Mx} (h : Lc m n ps best F) : ∀ W ∈ F, W ≠ [] := by
  cases h with
  | nil h => exact fun W hW => by cases hW
  | one mk _ ex le mem few nd =>
    intro W hW e
    obtain ⟨p, _, _, _, h4⟩ := (mem W).mp hW
    rw [e] at h4
    have := congrArg List.length h4
    simp at this
theorem Lc.perm {m : Mx} {n : Nat} {ps : List (Mx × List Int)} {best : Option (List Int)} {F F' : List Mx} (h : Lc m n ps best F) (hp : F'.Perm F) : Lc m n ps best F' := by
  cases h with
  | nil h =>
    rw [hp.eq_nil]
    exact .nil h
  | one mk _ ex le mem few nd => exact .one mk _ ex le (fun W => by rw [hp.mem_iff]; exact mem W) (by rw [hp.length_eq]; exact few) fun h => hp.nodup_iff.mpr (nd h)
end Gm
end
/-! Ad -/
section
set_option Elab.async false
set_option linter.all false
set_option maxRecDepth 100000
set_option maxHeartbeats 4000000
namespace Gm
open PySem PySem.Spec PyProof.Rows L2 DL Gp
def optD : Option (List Int) → D
  | none => .non
  | some mk => rt mk
/-- the texts' own wants -/
structure LcOk (m : Mx) (n k : Nat) (N : Int) (Ts : List Mx) : Prop where
  L : LatOk m n
  n1 : 1 ≤ N
  nr : NrOk rt64 m n N
  kn : k < n
  tl : ∀ T ∈ Ts, T.length = k
  tv : ∀ T ∈ Ts, ∀ b ∈ T, VecOk m n b
  vv : ∀ v ∈ nl m n N n, VecOk m n v
  sm : ∀ T ∈ Ts, ∀ v ∈ nl m n N n, v ≠ zeros n → SmOk (T ++ [v]) (k + 1) n
  few : ∀ vs, SvOk m n N vs → ∀ mk, ((prs Ts vs).filter fun p => decide (markI m p.1 p.2 = mk)).length ≤ 16000000
  fewT : Ts.length ≤ 16000000
theorem markI_len {m T : Mx} {v : List Int} : (markI m T v).length = T.length + 1 := by simp [markI]
theorem alike_rows : ∀ xs ys : Mx, PySem.W.alikeAll (xs.map fun r => PyData.tuple (r.map PyData.int)) (ys.map fun r => PyData.tuple (r.map PyData.int)) = true
  | [], _ => by simp [PySem.W.alikeAll]
  | _ :: _, [] => by simp [PySem.W.alikeAll]
  | x :: xs, y :: ys => by
    rw [List.map_cons, List.map_cons, PySem.W.alikeAll, alike_rows xs ys]
    simp [PySem.W.alike, PySem.W.alike_ints]
theorem mt_sort (F : List Mx) (hl : F.length ≤ sizeLine) (hne : ∀ W ∈ F, W ≠ []) : SortOk (F.map mt) := by
  have mem : ∀ d ∈ (F.map mt).map D.py, ∃ W ∈ F, d = .tuple (W.map fun r => .tuple (r.map PyData.int)) := fun d hd => by
    rw [List.map_map] at hd
    obtain ⟨W, hW, rfl⟩ := List.mem_map.mp hd
    exact ⟨W, hW, py_mt W⟩
  refine ⟨by rw [List.length_map]; exact hl, ?_, fun d hd => ?_, fun a ha b hb => ?_, .inl fun d hd => ?_⟩
  · have : ∀ l : List Mx, D.flats (l.map mt) = true := fun l => by
      induction l with
      | nil => rfl
      | cons W l ih =>
        show (D.flats (W.map rt) && D.flats (l.map mt)) = true
        rw [flat_rows, ih]
        rfl
    exact this F
  · obtain ⟨W, _, rfl⟩ := List.mem_map.mp hd
    have := depth_mt W
    omega
  · obtain ⟨W, _, rfl⟩ := mem a ha
    obtain ⟨W', _, rfl⟩ := mem b hb
    rw [PySem.W.alike]
    exact alike_rows W W'
  · obtain ⟨W, hW, rfl⟩ := mem d hd
    cases W with
    | nil => exact absurd rfl (hne _ hW)
    | cons r W => exact ⟨_, _, rfl⟩
section
variable {P : Program} {w : World} {K : PySem.W.Frag} {mg : Str → Option Value} {base : Heap}
def phiLeastContinued (K : PySem.W.Frag) : TF := fun ds μ R => ∃ m n k N Ts, ds = [lat K m n, mmt Ts, .int N] ∧ LcOk m n k N Ts ∧
  ∀ vs best F, SvOk m n N vs → Lc m n (prs Ts vs) best F → R (.tup [optD best, mmt F]) μ
theorem sc_LeastContinued : FnScope ["lattice", "tuples", "bound", "best", "found", "v", "norm", "vectors", "mark"] ["lattice", "tuples", "bound"] (defScope sLeastContinued) := ⟨rfl, rfl, rfl, by decide +kernel, rfl, by decide +kernel, by decide +kernel⟩
theorem okLeastContinued (T : Tx K mg) : FnOk P w K mg base CX0 10 (He.ga K "least_continued") (fdOf K (He.ga K "least_continued")) ["lattice", "tuples", "bound"] (spD K (phiLeastContinued K)) := by
  have sc := sc_LeastContinued
  have FLatticeNorm := okLatticeNorm (P := P) (w := w) (base := base) T
  have FIsPrimitive := okIsPrimitive (P := P) (w := w) (base := base) T
  have FMarkOf := okMarkOf (P := P) (w := w) (base := base) T
  have FShortVectors := okShortVectors (P := P) (w := w) (base := base) T
  refine fnd_ok T.d_LeastContinued sc (fun ds μ R h => ?len) fun cdv A outer s H E hr => ⟨_, _, (ss_cons (s_set 3 sc.nd d_non)
      (ss_cons (s_set 4 sc.nd (d_lstM a_nil))
      (ss_cons (s_for PassesOwn.never rfl (i_seq (d_call FShortVectors (hr.mono (by decide)) T.g_ShortVectors T.d_ShortVectors.kp T.b_ShortVectors (a_cons (dv 0) (a_cons (dv 2) a_nil)))) (g_name 5 sc.nd) (ss_cons (s_set 6 sc.nd (d_meth (dv 0) T.cls_Lattice T.m_LatticeNorm FLatticeNorm (hr.mono (by decide)) T.b_LatticeNorm (a_cons (dv 5) a_nil)))
      (ss_cons (s_if (t_w (tw_and (t_cmp o_notN (dv 3) d_non) (tw_and1 (t_cmp o_gtI (dv 6) (d_ix (dv 3) d_int))))) (ss_one s_brk) ss_nil)
      (ss_one (s_for PassesOwn.never rfl (i_seq (dv 1)) (g_name 7 sc.nd) (ss_cons (s_set 8 sc.nd (d_call FMarkOf (hr.mono (by decide)) T.g_MarkOf T.d_MarkOf.kp T.b_MarkOf (a_cons (dv 0) (a_cons (dv 7) (a_cons (dv 5) a_nil)))))
      (ss_one (s_if (t_w (tw_and (t_w (tw_or (t_cmp o_isN (dv 3) d_non) (tw_or1 (t_cmp (o_leT (hu0 hr)) (dv 8) (dv 3))))) (tw_and1 (t_val (d_call FIsPrimitive (hr.mono (by decide)) T.g_IsPrimitive T.d_IsPrimitive.kp T.b_IsPrimitive (a_cons (d_bin o_add (dv 7) (d_tup (a_cons (dv 5) a_nil))) a_nil)))))) (ss_cons (s_if (t_w (tw_or (t_cmp o_isN (dv 3) d_non) (tw_or1 (t_cmp (o_ltT (hu0 hr)) (dv 8) (dv 3))))) (ss_cons (s_set 3 sc.nd (dv 8))
      (ss_one (s_set 4 sc.nd (d_lstM a_nil)))) ss_nil)
      (ss_one (s_expr (d_app (dv 4) (d_bin o_add (dv 7) (d_tup (a_cons (dv 5) a_nil))))))) ss_nil))))))))
      (ss_one (s_ret (d_tup (a_cons (dv 3) (a_cons (d_callTy (c_tuple) T.n_tuple (a_cons (d_callB (c_sort (hu hr)) T.n_sorted (a_cons (dv 4) a_nil)) a_nil)) a_nil)))))))), fun ds μ R h => ?_⟩
  case len => obtain ⟨m, n, k, N, Ts, rfl, _⟩ := h; rfl
  obtain ⟨m, n, k, N, Ts, rfl, C, hR⟩ := h
  have L := C.L
  have sL := sLine
  refine ⟨Nat.zero_le _, fun q0 hq0 => ?_⟩
  refine ⟨m, n, N, rfl, L, C.n1, C.nr, fun vs sv => ?_⟩
  refine Sq.tup ?_
  have fin : ∀ (best : Option (List Int)) (F : List Mx) (q : Addr) (μ' : Sto) (x5 x6 x7 x8 : Option D), Lc m n (prs Ts vs) best F → SubS μ μ' → μ q = none → μ' q = some (.lst (F.map mt)) →
      sRet (dTup (dCons (dVar 3) (dCons (dCB pTuple (dCons (dCB pSort (dCons (dVar 4) dNil)) dNil)) dNil))) { nx := fun _ μ' => fzR R .non μ', rt := fzR R } [some (lat K m n), some (mmt Ts), some (.int N), some (optD best), some (.adr q), x5, x6, x7, x8] μ' := by
    intro best F q μ' x5 x6 x7 x8 lc sub hq hF
    have srt : (F.map mt).mergeSort dLe = (F.mergeSort fun a b => dLe (mt a) (mt b)).map mt := (PySem.W.sort_maps mt fun a _ b _ => rfl).symm
    have fw : F.length ≤ 16000000 := lc.few' fun mk => C.few vs sv mk
    refine onL_lst hF ⟨mt_sort F (by omega) lc.ne, ?_⟩
    rw [srt]
    refine ⟨by show 2 ≤ sizeLine; omega, μ, _, sub, .same _, hR vs best _ sv (lc.perm (List.mergeSort_perm _ _))⟩
  refine for_seq vs rt rfl (fun i ρ μ' => ∃ best F q x5 x6 x7 x8, Lc m n (prs Ts (vs.take i)) best F ∧ SubS μ μ' ∧ μ q = none ∧ μ' q = some (.lst (F.map mt)) ∧
    ρ = [some (lat K m n), some (mmt Ts), some (.int N), some (optD best), some (.adr q), x5, x6, x7, x8]) ⟨none, [], q0, none, none, none, none, .nil (fun p hp => by simp [prs] at hp), SubS.put_none hq0, hq0, Sto.put_same, rfl⟩ (fun _ _ _ _ => trivial) ?_ ?_
  · rintro i v ρ μ' hv ⟨best, F, q, x5, x6, x7, x8, lc, sub, hq, hF, rfl⟩
    have mv := List.mem_of_getElem? hv
    have mv2 := (sv.mem v).mp mv
    have vok := C.vv v mv2.1
    refine ⟨rfl, lk_gnone (by decide +kernel), m, n, v, rfl, L, vok, ?_⟩
    have split : prs Ts vs = prs Ts (vs.take i) ++ prs Ts (vs.drop i) := by
      unfold prs
      rw [← List.flatMap_append, List.take_append_drop]
    have stp : prs Ts (vs.take (i + 1)) = prs Ts (vs.take i) ++ Ts.map fun T => (T, v) := by
      unfold prs
      rw [List.take_add_one, hv, List.flatMap_append]
      simp
    -- the tuples
    have inner : ∀ (x6 x7 x8 : Option D), sFor (iSeq (dVar 1)) (gNm 7) (sSeq (sAsg (dCall (phiMarkOf K) [] (dCons (dVar 0) (dCons (dVar 7) (dCons (dVar 5) dNil)))) (gNm 8)) (sIf (dAndT (dOrT (asT (d2 pIsN (dVar 3) (dC .non))) (asT (d2 (pTup2 lexLeB) (dVar 8) (dVar 3)))) (asT (dCall phiIsPrimitive [] (dCons (d2 pAdd (dVar 7) (dTup (dCons (dVar 5) dNil))) dNil)))) (sSeq (sIf (dOrT (asT (d2 pIsN (dVar 3) (dC .non))) (asT (d2 (pTup2 HT.lexLt) (dVar 8) (dVar 3)))) (sSeq (sAsg (dVar 8) (gNm 3)) (sAsg (dLstM dNil) (gNm 4))) sNext) (sDrop (dApp (dVar 4) (d2 pAdd (dVar 7) (dTup (dCons (dVar 5) dNil)))))) sNext))
        { nx := fun ρ μ' => ∃ best F q x5 x6 x7 x8, Lc m n (prs Ts (vs.take (i + 1))) best F ∧ SubS μ μ' ∧ μ q = none ∧ μ' q = some (.lst (F.map mt)) ∧ ρ = [some (lat K m n), some (mmt Ts), some (.int N), some (optD best), some (.adr q), x5, x6, x7, x8],
          ct := fun ρ μ' => ∃ best F q x5 x6 x7 x8, Lc m n (prs Ts (vs.take (i + 1))) best F ∧ SubS μ μ' ∧ μ q = none ∧ μ' q = some (.lst (F.map mt)) ∧ ρ = [some (lat K m n), some (mmt Ts), some (.int N), some (optD best), some (.adr q), x5, x6, x7, x8],
          rt := fzR R, bk := sRet (dTup (dCons (dVar 3) (dCons (dCB pTuple (dCons (dCB pSort (dCons (dVar 4) dNil)) dNil)) dNil))) { nx := fun _ μ' => fzR R .non μ', rt := fzR R } }
        [some (lat K m n), some (mmt Ts), some (.int N), some (optD best), some (.adr q), some (rt v), x6, x7, x8] μ' := by
      intro x6 x7 x8
      refine Sq.tup ?_
      refine for_seq Ts mt rfl (fun j ρ μ2 => ∃ best F q x7 x8, Lc m n (prs Ts (vs.take i) ++ (Ts.take j).map fun T => (T, v)) best F ∧ SubS μ μ2 ∧ μ q = none ∧ μ2 q = some (.lst (F.map mt)) ∧
        ρ = [some (lat K m n), some (mmt Ts), some (.int N), some (optD best), some (.adr q), some (rt v), x6, x7, x8]) ⟨best, F, q, x7, x8, by simpa using lc, sub, hq, hF, rfl⟩ (fun _ _ _ _ => trivial) ?_ ?_
      · clear lc sub hq hF x7 x8 fin
        rintro j T' ρ μ2 hT ⟨best, F, q, x7, x8, lc, sub, hq, hF, rfl⟩
        have mT := List.mem_of_getElem? hT
        have tl := C.tl T' mT
        have kn := C.kn
        have n3 := L.n3
        have St := lc.step (T', v)
        have tk : (prs Ts (vs.take i) ++ (Ts.take (j + 1)).map fun T => (T, v)) = (prs Ts (vs.take i) ++ (Ts.take j).map fun T => (T, v)) ++ [(T', v)] := by
          rw [List.take_add_one, hT, List.map_append, ← List.append_assoc]
          rfl
        have addv : ∀ {Y : D → Sto → Prop} {μ : Sto}, Y (mt (T' ++ [v])) μ → pAdd (mt T') (.tup [rt v]) μ Y := fun {Y μ} y => by
          refine ⟨by show (T'.map rt).length + 1 ≤ sizeLine; rw [List.length_map]; omega, ?_⟩
          have e : T'.map rt ++ [rt v] = (T' ++ [v]).map rt := by rw [List.map_append]; rfl
          rw [e]
          exact y
        have prim : ∀ {Y : D → Sto → Prop} {μ : Sto}, (∀ b : Bool, (b = true ↔ Pr n (T' ++ [v])) → Y (.bl b) μ) → phiIsPrimitive [mt (T' ++ [v])] μ Y := fun y => by
          refine ⟨T' ++ [v], k + 1, n, rfl, C.sm T' mT v mv2.1 mv2.2, fun b hb => y b ?_⟩
          have e : (T' ++ [v]).length = k + 1 := by rw [List.length_append, List.length_singleton, tl]
          unfold Pr
          rw [e]
          exact hb
        have eqT : [D.tup (T'.map rt ++ [rt v])] = [mt (T' ++ [v])] := by
          have e : T'.map rt ++ [rt v] = (T' ++ [v]).map rt := by rw [List.map_append]; rfl
          rw [e]
        have eqW : D.tup (T'.map rt ++ [rt v]) = mt (T' ++ [v]) := by
          have e : T'.map rt ++ [rt v] = (T' ++ [v]).map rt := by rw [List.map_append]; rfl
          rw [e]
        have pr1 : ∀ {b : Bool}, (b = true ↔ Comp (k + 1) n (ent (T' ++ [v]))) → (b = true ↔ Pr n (T' ++ [v])) := fun {b} hb => by
          have e : (T' ++ [v]).length = k + 1 := by rw [List.length_append, List.length_singleton, tl]
          unfold Pr
          rw [e]
          exact hb
        have len1 : (T'.map rt).length + [rt v].length ≤ sizeLine := by show (T'.map rt).length + 1 ≤ sizeLine; rw [List.length_map]; omega
        have go : ∀ (best : Option (List Int)) (F : List Mx) (q : Addr) (μ3 : Sto) (x7 x8 : Option D), Lc m n ((prs Ts (vs.take i) ++ (Ts.take j).map fun T => (T, v)) ++ [(T', v)]) best F → SubS μ μ3 → μ q = none → μ3 q = some (.lst (F.map mt)) →
            ∃ best' F' q' x7' x8', Lc m n (prs Ts (vs.take i) ++ (Ts.take (j + 1)).map fun T => (T, v)) best' F' ∧ SubS μ μ3 ∧ μ q' = none ∧ μ3 q' = some (.lst (F'.map mt)) ∧ [some (lat K m n), some (mmt Ts), some (.int N), some (optD best), some (.adr q), some (rt v), x6, x7, x8] = [some (lat K m n), some (mmt Ts), some (.int N), some (optD best'), some (.adr q'), some (rt v), x6, x7', x8'] := fun best F q μ3 x7 x8 l s1 h1 h2 => ⟨best, F, q, x7, x8, by rw [tk]; exact l, s1, h1, h2, rfl⟩
        refine ⟨m, n, T', v, rfl, L, by omega, C.tv T' mT, vok, ?_⟩
        have fewF : ∀ (b : Option (List Int)) (G : List Mx), Lc m n (prs Ts (vs.take i) ++ (Ts.take j).map fun T => (T, v)) b G → G.length ≤ 16000000 := fun b G lg => lg.few' fun mk => by
          have sub2 : ((prs Ts (vs.take i) ++ (Ts.take j).map fun T => (T, v)).filter fun p => decide (markI m p.1 p.2 = mk)).length ≤ ((prs Ts vs).filter fun p => decide (markI m p.1 p.2 = mk)).length := by
            have e1 : prs Ts vs = prs Ts (vs.take (i + 1)) ++ prs Ts (vs.drop (i + 1)) := by
              unfold prs
              rw [← List.flatMap_append, List.take_append_drop]
            have e2 : (Ts.map fun T => (T, v)) = (Ts.take j).map (fun T => (T, v)) ++ (Ts.drop j).map fun T => (T, v) := by rw [← List.map_append, List.take_append_drop]
            rw [e1, stp, e2]
            simp only [List.filter_append, List.length_append]
            omega
          exact Nat.le_trans sub2 (C.few vs sv mk)
        have stay : Lc m n ((prs Ts (vs.take i) ++ (Ts.take j).map fun T => (T, v)) ++ [(T', v)]) best F → ∀ x7 x8, _ := fun l x7 x8 => go best F q μ2 x7 x8 l sub hq hF
        have put : ∀ {G : List Mx} {q : Addr} {μ3 : Sto} {W : Mx}, (μ3.put q (.lst (G.map mt ++ [mt W]))) q = some (.lst ((G ++ [W]).map mt)) := fun {G q μ3 W} => by
          rw [Sto.put_same, List.map_append]
          rfl
        cases best with
        | none =>
          refine ⟨show 1 ≤ sizeLine by decide, ?_⟩
          refine ⟨len1, ?_⟩
          refine ⟨T' ++ [v], k + 1, n, eqT, C.sm T' mT v mv2.1 mv2.2, fun b hb0 => ?_⟩
          have hb := pr1 hb0
          cases b with
          | false => exact stay (St.1 fun z => Bool.false_ne_true (hb.mpr z)) (some (mt T')) (some (rt (markI m T' v)))
          | true =>
            have nw := (St.2 (hb.mp rfl)).1 rfl
            refine ⟨Nat.zero_le _, fun p hp => ?_⟩
            have hpm := sub_none sub hp
            refine onL_lst Sto.put_same ?_
            refine ⟨show 1 ≤ sizeLine by decide, ?_⟩
            refine ⟨len1, ?_⟩
            refine onL_lst Sto.put_same ?_
            refine ⟨show 0 < sizeLine by decide, ?_⟩
            rw [eqW]
            exact go (some _) [T' ++ [v]] p _ _ _ nw ((sub.put hpm).put hpm) hpm (put (G := []))
        | some mk =>
          refine onTs_map (onTs_map ?_)
          rw [lexLeB_eq]
          cases c : HT.lexLt mk (markI m T' v) with
          | true =>
            refine stay ?_ (some (mt T')) (some (rt (markI m T' v)))
            by_cases z : Pr n (T' ++ [v])
            · exact ((St.2 z).2 mk rfl).1 c
            · exact St.1 z
          | false =>
            refine ⟨show 1 ≤ sizeLine by decide, ?_⟩
            refine ⟨len1, ?_⟩
            refine ⟨T' ++ [v], k + 1, n, eqT, C.sm T' mT v mv2.1 mv2.2, fun b hb0 => ?_⟩
            have hb := pr1 hb0
            cases b with
            | false => exact stay (St.1 fun z => Bool.false_ne_true (hb.mpr z)) (some (mt T')) (some (rt (markI m T' v)))
            | true =>
              have nw := (St.2 (hb.mp rfl)).2 mk rfl
              refine onTs_map (onTs_map ?_)
              cases c2 : HT.lexLt (markI m T' v) mk with
              | true =>
                refine ⟨Nat.zero_le _, fun p hp => ?_⟩
                have hpm := sub_none sub hp
                refine onL_lst Sto.put_same ?_
                refine ⟨show 1 ≤ sizeLine by decide, ?_⟩
                refine ⟨len1, ?_⟩
                refine onL_lst Sto.put_same ?_
                refine ⟨show 0 < sizeLine by decide, ?_⟩
                rw [eqW]
                exact go (some _) [T' ++ [v]] p _ _ _ (nw.2.1 c2) ((sub.put hpm).put hpm) hpm (put (G := []))
              | false =>
                have em := lx_tri _ _ c2 c
                refine onL_lst hF ?_
                refine ⟨show 1 ≤ sizeLine by decide, ?_⟩
                refine ⟨len1, ?_⟩
                refine onL_lst hF ?_
                rw [eqW]
                refine ⟨?_, ?_⟩
                · have := fewF _ _ lc
                  rw [List.length_map]
                  omega
                · exact go (some mk) (F ++ [T' ++ [v]]) q _ _ _ (nw.2.2 em) (sub.put hq) hq put
      · rintro ρ μ2 ⟨best, F, q, x7, x8, lc, sub, hq, hF, rfl⟩
        rw [List.take_length, ← stp] at lc
        exact ⟨best, F, q, _, _, _, _, lc, sub, hq, hF, rfl⟩
    cases best with
    | none => exact inner _ _ _
    | some mk =>
      have hmk : ∃ p : Mx × List Int, markI m p.1 p.2 = mk := by
        cases lc with
        | one _ _ ex le mem few nd =>
          obtain ⟨p, _, _, e⟩ := ex
          exact ⟨p, e⟩
      obtain ⟨p0, hp0⟩ := hmk
      have hm0 : mk = prodI m p0.2 p0.2 :: p0.1.map fun b => prodI m b p0.2 := hp0.symm
      refine pIx.tup (dAt_map (xs := mk) 0 (i := 0) (by rw [hm0]; simp) ?_)
      refine if_dec (fun c => ?_) fun c => inner _ _ _
      have c2 : mk.getD 0 0 < prodI m v v := c
      refine fin (some mk) F q μ' _ _ _ _ ?_ sub hq hF
      rw [split]
      refine lc.stop fun p hp => ?_
      have hd : vs.drop i = v :: vs.drop (i + 1) := by
        obtain ⟨hl, e⟩ := List.getElem?_eq_some_iff.mp hv
        rw [List.drop_eq_getElem_cons hl, e]
      have ord : ∀ u ∈ vs.drop i, prodI m v v ≤ prodI m u u := fun u hu => by
        have pw := sv.ord.sublist (List.drop_sublist i vs)
        rw [hd] at pw hu
        rcases List.mem_cons.mp hu with rfl | hu
        · exact Int.le_refl _
        · exact (List.pairwise_cons.mp pw).1 u hu
      obtain ⟨u, hu, hT⟩ := List.mem_flatMap.mp hp
      obtain ⟨T', _, rfl⟩ := List.mem_map.mp hT
      have := ord u hu
      rw [hm0] at c2 ⊢
      have c3 : prodI m p0.2 p0.2 < prodI m v v := c2
      show HT.lexLt _ (prodI m u u :: _) = true
      rw [HT.lexLt_cons, if_neg (by omega)]
      exact decide_eq_true (by omega)
  · rintro ρ μ' ⟨best, F, q, x5, x6, x7, x8, lc, sub, hq, hF, rfl⟩
    rw [List.take_length] at lc
    exact fin best F q μ' x5 x6 x7 x8 lc sub hq hF
end
end Gm
end
/-! Lv -/
section
set_option Elab.async false
set_option linter.all false
set_option maxRecDepth 100000
set_option maxHeartbeats 4000000
namespace Gm
open PySem PySem.Spec PyProof.Rows L2 DL Gp
/-- mk is the least mark of a continuation of Ts, F holds all continuations of that mark -/
structure Mn (m : Mx) (n : Nat) (Ts : List Mx) (mk : List Int) (F : List Mx) : Prop where
  ex : ∃ T ∈ Ts, ∃ v : List Int, v.length = n ∧ Pr n (T ++ [v]) ∧ markI m T v = mk
  le : ∀ T ∈ Ts, ∀ v : List Int, v.length = n → Pr n (T ++ [v]) → HT.lexLt (markI m T v) mk = false
  mem : ∀ W, W ∈ F ↔ ∃ T ∈ Ts, ∃ v : List Int, v.length = n ∧ Pr n (T ++ [v]) ∧ markI m T v = mk ∧ W = T ++ [v]
  nd : F.Nodup
/-- the levels, as the text makes them -/
inductive Lvl (m : Mx) (n : Nat) : Nat → List Mx → List (List Int × List Mx) → Prop where
  | zero : Lvl m n 0 [[]] []
  | succ {k : Nat} {Ts F : List Mx} {out : List (List Int × List Mx)} {mk : List Int} (h : Lvl m n k Ts out) (M : Mn m n Ts mk F) : Lvl m n (k + 1) F (out ++ [(mk, F)])
structure LvOk (m : Mx) (n : Nat) : Prop where
  L : LatOk m n
  dg : ∀ i, i < n → 1 ≤ ent m i i ∧ ent m i i < 300
  mem : ∀ N, 1 ≤ N → N < 600 → ∀ v, v ∈ nl m n N n ↔ v.length = n ∧ prodI m v v ≤ N
  nd : ∀ N, (nl m n N n).Nodup
  ok : ∀ k Ts out N, Lvl m n k Ts out → k < n → 1 ≤ N → N < 600 → LcOk m n k N Ts
  fw : ∀ Ts out, Lvl m n n Ts out → Ts.length ≤ 16000000
  go : ∀ k Ts out, Lvl m n k Ts out → k < n → ∃ T ∈ Ts, ∃ v : List Int, v.length = n ∧ Pr n (T ++ [v]) ∧ prodI m v v < 300
theorem Lvl.nd {m : Mx} {n k : Nat} {Ts : List Mx} {out : List (List Int × List Mx)} (h : Lvl m n k Ts out) : Ts.Nodup := by
  cases h with
  | zero => exact List.pairwise_singleton _ _
  | succ h M => exact M.nd
theorem mem_prs {Ts : List Mx} {vs : List (List Int)} {p : Mx × List Int} : p ∈ prs Ts vs ↔ p.1 ∈ Ts ∧ p.2 ∈ vs := by
  unfold prs
  rw [List.mem_flatMap]
  constructor
  · rintro ⟨v, hv, h⟩
    obtain ⟨T, hT, rfl⟩ := List.mem_map.mp h
    exact ⟨hT, hv⟩
  · rintro ⟨h1, h2⟩
    exact ⟨p.2, h2, List.mem_map.mpr ⟨p.1, h1, rfl⟩⟩
theorem prs_nd {Ts : List Mx} (h1 : Ts.Nodup) : ∀ {vs : List (List Int)}, vs.Nodup → (prs Ts vs).Nodup
  | [], _ => List.Pairwise.nil
  | v :: vs, h => by
    have hc := List.nodup_cons.mp h
    show ((Ts.map fun T => (T, v)) ++ prs Ts vs).Nodup
    refine List.nodup_append.mpr ⟨List.Pairwise.map _ (fun a b hab e => hab (Prod.mk.inj e).1) h1, prs_nd h1 hc.2, fun p hp q hq e => ?_⟩
    obtain ⟨T, _, rfl⟩ := List.mem_map.mp hp
    have := (mem_prs.mp hq).2
    rw [← e] at this
    exact hc.1 this
theorem prod_zeros {m : Mx} {n : Nat} (L : LatOk m n) : prodI m (zeros n) (zeros n) = 0 := by
  have z : ∀ xs : List Int, dotI (zeros n) xs = 0 := fun xs => by
    unfold dotI zeros
    have : ∀ (k : Nat) (ys : List Int), (((List.replicate k (0 : Int)).zip ys).map fun p => p.1 * p.2).sum = 0 := fun k => by
      induction k with
      | zero => intro ys; simp
      | succ k ih =>
        intro ys
        cases ys with
        | nil => simp
        | cons y ys => rw [List.replicate_succ, List.zip_cons_cons, List.map_cons, List.sum_cons, ih ys]; simp
    exact this n xs
  exact z _
/-- a vector that completes is not 0 -/
theorem Pr.nz {n : Nat} {T : Mx} (h : Pr n (T ++ [zeros n])) (hl : T.length < n) (h3 : n ≤ 3) : False := by
  obtain ⟨F, hF, hd⟩ := h
  have r0 : ∀ j, j < n → F T.length j = 0 := fun j hj => by
    rw [hF T.length j (by rw [List.length_append, List.length_singleton]; omega) hj]
    unfold ent
    have e : (T ++ [zeros n]).getD T.length [] = zeros n := by simp [List.getD_eq_getElem?_getD]
    rw [e]
    exact zeros_get
  obtain ⟨c, hc⟩ := det_row h3 hl F fun j hj _ => r0 j hj
  rw [r0 _ hl, Int.zero_mul] at hc
  rcases hd with e | e <;> omega
/-- what was found within a bound is the least of all -/
theorem Lc.mn {m : Mx} {n k : Nat} {N : Int} {Ts F : List Mx} {vs : List (List Int)} {out : List (List Int × List Mx)} {mk : List Int} (A : LvOk m n) (lv : Lvl m n k Ts out) (kn : k < n) (h1 : 1 ≤ N) (h6 : N < 600) (sv : SvOk m n N vs) (h : Lc m n (prs Ts vs) (some mk) F) : Mn m n Ts mk F := by
  have C := A.ok k Ts out N lv kn h1 h6
  have mv : ∀ v, v ∈ vs ↔ (v.length = n ∧ prodI m v v ≤ N) ∧ v ≠ zeros n := fun v => by rw [sv.mem, A.mem N h1 h6]
  have nz : ∀ T ∈ Ts, ∀ v, Pr n (T ++ [v]) → v ≠ zeros n := fun T hT v hp e => by
    subst e
    exact hp.nz (by rw [C.tl T hT]; exact kn) A.L.n3
  cases h with
  | one _ _ ex le mem few nd =>
    obtain ⟨p, hp, h1', h2⟩ := ex
    have hpm := mem_prs.mp hp
    have hpv := (mv p.2).mp hpm.2
    refine ⟨⟨p.1, hpm.1, p.2, hpv.1.1, h1', h2⟩, fun T hT v hl hP => ?_, fun W => ?_, nd (prs_nd lv.nd (sv.nd (A.nd N)))⟩
    · by_cases c : prodI m v v ≤ N
      · exact le (T, v) (mem_prs.mpr ⟨hT, (mv v).mpr ⟨⟨hl, c⟩, nz T hT v hP⟩⟩) hP
      · rw [← h2]
        show HT.lexLt (prodI m v v :: _) (prodI m p.2 p.2 :: _) = false
        have := hpv.1.2
        rw [HT.lexLt_cons, if_neg (by omega)]
        exact decide_eq_false (by omega)
    · rw [mem W]
      constructor
      · rintro ⟨q, hq, r1, r2, r3⟩
        have := mem_prs.mp hq
        exact ⟨q.1, this.1, q.2, ((mv q.2).mp this.2).1.1, r1, r2, r3⟩
      · rintro ⟨T, hT, v, hl, r1, r2, r3⟩
        refine ⟨(T, v), mem_prs.mpr ⟨hT, (mv v).mpr ⟨⟨hl, ?_⟩, nz T hT v r1⟩⟩, r1, r2, r3⟩
        have : prodI m v v = prodI m p.2 p.2 := by
          have e := r2.trans h2.symm
          exact (List.cons.inj e).1
        rw [this]
        exact hpv.1.2
/-- nothing found: the bound is small -/
theorem Lc.low {m : Mx} {n k : Nat} {N : Int} {Ts F : List Mx} {vs : List (List Int)} {out : List (List Int × List Mx)} (A : LvOk m n) (lv : Lvl m n k Ts out) (kn : k < n) (h1 : 1 ≤ N) (h6 : N < 600) (sv : SvOk m n N vs) (h : Lc m n (prs Ts vs) none F) : N < 300 := by
  have C := A.ok k Ts out N lv kn h1 h6
  have mv : ∀ v, v ∈ vs ↔ (v.length = n ∧ prodI m v v ≤ N) ∧ v ≠ zeros n := fun v => by rw [sv.mem, A.mem N h1 h6]
  obtain ⟨T, hT, v, hl, hp, hb⟩ := A.go k Ts out lv kn
  refine Int.not_le.mp fun z => ?_
  cases h with
  | nil h =>
    refine h (T, v) (mem_prs.mpr ⟨hT, (mv v).mpr ⟨⟨hl, by omega⟩, fun e => ?_⟩⟩) hp
    subst e
    exact Pr.nz hp (by rw [C.tl T hT]; exact kn) A.L.n3
end Gm
end
/-! Ae -/
section
set_option Elab.async false
set_option linter.all false
set_option maxRecDepth 100000
set_option maxHeartbeats 4000000
namespace Gm
open PySem PySem.Spec PyProof.Rows L2 DL Gp
section
variable {P : Program} {w : World} {K : PySem.W.Frag} {mg : Str → Option Value} {base : Heap}
def lvD (p : List Int × List Mx) : D := .tup [rt p.1, mmt p.2]
def phiLevels (K : PySem.W.Frag) : TF := fun ds μ R => ∃ m n, ds = [lat K m n] ∧ LvOk m n ∧ ∀ Ts out, Lvl m n n Ts out → R (.tup (out.map lvD)) μ
theorem sc_Levels : FnScope ["lattice", "i", "bound", "tuples", "out", "_", "mark", "found"] ["lattice"] (defScope sLevels) := ⟨rfl, rfl, rfl, by decide +kernel, rfl, by decide +kernel, by decide +kernel⟩
theorem okLevels (T : Tx K mg) : FnOk P w K mg base CX0 11 (He.ga K "levels") (fdOf K (He.ga K "levels")) ["lattice"] (spD K (phiLevels K)) := by
  have sc := sc_Levels
  have FLatticeRank := okLatticeRank (P := P) (w := w) (base := base) T
  have FLeastContinued := okLeastContinued (P := P) (w := w) (base := base) T
  refine fnd_ok T.d_Levels sc (fun ds μ R h => ?len) fun cdv A outer s H E hr => ⟨_, _, (ss_cons (s_set 2 sc.nd (d_callB (c_min rfl) T.n_min (a_cons (d_lc rfl sc.nd (i_range1 T.n_range (d_meth0 (dv 0) T.cls_Lattice T.m_LatticeRank FLatticeRank (hr.mono (by decide)) T.b_LatticeRank)) (blkOk_by (own := [("i", 1)]) (by first | rfl | kernel_rfl)) fr_name (fun s H C cl fp => (g_name 1 sc.nd)) (fun s H C cl fp => ts_nil) (fun s H C cl fp => (d_ix (d_ix (d_fld T.cls_Grid T.no_Grid_rows (d_fld T.cls_Lattice T.no_Lattice_gram (dv 0))) (dv 1)) (dv 1)))) a_nil)))
      (ss_cons (s_set 3 sc.nd (d_tup (a_cons (d_tup a_nil) a_nil)))
      (ss_cons (s_set 4 sc.nd (d_lstM a_nil))
      (ss_cons (s_for PassesOwn.never rfl (i_range1 T.n_range (d_meth0 (dv 0) T.cls_Lattice T.m_LatticeRank FLatticeRank (hr.mono (by decide)) T.b_LatticeRank)) (g_name 5 sc.nd) (ss_cons (s_asg (d_call FLeastContinued (hr.mono (by decide)) T.g_LeastContinued T.d_LeastContinued.kp T.b_LeastContinued (a_cons (dv 0) (a_cons (dv 3) (a_cons (dv 2) a_nil)))) (g_tup (n := 2) rfl (gs_cons (g_name 6 sc.nd) (gs_cons (g_name 7 sc.nd) gs_nil))))
      (ss_cons (s_while PassesOwn.never (t_cmp o_isN (dv 6) d_non) (ss_cons (s_set 2 sc.nd (d_bin o_mulI d_int (dv 2)))
      (ss_one (s_asg (d_call FLeastContinued (hr.mono (by decide)) T.g_LeastContinued T.d_LeastContinued.kp T.b_LeastContinued (a_cons (dv 0) (a_cons (dv 3) (a_cons (dv 2) a_nil)))) (g_tup (n := 2) rfl (gs_cons (g_name 6 sc.nd) (gs_cons (g_name 7 sc.nd) gs_nil)))))))
      (ss_cons (s_expr (d_app (dv 4) (d_tup (a_cons (dv 6) (a_cons (dv 7) a_nil)))))
      (ss_one (s_set 3 sc.nd (dv 7)))))))
      (ss_one (s_ret (d_callTy (c_tuple) T.n_tuple (a_cons (dv 4) a_nil)))))))), fun ds μ R h => ?_⟩
  case len => obtain ⟨m, n, rfl, _⟩ := h; rfl
  obtain ⟨m, n, rfl, A, hR⟩ := h
  have L := A.L
  have sL := sLine
  have sh := L.sh
  have n1 := L.n1
  have n3 := L.n3
  have hnl : ((m.length : Nat) : Int) = (n : Int) := by rw [sh.len]
  refine ⟨rfl, lk_gnone (by decide +kernel), m, n, rfl, ?_⟩
  rw [hnl]
  refine ⟨RB_nat (by omega), ?_⟩
  refine lc_map (List.range n) (fun i : Nat => .int (i : Int)) (fun i => .int (ent m i i)) (rng0 n) (by rw [List.length_range]; omega) trivial (fun i hi Y hY => ?_) ?_
  · have hi' := List.mem_range.mp hi
    refine ⟨rfl, _, lk_gram, ?_⟩
    refine ⟨rfl, _, lk_rows, ?_⟩
    refine pIx.tup (dAt_map [] (by rw [sh.len]; exact hi') ?_)
    exact pIx.tup (dAt_map 0 (by rw [sh.get hi']; exact hi') hY)
  have ed : ((List.range n).map fun i => D.int (ent m i i)) = ((List.range n).map fun i => ent m i i).map D.int := by rw [List.map_map]; rfl
  rw [ed]
  refine onNs_map ⟨by rw [List.length_map, List.length_range]; omega, fun b0 hb0 _ => ?_⟩
  have hb : 1 ≤ b0 ∧ b0 < 300 := by
    obtain ⟨i, hi, rfl⟩ := List.mem_map.mp hb0
    exact A.dg i (List.mem_range.mp hi)
  refine ⟨Nat.zero_le _, ?_⟩
  refine ⟨by show 1 ≤ sizeLine; omega, ?_⟩
  refine ⟨Nat.zero_le _, fun q hq => ?_⟩
  refine ⟨rfl, lk_gnone (by decide +kernel), m, n, rfl, ?_⟩
  rw [hnl]
  refine ⟨RB_nat (by omega), ?_⟩
  refine for_rng 0 n rfl (by omega) (fun k ρ μ' => ∃ Ts out b x5 x6 x7, Lvl m n k Ts out ∧ out.length = k ∧ 1 ≤ b ∧ b < 600 ∧ μ' = μ.put q (.lst (out.map lvD)) ∧
    ρ = [some (lat K m n), none, some (.int b), some (mmt Ts), some (.adr q), x5, x6, x7]) ⟨[[]], [], b0, none, none, none, .zero, rfl, hb.1, by omega, rfl, rfl⟩ ?_ ?_
  · rintro k ρ μ' _ hk ⟨Ts, out, b, x5, x6, x7, lv, lo, hb1, hb6, rfl, rfl⟩
    refine ⟨m, n, k, b, Ts, rfl, A.ok k Ts out b lv hk hb1 hb6, fun vs best F sv lc => ?_⟩
    refine ⟨rfl, ?_⟩
    refine ⟨fun mm ρ μ2 => ∃ b best F vs, mm = 600 - b.toNat ∧ 1 ≤ b ∧ b < 600 ∧ SvOk m n b vs ∧ Lc m n (prs Ts vs) best F ∧ μ2 = μ.put q (.lst (out.map lvD)) ∧
      ρ = [some (lat K m n), none, some (.int b), some (mmt Ts), some (.adr q), some (.int k), some (optD best), some (mmt F)], ⟨_, b, best, F, vs, rfl, hb1, hb6, sv, lc, rfl, rfl⟩, ?_⟩
    rintro mm ρ μ2 ⟨b, best, F, vs, rfl, hb1, hb6, sv, lc, rfl, rfl⟩
    cases best with
    | none =>
      have low := lc.low A lv hk hb1 hb6 sv
      refine ⟨mulOk (by omega), ?_⟩
      refine ⟨m, n, k, 2 * b, Ts, rfl, A.ok k Ts out (2 * b) lv hk (by omega) (by omega), fun vs best F sv lc => ?_⟩
      refine ⟨rfl, ?_⟩
      exact ⟨_, by omega, 2 * b, best, F, vs, rfl, by omega, by omega, sv, lc, rfl, rfl⟩
    | some mk =>
      have M := lc.mn A lv hk hb1 hb6 sv
      refine onL_lst Sto.put_same ?_
      refine ⟨by show 2 ≤ sizeLine; omega, ?_⟩
      refine onL_lst Sto.put_same ⟨by rw [List.length_map]; omega, ?_⟩
      refine ⟨F, out ++ [(mk, F)], b, _, _, _, lv.succ M, by simp [lo], hb1, hb6, ?_, rfl⟩
      rw [Sto.put_put, List.map_append]
      rfl
  · rintro ρ μ' ⟨Ts, out, b, x5, x6, x7, lv, lo, hb1, hb6, rfl, rfl⟩
    rw [Nat.max_eq_right (Nat.zero_le _)] at lv
    exact onL_lst Sto.put_same ⟨μ, _, SubS.put_none hq, .same _, hR Ts out lv⟩
end
end Gm
end
/-! Af -/
section
set_option Elab.async false
set_option linter.all false
set_option maxRecDepth 100000
set_option maxHeartbeats 4000000
namespace Gm
open PySem PySem.Spec PyProof.Rows L2 DL Gp
section
variable {P : Program} {w : World} {K : PySem.W.Frag} {mg : Str → Option Value} {base : Heap}
theorem Lvl.last {m : Mx} {n k : Nat} {Ts : List Mx} {out : List (List Int × List Mx)} (h : Lvl m n k Ts out) (hk : 1 ≤ k) : ∃ o mk, out = o ++ [(mk, Ts)] := by
  cases h with
  | zero => omega
  | succ h M => exact ⟨_, _, rfl⟩
theorem Lvl.len {m : Mx} {n k : Nat} {Ts : List Mx} {out : List (List Int × List Mx)} (h : Lvl m n k Ts out) : out.length = k := by
  induction h with
  | zero => rfl
  | succ h M ih => rw [List.length_append, ih]; rfl
theorem Lvl.tlen {m : Mx} {n k : Nat} {Ts : List Mx} {out : List (List Int × List Mx)} (h : Lvl m n k Ts out) : ∀ T ∈ Ts, Sh T k n := by
  induction h with
  | zero => exact fun T hT => by rw [List.mem_singleton.mp hT]; exact ⟨rfl, fun r hr => by cases hr⟩
  | succ h M ih =>
    intro W hW
    obtain ⟨T, hT, v, hl, _, _, rfl⟩ := (M.mem W).mp hW
    have := ih T hT
    refine ⟨by rw [List.length_append, this.len]; rfl, fun r hr => ?_⟩
    rcases List.mem_append.mp hr with hr | hr
    · exact this.row r hr
    · rw [List.mem_singleton.mp hr]
      exact hl
def phiLeastBases (K : PySem.W.Frag) : TF := fun ds μ R => ∃ m n, ds = [lat K m n] ∧ LvOk m n ∧ ∀ Ts out, Lvl m n n Ts out → R (.tup (Ts.map fun T => gr K T n)) μ
theorem sc_LeastBases : FnScope ["lattice", "vectors"] ["lattice"] (defScope sLeastBases) := ⟨rfl, rfl, rfl, by decide +kernel, rfl, by decide +kernel, by decide +kernel⟩
theorem okLeastBases (T : Tx K mg) : FnOk P w K mg base CX0 12 (He.ga K "least_bases") (fdOf K (He.ga K "least_bases")) ["lattice"] (spD K (phiLeastBases K)) := by
  have sc := sc_LeastBases
  have FGridInit := okGridInit (P := P) (w := w) (base := base) T
  have FLevels := okLevels (P := P) (w := w) (base := base) T
  refine fnd_ok T.d_LeastBases sc (fun ds μ R h => ?len) fun cdv A outer s H E hr => ⟨_, _, (ss_one (s_ret (d_callTy (c_tuple) T.n_tuple (a_cons (d_lc rfl sc.nd (i_seq (d_ix (d_ix (d_call FLevels (hr.mono (by decide)) T.g_Levels T.d_Levels.kp T.b_Levels (a_cons (dv 0) a_nil)) (d_neg d_int)) d_int)) (blkOk_by (own := [("vectors", 1)]) (by first | rfl | kernel_rfl)) fr_name (fun s H C cl fp => (g_name 1 sc.nd)) (fun s H C cl fp => ts_nil) (fun s H C cl fp => (d_make T.mk_Grid FGridInit (hr.mono (by decide)) T.g_Grid T.b2_GridInit.choose_spec.2 T.b2_GridInit.choose_spec.1 atsNon (a_cons (dv 1) a_nil)))) a_nil)))), fun ds μ R h => ?_⟩
  case len => obtain ⟨m, n, rfl, _⟩ := h; rfl
  obtain ⟨m, n, rfl, A, hR⟩ := h
  have L := A.L
  have sL := sLine
  have n1 := L.n1
  have n3 := L.n3
  refine ⟨m, n, rfl, A, fun Ts out lv => ?_⟩
  obtain ⟨o, mk, rfl⟩ := lv.last n1
  have fw := A.fw Ts _ lv
  have lst : atI ((o ++ [(mk, Ts)]).map lvD) (-1) = some (lvD (mk, Ts)) := by
    have e : ixN (((o ++ [(mk, Ts)]).map lvD).length) (-1) = some o.length := by
      unfold ixN
      rw [List.length_map, List.length_append, List.length_singleton, if_neg (by omega), if_pos (by omega)]
      congr 1
      omega
    unfold atI
    rw [e]
    simp
  refine pIx.tup ⟨_, lst, ?_⟩
  refine pIx.tup (dAt_nat (i := 1) (Nat.lt_succ_self 1) ?_)
  refine Sq.tup ?_
  refine lc_map Ts mt (fun T => gr K T n) rfl (by omega) trivial (fun T hT Y hY => ?_) ?_
  · have sh := lv.tlen T hT
    exact mk_grid1 .mt (by rw [sh.len]; omega) sh.row (fun e => by have := sh.len; rw [e] at this; simp at this; omega) hY
  · exact fzR.now (hR Ts _ lv)
end
end Gm
end
/-! Ns -/
section
set_option Elab.async false
set_option linter.all false
set_option maxRecDepth 100000
set_option maxHeartbeats 4000000
namespace Gm
open PySem PySem.Spec PyProof.Rows L2 DL Gp
abbrev ri' (r : List Int) : MO := .lst (r.map D.int)
/-- a table of the store: a list of lists, all new since μ0 -/
structure Nst (μ0 μ : Sto) (q : Addr) (qs : List Addr) (t : Mx) : Prop where
  sub : SubS μ0 μ
  q0 : μ0 q = none
  top : μ q = some (.lst (qs.map D.adr))
  len : qs.length = t.length
  nd : qs.Nodup
  nq : q ∉ qs
  row : ∀ i p, qs[i]? = some p → μ0 p = none ∧ μ p = some (.lst ((t.getD i []).map D.int))
section
variable {μ0 μ : Sto} {q : Addr} {qs : List Addr} {t : Mx}
theorem Nst.at (N : Nst μ0 μ q qs t) {i : Nat} {R : RD} (hi : i < t.length) (hR : ∀ p, qs[i]? = some p → R (.adr p) μ) : pIx (.adr q) (.int (i : Int)) μ R := by
  have hi' : i < qs.length := by rw [N.len]; exact hi
  exact pIx.adr N.top (dAt_map default hi' (hR _ (by rw [List.getD_eq_getElem?_getD]; simp [hi'])))
theorem Nst.rd (N : Nst μ0 μ q qs t) {i k : Nat} {R : RD} (hi : i < t.length) (hk : k < (t.getD i []).length) (hR : R (.int (ent t i k)) μ) : pIx (.adr q) (.int (i : Int)) μ fun e μ1 => pIx e (.int (k : Int)) μ1 R :=
  N.at hi fun p hp => pIx.adr (N.row i p hp).2 (dAt_map 0 hk hR)
theorem Nst.set (N : Nst μ0 μ q qs t) {i j : Nat} {p : Addr} {x : Int} (hp : qs[i]? = some p) : Nst μ0 (μ.put p (.lst (((t.getD i []).set j x).map D.int))) q qs (t.set i ((t.getD i []).set j x)) := by
  have hi := (List.getElem?_eq_some_iff.mp hp).1
  have mp := List.mem_of_getElem? hp
  have r := N.row i p hp
  refine ⟨N.sub.put r.1, N.q0, ?_, by rw [List.length_set]; exact N.len, N.nd, N.nq, fun i' p' hp' => ?_⟩
  · rw [Sto.put_ne fun e => N.nq (by rw [e]; exact mp)]
    exact N.top
  · refine ⟨(N.row i' p' hp').1, ?_⟩
    by_cases e : i' = i
    · subst e
      rw [hp] at hp'
      cases hp'
      rw [Sto.put_same]
      have hl : i' < t.length := by rw [← N.len]; exact hi
      simp [List.getD_eq_getElem?_getD, hl]
    · have hne : p' ≠ p := fun z => e ((List.getElem?_inj (List.getElem?_eq_some_iff.mp hp').1 N.nd).mp (by rw [hp', hp, z]))
      rw [Sto.put_ne hne, (N.row i' p' hp').2]
      rw [List.getD_eq_getElem?_getD, List.getD_eq_getElem?_getD, List.getElem?_set_ne (fun z => e z.symm)]
theorem Nst.st (N : Nst μ0 μ q qs t) {i j : Nat} {p : Addr} {x : Int} {Y : Sto → Prop} (hp : qs[i]? = some p) (hj : j < (t.getD i []).length)
    (hY : Nst μ0 (μ.put p (.lst (((t.getD i []).set j x).map D.int))) q qs (t.set i ((t.getD i []).set j x)) → Y (μ.put p (.lst (((t.getD i []).set j x).map D.int)))) :
    onL (μ p) fun ds => ∃ jj, ixN ds.length (j : Int) = some jj ∧ Y (μ.put p (.lst (ds.set jj (.int x)))) := by
  refine onL_lst (N.row i p hp).2 ⟨j, ?_, ?_⟩
  · unfold ixN
    rw [List.length_map, if_pos (by omega), if_pos (by omega)]
    rfl
  · rw [← List.map_set]
    exact hY (N.set hp)
theorem Nst.base (N : Nst μ0 μ q qs t) {p : Addr} {o o' : MO} (hp : μ0 p = some o) : Nst (μ0.put p o') (μ.put p o') q qs t := by
  have ne : ∀ p', μ0 p' = none → p' ≠ p := fun p' h e => by rw [e, hp] at h; cases h
  refine ⟨fun p' o2 h => ?_, by rw [Sto.put_ne (ne _ N.q0)]; exact N.q0, by rw [Sto.put_ne (ne _ N.q0)]; exact N.top, N.len, N.nd, N.nq, fun i p' hp' => ?_⟩
  · by_cases e : p' = p
    · subst e
      rw [Sto.put_same] at h ⊢
      exact h
    · rw [Sto.put_ne e] at h ⊢
      exact N.sub _ _ h
  · have r := N.row i p' hp'
    rw [Sto.put_ne (ne _ r.1), Sto.put_ne (ne _ r.1)]
    exact r
theorem Nst.fz (N : Nst μ0 μ q qs t) : Fz μ0 μ (.adr q) (ml t) := by
  refine .adr N.q0 N.top ?_
  have key : ∀ (qs : List Addr) (t : Mx), qs.length = t.length → (∀ i p, qs[i]? = some p → μ0 p = none ∧ μ p = some (.lst ((t.getD i []).map D.int))) → Fzs μ0 μ (qs.map D.adr) (t.map ri) := fun qs => by
    induction qs with
    | nil =>
      intro t hl _
      cases t with
      | nil => exact .nil
      | cons r t => cases hl
    | cons p qs ih =>
      intro t hl h
      cases t with
      | nil => cases hl
      | cons r t =>
        have h0 := h 0 p rfl
        exact .cons (.adr h0.1 h0.2 (Fzs.refl _)) (ih t (Nat.succ.inj hl) fun i p' hp' => h (i + 1) p' hp')
  exact key qs t N.len N.row
end
/-- rows made one by one -/
structure Zs (μ0 μ : Sto) (qs : List Addr) (t : Mx) : Prop where
  sub : SubS μ0 μ
  len : qs.length = t.length
  nd : qs.Nodup
  row : ∀ i p, qs[i]? = some p → μ0 p = none ∧ μ p = some (.lst ((t.getD i []).map D.int))
theorem Zs.nil {μ : Sto} : Zs μ μ [] [] := ⟨SubS.refl, rfl, List.Pairwise.nil, fun i p h => by simp at h⟩
theorem Zs.fresh {μ0 μ : Sto} {qs : List Addr} {t : Mx} (Z : Zs μ0 μ qs t) {p : Addr} (hp : μ p = none) : p ∉ qs := fun h => by
  obtain ⟨i, hi⟩ := List.mem_iff_getElem?.mp h
  rw [(Z.row i p hi).2] at hp
  cases hp
theorem Zs.next {μ0 μ : Sto} {qs : List Addr} {t : Mx} (Z : Zs μ0 μ qs t) {p : Addr} {r : List Int} (hp : μ p = none) : Zs μ0 (μ.put p (ri' r)) (qs ++ [p]) (t ++ [r]) := by
  have h0 := sub_none Z.sub hp
  refine ⟨Z.sub.put h0, by rw [List.length_append, List.length_append, Z.len]; rfl, List.nodup_append.mpr ⟨Z.nd, List.pairwise_singleton _ _, fun a ha b hb e => ?_⟩, fun i p' h => ?_⟩
  · rw [List.mem_singleton.mp hb] at e
    exact Z.fresh hp (e ▸ ha)
  · by_cases c : i < qs.length
    · rw [List.getElem?_append_left c] at h
      have r0 := Z.row i p' h
      have ne : p' ≠ p := fun e => by rw [e] at h; exact Z.fresh hp (List.mem_of_getElem? h)
      rw [Sto.put_ne ne, List.getD_eq_getElem?_getD, List.getElem?_append_left (by rw [← Z.len]; exact c), ← List.getD_eq_getElem?_getD]
      exact r0
    · rw [List.getElem?_append_right (by omega)] at h
      have e0 : i = qs.length := by
        have := (List.getElem?_eq_some_iff.mp h).1
        rw [List.length_singleton] at this
        omega
      subst e0
      rw [Nat.sub_self] at h
      cases h
      rw [Sto.put_same, Z.len]
      refine ⟨h0, ?_⟩
      simp [ri']
theorem Zs.fin {μ0 μ : Sto} {qs : List Addr} {t : Mx} (Z : Zs μ0 μ qs t) {q : Addr} (hq : μ q = none) : Nst μ0 (μ.put q (.lst (qs.map D.adr))) q qs t := by
  have h0 := sub_none Z.sub hq
  refine ⟨Z.sub.put h0, h0, Sto.put_same, Z.len, Z.nd, Z.fresh hq, fun i p h => ?_⟩
  have ne : p ≠ q := fun e => by rw [e] at h; exact Z.fresh hq (List.mem_of_getElem? h)
  rw [Sto.put_ne ne]
  exact Z.row i p h
theorem ent_set {t : Mx} {i j a b : Nat} {x : Int} (hi : i < t.length) (hj : j < (t.getD i []).length) : ent (t.set i ((t.getD i []).set j x)) a b = if a = i ∧ b = j then x else ent t a b := by
  unfold ent
  by_cases h1 : a = i
  · subst h1
    by_cases h2 : b = j
    · subst h2
      simp only [List.getD_eq_getElem?_getD, List.getElem?_set, hi] at hj ⊢
      simp at hj ⊢
      simp [hj]
    · simp only [List.getD_eq_getElem?_getD, List.getElem?_set, hi]
      simp only [h2, and_false, if_false, if_true, Option.getD_some]
      rw [List.getElem?_set_ne (fun z => h2 z.symm)]
  · rw [List.getD_eq_getElem?_getD (l := t.set _ _), List.getElem?_set_ne (fun z => h1 z.symm), ← List.getD_eq_getElem?_getD]
    simp [h1]
theorem _root_.Gp.Sh.cell {t : Mx} {h w : Nat} (s : Sh t h w) {i j : Nat} {x : Int} (hi : i < h) : Sh (t.set i ((t.getD i []).set j x)) h w := Sh.set s (by rw [List.length_set]; exact s.get hi)
theorem _root_.Gp.Sh.eq {t u : Mx} {h w : Nat} (s : Sh t h w) (s' : Sh u h w) (e : ∀ i j, i < h → j < w → ent t i j = ent u i j) : t = u := by
  refine List.ext_getElem (by rw [s.len, s'.len]) fun i h1 h2 => ?_
  have hi : i < h := by rw [← s.len]; exact h1
  have r1 := s.row _ (List.getElem_mem h1)
  have r2 := s'.row _ (List.getElem_mem h2)
  refine List.ext_getElem (by rw [r1, r2]) fun j h3 h4 => ?_
  have := e i j hi (by rw [← r1]; exact h3)
  unfold ent at this
  simpa [List.getD_eq_getElem?_getD, h1, h2, h3, h4] using this
end Gm
end
/-! Ag -/
section
set_option Elab.async false
set_option linter.all false
set_option maxRecDepth 100000
set_option maxHeartbeats 4000000
namespace Gm
open PySem PySem.Spec PyProof.Rows L2 DL Gp
section
variable {P : Program} {w : World} {K : PySem.W.Frag} {mg : Str → Option Value} {base : Heap}
def gcell (mks : List (List Int)) (i j : Nat) : Int := if i = j then (mks.getD i []).getD 0 0 else if j < i then (mks.getD i []).getD (j + 1) 0 else (mks.getD j []).getD (i + 1) 0
def gramI (mks : List (List Int)) : Mx := (List.range mks.length).map fun i => (List.range mks.length).map fun j => gcell mks i j
def phiGramOfMarks : TF := fun ds μ R => ∃ mks : List (List Int), ds = [.lst (mks.map rt)] ∧ 1 ≤ mks.length ∧ mks.length ≤ 3 ∧ (∀ i, i < mks.length → (mks.getD i []).length = i + 1) ∧ R (ml (gramI mks)) μ
theorem sc_GramOfMarks : FnScope ["marks", "size", "_", "rows", "i", "j"] ["marks"] (defScope sGramOfMarks) := ⟨rfl, rfl, rfl, by decide +kernel, rfl, by decide +kernel, by decide +kernel⟩
theorem okGramOfMarks (T : Tx K mg) : FnOk P w K mg base CX0 1 (He.ga K "gram_of_marks") (fdOf K (He.ga K "gram_of_marks")) ["marks"] (spD K phiGramOfMarks) := by
  have sc := sc_GramOfMarks
  refine fnd_ok T.d_GramOfMarks sc (fun ds μ R h => ?len) fun cdv A outer s H E hr => ⟨_, _, (ss_cons (s_set 1 sc.nd (d_callB (c_len) T.n_len (a_cons (dv 0) a_nil)))
      (ss_cons (s_setLcM 3 rfl sc.nd (i_range1 T.n_range (dv 1)) (blkOk_by (own := [("_", 2)]) (by first | rfl | kernel_rfl)) fr_name (fun s H C cl fp => (g_name 2 sc.nd)) (fun s H C cl fp => ts_nil) (fun s H C cl fp => (d_bin o_repM (d_lst (a_cons d_int a_nil)) (dv 1))))
      (ss_cons (s_for PassesOwn.never rfl (i_range1 T.n_range (dv 1)) (g_name 4 sc.nd) (ss_cons (s_asg (d_ix (d_ix (dv 0) (dv 4)) d_int) (g_sub (d_ix (dv 3) (dv 4)) (dv 4)))
      (ss_one (s_for PassesOwn.never rfl (i_range1 T.n_range (dv 4)) (g_name 5 sc.nd) (ss_cons (s_asg (d_ix (d_ix (dv 0) (dv 4)) (d_bin o_add (dv 5) d_int)) (g_sub (d_ix (dv 3) (dv 4)) (dv 5)))
      (ss_one (s_asg (d_ix (d_ix (dv 0) (dv 4)) (d_bin o_add (dv 5) d_int)) (g_sub (d_ix (dv 3) (dv 5)) (dv 4)))))))))
      (ss_one (s_ret (dv 3)))))), fun ds μ R h => ?_⟩
  case len => obtain ⟨mks, rfl, _⟩ := h; rfl
  obtain ⟨mks, rfl, h1, h3, hl, hR⟩ := h
  have sL := sLine
  have hlen : ((mks.map rt).length : Int) = (mks.length : Int) := by rw [List.length_map]
  have gs : Sh (gramI mks) mks.length mks.length := ⟨by simp [gramI], fun r hr => by
    unfold gramI at hr
    obtain ⟨i, _, rfl⟩ := List.mem_map.mp hr
    simp⟩
  have ge : ∀ i j, i < mks.length → j < mks.length → ent (gramI mks) i j = gcell mks i j := fun i j hi hj => by
    unfold gramI ent
    simp [List.getD_eq_getElem?_getD, hi, hj]
  have rep : (List.replicate (mks.length : Int).toNat [D.int 0]).flatten = (zeros mks.length).map D.int := by
    rw [Int.toNat_natCast, flatten_rep]
    unfold zeros
    rw [List.map_replicate]
  have mk : ∀ {i j : Nat} {Y : D → Sto → Prop} {μ : Sto}, i < mks.length → j < i + 1 → Y (.int ((mks.getD i []).getD j 0)) μ → pIx (.lst (mks.map rt)) (.int (i : Int)) μ fun e μ1 => pIx e (.int (j : Int)) μ1 Y := fun {i j Y μ} hi hj hy =>
    pIx.lst (dAt_map [] hi (pIx.tup (dAt_map 0 (by rw [hl i hi]; exact hj) hy)))
  refine ⟨by rw [hlen]; exact RB_nat (by omega), ?_⟩
  rw [hlen]
  refine ⟨by rw [rngD_length]; omega, fun i acc μ' => ∃ qs, acc = qs.map D.adr ∧ Zs μ μ' qs (List.replicate i (zeros mks.length)), ⟨[], rfl, .nil⟩, fun _ _ _ _ => trivial, ?_, ?_⟩
  · rintro i d acc μ' hd _ ⟨qs, rfl, Z⟩
    refine ⟨by show 1 ≤ sizeLine; omega, Int.natCast_nonneg _, by show (mks.length : Int) < 2 ^ 62; omega, by show 1 * (mks.length : Int).toNat ≤ sizeLine; omega, fun p hp => ?_⟩
    rw [rep]
    refine ⟨qs ++ [p], by rw [List.map_append]; rfl, ?_⟩
    rw [List.replicate_succ']
    exact Z.next hp
  · rintro acc μ' ⟨qs, rfl, Z⟩ q hq
    rw [rngD_length] at Z
    have N0 := Z.fin hq
    clear Z
    generalize e : μ'.put q (.lst (qs.map D.adr)) = μ1 at N0 ⊢
    clear e
    refine ⟨RB_nat (by omega), ?_⟩
    refine for_rng 0 mks.length rfl (by omega) (fun i ρ μ2 => ∃ t x5 x6, Nst μ μ2 q qs t ∧ Sh t mks.length mks.length ∧ (∀ a b, a < i → b < i → ent t a b = gcell mks a b) ∧
      ρ = [some (.lst (mks.map rt)), some (.int (mks.length : Int)), none, some (.adr q), x5, x6]) ⟨_, none, none, N0, ⟨by rw [List.length_replicate]; omega, fun r hr => by rw [List.eq_of_mem_replicate hr]; simp [zeros]⟩, fun a b ha => by omega, rfl⟩ ?_ ?_
    · rintro i ρ μ2 _ hi ⟨t, x5, x6, N, st, ok, rfl⟩
      refine mk (j := 0) hi (Nat.succ_pos _) ?_
      refine N.at (by rw [st.len]; exact hi) fun p hp => ?_
      refine N.st hp (by rw [st.get hi]; exact hi) fun N1 => ?_
      have st1 := st.cell (j := i) (x := (mks.getD i []).getD 0 0) hi
      have e1 : ∀ a b, ent (t.set i ((t.getD i []).set i ((mks.getD i []).getD 0 0))) a b = if a = i ∧ b = i then (mks.getD i []).getD 0 0 else ent t a b := fun a b => ent_set (by rw [st.len]; exact hi) (by rw [st.get hi]; exact hi)
      refine ⟨RB_nat (by omega), ?_⟩
      refine for_rng 0 i rfl (by omega) (fun j ρ μ2 => ∃ t x6, Nst μ μ2 q qs t ∧ Sh t mks.length mks.length ∧ (∀ a b, a < i → b < i → ent t a b = gcell mks a b) ∧ ent t i i = gcell mks i i ∧ (∀ b, b < j → ent t i b = gcell mks i b ∧ ent t b i = gcell mks b i) ∧
        ρ = [some (.lst (mks.map rt)), some (.int (mks.length : Int)), none, some (.adr q), some (.int (i : Int)), x6]) ⟨_, x6, N1, st1, fun a b ha hb => by rw [e1, if_neg (by omega)]; exact ok a b ha hb, ?_, fun b hb => by omega, rfl⟩ ?_ ?_
      · rw [e1, if_pos ⟨rfl, rfl⟩]
        unfold gcell
        rw [if_pos rfl]
      · rintro j ρ μ3 _ hj ⟨t, x6, N, st, ok, oki, okj, rfl⟩
        have ej : (j : Int) + 1 = ((j + 1 : Nat) : Int) := by omega
        have gij : (mks.getD i []).getD (j + 1) 0 = gcell mks i j := by
          unfold gcell
          rw [if_neg (by omega), if_pos hj]
        have gji : (mks.getD i []).getD (j + 1) 0 = gcell mks j i := by
          unfold gcell
          rw [if_neg (by omega), if_neg (by omega)]
        have hj' : j < mks.length := by omega
        have mkj : ∀ {Y : D → Sto → Prop} {μ : Sto}, Y (.int ((mks.getD i []).getD (j + 1) 0)) μ → pIx (.lst (mks.map rt)) (.int (i : Int)) μ fun e μ1 => pIx e (.int ((j : Int) + 1)) μ1 Y := fun {Y μ} hy => by
          rw [ej]
          exact mk hi (by omega) hy
        refine mkj ?_
        refine N.at (by rw [st.len]; exact hi) fun p hp => ?_
        refine N.st hp (by rw [st.get hi]; exact hj') fun N1 => ?_
        have st1 := st.cell (j := j) (x := (mks.getD i []).getD (j + 1) 0) hi
        have e1 : ∀ a b, ent (t.set i ((t.getD i []).set j ((mks.getD i []).getD (j + 1) 0))) a b = if a = i ∧ b = j then (mks.getD i []).getD (j + 1) 0 else ent t a b := fun a b => ent_set (by rw [st.len]; exact hi) (by rw [st.get hi]; exact hj')
        generalize e : t.set i ((t.getD i []).set j ((mks.getD i []).getD (j + 1) 0)) = t1 at N1 st1 e1
        refine mkj ?_
        refine N1.at (by rw [st1.len]; exact hj') fun p2 hp2 => ?_
        refine N1.st hp2 (by rw [st1.get hj']; exact hi) fun N2 => ?_
        have st2 := st1.cell (j := i) (x := (mks.getD i []).getD (j + 1) 0) hj'
        have e2 : ∀ a b, ent (t1.set j ((t1.getD j []).set i ((mks.getD i []).getD (j + 1) 0))) a b = if a = j ∧ b = i then (mks.getD i []).getD (j + 1) 0 else ent t1 a b := fun a b => ent_set (by rw [st1.len]; exact hj') (by rw [st1.get hj']; exact hi)
        refine ⟨_, _, N2, st2, fun a b ha hb => ?_, ?_, fun b hb => ⟨?_, ?_⟩, rfl⟩
        · rw [e2, if_neg (by omega), e1, if_neg (by omega)]
          exact ok a b ha hb
        · rw [e2, if_neg (by omega), e1, if_neg (by omega)]
          exact oki
        · rw [e2, if_neg (by omega), e1]
          by_cases c : b = j
          · rw [if_pos ⟨rfl, c⟩, c]
            exact gij
          · rw [if_neg (by omega)]
            exact (okj b (by omega)).1
        · rw [e2]
          by_cases c : b = j
          · rw [if_pos ⟨c, rfl⟩, c]
            exact gji
          · rw [if_neg (by omega), e1, if_neg (by omega)]
            exact (okj b (by omega)).2
      · rintro ρ μ3 ⟨t, x6, N, st, ok, oki, okj, rfl⟩
        rw [Nat.max_eq_right (Nat.zero_le _)] at okj
        refine ⟨t, _, _, N, st, fun a b ha hb => ?_, rfl⟩
        rcases Nat.lt_or_ge a i with c | c <;> rcases Nat.lt_or_ge b i with d | d
        · exact ok a b c d
        · obtain rfl : b = i := by omega
          exact (okj a c).2
        · obtain rfl : a = i := by omega
          exact (okj b d).1
        · obtain rfl : a = i := by omega
          obtain rfl : b = a := by omega
          exact oki
    · rintro ρ μ2 ⟨t, x5, x6, N, st, ok, rfl⟩
      rw [Nat.max_eq_right (Nat.zero_le _)] at ok
      have e : t = gramI mks := st.eq gs fun a b ha hb => by rw [ok a b ha hb, ge a b ha hb]
      subst e
      exact ⟨μ, _, N.sub, N.fz, hR⟩
end
end Gm
end
/-! Ah -/
section
set_option Elab.async false
set_option linter.all false
set_option maxRecDepth 100000
set_option maxHeartbeats 4000000
namespace Gm
open PySem PySem.Spec PyProof.Rows L2 DL Gp
section
variable {P : Program} {w : World} {K : PySem.W.Frag} {mg : Str → Option Value} {base : Heap}
/-- the marks' own lengths -/
theorem Lvl.mks {m : Mx} {n k : Nat} {Ts : List Mx} {out : List (List Int × List Mx)} (h : Lvl m n k Ts out) : ∀ i, i < k → ((out.map (·.1)).getD i []).length = i + 1 := by
  induction h with
  | zero => exact fun i hi => by omega
  | succ h M ih =>
    rename_i k Ts F out mk
    intro i hi
    have lo := h.len
    by_cases c : i < k
    · have := ih i c
      rw [List.getD_eq_getElem?_getD, List.map_append, List.getElem?_append_left (by rw [List.length_map, lo]; exact c), ← List.getD_eq_getElem?_getD]
      exact this
    · obtain rfl : i = k := by omega
      rw [List.getD_eq_getElem?_getD, List.map_append, List.getElem?_append_right (by rw [List.length_map, lo]; exact Nat.le_refl _)]
      obtain ⟨T, hT, v, _, _, e⟩ := M.ex
      have := (h.tlen T hT).len
      simp [lo, ← e, markI_len, this]
def formI (out : List (List Int × List Mx)) : Mx := gramI (out.map (·.1))
def FmOk (m : Mx) (n : Nat) : Prop := ∀ Ts out, Lvl m n n Ts out → LatOk (formI out) n
def phiForm (K : PySem.W.Frag) : TF := fun ds μ R => ∃ m n, ds = [lat K m n] ∧ LvOk m n ∧ FmOk m n ∧ ∀ Ts out, Lvl m n n Ts out → R (lat K (formI out) n) μ
theorem sc_Form : FnScope ["lattice", "mark", "_"] ["lattice"] (defScope sForm) := ⟨rfl, rfl, rfl, by decide +kernel, rfl, by decide +kernel, by decide +kernel⟩
theorem okForm (T : Tx K mg) : FnOk P w K mg base CX0 12 (He.ga K "form") (fdOf K (He.ga K "form")) ["lattice"] (spD K (phiForm K)) := by
  have sc := sc_Form
  have FLatticeInit := okLatticeInit (P := P) (w := w) (base := base) T
  have FGramOfMarks := okGramOfMarks (P := P) (w := w) (base := base) T
  have FLevels := okLevels (P := P) (w := w) (base := base) T
  refine fnd_ok T.d_Form sc (fun ds μ R h => ?len) fun cdv A outer s H E hr => ⟨_, _, (ss_one (s_ret (d_make T.mk_Lattice FLatticeInit (hr.mono (by decide)) T.g_Lattice T.b_LatticeInit .nil (fun _ => .nil) (a_cons (d_call FGramOfMarks (hr.mono (by decide)) T.g_GramOfMarks T.d_GramOfMarks.kp T.b_GramOfMarks (a_cons (d_lc rfl sc.nd (i_seq (d_call FLevels (hr.mono (by decide)) T.g_Levels T.d_Levels.kp T.b_Levels (a_cons (dv 0) a_nil))) (blkOk_by (own := [("mark", 1), ("_", 2)]) (by first | rfl | kernel_rfl)) fr_two (fun s H C cl fp => (g_tup (n := 2) rfl (gs_cons (g_name 1 sc.nd) (gs_cons (g_name 2 sc.nd) gs_nil)))) (fun s H C cl fp => ts_nil) (fun s H C cl fp => (dv 1))) a_nil)) a_nil)))), fun ds μ R h => ?_⟩
  case len => obtain ⟨m, n, rfl, _⟩ := h; rfl
  obtain ⟨m, n, rfl, A, B, hR⟩ := h
  have L := A.L
  have sL := sLine
  have n1 := L.n1
  have n3 := L.n3
  refine ⟨m, n, rfl, A, fun Ts out lv => ?_⟩
  refine Sq.tup ?_
  have lo := lv.len
  refine lc_map out lvD (fun p => rt p.1) rfl (by omega) trivial (fun p hp Y hY => ?_) ?_
  · exact ⟨rfl, hY⟩
  have e : (out.map fun p => rt p.1) = (out.map (·.1)).map rt := by rw [List.map_map]; rfl
  rw [e]
  have ml1 : (out.map (·.1)).length = n := by rw [List.length_map, lo]
  refine ⟨out.map (·.1), rfl, by omega, by omega, fun i hi => lv.mks i (by omega), ?_⟩
  exact mk_lat (B Ts out lv) (fzR.now (hR Ts out lv))
end
end Gm
end
/-! Kd -/
section
set_option Elab.async false
set_option linter.all false
set_option maxRecDepth 100000
set_option maxHeartbeats 4000000
/-! a dict of the store: keys are tuples of rows, values instances -/
namespace Gm
open PySem PySem.Spec PyProof.Rows L2 DL Gp
def keyOf (T : Mx) : NestedKey := .tup (T.map fun r => .tup (r.map .num))
theorem num_inj : ∀ {a b : List Int}, a.map NestedKey.num = b.map NestedKey.num → a = b
  | [], [], _ => rfl
  | [], _ :: _, h => by cases h
  | _ :: _, [], h => by cases h
  | x :: a, y :: b, h => by
    rw [List.map_cons, List.map_cons] at h
    injection h with h1 h2
    injection h1 with h1
    rw [h1, num_inj h2]
theorem rows_inj : ∀ {a b : Mx}, (a.map fun r => NestedKey.tup (r.map .num)) = (b.map fun r => NestedKey.tup (r.map .num)) → a = b
  | [], [], _ => rfl
  | [], _ :: _, h => by cases h
  | _ :: _, [], h => by cases h
  | x :: a, y :: b, h => by
    rw [List.map_cons, List.map_cons] at h
    injection h with h1 h2
    injection h1 with h1
    rw [num_inj h1, rows_inj h2]
theorem keyOf_inj {a b : Mx} (h : keyOf a = keyOf b) : a = b := by
  unfold keyOf at h
  injection h with h
  exact rows_inj h
theorem dep_num : ∀ r : List Int, NestedKey.depthAll (r.map .num) = 0
  | [] => by simp [NestedKey.depthAll]
  | x :: r => by simp [NestedKey.depthAll, NestedKey.depth, dep_num r]
theorem dep_rows : ∀ T : Mx, NestedKey.depthAll (T.map fun r => .tup (r.map .num)) ≤ 1
  | [] => by simp [NestedKey.depthAll]
  | x :: T => by
    have := dep_rows T
    simp only [List.map_cons, NestedKey.depthAll, NestedKey.depth, dep_num]
    omega
theorem dep_key (T : Mx) : (keyOf T).depth ≤ 8 := by
  have := dep_rows T
  simp only [keyOf, NestedKey.depth]
  omega
section
variable {P : Program} {w : World} {K : PySem.W.Frag} {G H : Hp} {h : Heap}
theorem nk_ints (h : Heap) : ∀ {r : List Int} {us : List Value}, Vals (r.map V.int) us → NestedAll h (r.map .num) us
  | [], _, v => by
    cases v
    exact .nil
  | x :: r, _, v => by
    cases v with
    | cons e t =>
      obtain ⟨tk, rfl⟩ := e
      exact .cons (.int _ _) (nk_ints h t)
theorem nk_row (ok : HOk P w H h) (s : Same G H) {r : List Int} {a : Addr} (x : At K G (.ref a) (rt r)) : NestedIs h (.tup (r.map .num)) (.ref a) := by
  cases x with
  | tup hg t =>
    have e := t.ints
    subst e
    obtain ⟨z, its, rv, o, h1, h2, n, h3⟩ := (show ObjOk P w H h a (.tup (r.map V.int)) from ok a _ (s _ _ hg))
    exact .tup h1 h2 h3 (by simpa using nk_ints h rv)
theorem nk_rows (ok : HOk P w H h) (s : Same G H) : ∀ {T : Mx} {vs : List V} {us : List Value}, Ats K G vs (T.map rt) → Vals vs us → NestedAll h (T.map fun r => .tup (r.map .num)) us
  | [], _, _, a, v => by
    cases a
    cases v
    exact .nil
  | r :: T, _, _, a, v => by
    cases a with
    | cons a1 a2 =>
      cases v with
      | cons e t =>
        have a1' := a1
        cases a1 with
        | tup hg _ =>
          cases e
          exact .cons (nk_row ok s a1') (nk_rows ok s a2 t)
theorem nk_mt (ok : HOk P w H h) (s : Same G H) {T : Mx} {a : Addr} (x : At K G (.ref a) (mt T)) : (nestedKind P w).is h (keyOf T) a := by
  cases x with
  | tup hg t =>
    obtain ⟨z, its, rv, o, h1, h2, n, h3⟩ := (show ObjOk P w H h a (.tup _) from ok a _ (s _ _ hg))
    exact ⟨.tup h1 h2 h3 (by simpa using nk_rows ok s t rv), dep_key T⟩
end
/-- one entry: key, value, where they stand -/
abbrev En := (Mx × D) × Addr × Addr
def enV (x : En) : NestedKey × Addr × Value := (keyOf x.1.1, x.2.1, .ref x.2.2)
def KdP (P : Program) (w : World) (d : Addr) (xs : List (NestedKey × Addr × Value)) (h : Heap) : Prop :=
  (d == sysModules) = false ∧ xs.length ≤ sizeLine ∧ ∃ o es ep, h.get? d = some o ∧ o.ExactDict ∧ o.data = .dict es ep ∧ es.toList = xs.map (entryOfKey (nestedKind P w)) ∧ (xs.map (·.1)).Nodup
def KdO (P : Program) (w : World) (d : Addr) (xs : List (NestedKey × Addr × Value)) : HO := .ext (KdP P w d xs)
theorem kd_ok {P : Program} {w : World} {H : Hp} {h : Heap} {d : Addr} {xs : List (NestedKey × Addr × Value)} (x : KdP P w d xs h) : ObjOk P w H h d (KdO P w d xs) := by
  refine ⟨x, ?_, fun h1 h2 y k => ?_⟩
  · obtain ⟨_, _, o, _, _, e, _⟩ := x
    exact ⟨o, e⟩
  · obtain ⟨y0, y1, o, es, ep, e, r⟩ := y
    exact ⟨y0, y1, o, es, ep, k o e, r⟩
/-- .. of the store -/
def kdM (P : Program) (w : World) (K : PySem.W.Frag) (p : Addr) (xs : List En) : MO := .ext (KdO P w p (xs.map enV)) fun G => ∀ x ∈ xs, At K G (.ref x.2.1) (mt x.1.1) ∧ At K G (.ref x.2.2) x.1.2
theorem kd_of {P : Program} {w : World} {K : PySem.W.Frag} {G H F : Hp} {h : Heap} {μ : Sto} {p : Addr} {xs : List En} (s : S K G H F μ) (ok : HOk P w H h) (e : μ p = some (kdM P w K p xs)) :
    (p == sysModules) = false ∧ xs.length ≤ sizeLine ∧ h.DictOfH (nestedKind P w) p (xs.map enV) ∧ ∀ x ∈ xs, At K G (.ref x.2.1) (mt x.1.1) ∧ At K G (.ref x.2.2) x.1.2 := by
  obtain ⟨_, h1, h2⟩ := s.st p _ e
  obtain ⟨⟨lo, z, o, es, ep, q1, q2, q3, q4, q5⟩, _, _⟩ := (show ObjOk P w H h p (KdO P w p (xs.map enV)) from ok p _ h1)
  have ph := h2 G (Same.refl G)
  refine ⟨lo, by rw [List.length_map] at z; exact z, ⟨o, es, ep, q1, q2, q3, q4, fun y hy => ?_, q5⟩, ph⟩
  obtain ⟨x, hx, rfl⟩ := List.mem_map.mp hy
  exact nk_mt ok s.gh (ph x hx).1
section
variable {X : Cx} {K : PySem.W.Frag} {pos : Pos}
/-! ### {} -/
def tDNewG (P : Program) (w : World) : TE := fun _ H Q => ∀ p, H p = none → Q (.ref p) (upd H p (KdO P w p []))
theorem pe_dnewG : PE X (.Dict [] [] pos) (tDNewG X.prog X.w) := ⟨fun pins s σ H Q I h =>
  wpAny_Dict_empty ⟨.ref s.heap.objs.size, _, I.laid (a := s.heap.objs.size) (o := KdO X.prog X.w s.heap.objs.size []) (t' := s.toks) (fun _ _ q => Heap.get?_push_of_some _ q) (Nat.le_refl _)
    (kd_ok ⟨beq_eq_false_iff_ne.mpr (Ne.symm (Nat.ne_of_lt I.big)), Nat.zero_le _, _, #[], 0, Heap.get?_push_size _ rfl, ⟨rfl, rfl, rfl⟩, rfl, rfl, List.nodup_nil⟩), rfl, h _ (I.hok.fresh (Nat.le_refl _))⟩⟩
def dDict (P : Program) (w : World) (K : PySem.W.Frag) : TD := fun ρ μ R => ∀ p, μ p = none → R (.adr p) (μ.put p (kdM P w K p []))
theorem S.newExt {G H F : Hp} {μ : Sto} {p : Addr} {o : HO} {Φ : Hp → Prop} (s : S K G H F μ) (h : H p = none) (t : ∀ G', Same G G' → Φ G') : S K G (upd H p o) F (μ.put p (.ext o Φ)) := by
  obtain ⟨h1, h2, h3⟩ := s.fresh h
  refine ⟨s.gh.trans (Same.upd h), s.fh.trans (Same.upd h), fun b u e => ?_, fun b u e => ?_⟩
  · have hb : b ≠ p := fun z => by
      rw [z, h2] at e
      cases e
    rw [Sto.put_ne hb]
    exact s.fg b u e
  · by_cases hb : b = p
    · subst hb
      rw [Sto.put_same] at e
      cases e
      exact ⟨h1, upd_same, t⟩
    · rw [Sto.put_ne hb] at e
      exact ⟨(s.st b u e).1, (s.st b u e).2.mono (Same.refl _) (upd_ne hb).symm⟩
theorem d_dict {P : Program} {w : World} (hP : X.prog = P := by rfl) (hw : X.w = w := by rfl) (hK : X.K = K := by rfl) : DE K X (.Dict [] [] pos) (tDNewG P w) (dDict P w K) := by
  subst hK hP hw
  refine ⟨rfl, pe_dnewG, ?_⟩
  intro σ H G F ρ μ R Q s e h k p hp
  exact k _ _ _ G _ (h p (s.fresh hp).2.2) (Same.refl _) (S.newExt (o := KdO X.prog X.w p []) s hp (fun G' _ x hx => by cases hx)) (.adr p)
/-! ### d[k] -/
def rIxG (K : PySem.W.Frag) (P : Program) (w : World) : R2 := fun x y H Q => ∃ (p a : Addr) (xs : List En) (e : En) (G F : Hp) (μ : Sto), x = .ref p ∧ y = .ref a ∧ S K G H F μ ∧ μ p = some (kdM P w K p xs) ∧ At K G (.ref a) (mt e.1.1) ∧ e ∈ xs ∧ Q (.ref e.2.2) H
theorem find_en : ∀ {xs : List En} {e : En}, ((xs.map enV).map (·.1)).Nodup → e ∈ xs → atKey (xs.map enV) (keyOf e.1.1) = some (e.2.1, .ref e.2.2)
  | [], _, _, h => by cases h
  | x :: xs, e, nd, h => by
    rw [List.map_cons, List.map_cons, List.nodup_cons] at nd
    unfold atKey
    rcases List.mem_cons.mp h with rfl | h
    · rw [List.map_cons, List.find?_cons_of_pos (by simp [enV])]
      rfl
    · have ne : ¬ (enV x).1 = keyOf e.1.1 := fun q => nd.1 (by rw [q]; exact List.mem_map.mpr ⟨enV e, List.mem_map.mpr ⟨e, h, rfl⟩, rfl⟩)
      rw [List.map_cons, List.find?_cons_of_neg (by simp [ne])]
      exact find_en nd.2 h
theorem room_in1 {A : Around} (hu : A.units + 64 < cLine) {P : Program} {w : World} : (nestedKind P w).room A.in1 := by
  show A.units + 1 + 8 < cLine
  omega
theorem ix_kd (hu : X.A.units + 64 < cLine) : IxR X (rIxG X.K X.prog X.w) := by
  intro value slice pins s σ H x y v u Q I rx ry h hs
  obtain ⟨p, a, xs, e, G, F, μ, rfl, rfl, sS, hm, ha, he, q⟩ := h
  obtain rfl : v = Value.ref p := rx
  obtain rfl : u = Value.ref a := ry
  obtain ⟨lo, z, dd, ph⟩ := kd_of (P := X.prog) (w := X.w) sS I.hok hm
  have hk : (nestedKind X.prog X.w).is s.heap (keyOf e.1.1) a := nk_mt I.hok sS.gh ha
  have nd : ((xs.map enV).map (·.1)).Nodup := dd.nodup
  refine tail_any dd.typeIs slot_dict_getitem.lookup (wpAny_getItem_heap (room_in1 hu) hk dd (find_en nd he) ?_) hs
  exact ⟨.ref e.2.2, H, I.tok _, rfl, q⟩
def pIxG (P : Program) (w : World) (K : PySem.W.Frag) : TD2 := fun x y μ R => ∃ p xs e, x = .adr p ∧ y = mt e.1.1 ∧ μ p = some (kdM P w K p xs) ∧ e ∈ xs ∧ R e.1.2 μ
theorem d_ixG {P : Program} {w : World} {a b : Expr} {ta tb : TE} {φa φb : TD} (hu : X.A.units + 64 < cLine) (ha : DE K X a ta φa) (hb : DE K X b tb φb) (hP : X.prog = P := by rfl) (hw : X.w = w := by rfl) (hs : PlainIx b := by intro _ _; rfl) : DE K X (.Subscript a b pos) (tOp (rIxG K P w) ta tb) (d2 (pIxG P w K) φa φb) := by
  have hK := ha.eK
  subst hK hP hw
  refine ⟨rfl, pe_ix (ix_kd hu) ha.pe hb.pe hs, ad_2 ?_ ha.ad hb.ad⟩
  intro x y dx dy H G F μ R Q s ax ay h k
  obtain ⟨p, xs, e, rfl, rfl, hm, he, hr⟩ := h
  have ph := (s.st p _ hm).2.2 G (Same.refl G) e he
  have ay' := ay
  cases ax
  cases ay with
  | tup hg t => exact ⟨p, _, xs, e, G, F, μ, rfl, rfl, s, hm, ay', he, k _ μ _ G H hr (Same.refl _) s ph.2⟩
/-! ### d[k] = v, a new key -/
def rSetG (K : PySem.W.Frag) (P : Program) (w : World) : TSet := fun o i v H Q => ∃ (p a b : Addr) (xs : List En) (T : Mx) (dv : D) (G F : Hp) (μ : Sto), o = .ref p ∧ i = .ref a ∧ v = .ref b ∧ S K G H F μ ∧ μ p = some (kdM P w K p xs) ∧ At K G (.ref a) (mt T) ∧
  (∀ x ∈ xs, x.1.1 ≠ T) ∧ xs.length < sizeLine ∧ Q (upd H p (KdO P w p ((xs ++ [((T, dv), a, b)]).map enV)))
theorem none_en {xs : List En} {T : Mx} (h : ∀ x ∈ xs, x.1.1 ≠ T) : atKey (xs.map enV) (keyOf T) = none := by
  unfold atKey
  rw [List.find?_eq_none.mpr fun y hy => ?_]
  · rfl
  · obtain ⟨x, hx, rfl⟩ := List.mem_map.mp hy
    have : ¬ keyOf x.1.1 = keyOf T := fun e => h x hx (keyOf_inj e)
    show ¬ decide (keyOf x.1.1 = keyOf T) = true
    rw [decide_eq_false this]
    exact Bool.false_ne_true
theorem set_kd (hu : X.A.units + 64 < cLine) : PSet X (rSetG X.K X.prog X.w) := by
  intro pins s σ H o i v ov iv u Q I ro ri rv h
  obtain ⟨p, a, b, xs, T, dv, G, F, μ, rfl, rfl, rfl, sS, hm, ha, hne, hz, q⟩ := h
  obtain rfl : ov = Value.ref p := ro
  obtain rfl : iv = Value.ref a := ri
  obtain rfl : u = Value.ref b := rv
  obtain ⟨lo, z, dd, ph⟩ := kd_of (P := X.prog) (w := X.w) sS I.hok hm
  have hk : (nestedKind X.prog X.w).is s.heap (keyOf T) a := nk_mt I.hok sS.gh ha
  have hH : H p = some (KdO X.prog X.w p (xs.map enV)) := (sS.st p _ hm).2.1
  refine wpAny_setItem_heap (hsz := by rw [List.length_map]; exact z) (room_in1 hu) hk dd fun h' dd' hs => ?_
  rw [storedH_new (none_en hne)] at dd'
  obtain ⟨q', es, ep, hq, h2, h3, h4, _, h5⟩ := dd'
  have e : xs.map enV ++ [(keyOf T, a, Value.ref b)] = (xs ++ [((T, dv), a, b)]).map enV := by rw [List.map_append]; rfl
  rw [e] at h4 h5
  exact ⟨_, d_write I (by rw [hH]; exact True.intro) hs ⟨q', hq⟩ (kd_ok ⟨lo, by rw [List.length_map, List.length_append]; exact hz, q', es, ep, hq, h2, h3, h4, h5⟩), q⟩
def gSbG (P : Program) (w : World) (K : PySem.W.Frag) (φo φi : TD) : TDG := fun d ρ μ R => φo ρ μ fun o μ1 => φi ρ μ1 fun i μ2 => ∃ p xs T, o = .adr p ∧ i = mt T ∧ (∃ C fs, d = .ins C fs) ∧ μ2 p = some (kdM P w K p xs) ∧ (∀ x ∈ xs, x.1.1 ≠ T) ∧ xs.length < sizeLine ∧
  ∀ a b, R ρ (μ2.put p (kdM P w K p (xs ++ [((T, d), a, b)])))
theorem g_subG {P : Program} {w : World} {o i : Expr} {to ti : TE} {φo φi : TD} (hu : X.A.units + 64 < cLine) (ho : DE K X o to φo) (hi : DE K X i ti φi) (hP : X.prog = P := by rfl) (hw : X.w = w := by rfl)
    (ha : ∀ v, assign (.Subscript o i pos) X.env v = (do
      let ov ← holding [v] (eval o X.env)
      let iv ← holding [v, ov] (eval i X.env)
      standAt pos
      holding [v, ov, iv] (setItem ov iv v)
      release [v, ov, iv] []) := by intro _; rfl) : DG K X (.Subscript o i pos) (gSub to ti (rSetG K P w)) (gSbG P w K φo φi) := by
  have hK := ho.eK
  subst hK hP hw
  refine ⟨rfl, pg_sub ho.pe hi.pe (set_kd hu) ha, ?_⟩
  intro v d σ H G F ρ μ R Q s e a hr k
  refine ho.ad σ H G F ρ μ _ _ s e hr fun dq μ1 vo G1 H1 hb g1 s1 a1 => ?_
  refine hi.ad σ H1 G1 F ρ μ1 _ _ s1 (e.mono g1) hb fun di μ2 vi G2 H2 hb2 g2 s2 a2 => ?_
  obtain ⟨p, xs, T, rfl, rfl, ⟨C, fs, rfl⟩, hm, hne, hz, hr2⟩ := hb2
  have av : At X.K G2 v (.ins C fs) := (a.mono g1).mono g2
  have av' := av
  have a2' := a2
  cases a1
  cases a2 with
  | tup hg t =>
  cases av with
  | ins hi' tf =>
  rename_i ka _ va _ _
  refine ⟨p, ka, va, xs, T, D.ins C fs, G2, F, μ2, rfl, rfl, rfl, s2, hm, a2', hne, hz, ?_⟩
  have ph := (s2.st p _ hm).2.2
  have s3 := s2.write (o := KdO X.prog X.w p ((xs ++ [((T, D.ins C fs), ka, va)]).map enV)) (m' := kdM X.prog X.w X.K p (xs ++ [((T, D.ins C fs), ka, va)])) hm ⟨upd_same, fun G' g x hx => by
    rcases List.mem_append.mp hx with hx | hx
    · exact ph G' g x hx
    · rw [List.mem_singleton.mp hx]
      exact ⟨a2'.mono g, av'.mono g⟩⟩
  exact k ρ _ σ G2 _ (hr2 ka va) (g1.trans g2) s3 ((e.mono g1).mono g2)
/-! ### sorted(d) -/
def rSortG (K : PySem.W.Frag) (P : Program) (w : World) : List V → Hp → VK → Prop := fun vs H Q => ∃ (p : Addr) (xs : List En) (G F : Hp) (μ : Sto), vs = [.ref p] ∧ S K G H F μ ∧ μ p = some (kdM P w K p xs) ∧ SortOk (xs.map fun x => mt x.1.1) ∧
  ∀ q, H q = none → Q (.ref q) (upd H q (.lst ((xs.mergeSort (PySem.W.dataLe false fun x : En => (mt x.1.1).py)).map fun x => V.ref x.2.1)))
theorem eachIs_zip {β : Type} {R : Value → β → Prop} : ∀ {us : List Value} {bs : List β}, us.length = bs.length → (∀ (i : Nat) (u : Value) (b : β), us[i]? = some u → bs[i]? = some b → R u b) → PySem.W.EachIs R us bs
  | [], [], _, _ => .nil
  | u :: us, b :: bs, hl, h => .cons (h 0 u b rfl rfl) (eachIs_zip (Nat.succ.inj hl) fun i u' b' h1 h2 => h (i + 1) u' b' h1 h2)
  | [], _ :: _, hl, _ => by cases hl
  | _ :: _, [], hl, _ => by cases hl
theorem each_refs {xs : List En} : ∀ {us : List Value}, PySem.W.EachIs (fun u (x : En) => u = .ref x.2.1) us xs → Vals (xs.map fun x => V.ref x.2.1) us := by
  induction xs with
  | nil => intro us h; cases h; exact .nil
  | cons x xs ih => intro us h; cases h with | cons r t => exact .cons r (ih t)
theorem call_sortG (hc : X.calm = true) (hu : X.A.units + 64 < cLine) : CallR X (.builtin "sorted") (rSortG X.K X.prog X.w) := by
  intro pins s σ H vs us Q I r h
  obtain ⟨p, xs, G, F, μ, rfl, sS, hm, ok, q⟩ := h
  obtain ⟨u, rfl, rx⟩ := vals1 r
  cases rx
  have hh : X.A.handled = none := I.ok.hd hc
  obtain ⟨lo, z, dd, ph⟩ := kd_of (P := X.prog) (w := X.w) sS I.hok hm
  obtain ⟨es, ep, hr, hsz, he⟩ := dd.raw
  rw [List.length_map] at hsz
  refine Calls.call_function_entry PyProof.Rows.kind_sorted PyProof.Rows.plain_sorted PyProof.Rows.entry_sorted (PyProof.Rows.args_sorted1 _) ?_
  unfold Builtin.«sorted»
  refine wpAny_bind (m := checkCount "sorted" 1 1 _) (wpAny_pure ?_)
  refine wpAny_bind (PySem.W.kdu_collect (A := X.A.in1) (PySem.KdlSrc.rawDict (es := es) (ep := ep) lo) hh hr (by rw [hsz]; exact z) fun h' tk acc hk hacc => ?_)
  have hal : acc.toList.length = xs.length := by rw [Array.length_toList, hacc.1, hsz]
  refine wpAny_bind (wpAny_newList ?_ (by rw [hal]; exact z))
  have I1 : Inv X pins σ H { s with heap := h', toks := tk } := I.kept hk
  have e1 : PySem.W.EachIs (fun u (x : En) => u = .ref x.2.1) acc.toList xs := eachIs_zip hal fun i u x h1 h2 => by
    obtain ⟨hi, e⟩ := hacc.2 i u (by rw [← Array.getElem?_toList]; exact h1)
    obtain ⟨y, hy, h3, _⟩ := he i hi
    rw [List.getElem?_map, h2] at hy
    cases hy
    rw [e, h3]
    rfl
  have fl : ∀ x ∈ xs, (mt x.1.1).flat = true := fun x hx => flats_mem ok.flat (List.mem_map.mpr ⟨x, hx, rfl⟩)
  have e2 : PySem.W.EachIs (fun u (x : En) => ∃ as, Reads h' u (mt x.1.1).py as) acc.toList xs := eachIs_zip hal fun i u x h1 h2 => by
    have hx := List.mem_of_getElem? h2
    obtain ⟨hi, e⟩ := hacc.2 i u (by rw [← Array.getElem?_toList]; exact h1)
    obtain ⟨y, hy, h3, _⟩ := he i hi
    rw [List.getElem?_map, h2] at hy
    cases hy
    exact L2.Dp.reads I1 _ _ _ ((ph x hx).1.dp sS.gh _ (fl x hx)) (by rw [e, h3]; rfl)
  have hob : (h'.push { cls := .type "list", data := .seq acc.toList.toArray }).get? h'.objs.size = some (seqObj "list" acc.toList.toArray 0) := Heap.get?_push_size _ rfl
  have kb : ∀ b o, h'.get? b = some o → (h'.push { cls := .type "list", data := .seq acc.toList.toArray }).get? b = some o := fun b o e => Heap.get?_push_of_some _ e
  have ne0 : ∀ b o, h'.get? b = some o → b ≠ h'.objs.size := fun b o e => Nat.ne_of_lt (Heap.lt_size e)
  have psz : h'.objs.size < (h'.push { cls := .type "list", data := .seq acc.toList.toArray }).objs.size := Heap.lt_size hob
  generalize hh2 : h'.push { cls := .type "list", data := .seq acc.toList.toArray } = h2 at hob kb psz ⊢
  have e3 : PySem.W.EachIs (fun u (x : En) => ∃ as, Reads (PySem.W.sortingHeap h2 h'.objs.size acc.toList) u (mt x.1.1).py as) acc.toList xs := e2.mono fun _ _ ⟨as, r⟩ => ⟨as, PyProof.Rows.Reads.keeps (fun b o e => PySem.W.sortingHeap_old (ne0 b o e) (kb b o e)) r⟩
  have mm : xs.map (fun x : En => (mt x.1.1).py) = (xs.map fun x => mt x.1.1).map D.py := by rw [List.map_map]; rfl
  have hal2 : PySem.W.AllAlike (xs.map fun x : En => (mt x.1.1).py) := by rw [mm]; exact ok.alike
  have hk2 : PySem.W.Sortable (xs.map fun x : En => (mt x.1.1).py) := by rw [mm]; exact ok.able
  refine wpAny_bind (wpAny_holding ?_)
  refine wpAny_call_entry PyProof.Rows.slot_list_sort ⟨_, hob, rfl⟩ PyProof.Rows.entry_list_sort (PySem.W.list_sort_vals (κ := PySem.W.dataKind (PySem.W.sortingHeap h2 h'.objs.size acc.toList) (xs.map fun x : En => (mt x.1.1).py)) hob
    (PySem.W.SortsAt.data (s := { s with heap := PySem.W.sortingHeap h2 h'.objs.size acc.toList, toks := tk }) (PySem.W.each_map (R := fun v d => ∃ as, Reads (PySem.W.sortingHeap h2 h'.objs.size acc.toList) v d as) (fun x : En => (mt x.1.1).py) e3) hal2 hk2 (PySem.W.bound_map fun x hx => ?_)) (by rw [hal]; exact z) ⟨.none, rfl, wpAny_pure ⟨_, rfl, ?_⟩⟩) (PyProof.Rows.args_list_sort _)
  · have := ok.deep (mt x.1.1) (List.mem_map.mpr ⟨x, hx, rfl⟩)
    show X.A.in1.in1.units + _ < cLine
    show X.A.units + 1 + 1 + _ < cLine
    omega
  · have vv := each_refs (PySem.W.sortVals_data (R := fun u (x : En) => u = .ref x.2.1) (enc := fun x : En => (mt x.1.1).py) false e1 e3 hal2)
    obtain ⟨c, hc2⟩ := PyProof.Rows.sortedHeap_at (vs := acc.toList) (out := (PySem.W.sortVals (PySem.W.dataKind (PySem.W.sortingHeap h2 h'.objs.size acc.toList) (xs.map fun x : En => (mt x.1.1).py)) false acc.toList acc.toList).toArray) hob
    refine ⟨.ref h'.objs.size, _, I1.laid (a := h'.objs.size) (t' := tk) (o := .lst ((xs.mergeSort (PySem.W.dataLe false fun x : En => (mt x.1.1).py)).map fun x => V.ref x.2.1)) (fun b u e => ?_) (Nat.le_refl _) ⟨?_, _, c, vv, hc2⟩, rfl, q _ (I1.hok.fresh (Nat.le_refl _))⟩
    · exact (PyProof.Rows.sortedHeap_old (ne0 b u e) (Heap.lt_size (kb b u e))).trans (kb b u e)
    · rw [List.length_map, List.length_mergeSort]
      exact z
def pSortG (P : Program) (w : World) (K : PySem.W.Frag) : TDC := c1 fun d μ R => ∃ p xs, d = .adr p ∧ μ p = some (kdM P w K p xs) ∧ SortOk (xs.map fun x => mt x.1.1) ∧ R (.lst ((xs.map fun x => mt x.1.1).mergeSort dLe)) μ
theorem c_sortG {P : Program} {w : World} (hc : X.calm = true) (hu : X.A.units + 64 < cLine) (hP : X.prog = P := by rfl) (hw : X.w = w := by rfl) (hK : X.K = K := by rfl) : DC K X (.builtin "sorted") (rSortG K P w) (pSortG P w K) := by
  subst hK hP hw
  refine ⟨rfl, call_sortG hc hu, ?_⟩
  intro vs ds H G F μ R Q s a h k
  obtain ⟨v, d, rfl, rfl, a, h⟩ := c1_ok a h
  obtain ⟨p, xs, rfl, hm, ok, hr⟩ := h
  cases a
  have ph := (s.st p _ hm).2.2 G (Same.refl G)
  refine ⟨p, xs, G, F, μ, rfl, s, hm, ok, fun q hq => ?_⟩
  have srt : (xs.mergeSort (PySem.W.dataLe false fun x : En => (mt x.1.1).py)).map (fun x => mt x.1.1) = (xs.map fun x => mt x.1.1).mergeSort dLe := PySem.W.sort_maps (fun x : En => mt x.1.1) (r := PySem.W.dataLe false fun x : En => (mt x.1.1).py) (s := dLe) (l := xs) fun a _ b _ => rfl
  have ats : Ats X.K G ((xs.mergeSort (PySem.W.dataLe false fun x : En => (mt x.1.1).py)).map fun x => V.ref x.2.1) ((xs.map fun x => mt x.1.1).mergeSort dLe) := by
    rw [← srt]
    have : ∀ l : List En, (∀ x ∈ l, x ∈ xs) → Ats X.K G (l.map fun x => V.ref x.2.1) (l.map fun x => mt x.1.1) := fun l => by
      induction l with
      | nil => exact fun _ => .nil
      | cons x l ih => exact fun h => .cons (ph x (h x (List.mem_cons_self ..))).1 (ih fun y hy => h y (List.mem_cons_of_mem _ hy))
    exact this _ fun x hx => (List.mergeSort_perm _ _).mem_iff.mp hx
  exact k _ μ _ _ _ hr (Same.upd (s.fresh hq).1) (s.new hq) (.lst upd_same (ats.mono (Same.upd (s.fresh hq).1)))
end
end Gm
end
/-! Ai -/
section
set_option Elab.async false
set_option linter.all false
set_option maxRecDepth 100000
set_option maxHeartbeats 4000000
namespace Gm
open PySem PySem.Spec PyProof.Rows L2 DL Gp
section
variable {P : Program} {w : World} {K : PySem.W.Frag} {mg : Str → Option Value} {base : Heap}
def invI (T : Mx) (n : Nat) : Mx := scaleM (detF n (ent T)) (adjM T n)
structure AmOk (m m' : Mx) (n : Nat) : Prop where
  a : LvOk m n
  fa : FmOk m n
  b : LvOk m' n
  fb : FmOk m' n
  un : ∀ Ts out, Lvl m n n Ts out → ∀ T ∈ Ts, Sq3 T n ∧ (detF n (ent T)).natAbs = 1
  mu : ∀ Ts out Ts' out', Lvl m n n Ts out → Lvl m' n n Ts' out' → ∀ T ∈ Ts, ∀ T' ∈ Ts', ∀ r ∈ invI T n, ∀ c ∈ turned T' n, ∀ p ∈ r.zip c, IntMulOk p.1 p.2
  nd : ∀ Ts out Ts' out', Lvl m n n Ts out → Lvl m' n n Ts' out' → ∀ T ∈ Ts, (Ts'.map fun T' => mulM (invI T n) T' n).Nodup
def mtLe (a b : Mx) : Bool := dLe (mt a) (mt b)
def AmRes (m m' : Mx) (n : Nat) (Ms : List Mx) : Prop := ∃ Ts1 out Ts1' out', Lvl m n n Ts1 out ∧ Lvl m' n n Ts1' out' ∧
  ((formI out ≠ formI out' ∧ Ms = []) ∨ (formI out = formI out' ∧ ∃ Ts o Ts' o' T0, Lvl m n n Ts o ∧ Lvl m' n n Ts' o' ∧ T0 ∈ Ts ∧ Ms = (Ts'.map fun T => mulM (invI T0 n) T n).mergeSort mtLe))
def phiAllMaps (K : PySem.W.Frag) : TF := fun ds μ R => ∃ m n m' n', ds = [lat K m n, lat K m' n'] ∧ Sh m n n ∧ Sh m' n' n' ∧ (n ≠ n' → R (.tup []) μ) ∧
  (n = n' → AmOk m m' n ∧ ∀ Ms, AmRes m m' n Ms → R (.tup (Ms.map fun M => gr K M n)) μ)
theorem Lvl.some {m : Mx} {n k : Nat} {Ts : List Mx} {out : List (List Int × List Mx)} (h : Lvl m n k Ts out) : ∃ T r, Ts = T :: r := by
  cases h with
  | zero => exact ⟨_, _, rfl⟩
  | succ h M =>
    obtain ⟨T, hT, v, hl, hp, e⟩ := M.ex
    have := (M.mem (T ++ [v])).mpr ⟨T, hT, v, hl, hp, e, rfl⟩
    cases Ts with
    | nil => cases this
    | cons T r => exact ⟨T, r, rfl⟩
theorem sc_AllMaps : FnScope ["a", "b", "back", "found", "basis", "m", "rows"] ["a", "b"] (defScope sAllMaps) := ⟨rfl, rfl, rfl, by decide +kernel, rfl, by decide +kernel, by decide +kernel⟩
theorem okAllMaps (T : Tx K mg) : FnOk P w K mg base CX0 13 (He.ga K "all_maps") (fdOf K (He.ga K "all_maps")) ["a", "b"] (spD K (phiAllMaps K)) := by
  have sc := sc_AllMaps
  have FGridMul := okGridMul (P := P) (w := w) (base := base) T
  have FGridInverse := okGridInverse (P := P) (w := w) (base := base) T
  have FLatticeEq := okLatticeEq (P := P) (w := w) (base := base) T
  have FLatticeRank := okLatticeRank (P := P) (w := w) (base := base) T
  have FForm := okForm (P := P) (w := w) (base := base) T
  have FLeastBases := okLeastBases (P := P) (w := w) (base := base) T
  refine fnd_ok T.d_AllMaps sc (fun ds μ R h => ?len) fun cdv A outer s H E hr => ⟨_, _, (ss_cons (s_if (t_w (tw_or (t_cmp (o_ne (hu hr)) (d_meth0 (dv 0) T.cls_Lattice T.m_LatticeRank FLatticeRank (hr.mono (by decide)) T.b_LatticeRank) (d_meth0 (dv 1) T.cls_Lattice T.m_LatticeRank FLatticeRank (hr.mono (by decide)) T.b_LatticeRank)) (tw_or1 (t_cmp (o_neI FLatticeEq T.m_LatticeEq T.ne_Lattice (hr.mono (by decide)) T.b_LatticeEq) (d_call FForm (hr.mono (by decide)) T.g_Form T.d_Form.kp T.b_Form (a_cons (dv 0) a_nil)) (d_call FForm (hr.mono (by decide)) T.g_Form T.d_Form.kp T.b_Form (a_cons (dv 1) a_nil)))))) (ss_one (s_ret (d_tup a_nil))) ss_nil)
      (ss_cons (s_set 2 sc.nd (d_meth0 (d_ix (d_call FLeastBases (hr.mono (by decide)) T.g_LeastBases T.d_LeastBases.kp T.b_LeastBases (a_cons (dv 0) a_nil)) d_int) T.cls_Grid T.m_GridInverse FGridInverse (hr.mono (by decide)) T.b_GridInverse))
      (ss_cons (s_set 3 sc.nd (d_dict (P := P) (w := w)))
      (ss_cons (s_for PassesOwn.never rfl (i_seq (d_call FLeastBases (hr.mono (by decide)) T.g_LeastBases T.d_LeastBases.kp T.b_LeastBases (a_cons (dv 1) a_nil))) (g_name 4 sc.nd) (ss_cons (s_set 5 sc.nd (d_bin (o_binI (nm := "__mul__") rfl FGridMul T.m_GridMul T.self_Grid (hr.mono (by decide)) T.b_GridMul) (dv 2) (dv 4)))
      (ss_one (s_asg (dv 5) (g_subG (P := P) (w := w) (hu hr) (dv 3) (d_fld T.cls_Grid T.no_Grid_rows (dv 5)))))))
      (ss_one (s_ret (d_callTy (c_tuple) T.n_tuple (a_cons (d_lc rfl sc.nd (i_seq (d_callB (c_sortG (P := P) (w := w) rfl (hu hr)) T.n_sorted (a_cons (dv 3) a_nil))) (blkOk_by (own := [("rows", 6)]) (by first | rfl | kernel_rfl)) fr_name (fun s H C cl fp => (g_name 6 sc.nd)) (fun s H C cl fp => ts_nil) (fun s H C cl fp => (d_ixG (P := P) (w := w) (hu hr) (dv 3) (dv 6)))) a_nil)))))))), fun ds μ R h => ?_⟩
  case len => obtain ⟨m, n, m', n', rfl, _⟩ := h; rfl
  obtain ⟨m, n, m', n', rfl, sh, sh', hne, hR⟩ := h
  have sL := sLine
  refine ⟨rfl, lk_gnone (by decide +kernel), m, n, rfl, ?_⟩
  refine ⟨rfl, lk_gnone (by decide +kernel), m', n', rfl, ?_⟩
  rw [sh.len, sh'.len]
  refine if_ne (fun c => ?_) fun c => ?_
  · refine ⟨Nat.zero_le _, ?_⟩
    exact fzR.now (hne (fun e => c (by rw [e])))
  have e : n = n' := by omega
  subst e
  obtain ⟨A, hR⟩ := hR rfl
  refine ⟨m, n, rfl, A.a, A.fa, fun Ts1 out lv1 => ?_⟩
  refine ⟨m', n, rfl, A.b, A.fb, fun Ts1' out' lv1' => ?_⟩
  have L := A.a.L
  have n1 := L.n1
  have n3 := L.n3
  refine ⟨rfl, rfl, _, _, _, _, rfl, ?_⟩
  by_cases cf : formI out = formI out'
  case neg =>
    show if (!decide (formI out = formI out' ∧ n = n)) = true then _ else _
    rw [decide_eq_false (fun z => cf z.1)]
    refine ⟨Nat.zero_le _, ?_⟩
    exact fzR.now (hR [] ⟨_, _, _, _, lv1, lv1', .inl ⟨cf, rfl⟩⟩)
  show if (!decide (formI out = formI out' ∧ n = n)) = true then _ else _
  rw [decide_eq_true ⟨cf, rfl⟩]
  refine ⟨m, n, rfl, A.a, fun Ts o lv => ?_⟩
  obtain ⟨T0, Tr, eT⟩ := lv.some
  have hT0 : T0 ∈ Ts := by rw [eT]; exact List.mem_cons_self ..
  have at0 : dAt (Ts.map fun T => gr K T n) (0 : Int) fun d => d = gr K T0 n := dAt_map (i := 0) default (by rw [eT]; exact Nat.succ_pos _) (by rw [eT]; rfl)
  obtain ⟨d0, h0, rfl⟩ := at0
  refine pIx.tup ⟨_, h0, ?_⟩
  have un := A.un _ _ lv T0 hT0
  refine ⟨rfl, lk_none (by decide +kernel) (by decide +kernel), T0, n, rfl, un.1, un.2, ?_⟩
  refine fun p hp => ?_
  refine ⟨m', n, rfl, A.b, fun Ts' o' lv' => ?_⟩
  have fw := A.b.fw _ _ lv'
  have nd := A.nd _ _ _ _ lv lv' T0 hT0
  have shI : Sh (invI T0 n) n n := by
    unfold invI
    refine scaleM_sh ⟨by simp [adjM], fun r hr => ?_⟩
    unfold adjM at hr
    obtain ⟨i, _, rfl⟩ := List.mem_map.mp hr
    simp
  generalize hI : invI T0 n = I0 at nd shI
  have hI2 : scaleM (detF n (ent T0)) (adjM T0 n) = I0 := hI
  rw [hI2]
  refine Sq.tup ?_
  refine for_seq Ts' (fun T => gr K T n) rfl (fun i ρ μ' => ∃ xs x4 x5 x6, xs.map (fun x : En => x.1) = (Ts'.take i).map (fun T => (mulM I0 T n, gr K (mulM I0 T n) n)) ∧ μ' = μ.put p (kdM P w K p xs) ∧
    ρ = [some (lat K m n), some (lat K m' n), some (gr K I0 n), some (.adr p), x4, x5, x6]) ⟨[], none, none, none, rfl, rfl, rfl⟩ (fun _ _ _ _ => trivial) ?_ ?_
  · rintro i T' ρ μ' hT' ⟨xs, x4, x5, x6, hx, rfl, rfl⟩
    have mT := List.mem_of_getElem? hT'
    have hi := (List.getElem?_eq_some_iff.mp hT').1
    have shT := lv'.tlen T' mT
    refine ⟨rfl, rfl, I0, n, T', n, rfl, shT.len, by rw [shI.len]; omega, by omega, by omega, shI.row, shT.row, fun r hr c hc q hq => A.mu _ _ _ _ lv lv' T0 hT0 T' mT r (by rw [hI]; exact hr) c hc q hq, ?_⟩
    refine ⟨rfl, _, lk_rows, ?_⟩
    refine ⟨p, xs, mulM I0 T' n, rfl, rfl, ⟨_, _, rfl⟩, Sto.put_same, fun x hx' e => ?_, ?_, fun ka va => ?_⟩
    · have mx : x.1 ∈ (Ts'.take i).map (fun T => (mulM I0 T n, gr K (mulM I0 T n) n)) := by rw [← hx]; exact List.mem_map.mpr ⟨x, hx', rfl⟩
      obtain ⟨T2, hT2, e2⟩ := List.mem_map.mp mx
      obtain ⟨j, hj⟩ := List.mem_iff_getElem?.mp hT2
      rw [List.getElem?_take] at hj
      split at hj
      · rename_i hji
        have e3 : mulM I0 T2 n = mulM I0 T' n := by rw [← e, ← e2]
        have hj2 := (List.getElem?_eq_some_iff.mp hj).1
        have g1 : (Ts'.map fun T => mulM I0 T n)[j]? = (Ts'.map fun T => mulM I0 T n)[i]? := by rw [List.getElem?_map, List.getElem?_map, hj, hT', Option.map_some, Option.map_some, e3]
        have := (List.getElem?_inj (by rw [List.length_map]; exact hj2) nd).mp g1
        omega
      · cases hj
    · have := congrArg List.length hx
      rw [List.length_map, List.length_map, List.length_take] at this
      omega
    · refine ⟨xs ++ [((mulM I0 T' n, gr K (mulM I0 T' n) n), ka, va)], _, _, _, ?_, by rw [Sto.put_put], rfl⟩
      rw [List.map_append, hx, List.take_add_one, hT', List.map_append]
      rfl
  · rintro ρ μ' ⟨xs, x4, x5, x6, hx, rfl, rfl⟩
    rw [List.take_length] at hx
    have hxk : xs.map (fun x => mt x.1.1) = (Ts'.map fun T => mulM I0 T n).map mt := by
      have := congrArg (List.map fun y : Mx × D => mt y.1) hx
      rw [List.map_map, List.map_map] at this
      rw [List.map_map]
      exact this
    have hlen : xs.length = Ts'.length := by
      have := congrArg List.length hx
      rwa [List.length_map, List.length_map] at this
    have ne0 : ∀ W ∈ Ts'.map (fun T => mulM I0 T n), W ≠ [] := fun W hW e => by
      obtain ⟨T, hT, rfl⟩ := List.mem_map.mp hW
      have := congrArg List.length e
      unfold mulM at this
      rw [List.length_map, shI.len] at this
      have : n = 0 := this
      omega
    have srt : ((Ts'.map fun T => mulM I0 T n).map mt).mergeSort dLe = ((Ts'.map fun T => mulM I0 T n).mergeSort mtLe).map mt := (PySem.W.sort_maps mt fun a _ b _ => rfl).symm
    refine ⟨p, xs, rfl, Sto.put_same, ?_, ?_⟩
    · rw [hxk]
      exact mt_sort _ (by rw [List.length_map]; omega) ne0
    rw [hxk, srt]
    refine Sq.lst ?_
    refine lc_map ((Ts'.map fun T => mulM I0 T n).mergeSort mtLe) mt (fun M => gr K M n) rfl (by rw [List.length_mergeSort, List.length_map]; omega) trivial (fun M hM Y hY => ?_) ?_
    · have hM2 := (List.mergeSort_perm _ _).mem_iff.mp hM
      obtain ⟨T, hT, rfl⟩ := List.mem_map.mp hM2
      have mx : (mulM I0 T n, gr K (mulM I0 T n) n) ∈ xs.map (fun x : En => x.1) := by rw [hx]; exact List.mem_map.mpr ⟨T, hT, rfl⟩
      obtain ⟨x, hx1, hx2⟩ := List.mem_map.mp mx
      refine ⟨p, xs, x, rfl, by rw [hx2], Sto.put_same, hx1, ?_⟩
      rw [hx2]
      exact hY
    · exact ⟨μ, _, SubS.put_none hp, .same _, hR _ ⟨_, _, _, _, lv1, lv1', .inr ⟨cf, Ts, o, Ts', o', T0, lv, lv', hT0, by rw [hI]⟩⟩⟩
end
end Gm
end
/-! Aj -/
section
set_option Elab.async false
set_option linter.all false
set_option maxRecDepth 100000
set_option maxHeartbeats 4000000
namespace Gm
open PySem PySem.Spec PyProof.Rows L2 DL Gp
section
variable {P : Program} {w : World} {K : PySem.W.Frag} {mg : Str → Option Value} {base : Heap}
def phiAlike (K : PySem.W.Frag) : TF := fun ds μ R => ∃ m n m' n', ds = [lat K m n, lat K m' n'] ∧ Sh m n n ∧ Sh m' n' n' ∧ (n ≠ n' → R (.bl false) μ) ∧
  (n = n' → LvOk m n ∧ FmOk m n ∧ LvOk m' n ∧ FmOk m' n ∧ ∀ Ts out Ts' out', Lvl m n n Ts out → Lvl m' n n Ts' out' → R (.bl (decide (formI out = formI out'))) μ)
theorem sc_Alike : FnScope ["a", "b"] ["a", "b"] (defScope sAlike) := ⟨rfl, rfl, rfl, by decide +kernel, rfl, by decide +kernel, by decide +kernel⟩
theorem okAlike (T : Tx K mg) : FnOk P w K mg base CX0 13 (He.ga K "alike") (fdOf K (He.ga K "alike")) ["a", "b"] (spD K (phiAlike K)) := by
  have sc := sc_Alike
  have FLatticeEq := okLatticeEq (P := P) (w := w) (base := base) T
  have FLatticeRank := okLatticeRank (P := P) (w := w) (base := base) T
  have FForm := okForm (P := P) (w := w) (base := base) T
  refine fnd_ok T.d_Alike sc (fun ds μ R h => ?len) fun cdv A outer s H E hr => ⟨_, _, (ss_one (s_ret (d_and (d_cmp (o_eq (hu hr)) (d_meth0 (dv 0) T.cls_Lattice T.m_LatticeRank FLatticeRank (hr.mono (by decide)) T.b_LatticeRank) (d_meth0 (dv 1) T.cls_Lattice T.m_LatticeRank FLatticeRank (hr.mono (by decide)) T.b_LatticeRank)) (d_one (d_cmp (o_eqI FLatticeEq T.m_LatticeEq (hr.mono (by decide)) T.b_LatticeEq) (d_call FForm (hr.mono (by decide)) T.g_Form T.d_Form.kp T.b_Form (a_cons (dv 0) a_nil)) (d_call FForm (hr.mono (by decide)) T.g_Form T.d_Form.kp T.b_Form (a_cons (dv 1) a_nil))))))), fun ds μ R h => ?_⟩
  case len => obtain ⟨m, n, m', n', rfl, _⟩ := h; rfl
  obtain ⟨m, n, m', n', rfl, sh, sh', hne, hR⟩ := h
  have sL := sLine
  refine ⟨rfl, lk_gnone (by decide +kernel), m, n, rfl, ?_⟩
  refine ⟨rfl, lk_gnone (by decide +kernel), m', n', rfl, ?_⟩
  rw [sh.len, sh'.len]
  refine if_eq (fun c => ?_) fun c => ?_
  · have e : n = n' := by omega
    subst e
    obtain ⟨a, fa, b, fb, hR⟩ := hR rfl
    refine ⟨m, n, rfl, a, fa, fun Ts out lv => ?_⟩
    refine ⟨m', n, rfl, b, fb, fun Ts' out' lv' => ?_⟩
    refine ⟨rfl, rfl, _, _, _, _, rfl, ?_⟩
    have hh := hR _ _ _ _ lv lv'
    have e2 : decide (formI out = formI out' ∧ n = n) = decide (formI out = formI out') := by simp
    rw [e2]
    exact fzR.now hh
  · exact fzR.now (hne (fun e => c (by rw [e])))
def fstM (K : PySem.W.Frag) (n : Nat) : List Mx → D
  | [] => .non
  | M :: _ => gr K M n
def phiFindMap (K : PySem.W.Frag) : TF := fun ds μ R => ∃ m n m' n', ds = [lat K m n, lat K m' n'] ∧ Sh m n n ∧ Sh m' n' n' ∧ (n ≠ n' → R .non μ) ∧
  (n = n' → AmOk m m' n ∧ ∀ Ms, AmRes m m' n Ms → R (fstM K n Ms) μ)
theorem sc_FindMap : FnScope ["a", "b", "maps"] ["a", "b"] (defScope sFindMap) := ⟨rfl, rfl, rfl, by decide +kernel, rfl, by decide +kernel, by decide +kernel⟩
theorem okFindMap (T : Tx K mg) : FnOk P w K mg base CX0 14 (He.ga K "find_map") (fdOf K (He.ga K "find_map")) ["a", "b"] (spD K (phiFindMap K)) := by
  have sc := sc_FindMap
  have FAllMaps := okAllMaps (P := P) (w := w) (base := base) T
  refine fnd_ok T.d_FindMap sc (fun ds μ R h => ?len) fun cdv A outer s H E hr => ⟨_, _, (ss_cons (s_set 2 sc.nd (d_call FAllMaps (hr.mono (by decide)) T.g_AllMaps T.d_AllMaps.kp T.b_AllMaps (a_cons (dv 0) (a_cons (dv 1) a_nil))))
      (ss_cons (s_if (t_cmp (o_eq (hu hr)) (d_callB (c_len) T.n_len (a_cons (dv 2) a_nil)) d_int) (ss_one (s_ret d_non)) ss_nil)
      (ss_one (s_ret (d_ix (dv 2) d_int))))), fun ds μ R h => ?_⟩
  case len => obtain ⟨m, n, m', n', rfl, _⟩ := h; rfl
  obtain ⟨m, n, m', n', rfl, sh, sh', hne, hR⟩ := h
  refine ⟨m, n, m', n', rfl, sh, sh', fun h => ?_, fun h => ?_⟩
  · exact fzR.now (hne h)
  · obtain ⟨A, hR⟩ := hR h
    refine ⟨A, fun Ms r => ?_⟩
    cases Ms with
    | nil => exact fzR.now (hR [] r)
    | cons M Ms =>
      show if id (decide ((((List.map (fun M => gr K M n) (M :: Ms)).length : Nat) : Int) = 0)) = true then fzR R .non μ else pIx (.tup (List.map (fun M => gr K M n) (M :: Ms))) (.int 0) μ (fzR R)
      refine if_eq (fun c => ?_) fun c => ?_
      · exfalso
        simp at c
        omega
      · exact pIx.tup (dAt_nat (i := 0) (Nat.succ_pos _) (fzR.now (hR (M :: Ms) r)))
end
end Gm
end
/-! Ba -/
section
set_option Elab.async false
set_option linter.all false
set_option maxRecDepth 100000
set_option maxHeartbeats 4000000
namespace Gm
open PySem PySem.Spec PyProof.Rows L2 DL Gp
/-- the law's state: two numbers -/
abbrev stO (a b : Int) : MO := .lst [.int a, .int b]
theorem cut_map {α β : Type} (f : α → β) (xs : List α) (lo hi : Option Int) : cut (xs.map f) lo hi = (cut xs lo hi).map f := by
  unfold cut
  rw [List.length_map, List.map_take, List.map_drop]
section
variable {P : Program} {w : World} {K : PySem.W.Frag} {mg : Str → Option Value} {base : Heap}
def phiLState : TF := fun ds μ R => ∃ ns : List Int, ds = [.sq (ns.map D.int)] ∧ ∀ a b p, μ p = none → R (.adr p) (μ.put p (stO a b))
theorem sc_LState : FnScope ["_law_script", "_law_seed", "_law_total", "_law_cell"] ["_law_script"] (defScope sLState) := ⟨rfl, rfl, rfl, by decide +kernel, rfl, by decide +kernel, by decide +kernel⟩
theorem okLState (T : Tx K mg) : FnOk P w K mg base CX0 1 (He.ga K "_law_state") (fdOf K (He.ga K "_law_state")) ["_law_script"] (spD K phiLState) := by
  have sc := sc_LState
  refine fnd_ok T.d_LState sc (fun ds μ R h => ?len) fun cdv A outer s H E hr => ⟨_, _, (ss_cons (s_set 1 sc.nd d_int)
      (ss_cons (s_set 2 sc.nd d_int)
      (ss_cons (s_for PassesOwn.never rfl (i_seq (d_slice (dv 0) o_none (o_some d_int))) (g_name 3 sc.nd) (ss_cons (s_set 1 sc.nd (d_bin o_add (d_bin o_mulI (dv 1) d_int) (d_callB (c_abs) T.n_abs (a_cons (dv 3) a_nil))))
      (ss_one (s_set 2 sc.nd (d_bin o_mod (d_callTy (c_int) T.n_int (a_cons (d_bin o_add (d_bin o_mulI (dv 2) d_int) (dv 3)) a_nil)) d_int)))))
      (ss_one (s_ret (d_lstM (a_cons (dv 1) (a_cons (dv 2) a_nil)))))))), fun ds μ R h => ?_⟩
  case len => obtain ⟨ns, rfl, _⟩ := h; rfl
  obtain ⟨ns, rfl, hR⟩ := h
  have sL := sLine
  refine Sq.lst ?_
  refine for_seq (cut ns none (some 63)) D.int (cut_map _ _ _ _) (fun i ρ μ' => μ' = μ ∧ ∃ a b x, ρ = [some (.sq (ns.map D.int)), some (.int a), some (.int b), x]) ⟨rfl, _, _, _, rfl⟩ (fun _ _ _ _ => trivial) ?_ ?_
  · rintro i c ρ μ' hc ⟨rfl, a, b, x, rfl⟩
    exact ⟨mulOkR (by decide), mulOkR (by decide), (by decide : (2147483647 : Int) ≠ 0), rfl, _, _, _, rfl⟩
  · rintro ρ μ' ⟨rfl, a, b, x, rfl⟩
    exact ⟨by show 2 ≤ sizeLine; omega, fun p hp => fzR.now (hR _ _ p hp)⟩
def phiLTake : TF := fun ds μ R => ∃ p a b m, ds = [.adr p, .int m] ∧ μ p = some (stO a b) ∧ 0 < m ∧ m < 2 ^ 62 ∧ ∀ v a' b', 0 ≤ v → v < m → R (.int v) (μ.put p (stO a' b'))
theorem sc_LTake : FnScope ["_law_state_here", "_law_m", "_law_value"] ["_law_state_here", "_law_m"] (defScope sLTake) := ⟨rfl, rfl, rfl, by decide +kernel, rfl, by decide +kernel, by decide +kernel⟩
theorem okLTake (T : Tx K mg) : FnOk P w K mg base CX0 1 (He.ga K "_law_take") (fdOf K (He.ga K "_law_take")) ["_law_state_here", "_law_m"] (spD K phiLTake) := by
  have sc := sc_LTake
  refine fnd_ok T.d_LTake sc (fun ds μ R h => ?len) fun cdv A outer s H E hr => ⟨_, _, (ss_cons (s_if (t_cmp o_gtI (d_ix (dv 0) d_int) d_int) (ss_cons (s_set 2 sc.nd (d_bin o_mod (d_callTy (c_int) T.n_int (a_cons (d_ix (dv 0) d_int) a_nil)) (dv 1)))
      (ss_cons (s_asg (d_bin o_fdiv (d_ix (dv 0) d_int) (dv 1)) (g_sub (dv 0) d_int))
      (ss_one (s_ret (dv 2))))) ss_nil)
      (ss_cons (s_asg (d_bin o_mod (d_callTy (c_int) T.n_int (a_cons (d_bin o_add (d_bin o_mulI (d_ix (dv 0) d_int) d_int) d_int) a_nil)) d_int) (g_sub (dv 0) d_int))
      (ss_one (s_ret (d_bin o_mod (d_callTy (c_int) T.n_int (a_cons (d_bin o_fdiv (d_ix (dv 0) d_int) d_int) a_nil)) (dv 1)))))), fun ds μ R h => ?_⟩
  case len => obtain ⟨p, a, b, m, rfl, _⟩ := h; rfl
  obtain ⟨p, a, b, m, rfl, hp, h0, h1, hR⟩ := h
  have cd : CDv 0 m := cdvOk (by omega) (by omega)
  have md : ∀ x : Int, 0 ≤ x.fmod m ∧ x.fmod m < m := fun x => ⟨Int.fmod_nonneg_of_pos _ h0, Int.fmod_lt_of_pos _ h0⟩
  refine pIx.adr hp (dAt_nat (i := 0) (Nat.succ_pos _) ?_)
  refine if_dec (fun c => ?_) fun c => ?_
  · refine pIx.adr hp (dAt_nat (i := 0) (Nat.succ_pos _) ?_)
    refine ⟨by omega, ?_⟩
    refine pIx.adr hp (dAt_nat (i := 0) (Nat.succ_pos _) ?_)
    refine ⟨⟨by omega, cd.2⟩, ?_⟩
    refine onL_lst hp ⟨0, rfl, ?_⟩
    exact fzR.now (hR _ _ _ (md a).1 (md a).2)
  · refine pIx.adr hp (dAt_nat (i := 1) (Nat.lt_succ_self 1) ?_)
    refine ⟨mulOkR (by decide), ?_⟩
    refine ⟨(by decide : (2147483647 : Int) ≠ 0), ?_⟩
    refine onL_lst hp ⟨1, rfl, ?_⟩
    refine pIx.adr Sto.put_same (dAt_nat (i := 1) (by show 1 < 2; decide) ?_)
    refine ⟨⟨(by decide : (7 : Int) ≠ 0), by decide⟩, by omega, ?_⟩
    exact fzR.now (hR _ _ _ (md _).1 (md _).2)
def rootL (n : Int) : Nat → Nat
  | 0 => 0
  | k + 1 => if ((rootL n k : Int) + 1) * ((rootL n k : Int) + 1) ≤ n then rootL n k + 1 else rootL n k
theorem rootL_le (n : Int) : ∀ k, rootL n k ≤ k
  | 0 => Nat.le_refl _
  | k + 1 => by
    have := rootL_le n k
    unfold rootL
    split <;> omega
def phiLRoot : TF := fun ds μ R => ∃ n, ds = [.int n] ∧ R (.int (rootL n 200 : Nat)) μ
theorem sc_LRoot : FnScope ["_law_n", "_law_r", "_law_k"] ["_law_n"] (defScope sLRoot) := ⟨rfl, rfl, rfl, by decide +kernel, rfl, by decide +kernel, by decide +kernel⟩
theorem okLRoot (T : Tx K mg) : FnOk P w K mg base CX0 1 (He.ga K "_law_root") (fdOf K (He.ga K "_law_root")) ["_law_n"] (spD K phiLRoot) := by
  have sc := sc_LRoot
  refine fnd_ok T.d_LRoot sc (fun ds μ R h => ?len) fun cdv A outer s H E hr => ⟨_, _, (ss_cons (s_set 1 sc.nd d_int)
      (ss_cons (s_for PassesOwn.never rfl (i_range1 T.n_range d_int) (g_name 2 sc.nd) (ss_one (s_if (t_cmp o_leI (d_bin o_mulI (d_bin o_add (dv 1) d_int) (d_bin o_add (dv 1) d_int)) (dv 0)) (ss_one (s_set 1 sc.nd (d_bin o_add (dv 1) d_int))) ss_nil)))
      (ss_one (s_ret (dv 1))))), fun ds μ R h => ?_⟩
  case len => obtain ⟨n, rfl, _⟩ := h; rfl
  obtain ⟨n, rfl, hR⟩ := h
  refine ⟨RB_nat (n := 200) (by decide), ?_⟩
  refine for_rng 0 200 rfl rfl (fun i ρ μ' => μ' = μ ∧ i ≤ 200 ∧ ∃ x, ρ = [some (.int n), some (.int (rootL n i : Nat)), x]) ⟨rfl, Nat.zero_le _, none, rfl⟩ ?_ ?_
  · rintro i ρ μ' _ hi ⟨rfl, _, x, rfl⟩
    have := rootL_le n i
    refine ⟨mulOk (by omega), ?_⟩
    refine if_dec (fun c => ?_) fun c => ?_
    · refine ⟨rfl, by omega, some (.int (i : Int)), ?_⟩
      rw [rootL, if_pos c]
      rfl
    · refine ⟨rfl, by omega, some (.int (i : Int)), ?_⟩
      rw [rootL, if_neg c]
      rfl
  · rintro ρ μ' ⟨rfl, _, x, rfl⟩
    exact fzR.now hR
def prodL (g : Mx) (v w : List Int) : Int := sumN (fun i => sumN (fun j => v.getD i 0 * ent g i j * w.getD j 0) w.length) v.length
structure PrC (μ : Sto) (d : D) (g : Mx) (v w : List Int) (dv dw : D) : Prop where
  hd : Lm d μ g
  hv : IsRow dv v
  hw : IsRow dw w
  l1 : v.length ≤ g.length
  l2 : g.length ≤ 1000
  l3 : w.length ≤ 1000
  l4 : ∀ i, i < v.length → (g.getD i []).length = w.length
  b1 : ∀ i, i < v.length → (v.getD i 0).natAbs ≤ 2 ^ 62
  b2 : ∀ j, j < w.length → (w.getD j 0).natAbs ≤ 2 ^ 62
def phiLProduct : TF := fun ds μ R => ∃ d g v w dv dw, ds = [d, dv, dw] ∧ PrC μ d g v w dv dw ∧ R (.int (prodL g v w)) μ
theorem _root_.DL.IsRow.at {d : D} {v : List Int} {i : Nat} {μ : Sto} {R : RD} (h : IsRow d v) (hi : i < v.length) (hR : R (.int (v.getD i 0)) μ) : pIx d (.int (i : Int)) μ R := by
  rcases h with rfl | rfl
  · exact pIx.lst (dAt_map 0 hi hR)
  · exact pIx.tup (dAt_map 0 hi hR)
theorem _root_.DL.IsRow.len {d : D} {v : List Int} {μ : Sto} {k : List D → Prop} (h : IsRow d v) (hk : k (v.map D.int)) : onSeq d μ k := by
  rcases h with rfl | rfl <;> exact hk
theorem sc_LProduct : FnScope ["_law_gram_here", "_law_v", "_law_w", "_law_total", "_law_i", "_law_j"] ["_law_gram_here", "_law_v", "_law_w"] (defScope sLProduct) := ⟨rfl, rfl, rfl, by decide +kernel, rfl, by decide +kernel, by decide +kernel⟩
theorem okLProduct (T : Tx K mg) : FnOk P w K mg base CX0 1 (He.ga K "_law_product") (fdOf K (He.ga K "_law_product")) ["_law_gram_here", "_law_v", "_law_w"] (spD K phiLProduct) := by
  have sc := sc_LProduct
  refine fnd_ok T.d_LProduct sc (fun ds μ R h => ?len) fun cdv A outer s H E hr => ⟨_, _, (ss_cons (s_set 3 sc.nd d_int)
      (ss_cons (s_for PassesOwn.never rfl (i_range1 T.n_range (d_callB (c_len) T.n_len (a_cons (dv 1) a_nil))) (g_name 4 sc.nd) (ss_one (s_for PassesOwn.never rfl (i_range1 T.n_range (d_callB (c_len) T.n_len (a_cons (dv 2) a_nil))) (g_name 5 sc.nd) (ss_one (s_set 3 sc.nd (d_bin o_add (dv 3) (d_bin o_mulI (d_bin o_mulI (d_ix (dv 1) (dv 4)) (d_ix (d_ix (dv 0) (dv 4)) (dv 5))) (d_ix (dv 2) (dv 5)))))))))
      (ss_one (s_ret (dv 3))))), fun ds μ R h => ?_⟩
  case len => obtain ⟨d, g, v, w, dv, dw, rfl, _⟩ := h; rfl
  obtain ⟨d, g, v, w, dv, dw, rfl, ⟨hd, hv, hw, l1, l2, l3, l4, b1, b2⟩, hR⟩ := h
  refine hv.len ?_
  rw [List.length_map]
  refine ⟨RB_nat (by omega), ?_⟩
  refine for_rng 0 v.length rfl (by omega) (fun i ρ μ' => μ' = μ ∧ ∃ x4 x5, ρ = [some d, some dv, some dw, some (.int (sumN (fun i => sumN (fun j => v.getD i 0 * ent g i j * w.getD j 0) w.length) i)), x4, x5]) ⟨rfl, none, none, rfl⟩ ?_ ?_
  · rintro i ρ μ' _ hi ⟨rfl, x4, x5, rfl⟩
    refine hw.len ?_
    rw [List.length_map]
    refine ⟨RB_nat (by omega), ?_⟩
    refine for_rng 0 w.length rfl (by omega) (fun j ρ μ2 => μ2 = μ' ∧ ∃ x5, ρ = [some d, some dv, some dw, some (.int (sumN (fun i => sumN (fun j => v.getD i 0 * ent g i j * w.getD j 0) w.length) i + sumN (fun j => v.getD i 0 * ent g i j * w.getD j 0) j)), some (.int (i : Int)), x5]) ⟨rfl, x5, by rw [sumN, Int.add_zero]; rfl⟩ ?_ ?_
    · rintro j ρ μ2 _ hj ⟨rfl, x5, rfl⟩
      refine hv.at hi ?_
      refine hd.cell (by omega) (by rw [l4 i hi]; exact hj) ?_
      refine ⟨mulOk (b1 i hi), ?_⟩
      refine hw.at hj ?_
      refine ⟨mulOkR (b2 j hj), ?_⟩
      refine ⟨rfl, some (.int (j : Int)), ?_⟩
      rw [sumN, ← Int.add_assoc]
      rfl
    · rintro ρ μ2 ⟨rfl, x5, rfl⟩
      rw [Nat.max_eq_right (Nat.zero_le _)]
      exact ⟨rfl, _, _, rfl⟩
  · rintro ρ μ' ⟨rfl, x4, x5, rfl⟩
    rw [Nat.max_eq_right (Nat.zero_le _)]
    exact fzR.now hR
def phiLMinor : TF := fun ds μ R => ∃ g i j, ds = [ml g, .int (i : Nat), .int (j : Nat)] ∧ g.length ≤ 1000 ∧ (∀ r ∈ g, r.length ≤ 1000) ∧ R (ml (minorG g i j)) μ
theorem sc_LMinor : FnScope ["_law_rows", "_law_i", "_law_j", "_law_row"] ["_law_rows", "_law_i", "_law_j"] (defScope sLMinor) := ⟨rfl, rfl, rfl, by decide +kernel, rfl, by decide +kernel, by decide +kernel⟩
theorem okLMinor (T : Tx K mg) : FnOk P w K mg base CX0 1 (He.ga K "_law_minor") (fdOf K (He.ga K "_law_minor")) ["_law_rows", "_law_i", "_law_j"] (spD K phiLMinor) := by
  have sc := sc_LMinor
  refine fnd_ok T.d_LMinor sc (fun ds μ R h => ?len) fun cdv A outer s H E hr => ⟨_, _, (ss_one (s_ret (d_lc rfl sc.nd (i_seq (d_bin o_add (d_slice (dv 0) o_none (o_some (dv 1))) (d_slice (dv 0) (o_some (d_bin o_add (dv 1) d_int)) o_none))) (blkOk_by (own := [("_law_row", 3)]) (by first | rfl | kernel_rfl)) fr_name (fun s H C cl fp => (g_name 3 sc.nd)) (fun s H C cl fp => ts_nil) (fun s H C cl fp => (d_bin o_add (d_slice (dv 3) o_none (o_some (dv 2))) (d_slice (dv 3) (o_some (d_bin o_add (dv 2) d_int)) o_none)))))), fun ds μ R h => ?_⟩
  case len => obtain ⟨g, i, j, rfl, _⟩ := h; rfl
  obtain ⟨g, i, j, rfl, l1, l2, hR⟩ := h
  have sL := sLine
  have c1 : cut (g.map ri) none (some (i : Int)) = (g.take i).map ri := by rw [cut_map, cut_take]
  have c2 : cut (g.map ri) (some ((i : Int) + 1)) none = (g.drop (i + 1)).map ri := by rw [cut_map, show ((i : Int) + 1) = ((i + 1 : Nat) : Int) from by omega, cut_drop]
  refine ⟨by rw [c1, c2, List.length_map, List.length_map, List.length_take, List.length_drop]; omega, Sq.lst ?_⟩
  refine lc_map (g.take i ++ g.drop (i + 1)) ri (ri ∘ fun r : List Int => r.take j ++ r.drop (j + 1)) (by rw [c1, c2, List.map_append]) (by rw [List.length_append, List.length_take, List.length_drop]; omega) trivial (fun r hr Y hY => ?_) ?_
  · have hr2 : r ∈ g := by
      rcases List.mem_append.mp hr with h | h
      · exact List.mem_of_mem_take h
      · exact List.mem_of_mem_drop h
    have := l2 r hr2
    have c1 : cut (r.map D.int) none (some (j : Int)) = (r.take j).map D.int := by rw [cut_map, cut_take]
    have c2 : cut (r.map D.int) (some ((j : Int) + 1)) none = (r.drop (j + 1)).map D.int := by rw [cut_map, show ((j : Int) + 1) = ((j + 1 : Nat) : Int) from by omega, cut_drop]
    refine ⟨by rw [c1, c2, List.length_map, List.length_map, List.length_take, List.length_drop]; omega, ?_⟩
    rw [c1, c2, ← List.map_append]
    exact hY
  · rw [← List.map_map]
    exact fzR.now hR
end
end Gm
end
/-! Bb -/
section
set_option Elab.async false
set_option linter.all false
set_option maxRecDepth 100000
set_option maxHeartbeats 4000000
namespace Gm
open PySem PySem.Spec PyProof.Rows L2 DL Gp
section
variable {P : Program} {w : World} {K : PySem.W.Frag} {mg : Str → Option Value} {base : Heap}
def phiLDet (nn : Nat) : TF := fun ds μ R => ∃ g n, ds = [ml g] ∧ Sh g n n ∧ n < nn ∧ n ≤ 3 ∧ (∀ i j, i < n → j < n → (ent g i j).natAbs ≤ 2 ^ 62) ∧ R (.int (detF n (ent g))) μ
theorem sc_LDeterminant : FnScope ["_law_rows", "_law_total", "_law_j", "_law_part"] ["_law_rows"] (defScope sLDeterminant) := ⟨rfl, rfl, rfl, by decide +kernel, rfl, by decide +kernel, by decide +kernel⟩
theorem stepLDeterminant (T : Tx K mg) {lv nn : Nat} (h1 : 1 ≤ lv) (FLDeterminant : FnOk P w K mg base CX0 lv (He.ga K "_law_determinant") (fdOf K (He.ga K "_law_determinant")) ["_law_rows"] (spD K (phiLDet nn))) : FnOk P w K mg base CX0 (lv + 1) (He.ga K "_law_determinant") (fdOf K (He.ga K "_law_determinant")) ["_law_rows"] (spD K (phiLDet (nn + 1))) := by
  have sc := sc_LDeterminant
  have FLMinor := okLMinor (P := P) (w := w) (base := base) T
  refine fnd_ok T.d_LDeterminant sc (fun ds μ R h => ?len) fun cdv A outer s H E hr => ⟨_, _, (ss_cons (s_if (t_cmp (o_eq (hu hr)) (d_callB (c_len) T.n_len (a_cons (dv 0) a_nil)) d_int) (ss_one (s_ret d_int)) ss_nil)
      (ss_cons (s_set 1 sc.nd d_int)
      (ss_cons (s_for PassesOwn.never rfl (i_range1 T.n_range (d_callB (c_len) T.n_len (a_cons (dv 0) a_nil))) (g_name 2 sc.nd) (ss_cons (s_set 3 sc.nd (d_bin o_mulI (d_ix (d_ix (dv 0) d_int) (dv 2)) (d_call FLDeterminant (hr.mono (by omega)) T.g_LDeterminant T.d_LDeterminant.kp T.b_LDeterminant (a_cons (d_call FLMinor (hr.mono (by omega)) T.g_LMinor T.d_LMinor.kp T.b_LMinor (a_cons (dv 0) (a_cons d_int (a_cons (dv 2) a_nil)))) a_nil))))
      (ss_one (s_set 1 sc.nd (d_ifexp (t_cmp (o_eq (hu hr)) (d_bin o_mod (dv 2) d_int) d_int) (d_bin o_add (dv 1) (dv 3)) (d_bin o_sub (dv 1) (dv 3)))))))
      (ss_one (s_ret (dv 1)))))), fun ds μ R h => ?_⟩
  case len => obtain ⟨g, n, rfl, _⟩ := h; rfl
  obtain ⟨g, n, rfl, sh, hn, n3, bd, hR⟩ := h
  by_cases z : n = 0
  · subst z
    have e : g = [] := List.length_eq_zero_iff.mp sh.len
    subst e
    exact fzR.now hR
  refine if_eq (fun c => ?_) fun c => ?_
  · exfalso
    rw [List.length_map, sh.len] at c
    omega
  refine ⟨RB_nat (by rw [List.length_map, sh.len]; omega), ?_⟩
  refine for_rng 0 n rfl (by rw [List.length_map, sh.len]; omega) (fun j ρ μ' => μ' = μ ∧ ∃ x2 x3, ρ = [some (ml g), some (.int (altS g n j)), x2, x3]) ⟨rfl, none, none, rfl⟩ ?_ ?_
  · rintro j ρ μ' _ hj ⟨rfl, x2, x3, rfl⟩
    refine pIx.lst (dAt_map (i := 0) [] (by rw [sh.len]; omega) ?_)
    refine pIx.lst (dAt_map 0 (by rw [sh.get (by omega)]; exact hj) ?_)
    refine ⟨g, 0, j, rfl, by rw [sh.len]; omega, fun r hr => by rw [sh.row r hr]; omega, ?_⟩
    have ms := minorG_sh (i := 0) sh (by omega) hj
    refine ⟨minorG g 0 j, n - 1, rfl, ms, by omega, by omega, fun a b ha hb => by rw [ent_minorG sh (by omega) hj ha]; exact bd _ _ (by split <;> omega) (by split <;> omega), ?_⟩
    refine ⟨mulOk (bd 0 j (by omega) hj), ?_⟩
    refine ⟨(by decide : (2 : Int) ≠ 0), ?_⟩
    refine if_eq (fun c => ?_) fun c => ?_
    · refine ⟨rfl, some (.int (j : Int)), some (.int (ent g 0 j * detF (n - 1) (ent (minorG g 0 j)))), ?_⟩
      rw [altS, if_pos c]
      rfl
    · refine ⟨rfl, some (.int (j : Int)), some (.int (ent g 0 j * detF (n - 1) (ent (minorG g 0 j)))), ?_⟩
      rw [altS, if_neg c]
      rfl
  · rintro ρ μ' ⟨rfl, x2, x3, rfl⟩
    rw [Nat.max_eq_right (Nat.zero_le _), altS_det sh (by omega) n3]
    exact fzR.now hR
theorem det0 {lv : Nat} : FnOk P w K mg base CX0 lv (He.ga K "_law_determinant") (fdOf K (He.ga K "_law_determinant")) ["_law_rows"] (spD K (phiLDet 0)) :=
  ⟨fun vs H Q E h => by
    obtain ⟨G, F, μ, ds, R, _, _, ⟨g, n, _, _, h0, _⟩, _⟩ := h
    omega, fun A outer s H args us vs Q E _ _ _ _ h => by
    obtain ⟨G, F, μ, ds, R, _, _, ⟨g, n, _, _, h0, _⟩, _⟩ := h
    omega⟩
theorem okLDeterminant (T : Tx K mg) : FnOk P w K mg base CX0 5 (He.ga K "_law_determinant") (fdOf K (He.ga K "_law_determinant")) ["_law_rows"] (spD K (phiLDet 4)) :=
  stepLDeterminant T (by decide) (stepLDeterminant T (by decide) (stepLDeterminant T (by decide) (stepLDeterminant T (lv := 1) (by decide) det0)))
end
end Gm
end
/-! Bc -/
section
set_option Elab.async false
set_option linter.all false
set_option maxRecDepth 100000
set_option maxHeartbeats 4000000
namespace Gm
open PySem PySem.Spec PyProof.Rows L2 DL Gp
def boxI (r : Nat) : List Int := (List.range (2 * r + 1)).map fun i : Nat => -(r : Int) + (i : Int)
def mostL (g : Mx) (N : Int) (n i : Nat) : Nat := rootL ((N * detF (n - 1) (ent (minorG g i i))).fdiv (detF n (ent g))) 200
def outL (g : Mx) (N : Int) (n : Nat) : Nat → List (List Int)
  | 0 => [[]]
  | i + 1 => (outL g N n i).flatMap fun v => (boxI (mostL g N n i)).map fun x => v ++ [x]
theorem outL_len {g : Mx} {N : Int} {n : Nat} : ∀ {i : Nat} {v : List Int}, v ∈ outL g N n i → v.length = i
  | 0, v, h => by
    have : v = [] := by simpa [outL] using h
    rw [this]
    rfl
  | i + 1, v, h => by
    unfold outL at h
    obtain ⟨u, hu, h2⟩ := List.mem_flatMap.mp h
    obtain ⟨x, _, rfl⟩ := List.mem_map.mp h2
    rw [List.length_append, outL_len hu]
    rfl
theorem outL_bd {g : Mx} {N : Int} {n : Nat} : ∀ {i : Nat} {v : List Int}, v ∈ outL g N n i → ∀ x ∈ v, x.natAbs ≤ 200
  | 0, v, h, x, hx => by
    have : v = [] := by simpa [outL] using h
    rw [this] at hx
    cases hx
  | i + 1, v, h, x, hx => by
    unfold outL at h
    obtain ⟨u, hu, h2⟩ := List.mem_flatMap.mp h
    obtain ⟨y, hy, rfl⟩ := List.mem_map.mp h2
    rcases List.mem_append.mp hx with hx | hx
    · exact outL_bd hu x hx
    · rw [List.mem_singleton.mp hx]
      unfold boxI at hy
      obtain ⟨j, hj, rfl⟩ := List.mem_map.mp hy
      have := List.mem_range.mp hj
      have := rootL_le ((N * detF (n - 1) (ent (minorG g i i))).fdiv (detF n (ent g))) 200
      unfold mostL at *
      omega
def nearL (g : Mx) (N : Int) (n : Nat) : List (List Int) := (outL g N n n).filter fun v => decide (0 < prodL g v v ∧ prodL g v v ≤ N)
theorem getD_bd {v : List Int} {b : Nat} (h : ∀ x ∈ v, x.natAbs ≤ b) (i : Nat) : (v.getD i 0).natAbs ≤ b := by
  rw [List.getD_eq_getElem?_getD]
  cases e : v[i]? with
  | none => exact Nat.zero_le _
  | some x => exact h x (List.mem_of_getElem? e)
structure NeOk' (g : Mx) (N : Int) (n : Nat) : Prop where
  sh : Sh g n n
  n1 : 1 ≤ n
  n3 : n ≤ 3
  bd : ∀ i j, i < n → j < n → (ent g i j).natAbs ≤ 2 ^ 20
  d0 : detF n (ent g) ≠ 0
  d1 : (detF n (ent g)).natAbs ≤ 2 ^ 62
  N1 : N.natAbs ≤ 2 ^ 62
  sz : ∀ i, i ≤ n → (outL g N n i).length ≤ 16000000
section
variable {P : Program} {w : World} {K : PySem.W.Frag} {mg : Str → Option Value} {base : Heap}
def phiLNear : TF := fun ds μ R => ∃ g N n, ds = [ml g, .int N] ∧ NeOk' g N n ∧ R (.lst ((nearL g N n).map rt)) μ
theorem prC {μ : Sto} {g : Mx} {n : Nat} {v u : List Int} {dv du : D} (sh : Sh g n n) (n3 : n ≤ 3) (hv : IsRow dv v) (hu : IsRow du u) (lv : v.length = n) (lu : u.length = n) (bv : ∀ x ∈ v, x.natAbs ≤ 2 ^ 20) (bu : ∀ x ∈ u, x.natAbs ≤ 2 ^ 20) : PrC μ (ml g) g v u dv du :=
  ⟨.inl rfl, hv, hu, by rw [lv, sh.len]; exact Nat.le_refl _, by rw [sh.len]; omega, by omega, fun i hi => by rw [sh.get (by omega), lu], fun i _ => Nat.le_trans (getD_bd bv i) (by decide), fun i _ => Nat.le_trans (getD_bd bu i) (by decide)⟩
theorem sc_LNear : FnScope ["_law_gram_here", "_law_norm", "_law_size", "_law_d", "_law_out", "_law_i", "_law_most", "_law_longer", "_law_v", "_law_x"] ["_law_gram_here", "_law_norm"] (defScope sLNear) := ⟨rfl, rfl, rfl, by decide +kernel, rfl, by decide +kernel, by decide +kernel⟩
theorem okLNear (T : Tx K mg) : FnOk P w K mg base CX0 6 (He.ga K "_law_near") (fdOf K (He.ga K "_law_near")) ["_law_gram_here", "_law_norm"] (spD K phiLNear) := by
  have sc := sc_LNear
  have FLDeterminant := okLDeterminant (P := P) (w := w) (base := base) T
  have FLMinor := okLMinor (P := P) (w := w) (base := base) T
  have FLProduct := okLProduct (P := P) (w := w) (base := base) T
  have FLRoot := okLRoot (P := P) (w := w) (base := base) T
  refine fnd_ok T.d_LNear sc (fun ds μ R h => ?len) fun cdv A outer s H E hr => ⟨_, _, (ss_cons (s_set 2 sc.nd (d_callB (c_len) T.n_len (a_cons (dv 0) a_nil)))
      (ss_cons (s_set 3 sc.nd (d_call FLDeterminant (hr.mono (by decide)) T.g_LDeterminant T.d_LDeterminant.kp T.b_LDeterminant (a_cons (dv 0) a_nil)))
      (ss_cons (s_set 4 sc.nd (d_lst (a_cons (d_tup a_nil) a_nil)))
      (ss_cons (s_for PassesOwn.never rfl (i_range1 T.n_range (dv 2)) (g_name 5 sc.nd) (ss_cons (s_set 6 sc.nd (d_call FLRoot (hr.mono (by decide)) T.g_LRoot T.d_LRoot.kp T.b_LRoot (a_cons (d_bin o_fdiv (d_bin o_mulI (dv 1) (d_call FLDeterminant (hr.mono (by decide)) T.g_LDeterminant T.d_LDeterminant.kp T.b_LDeterminant (a_cons (d_call FLMinor (hr.mono (by decide)) T.g_LMinor T.d_LMinor.kp T.b_LMinor (a_cons (dv 0) (a_cons (dv 5) (a_cons (dv 5) a_nil)))) a_nil))) (dv 3)) a_nil)))
      (ss_cons (s_set 7 sc.nd (d_lst a_nil))
      (ss_cons (s_for PassesOwn.never rfl (i_seq (dv 4)) (g_name 8 sc.nd) (ss_one (s_set 7 sc.nd (d_bin o_add (dv 7) (d_lc rfl sc.nd (i_range2 T.n_range (d_neg (dv 6)) (d_bin o_add (dv 6) d_int)) (blkOk_by (own := [("_law_x", 9)]) (by first | rfl | kernel_rfl)) fr_name (fun s H C cl fp => (g_name 9 sc.nd)) (fun s H C cl fp => ts_nil) (fun s H C cl fp => (d_bin o_add (dv 8) (d_tup (a_cons (dv 9) a_nil)))))))))
      (ss_one (s_set 4 sc.nd (dv 7)))))))
      (ss_one (s_ret (d_lc rfl sc.nd (i_seq (dv 4)) (blkOk_by (own := [("_law_v", 8)]) (by first | rfl | kernel_rfl)) fr_name (fun s H C cl fp => (g_name 8 sc.nd)) (fun s H C cl fp => (ts_one (t_chain o_ltI o_leI d_int (d_call FLProduct (hr.mono (by decide)) T.g_LProduct T.d_LProduct.kp T.b_LProduct (a_cons (dv 0) (a_cons (dv 8) (a_cons (dv 8) a_nil)))) (dv 1)))) (fun s H C cl fp => (dv 8))))))))), fun ds μ R h => ?_⟩
  case len => obtain ⟨g, N, n, rfl, _⟩ := h; rfl
  obtain ⟨g, N, n, rfl, C, hR⟩ := h
  have sL := sLine
  have sh := C.sh
  have n1 := C.n1
  have n3 := C.n3
  have bd62 : ∀ i j, i < n → j < n → (ent g i j).natAbs ≤ 2 ^ 62 := fun i j hi hj => Nat.le_trans (C.bd i j hi hj) (by decide)
  refine ⟨g, n, rfl, sh, by omega, n3, bd62, ?_⟩
  refine ⟨Nat.zero_le _, by show 1 ≤ sizeLine; omega, ?_⟩
  refine ⟨RB_nat (by rw [List.length_map, sh.len]; omega), ?_⟩
  have e0 : ((((g.map ri).length : Nat) : Int)) = (n : Int) := by rw [List.length_map, sh.len]
  refine for_rng 0 n rfl (by rw [List.length_map, sh.len]; omega) (fun i ρ μ' => μ' = μ ∧ ∃ x5 x6 x7 x8 x9, ρ = [some (ml g), some (.int N), some (.int (((g.map ri).length : Nat) : Int)), some (.int (detF n (ent g))), some (.lst ((outL g N n i).map rt)), x5, x6, x7, x8, x9]) ⟨rfl, none, none, none, none, none, rfl⟩ ?_ ?_
  · rintro i ρ μ' _ hi ⟨rfl, x5, x6, x7, x8, x9, rfl⟩
    refine ⟨g, i, i, rfl, by rw [sh.len]; omega, fun r hr => by rw [sh.row r hr]; omega, ?_⟩
    have ms := minorG_sh (i := i) (j := i) sh hi hi
    refine ⟨minorG g i i, n - 1, rfl, ms, by omega, by omega, fun a b ha hb => by rw [ent_minorG sh hi hi ha]; exact bd62 _ _ (by split <;> omega) (by split <;> omega), ?_⟩
    refine ⟨mulOk C.N1, ?_⟩
    refine ⟨⟨C.d0, log63 (by have := C.d1; omega)⟩, ?_⟩
    refine ⟨_, rfl, ?_⟩
    show sSeq _ _ _ _ _
    have em : (rootL ((N * detF (n - 1) (ent (minorG g i i))).fdiv (detF n (ent g))) 200 : Nat) = mostL g N n i := rfl
    rw [em]
    have m200 : mostL g N n i ≤ 200 := rootL_le _ _
    generalize hm : mostL g N n i = most at m200 ⊢
    refine ⟨Nat.zero_le _, ?_⟩
    refine Sq.lst ?_
    have nxt : outL g N n (i + 1) = (outL g N n i).flatMap fun v => (boxI most).map fun x => v ++ [x] := by rw [outL, hm]
    have sz := C.sz (i + 1) (by omega)
    have sz0 := C.sz i (by omega)
    refine for_seq (outL g N n i) rt rfl (fun a ρ μ2 => μ2 = μ' ∧ ∃ x8 x9, ρ = [some (ml g), some (.int N), some (.int (((g.map ri).length : Nat) : Int)), some (.int (detF n (ent g))), some (.lst ((outL g N n i).map rt)), some (.int (i : Int)), some (.int (most : Nat)),
      some (.lst ((((outL g N n i).take a).flatMap fun v => (boxI most).map fun x => v ++ [x]).map rt)), x8, x9]) ⟨rfl, x8, x9, rfl⟩ (fun _ _ _ _ => trivial) ?_ ?_
    · rintro a v ρ μ2 hv ⟨rfl, x8, x9, rfl⟩
      have mv := List.mem_of_getElem? hv
      have lv := outL_len mv
      refine ⟨⟨by omega, by omega⟩, ⟨by omega, by omega⟩, ?_⟩
      have eb : rngD (-(most : Int)) (((most : Int) + 1 - -(most : Int))).toNat = (boxI most).map D.int := by
        rw [rngD_eq, show ((most : Int) + 1 - -(most : Int)).toNat = 2 * most + 1 from by omega]
        unfold boxI
        rw [List.map_map]
        rfl
      have lb : (boxI most).length = 2 * most + 1 := by unfold boxI; rw [List.length_map, List.length_range]
      refine lc_map (boxI most) D.int (fun x => rt (v ++ [x])) eb (by omega) trivial (fun x hx Y hY => ?_) ?_
      · refine ⟨by show 1 ≤ sizeLine; omega, by show (v.map D.int).length + 1 ≤ sizeLine; rw [List.length_map]; omega, ?_⟩
        have e : v.map D.int ++ [D.int x] = (v ++ [x]).map D.int := by rw [List.map_append]; rfl
        rw [e]
        exact hY
      · have e : (boxI most).map (fun x => rt (v ++ [x])) = ((boxI most).map fun x => v ++ [x]).map rt := by rw [List.map_map]; rfl
        rw [e]
        have tk : (outL g N n i).take (a + 1) = (outL g N n i).take a ++ [v] := by rw [List.take_add_one, hv]; rfl
        have fl := flat_len (outL g N n i) (fun v => (boxI most).map fun x => v ++ [x]) hv (b := 2 * most + 1) (by rw [List.length_map, lb]; exact Nat.le_refl _)
        rw [← nxt] at fl
        refine ⟨by rw [List.length_map, List.length_map, List.length_map, lb]; omega, rfl, some (rt v), x9, ?_⟩
        rw [tk, List.flatMap_append, List.map_append]
        simp
    · rintro ρ μ2 ⟨rfl, x8, x9, rfl⟩
      rw [List.take_length, ← nxt]
      exact ⟨rfl, _, _, _, _, _, rfl⟩
  · rintro ρ μ' ⟨rfl, x5, x6, x7, x8, x9, rfl⟩
    rw [Nat.max_eq_right (Nat.zero_le _)]
    refine Sq.lst ?_
    refine lc_fil (outL g N n n) rt rt (fun v => decide (0 < prodL g v v ∧ prodL g v v ≤ N)) rfl (by have := C.sz n (Nat.le_refl _); omega) trivial (fun v hv Y Nn hy hn => ?_) (fzR.now hR)
    have lv := outL_len hv
    have bv : ∀ x ∈ v, x.natAbs ≤ 2 ^ 20 := fun x hx => Nat.le_trans (outL_bd hv x hx) (by decide)
    refine ⟨_, g, v, v, _, _, rfl, prC sh n3 .rt .rt lv lv bv bv, ?_⟩
    by_cases c1 : 0 < prodL g v v
    · have key : if decide (prodL g v v ≤ N) = true then Y (rt v) μ' else Nn μ' := if_dec (fun c2 => hy (decide_eq_true ⟨c1, c2⟩)) fun c2 => hn (decide_eq_false fun z => c2 z.2)
      simp only [pI0, decide_eq_true c1]
      exact key
    · simp only [pI0, decide_eq_false c1]
      exact hn (decide_eq_false fun z => c1 z.1)
def fitL (one two : Mx) (k : Nat) (T : Mx) (v : List Int) : Bool := decide (prodL two v v = ent one k k ∧ (T.map fun b => prodL two b v) = (one.getD k []).take k)
def tupL (one two : Mx) (n : Nat) : Nat → List Mx
  | 0 => [[]]
  | k + 1 => (tupL one two n k).flatMap fun T => ((nearL two (ent one k k) n).filter (fitL one two k T)).map fun v => T ++ [v]
def mapsL (one two : Mx) (n : Nat) : List Mx := ((tupL one two n n).filter fun T => decide ((detF n (ent T)).natAbs = 1)).mergeSort mtLe
structure MpOk (one two : Mx) (n : Nat) : Prop where
  sh : Sh one n n
  ne : ∀ k, k < n → NeOk' two (ent one k k) n
  sz : ∀ k, k ≤ n → (tupL one two n k).length ≤ 16000000
  n1 : 1 ≤ n
theorem tupL_sh {one two : Mx} {n : Nat} : ∀ {k : Nat} {T : Mx}, T ∈ tupL one two n k → Sh T k n ∧ ∀ r ∈ T, ∀ x ∈ r, x.natAbs ≤ 200
  | 0, T, h => by
    have : T = [] := by simpa [tupL] using h
    rw [this]
    exact ⟨⟨rfl, fun r hr => by cases hr⟩, fun r hr => by cases hr⟩
  | k + 1, T, h => by
    unfold tupL at h
    obtain ⟨U, hU, h2⟩ := List.mem_flatMap.mp h
    obtain ⟨v, hv, rfl⟩ := List.mem_map.mp h2
    have hv2 := (List.mem_filter.mp (List.mem_filter.mp hv).1).1
    obtain ⟨s, b⟩ := tupL_sh hU
    refine ⟨⟨by rw [List.length_append, s.len]; rfl, fun r hr => ?_⟩, fun r hr => ?_⟩
    · rcases List.mem_append.mp hr with hr | hr
      · exact s.row r hr
      · rw [List.mem_singleton.mp hr]
        exact outL_len hv2
    · rcases List.mem_append.mp hr with hr | hr
      · exact b r hr
      · rw [List.mem_singleton.mp hr]
        exact outL_bd hv2
theorem eqv_ri (v u : List Int) : PyData.eqv (ri v).py (ri u).py = decide (v = u) := by
  have e : ∀ r : List Int, (ri r).py = .list (r.map PyData.int) := fun r => by
    show PyData.list (D.pys (r.map D.int)) = _
    rw [pys_map, List.map_map]
    rfl
  rw [e, e, PyData.eqv]
  exact eqv_ints v u
theorem eqq_ri (v : List Int) : (ri v).eqq := by
  refine ⟨flat_ints v, ?_⟩
  have e : (ri v).py = .list (v.map PyData.int) := by
    show PyData.list (D.pys (v.map D.int)) = _
    rw [pys_map, List.map_map]
    rfl
  rw [e, PyData.depth]
  have := depthAll_le (n := 0) (l := v.map PyData.int) fun d hd => by
    obtain ⟨x, _, rfl⟩ := List.mem_map.mp hd
    exact Nat.le_refl _
  omega
def phiLMaps : TF := fun ds μ R => ∃ one two n, ds = [ml one, ml two] ∧ MpOk one two n ∧ R (.lst ((mapsL one two n).map mt)) μ
theorem sc_LMaps : FnScope ["_law_one", "_law_two", "_law_tuples", "_law_k", "_law_near_here", "_law_longer", "_law_vectors", "_law_v", "_law_b", "_law_products"] ["_law_one", "_law_two"] (defScope sLMaps) := ⟨rfl, rfl, rfl, by decide +kernel, rfl, by decide +kernel, by decide +kernel⟩
theorem okLMaps (T : Tx K mg) : FnOk P w K mg base CX0 7 (He.ga K "_law_maps") (fdOf K (He.ga K "_law_maps")) ["_law_one", "_law_two"] (spD K phiLMaps) := by
  have sc := sc_LMaps
  have FLDeterminant := okLDeterminant (P := P) (w := w) (base := base) T
  have FLNear := okLNear (P := P) (w := w) (base := base) T
  have FLProduct := okLProduct (P := P) (w := w) (base := base) T
  refine fnd_ok T.d_LMaps sc (fun ds μ R h => ?len) fun cdv A outer s H E hr => ⟨_, _, (ss_cons (s_set 2 sc.nd (d_lst (a_cons (d_tup a_nil) a_nil)))
      (ss_cons (s_for PassesOwn.never rfl (i_range1 T.n_range (d_callB (c_len) T.n_len (a_cons (dv 0) a_nil))) (g_name 3 sc.nd) (ss_cons (s_set 4 sc.nd (d_call FLNear (hr.mono (by decide)) T.g_LNear T.d_LNear.kp T.b_LNear (a_cons (dv 1) (a_cons (d_ix (d_ix (dv 0) (dv 3)) (dv 3)) a_nil))))
      (ss_cons (s_set 5 sc.nd (d_lstM a_nil))
      (ss_cons (s_for PassesOwn.never rfl (i_seq (d_callTy (c_list) T.n_list (a_cons (dv 2) a_nil))) (g_name 6 sc.nd) (ss_one (s_for PassesOwn.never rfl (i_seq (dv 4)) (g_name 7 sc.nd) (ss_cons (s_setLc 9 rfl sc.nd (i_seq (dv 6)) (blkOk_by (own := [("_law_b", 8)]) (by first | rfl | kernel_rfl)) fr_name (fun s H C cl fp => (g_name 8 sc.nd)) (fun s H C cl fp => ts_nil) (fun s H C cl fp => (d_call FLProduct (hr.mono (by decide)) T.g_LProduct T.d_LProduct.kp T.b_LProduct (a_cons (dv 1) (a_cons (dv 8) (a_cons (dv 7) a_nil))))))
      (ss_one (s_if (t_w (tw_and (t_cmp (o_eq (hu hr)) (d_call FLProduct (hr.mono (by decide)) T.g_LProduct T.d_LProduct.kp T.b_LProduct (a_cons (dv 1) (a_cons (dv 7) (a_cons (dv 7) a_nil)))) (d_ix (d_ix (dv 0) (dv 3)) (dv 3))) (tw_and1 (t_cmp (o_eq (hu hr)) (dv 9) (d_slice (d_ix (dv 0) (dv 3)) o_none (o_some (dv 3))))))) (ss_one (s_expr (d_app (dv 5) (d_bin o_add (dv 6) (d_tup (a_cons (dv 7) a_nil)))))) ss_nil))))))
      (ss_one (s_set 2 sc.nd (d_fz (dv 5))))))))
      (ss_one (s_ret (d_callB (c_sort (hu hr)) T.n_sorted (a_cons (d_lc rfl sc.nd (i_seq (dv 2)) (blkOk_by (own := [("_law_vectors", 6)]) (by first | rfl | kernel_rfl)) fr_name (fun s H C cl fp => (g_name 6 sc.nd)) (fun s H C cl fp => (ts_one (t_cmp (o_eq (hu hr)) (d_callB (c_abs) T.n_abs (a_cons (d_call FLDeterminant (hr.mono (by decide)) T.g_LDeterminant T.d_LDeterminant.kp T.b_LDeterminant (a_cons (d_lc rfl sc.nd (i_seq (dv 6)) (blkOk_by (own := [("_law_v", 7)]) (by first | rfl | kernel_rfl)) fr_name (fun s H C cl fp => (g_name 7 sc.nd)) (fun s H C cl fp => ts_nil) (fun s H C cl fp => (d_callTy (c_list) T.n_list (a_cons (dv 7) a_nil)))) a_nil)) a_nil)) d_int))) (fun s H C cl fp => (dv 6))) a_nil)))))), fun ds μ R h => ?_⟩
  case len => obtain ⟨one, two, n, rfl, _⟩ := h; rfl
  obtain ⟨one, two, n, rfl, C, hR⟩ := h
  have sL := sLine
  have sh := C.sh
  have n1 := C.n1
  have c0 := C.ne 0 n1
  have n3 := c0.n3
  have sh2 := c0.sh
  refine ⟨Nat.zero_le _, by show 1 ≤ sizeLine; omega, ?_⟩
  refine ⟨RB_nat (by rw [List.length_map, sh.len]; omega), ?_⟩
  refine for_rng 0 n rfl (by rw [List.length_map, sh.len]; omega) (fun k ρ μ' => μ' = μ ∧ ∃ x3 x4 x5 x6 x7 x8 x9, ρ = [some (ml one), some (ml two), some (.lst ((tupL one two n k).map mt)), x3, x4, x5, x6, x7, x8, x9]) ⟨rfl, none, none, none, none, none, none, none, rfl⟩ ?_ ?_
  · rintro k ρ μ' _ hk ⟨rfl, x3, x4, x5, x6, x7, x8, x9, rfl⟩
    have okk : ∀ {Y : D → Sto → Prop} {μ : Sto}, Y (.int (ent one k k)) μ → pIx (ml one) (.int (k : Int)) μ fun e μ1 => pIx e (.int (k : Int)) μ1 Y := fun {Y μ} hy =>
      pIx.lst (dAt_map [] (by rw [sh.len]; exact hk) (pIx.lst (dAt_map 0 (by rw [sh.get hk]; exact hk) hy)))
    refine okk ?_
    refine ⟨two, ent one k k, n, rfl, C.ne k hk, ?_⟩
    refine ⟨Nat.zero_le _, fun p hp => ?_⟩
    refine Sq.lst ?_
    have nxt : tupL one two n (k + 1) = (tupL one two n k).flatMap fun T => ((nearL two (ent one k k) n).filter (fitL one two k T)).map fun v => T ++ [v] := rfl
    have sz := C.sz (k + 1) (by omega)
    have nbd : ∀ v ∈ nearL two (ent one k k) n, v.length = n ∧ ∀ x ∈ v, x.natAbs ≤ 2 ^ 20 := fun v hv => by
      have h1 := (List.mem_filter.mp hv).1
      exact ⟨outL_len h1, fun x hx => Nat.le_trans (outL_bd h1 x hx) (by decide)⟩
    generalize nearL two (ent one k k) n = near at nxt nbd ⊢
    refine for_seq (tupL one two n k) mt rfl (fun a ρ μ2 => ∃ x6 x7 x8 x9, μ2 = μ'.put p (.lst ((((tupL one two n k).take a).flatMap fun T => (near.filter (fitL one two k T)).map fun v => T ++ [v]).map mt)) ∧
      ρ = [some (ml one), some (ml two), some (.lst ((tupL one two n k).map mt)), some (.int (k : Int)), some (.lst (near.map rt)), some (.adr p), x6, x7, x8, x9]) ⟨x6, x7, x8, x9, rfl, rfl⟩ (fun _ _ _ _ => trivial) ?_ ?_
    · rintro a U ρ μ2 hU ⟨x6, x7, x8, x9, rfl, rfl⟩
      have mU := List.mem_of_getElem? hU
      obtain ⟨sU, bU⟩ := tupL_sh mU
      have bU2 : ∀ r ∈ U, ∀ x ∈ r, x.natAbs ≤ 2 ^ 20 := fun r hr x hx => Nat.le_trans (bU r hr x hx) (by decide)
      generalize hacc : ((tupL one two n k).take a).flatMap (fun T => (near.filter (fitL one two k T)).map fun v => T ++ [v]) = acc
      have tk : ((tupL one two n k).take (a + 1)).flatMap (fun T => (near.filter (fitL one two k T)).map fun v => T ++ [v]) = acc ++ (near.filter (fitL one two k U)).map fun v => U ++ [v] := by
        rw [List.take_add_one, hU, List.flatMap_append, hacc]
        simp
      have szt : acc.length + (near.filter (fitL one two k U)).length ≤ 16000000 := by
        have fl := flat_len (tupL one two n k) (fun T => (near.filter (fitL one two k T)).map fun v => T ++ [v]) hU (b := (near.filter (fitL one two k U)).length) (by rw [List.length_map]; exact Nat.le_refl _)
        rw [hacc, ← nxt] at fl
        omega
      refine Sq.lst ?_
      refine for_seq near rt rfl (fun b ρ μ3 => ∃ x7 x8 x9, μ3 = μ'.put p (.lst ((acc ++ ((near.take b).filter (fitL one two k U)).map fun v => U ++ [v]).map mt)) ∧
        ρ = [some (ml one), some (ml two), some (.lst ((tupL one two n k).map mt)), some (.int (k : Int)), some (.lst (near.map rt)), some (.adr p), some (mt U), x7, x8, x9]) ⟨x7, x8, x9, by simp, rfl⟩ (fun _ _ _ _ => trivial) ?_ ?_
      · rintro b v ρ μ3 hv ⟨x7, x8, x9, rfl, rfl⟩
        have mv := List.mem_of_getElem? hv
        obtain ⟨lv, bv⟩ := nbd v mv
        have tkb : near.take (b + 1) = near.take b ++ [v] := by rw [List.take_add_one, hv]; rfl
        generalize hst : μ'.put p (.lst ((acc ++ ((near.take b).filter (fitL one two k U)).map fun v => U ++ [v]).map mt)) = μ4
        have hp4 : μ4 p = some (.lst ((acc ++ ((near.take b).filter (fitL one two k U)).map fun v => U ++ [v]).map mt)) := by rw [← hst]; exact Sto.put_same
        refine Sq.tup ?_
        refine lc_map U rt (fun b => .int (prodL two b v)) rfl (by rw [sU.len]; omega) trivial (fun r hr Y hY => ?_) ?_
        · exact ⟨_, two, r, v, _, _, rfl, prC sh2 n3 .rt .rt (sU.row r hr) lv (bU2 r hr) bv, hY⟩
        have er : (U.map fun b => D.int (prodL two b v)) = (U.map fun b => prodL two b v).map D.int := by rw [List.map_map]; rfl
        rw [er]
        refine ⟨_, two, v, v, _, _, rfl, prC sh2 n3 .rt .rt lv lv bv bv, ?_⟩
        refine okk ?_
        have cutk : cut ((one.getD k []).map D.int) none (some (k : Int)) = ((one.getD k []).take k).map D.int := by rw [cut_map, cut_take]
        have tkf : ∀ bb : Bool, bb = fitL one two k U v → ((near.take (b + 1)).filter (fitL one two k U)) = (near.take b).filter (fitL one two k U) ++ if bb = true then [v] else [] := fun bb hb => by
          subst hb
          rw [tkb, List.filter_append]
          cases hf : fitL one two k U v <;> simp [hf]
        have no : fitL one two k U v = false → (fun (ρ : Ev) μ3 => ∃ x7 x8 x9, μ3 = μ'.put p (.lst ((acc ++ ((near.take (b + 1)).filter (fitL one two k U)).map fun v => U ++ [v]).map mt)) ∧
            ρ = [some (ml one), some (ml two), some (.lst ((tupL one two n k).map mt)), some (.int (k : Int)), some (.lst (near.map rt)), some (.adr p), some (mt U), x7, x8, x9])
            [some (ml one), some (ml two), some (.lst ((tupL one two n k).map mt)), some (.int (k : Int)), some (.lst (near.map rt)), some (.adr p), some (mt U), some (rt v), x8, some (ri (U.map fun b => prodL two b v))] μ4 := fun hf => by
          refine ⟨_, _, _, ?_, rfl⟩
          rw [tkf false hf.symm, ← hst]
          simp
        refine if_eq (fun c => ?_) fun c => ?_
        · refine pIx.lst (dAt_map [] (by rw [sh.len]; exact hk) ?_)
          refine ⟨eqq_ri _, by rw [cutk]; exact eqq_ri _, ?_⟩
          have e : id (PyData.eqv (ri (U.map fun b => prodL two b v)).py (D.lst (cut ((one.getD k []).map D.int) none (some (k : Int)))).py) = decide ((U.map fun b => prodL two b v) = (one.getD k []).take k) := by
            rw [cutk]
            exact eqv_ri _ _
          show if id (PyData.eqv (ri (U.map fun b => prodL two b v)).py (D.lst (cut ((one.getD k []).map D.int) none (some (k : Int)))).py) = true then _ else _
          rw [e]
          refine if_dec (fun c2 => ?_) fun c2 => ?_
          · refine onL_lst hp4 ?_
            refine ⟨by show 1 ≤ sizeLine; omega, by show (U.map rt).length + 1 ≤ sizeLine; rw [List.length_map, sU.len]; omega, ?_⟩
            refine onL_lst hp4 ⟨?_, ?_⟩
            · rw [List.length_map, List.length_append, List.length_map]
              have h2 : (near.filter (fitL one two k U)).length = ((near.take (b + 1)).filter (fitL one two k U)).length + ((near.drop (b + 1)).filter (fitL one two k U)).length := by
                rw [← List.length_append, ← List.filter_append, List.take_append_drop]
              have hf : true = fitL one two k U v := (decide_eq_true ⟨c, c2⟩).symm
              have h3 := congrArg List.length (tkf true hf)
              rw [List.length_append] at h3
              simp at h3
              omega
            · refine ⟨_, _, _, ?_, rfl⟩
              have hf : true = fitL one two k U v := (decide_eq_true ⟨c, c2⟩).symm
              have e2 : D.tup (U.map rt ++ [rt v]) = mt (U ++ [v]) := by show _ = D.tup ((U ++ [v]).map rt); rw [List.map_append]; rfl
              rw [tkf true hf, ← hst, Sto.put_put]
              simp [e2]
          · exact no (decide_eq_false fun z => c2 z.2)
        · exact no (decide_eq_false fun z => c z.1)
      · rintro ρ μ3 ⟨x7, x8, x9, rfl, rfl⟩
        rw [List.take_length]
        exact ⟨_, _, _, _, by rw [tk], rfl⟩
    · rintro ρ μ2 ⟨x6, x7, x8, x9, rfl, rfl⟩
      rw [List.take_length, ← nxt]
      refine ⟨μ', _, SubS.put_none hp, .adr hp Sto.put_same (Fzs.refl _), rfl, _, _, _, _, _, _, _, rfl⟩
  · rintro ρ μ' ⟨rfl, x3, x4, x5, x6, x7, x8, x9, rfl⟩
    rw [Nat.max_eq_right (Nat.zero_le _)]
    have sz := C.sz n (Nat.le_refl _)
    refine Sq.lst ?_
    refine lc_fil (tupL one two n n) mt mt (fun T => decide ((detF n (ent T)).natAbs = 1)) rfl (by omega) trivial (fun U hU Y Nn hy hn => ?_) ?_
    · obtain ⟨sU, bU⟩ := tupL_sh hU
      refine Sq.tup ?_
      refine lc_map U rt ri rfl (by rw [sU.len]; omega) trivial (fun r hr Z hZ => hZ) ?_
      refine ⟨U, n, rfl, sU, by omega, n3, fun i j hi hj => ?_, ?_⟩
      · have := bU _ (List.getElem_mem (by rw [sU.len]; exact hi : i < U.length))
        have h2 := getD_bd this j
        unfold ent
        rw [List.getD_eq_getElem?_getD (l := U), List.getElem?_eq_getElem (by rw [sU.len]; exact hi)]
        exact Nat.le_trans h2 (by decide)
      · have key : if id (decide (((detF n (ent U)).natAbs : Int) = 1)) = true then Y (mt U) μ' else Nn μ' := if_eq (fun c => hy (decide_eq_true (by omega))) fun c => hn (decide_eq_false (by omega))
        exact key
    · generalize hF : (tupL one two n n).filter (fun T => decide ((detF n (ent T)).natAbs = 1)) = F
      have lF : F.length ≤ 16000000 := by rw [← hF]; exact Nat.le_trans (List.length_filter_le _ _) sz
      have ne0 : ∀ W ∈ F, W ≠ [] := fun W hW e => by
        rw [← hF] at hW
        have := (tupL_sh (List.mem_filter.mp hW).1).1.len
        rw [e] at this
        have : 0 = n := this
        omega
      have srt : (F.map mt).mergeSort dLe = (F.mergeSort mtLe).map mt := (PySem.W.sort_maps mt fun a _ b _ => rfl).symm
      refine ⟨mt_sort F (by omega) ne0, ?_⟩
      rw [srt, ← hF]
      exact fzR.now hR
end
end Gm
end
/-! Bd -/
section
set_option Elab.async false
set_option linter.all false
set_option maxRecDepth 100000
set_option maxHeartbeats 4000000
namespace Gm
open PySem PySem.Spec PyProof.Rows L2 DL Gp
def offS (t : Mx) (n i : Nat) : Int := sumN (fun j => if j = i then 0 else ((ent t i j).natAbs : Int)) n
/-- a base lattice: B the bound beside the diagonal, E the slack on it -/
structure BaseOk (t : Mx) (n : Nat) (B E : Int) : Prop where
  sh : Sh t n n
  n1 : 1 ≤ n
  n3 : n ≤ 3
  sy : ∀ i j, i < n → j < n → ent t i j = ent t j i
  off : ∀ i j, i < n → j < n → i ≠ j → ((ent t i j).natAbs : Int) ≤ B
  dg : ∀ i, i < n → ∃ e : Int, 0 ≤ e ∧ e ≤ E ∧ ent t i i = 1 + e + offS t n i
theorem sum_sumN : ∀ (xs : List Int), xs.sum = sumN (fun j => xs.getD j 0) xs.length := by
  intro xs
  have key : ∀ (k : Nat), k ≤ xs.length → (xs.take k).sum = sumN (fun j => xs.getD j 0) k := fun k => by
    induction k with
    | zero => intro _; simp [sumN]
    | succ k ih =>
      intro hk
      have h := ih (by omega)
      rw [List.take_add_one, List.sum_append, h, sumN]
      congr 1
      rw [List.getElem?_eq_getElem (by omega : k < xs.length), List.getD_eq_getElem?_getD, List.getElem?_eq_getElem (by omega : k < xs.length)]
      simp
  have := key xs.length (Nat.le_refl _)
  rw [List.take_length] at this
  exact this
theorem sumN_congr {f g : Nat → Int} : ∀ {n : Nat}, (∀ i, i < n → f i = g i) → sumN f n = sumN g n
  | 0, _ => rfl
  | n + 1, h => by
    rw [sumN, sumN, sumN_congr (n := n) fun i hi => h i (by omega), h n (by omega)]
section
variable {P : Program} {w : World} {K : PySem.W.Frag} {mg : Str → Option Value} {base : Heap}
/-- what the first loops of _law_gram keep -/
structure G1 (t : Mx) (n : Nat) : Prop where
  sh : Sh t n n
  dz : ∀ a, a < n → ent t a a = 0
  sy : ∀ a b, a < n → b < n → ent t a b = ent t b a
  bd : ∀ a b, a < n → b < n → (ent t a b).natAbs ≤ 1
/-- .. of the last one -/
structure G2 (t : Mx) (n i : Nat) : Prop where
  sh : Sh t n n
  dz : ∀ a, i ≤ a → a < n → ent t a a = 0
  sy : ∀ a b, a < n → b < n → ent t a b = ent t b a
  bd : ∀ a b, a < n → b < n → a ≠ b → (ent t a b).natAbs ≤ 1
  dg : ∀ a, a < i → ∃ e : Int, 0 ≤ e ∧ e ≤ 2 ∧ ent t a a = 1 + e + offS t n a
def phiLGram : TF := fun ds μ R => ∃ p a b most, ds = [.adr p, .int most] ∧ μ p = some (stO a b) ∧ (most = 2 ∨ most = 3) ∧ ∀ t n a' b' q qs μ', BaseOk t n 1 2 → Nst (μ.put p (stO a' b')) μ' q qs t → R (.adr q) μ'
theorem ent_zeros {n a b : Nat} : ent (List.replicate n (zeros n)) a b = 0 := by
  unfold ent
  rw [List.getD_eq_getElem?_getD (l := List.replicate n (zeros n)), List.getElem?_replicate]
  split
  · exact zeros_get
  · rfl
theorem seqCut2 {φ φ' χ : TDS} {R : DEnds} {ρ : Ev} {μ : Sto} (N : Ev → Sto → Prop) (h2 : ∀ ρ μ, N ρ μ → χ R ρ μ) (h1 : (∀ ρ μ, N ρ μ → χ R ρ μ) → sSeq φ (sSeq φ' χ) R ρ μ) : sSeq φ (sSeq φ' χ) R ρ μ := h1 h2
theorem sc_LGram : FnScope ["_law_state_here", "_law_most", "_law_size", "_law_i", "_law_j", "_law_rows", "_law_x"] ["_law_state_here", "_law_most"] (defScope sLGram) := ⟨rfl, rfl, rfl, by decide +kernel, rfl, by decide +kernel, by decide +kernel⟩
theorem okLGram (T : Tx K mg) : FnOk P w K mg base CX0 2 (He.ga K "_law_gram") (fdOf K (He.ga K "_law_gram")) ["_law_state_here", "_law_most"] (spD K phiLGram) := by
  have sc := sc_LGram
  have FLTake := okLTake (P := P) (w := w) (base := base) T
  refine fnd_ok T.d_LGram sc (fun ds μ R h => ?len) fun cdv A outer s H E hr => ⟨_, _, (ss_cons (s_set 2 sc.nd (d_bin o_add d_int (d_call FLTake (hr.mono (by decide)) T.g_LTake T.d_LTake.kp T.b_LTake (a_cons (dv 0) (a_cons (dv 1) a_nil)))))
      (ss_cons (s_if (t_w (tw_and (t_cmp o_gtI (dv 2) d_int) (tw_and1 (t_cmp (o_eq (hu hr)) (d_call FLTake (hr.mono (by decide)) T.g_LTake T.d_LTake.kp T.b_LTake (a_cons (dv 0) (a_cons d_int a_nil))) d_int)))) (ss_one (s_set 2 sc.nd d_int)) ss_nil)
      (ss_cons (s_setLcM 5 rfl sc.nd (i_range1 T.n_range (dv 2)) (blkOk_by (own := [("_law_i", 3)]) (by first | rfl | kernel_rfl)) fr_name (fun s H C cl fp => (g_name 3 sc.nd)) (fun s H C cl fp => ts_nil) (fun s H C cl fp => (d_lcM rfl sc.nd (i_range1 T.n_range (dv 2)) (blkOk_by (own := [("_law_j", 4)]) (by first | rfl | kernel_rfl)) fr_name (fun s H C cl fp => (g_name 4 sc.nd)) (fun s H C cl fp => ts_nil) (fun s H C cl fp => d_int))))
      (ss_cons (s_for PassesOwn.never rfl (i_range1 T.n_range (dv 2)) (g_name 3 sc.nd) (ss_one (s_for PassesOwn.never rfl (i_range1 T.n_range (dv 3)) (g_name 4 sc.nd) (ss_cons (s_asg (d_bin o_sub (d_call FLTake (hr.mono (by decide)) T.g_LTake T.d_LTake.kp T.b_LTake (a_cons (dv 0) (a_cons d_int a_nil))) d_int) (g_sub (d_ix (dv 5) (dv 3)) (dv 4)))
      (ss_one (s_asg (d_ix (d_ix (dv 5) (dv 3)) (dv 4)) (g_sub (d_ix (dv 5) (dv 4)) (dv 3))))))))
      (ss_cons (s_for PassesOwn.never rfl (i_range1 T.n_range (dv 2)) (g_name 3 sc.nd) (ss_one (s_asg (d_bin o_add (d_bin o_add d_int (d_call FLTake (hr.mono (by decide)) T.g_LTake T.d_LTake.kp T.b_LTake (a_cons (dv 0) (a_cons d_int a_nil)))) (d_callB (c_sum rfl) T.n_sum (a_cons (d_lc rfl sc.nd (i_seq (d_ix (dv 5) (dv 3))) (blkOk_by (own := [("_law_x", 6)]) (by first | rfl | kernel_rfl)) fr_name (fun s H C cl fp => (g_name 6 sc.nd)) (fun s H C cl fp => ts_nil) (fun s H C cl fp => (d_callB (c_abs) T.n_abs (a_cons (dv 6) a_nil)))) a_nil))) (g_sub (d_ix (dv 5) (dv 3)) (dv 3)))))
      (ss_one (s_ret (dv 5)))))))), fun ds μ R h => ?_⟩
  case len => obtain ⟨p, a, b, most, rfl, _⟩ := h; rfl
  obtain ⟨p, a, b, most, rfl, hp, hm, hR⟩ := h
  have sL := sLine
  have tk : ∀ {μ' : Sto} {q : Addr} {qs : List Addr} {t : Mx} {a b : Int} (a' b' : Int), Nst (μ.put p (stO a b)) μ' q qs t → Nst (μ.put p (stO a' b')) (μ'.put p (stO a' b')) q qs t := fun {μ' q qs t a b} a' b' N => by
    have N2 := N.base (o' := stO a' b') (Sto.put_same)
    rwa [Sto.put_put] at N2
  refine seqCut2 (fun ρ μ' => ∃ (n : Nat) (sz : Int) (a b : Int), sz = (n : Int) ∧ 1 ≤ n ∧ n ≤ 3 ∧ μ' = μ.put p (stO a b) ∧ ρ = [some (.adr p), some (.int most), some (.int sz), none, none, none, none]) ?_ fun k => ?_
  · rintro ρ μ' ⟨n, sz, a, b, hsz, n1, n3, rfl, rfl⟩
    clear hm
    have hsn : sz.toNat = n := by omega
    refine ⟨⟨by omega, by omega⟩, ?_⟩
    refine ⟨by rw [rngD_length]; omega, fun i acc μ' => ∃ qs, acc = qs.map D.adr ∧ Zs (μ.put p (stO a b)) μ' qs (List.replicate i (zeros n)), ⟨[], rfl, .nil⟩, fun _ _ _ _ => trivial, ?_, ?_⟩
    · rintro i d acc μ' hd _ ⟨qs, rfl, Z⟩
      refine ⟨⟨by omega, by omega⟩, ?_⟩
      refine lc_map (List.range n) (fun i : Nat => D.int (0 + (i : Int))) (fun _ => .int 0) (by rw [rngD_eq, hsn]) (by rw [List.length_range]; omega) trivial (fun i hi Y hY => hY) ?_
      intro p2 hp2
      have e : ((List.range n).map fun _ => D.int 0) = (zeros n).map D.int := by
        unfold zeros
        rw [List.map_replicate]
        exact List.map_const'.trans (by rw [List.length_range])
      rw [e]
      refine ⟨qs ++ [p2], by rw [List.map_append]; rfl, ?_⟩
      rw [List.replicate_succ']
      exact Z.next hp2
    rintro acc μ' ⟨qs, rfl, Z⟩ q hq
    rw [rngD_length, hsn] at Z
    have N0 := Z.fin hq
    clear Z
    generalize μ'.put q (.lst (qs.map D.adr)) = μ1 at N0 ⊢
    refine ⟨⟨by omega, by omega⟩, ?_⟩
    refine for_rng 0 n rfl (by omega) (fun i ρ μ2 => ∃ t a b x3 x4, Nst (μ.put p (stO a b)) μ2 q qs t ∧ G1 t n ∧ ρ = [some (.adr p), some (.int most), some (.int sz), x3, x4, some (.adr q), none])
      ⟨_, a, b, none, none, N0, ⟨⟨by rw [List.length_replicate], fun r hr => by rw [List.eq_of_mem_replicate hr]; simp [zeros]⟩, fun a _ => ent_zeros, fun a b _ _ => by rw [ent_zeros, ent_zeros], fun a b _ _ => by rw [ent_zeros]; decide⟩, rfl⟩ ?_ ?_
    · rintro i ρ μ2 _ hi ⟨t, a, b, x3, x4, N, g, rfl⟩
      refine ⟨RB_nat (by omega), ?_⟩
      refine for_rng 0 i rfl (by omega) (fun j ρ μ2 => ∃ t a b x4, Nst (μ.put p (stO a b)) μ2 q qs t ∧ G1 t n ∧ ρ = [some (.adr p), some (.int most), some (.int sz), some (.int (i : Int)), x4, some (.adr q), none]) ⟨t, a, b, x4, N, g, rfl⟩ ?_ ?_
      · rintro j ρ μ2 _ hj ⟨t, a, b, x4, N, g, rfl⟩
        have hj' : j < n := by omega
        refine ⟨p, a, b, 3, rfl, N.sub p _ Sto.put_same, by decide, by decide, fun v a' b' v0 v1 => ?_⟩
        have N := tk a' b' N
        generalize μ2.put p (stO a' b') = μ3 at N ⊢
        refine N.at (by rw [g.sh.len]; exact hi) fun p1 hp1 => ?_
        refine N.st hp1 (by rw [g.sh.get hi]; exact hj') fun N1 => ?_
        have sh1 := g.sh.cell (j := j) (x := v - 1) hi
        have e1 : ∀ a b, ent (t.set i ((t.getD i []).set j (v - 1))) a b = if a = i ∧ b = j then v - 1 else ent t a b := fun a b => ent_set (by rw [g.sh.len]; exact hi) (by rw [g.sh.get hi]; exact hj')
        generalize t.set i ((t.getD i []).set j (v - 1)) = t1 at N1 sh1 e1
        refine N1.rd (by rw [sh1.len]; exact hi) (by rw [sh1.get hi]; exact hj') ?_
        have e1ij : ent t1 i j = v - 1 := by rw [e1, if_pos ⟨rfl, rfl⟩]
        rw [e1ij]
        refine N1.at (by rw [sh1.len]; exact hj') fun p2 hp2 => ?_
        refine N1.st hp2 (by rw [sh1.get hj']; exact hi) fun N2 => ?_
        have sh2 := sh1.cell (j := i) (x := v - 1) hj'
        have e2 : ∀ a b, ent (t1.set j ((t1.getD j []).set i (v - 1))) a b = if a = j ∧ b = i then v - 1 else ent t1 a b := fun a b => ent_set (by rw [sh1.len]; exact hj') (by rw [sh1.get hj']; exact hi)
        refine ⟨_, a', b', _, N2, ⟨sh2, fun c hc => ?_, fun c d hc hd => ?_, fun c d hc hd => ?_⟩, rfl⟩
        · rw [e2, if_neg (by omega), e1, if_neg (by omega)]
          exact g.dz c hc
        · have := g.sy c d hc hd
          rw [e2, e2, e1, e1]
          split <;> split <;> first | rfl | omega | (split <;> split <;> first | rfl | omega | exact this)
        · have := g.bd c d hc hd
          rw [e2, e1]
          split
          · omega
          · split <;> omega
      · rintro ρ μ2 ⟨t, a, b, x4, N, g, rfl⟩
        exact ⟨t, a, b, _, _, N, g, rfl⟩
    · rintro ρ μ2 ⟨t, a, b, x3, x4, N, g, rfl⟩
      refine ⟨⟨by omega, by omega⟩, ?_⟩
      refine for_rng 0 n rfl (by omega) (fun i ρ μ2 => ∃ t a b x3 x4 x6, Nst (μ.put p (stO a b)) μ2 q qs t ∧ G2 t n i ∧ ρ = [some (.adr p), some (.int most), some (.int sz), x3, x4, some (.adr q), x6])
        ⟨t, a, b, x3, x4, none, N, ⟨g.sh, fun c _ hc => g.dz c hc, g.sy, fun c d hc hd _ => g.bd c d hc hd, fun c hc => by omega⟩, rfl⟩ ?_ ?_
      · rintro i ρ μ2 _ hi ⟨t, a, b, x3, x4, x6, N, g, rfl⟩
        refine ⟨p, a, b, 3, rfl, N.sub p _ Sto.put_same, by decide, by decide, fun v a' b' v0 v1 => ?_⟩
        have N := tk a' b' N
        generalize μ2.put p (stO a' b') = μ3 at N ⊢
        refine N.at (by rw [g.sh.len]; exact hi) fun p1 hp1 => ?_
        have rw1 := N.row i p1 hp1
        refine Sq.adr rw1.2 ?_
        refine lc_map (t.getD i []) D.int (fun x => .int (x.natAbs : Int)) rfl (by rw [g.sh.get hi]; omega) rw1.2 (fun x hx Y hY => hY) ?_
        have er : ((t.getD i []).map fun x => D.int (x.natAbs : Int)) = ((t.getD i []).map fun x => (x.natAbs : Int)).map D.int := by rw [List.map_map]; rfl
        rw [er]
        refine onNs_map ?_
        have es : ((t.getD i []).map fun x => (x.natAbs : Int)).sum = offS t n i := by
          rw [sum_sumN, List.length_map, g.sh.get hi]
          refine sumN_congr fun j hj => ?_
          rw [getD_map _ _ _ 0 _ (by rw [g.sh.get hi]; exact hj)]
          show ((ent t i j).natAbs : Int) = _
          split
          · rename_i c
            rw [c, g.dz i (Nat.le_refl _) hi]
            rfl
          · rfl
        rw [es]
        refine N.at (by rw [g.sh.len]; exact hi) fun p1 hp1 => ?_
        refine N.st hp1 (by rw [g.sh.get hi]; exact hi) fun N1 => ?_
        have sh1 := g.sh.cell (j := i) (x := 1 + v + offS t n i) hi
        have e1 : ∀ a b, ent (t.set i ((t.getD i []).set i (1 + v + offS t n i))) a b = if a = i ∧ b = i then 1 + v + offS t n i else ent t a b := fun a b => ent_set (by rw [g.sh.len]; exact hi) (by rw [g.sh.get hi]; exact hi)
        have eo : ∀ c, offS (t.set i ((t.getD i []).set i (1 + v + offS t n i))) n c = offS t n c := fun c => sumN_congr fun j hj => by
          split
          · rfl
          · rw [e1, if_neg (by omega)]
        refine ⟨_, a', b', _, x4, _, N1, ⟨sh1, fun c hc hcn => ?_, fun c d hc hd => ?_, fun c d hc hd hcd => ?_, fun c hc => ?_⟩, rfl⟩
        · rw [e1, if_neg (by omega)]
          exact g.dz c (by omega) hcn
        · have := g.sy c d hc hd
          rw [e1, e1]
          split <;> split <;> first | rfl | omega | exact this
        · rw [e1, if_neg (by omega)]
          exact g.bd c d hc hd hcd
        · rw [eo, e1]
          by_cases ci : c = i
          · subst ci
            rw [if_pos ⟨rfl, rfl⟩]
            exact ⟨v, v0, by omega, rfl⟩
          · rw [if_neg (by omega)]
            exact g.dg c (by omega)
      · rintro ρ μ2 ⟨t, a, b, x3, x4, x6, N, g, rfl⟩
        rw [Nat.max_eq_right (Nat.zero_le _)] at g
        exact fzR.now (hR t n a b q qs μ2 ⟨g.sh, n1, n3, g.sy, fun i j hi hj hij => by have := g.bd i j hi hj hij; omega, g.dg⟩ N)
  · refine ⟨p, a, b, most, rfl, hp, by omega, by omega, fun v a b v0 v1 => ?_⟩
    refine if_dec (fun c => ?_) fun c => ?_
    · refine ⟨p, a, b, 2, rfl, Sto.put_same, by decide, by decide, fun v2 a b _ _ => ?_⟩
      refine if_eq (fun c2 => ?_) fun c2 => ?_
      · exact k _ _ ⟨2, 2, a, b, rfl, by decide, by decide, by rw [Sto.put_put], rfl⟩
      · exact k _ _ ⟨3, 1 + v, a, b, by omega, by decide, by decide, by rw [Sto.put_put], rfl⟩
    · exact k _ _ ⟨(1 + v).toNat, 1 + v, a, b, by omega, by omega, by omega, rfl, rfl⟩
end
end Gm
end
/-! Be -/
section
set_option Elab.async false
set_option linter.all false
set_option maxRecDepth 100000
set_option maxHeartbeats 4000000
namespace Gm
open PySem PySem.Spec PyProof.Rows L2 DL Gp
theorem Zs.nil' {μ0 μ : Sto} (h : SubS μ0 μ) : Zs μ0 μ [] [] := ⟨h, rfl, List.Pairwise.nil, fun i p h => by simp at h⟩
theorem Zs.base {μ0 μ : Sto} {qs : List Addr} {t : Mx} (Z : Zs μ0 μ qs t) {p : Addr} {o o' : MO} (hp : μ0 p = some o) : Zs (μ0.put p o') (μ.put p o') qs t := by
  have ne : ∀ p', μ0 p' = none → p' ≠ p := fun p' h e => by rw [e, hp] at h; cases h
  refine ⟨fun p' o2 h => ?_, Z.len, Z.nd, fun i p' hp' => ?_⟩
  · by_cases e : p' = p
    · subst e
      rw [Sto.put_same] at h ⊢
      exact h
    · rw [Sto.put_ne e] at h ⊢
      exact Z.sub _ _ h
  · have r := Z.row i p' hp'
    rw [Sto.put_ne (ne _ r.1), Sto.put_ne (ne _ r.1)]
    exact r
theorem Nst.tk {μ μ' : Sto} {p q : Addr} {qs : List Addr} {t : Mx} {a b : Int} (a' b' : Int) (N : Nst (μ.put p (stO a b)) μ' q qs t) : Nst (μ.put p (stO a' b')) (μ'.put p (stO a' b')) q qs t := by
  have N2 := N.base (o' := stO a' b') (Sto.put_same)
  rwa [Sto.put_put] at N2
theorem Zs.tk {μ μ' : Sto} {p : Addr} {qs : List Addr} {t : Mx} {a b : Int} (a' b' : Int) (N : Zs (μ.put p (stO a b)) μ' qs t) : Zs (μ.put p (stO a' b')) (μ'.put p (stO a' b')) qs t := by
  have N2 := N.base (o' := stO a' b') (Sto.put_same)
  rwa [Sto.put_put] at N2
theorem BaseOk.mono {t : Mx} {n : Nat} {B E B' E' : Int} (h : BaseOk t n B E) (hB : B ≤ B') (hE : E ≤ E') : BaseOk t n B' E' :=
  ⟨h.sh, h.n1, h.n3, h.sy, fun i j hi hj hij => by have := h.off i j hi hj hij; omega, fun i hi => let ⟨e, e0, e1, e2⟩ := h.dg i hi; ⟨e, e0, by omega, e2⟩⟩
/-- a lattice that _law_wider gives -/
def WidOk (t : Mx) (n : Nat) : Prop := (n = 2 ∧ BaseOk t n 3 3) ∨ (n ≠ 2 ∧ BaseOk t n 1 2)
theorem wid2 (c f g : Int) (hc : -3 ≤ c) (hc' : c ≤ 3) (hf : 0 ≤ f) (hf' : f ≤ 3) (hg : 0 ≤ g) (hg' : g ≤ 3) : BaseOk [[1 + (c.natAbs : Int) + f, c], [c, 1 + (c.natAbs : Int) + g]] 2 3 3 := by
  have two : ∀ i : Nat, i < 2 → i = 0 ∨ i = 1 := fun i hi => by omega
  refine ⟨⟨rfl, fun r hr => ?_⟩, by decide, by decide, fun i j hi hj => ?_, fun i j hi hj hij => ?_, fun i hi => ?_⟩
  · simp at hr
    rcases hr with rfl | rfl <;> rfl
  · rcases two i hi with rfl | rfl <;> rcases two j hj with rfl | rfl <;> rfl
  · rcases two i hi with rfl | rfl <;> rcases two j hj with rfl | rfl <;> simp [ent] at hij ⊢ <;> omega
  · rcases two i hi with rfl | rfl
    · refine ⟨f, hf, hf', ?_⟩
      simp [ent, offS, sumN]
      omega
    · refine ⟨g, hg, hg', ?_⟩
      simp [ent, offS, sumN]
      omega
theorem Nst.setL {μ0 μ : Sto} {q : Addr} {qs : List Addr} {t : Mx} (N : Nst μ0 μ q qs t) {i j : Nat} {p : Addr} {x : Int} (hp : qs[i]? = some p) : Nst μ0 (μ.put p (.lst (((t.getD i []).map D.int).set j (.int x)))) q qs (t.set i ((t.getD i []).set j x)) := by
  have h := N.set (j := j) (x := x) hp
  rwa [List.map_set] at h
section
variable {P : Program} {w : World} {K : PySem.W.Frag} {mg : Str → Option Value} {base : Heap}
def phiLWider : TF := fun ds μ R => ∃ (μ0 : Sto) (p : Addr) (a b : Int) (q : Addr) (qs : List Addr) (t : Mx) (n : Nat), ds = [.adr p, .adr q] ∧ Nst (μ0.put p (stO a b)) μ q qs t ∧ BaseOk t n 1 2 ∧ ∀ t' a' b' q' qs' μ', WidOk t' n → Nst (μ0.put p (stO a' b')) μ' q' qs' t' → R (.adr q') μ'
theorem sc_LWider : FnScope ["_law_state_here", "_law_gram_here", "_law_c"] ["_law_state_here", "_law_gram_here"] (defScope sLWider) := ⟨rfl, rfl, rfl, by decide +kernel, rfl, by decide +kernel, by decide +kernel⟩
theorem okLWider (T : Tx K mg) : FnOk P w K mg base CX0 2 (He.ga K "_law_wider") (fdOf K (He.ga K "_law_wider")) ["_law_state_here", "_law_gram_here"] (spD K phiLWider) := by
  have sc := sc_LWider
  have FLTake := okLTake (P := P) (w := w) (base := base) T
  refine fnd_ok T.d_LWider sc (fun ds μ R h => ?len) fun cdv A outer s H E hr => ⟨_, _, (ss_cons (s_if (t_w (tw_and (t_cmp (o_eq (hu hr)) (d_callB (c_len) T.n_len (a_cons (dv 1) a_nil)) d_int) (tw_and1 (t_cmp (o_eq (hu hr)) (d_call FLTake (hr.mono (by decide)) T.g_LTake T.d_LTake.kp T.b_LTake (a_cons (dv 0) (a_cons d_int a_nil))) d_int)))) (ss_cons (s_set 2 sc.nd (d_bin o_sub (d_call FLTake (hr.mono (by decide)) T.g_LTake T.d_LTake.kp T.b_LTake (a_cons (dv 0) (a_cons d_int a_nil))) d_int))
      (ss_one (s_ret (d_lstM (a_cons (d_lstM (a_cons (d_bin o_add (d_bin o_add d_int (d_callB (c_abs) T.n_abs (a_cons (dv 2) a_nil))) (d_call FLTake (hr.mono (by decide)) T.g_LTake T.d_LTake.kp T.b_LTake (a_cons (dv 0) (a_cons d_int a_nil)))) (a_cons (dv 2) a_nil))) (a_cons (d_lstM (a_cons (dv 2) (a_cons (d_bin o_add (d_bin o_add d_int (d_callB (c_abs) T.n_abs (a_cons (dv 2) a_nil))) (d_call FLTake (hr.mono (by decide)) T.g_LTake T.d_LTake.kp T.b_LTake (a_cons (dv 0) (a_cons d_int a_nil)))) a_nil))) a_nil)))))) ss_nil)
      (ss_one (s_ret (dv 1)))), fun ds μ R h => ?_⟩
  case len => obtain ⟨μ0, p, a, b, q, qs, t, n, rfl, _⟩ := h; rfl
  obtain ⟨μ0, p, a, b, q, qs, t, n, rfl, N, ok, hR⟩ := h
  have sL := sLine
  have ln : qs.length = n := by rw [N.len, ok.sh.len]
  have back : ∀ a b μ', Nst (μ0.put p (stO a b)) μ' q qs t → fzR R (.adr q) μ' := fun a b μ' N => by
    refine fzR.now (hR t a b q qs μ' ?_ N)
    by_cases c : n = 2
    · exact .inl ⟨c, ok.mono (by decide) (by decide)⟩
    · exact .inr ⟨c, ok⟩
  refine onL_lst N.top ?_
  refine if_eq (fun c => ?_) fun c => ?_
  · rw [List.length_map, ln] at c
    have n2 : n = 2 := by omega
    refine ⟨p, a, b, 3, rfl, N.sub p _ Sto.put_same, by decide, by decide, fun v a1 b1 v0 v1 => ?_⟩
    have N := N.tk a1 b1
    generalize μ.put p (stO a1 b1) = μ1 at N ⊢
    refine if_eq (fun c => ?_) fun c => ?_
    · refine ⟨p, a1, b1, 7, rfl, N.sub p _ Sto.put_same, by decide, by decide, fun cc a2 b2 c0 c1 => ?_⟩
      have N := N.tk a2 b2
      generalize μ1.put p (stO a2 b2) = μ2 at N ⊢
      refine ⟨p, a2, b2, 4, rfl, N.sub p _ Sto.put_same, by decide, by decide, fun f a3 b3 f0 f1 => ?_⟩
      have N := N.tk a3 b3
      generalize μ2.put p (stO a3 b3) = μ3 at N ⊢
      refine ⟨by show 2 ≤ sizeLine; omega, fun p1 hp1 => ?_⟩
      have Z := (Zs.nil' N.sub).next (r := [1 + ((cc - 3).natAbs : Int) + f, cc - 3]) hp1
      clear N
      have Z1 : Zs (μ0.put p (stO a3 b3)) (μ3.put p1 (.lst [.int (1 + ((cc - 3).natAbs : Int) + f), .int (cc - 3)])) [p1] [[1 + ((cc - 3).natAbs : Int) + f, cc - 3]] := Z
      clear Z
      refine ⟨p, a3, b3, 4, rfl, Z1.sub p _ Sto.put_same, by decide, by decide, fun g a4 b4 g0 g1 => ?_⟩
      have Z2 := Z1.tk a4 b4
      clear Z1
      refine ⟨by show 2 ≤ sizeLine; omega, fun p2 hp2 => ?_⟩
      have Z3 := Z2.next (r := [cc - 3, 1 + ((cc - 3).natAbs : Int) + g]) hp2
      clear Z2
      refine ⟨by show 2 ≤ sizeLine; omega, fun q2 hq2 => ?_⟩
      have N := Z3.fin hq2
      exact fzR.now (hR _ a4 b4 q2 _ _ (.inl ⟨n2, by rw [n2]; exact wid2 (cc - 3) f g (by omega) (by omega) f0 (by omega) g0 (by omega)⟩) N)
    · exact back _ _ _ N
  · exact back _ _ _ N
inductive Uni (n : Nat) : Nat → Mx → Prop where
  | one : Uni n 0 (unitM n)
  | neg {k i : Nat} {U : Mx} (h : Uni n k U) (hi : i < n) : Uni n (k + 1) (U.set i ((U.getD i []).map fun x => -x))
  | add {k i j : Nat} {c : Int} {U : Mx} (h : Uni n k U) (hi : i < n) (hj : j < n) (hij : i ≠ j) (h1 : -1 ≤ c) (h2 : c ≤ 1) : Uni n (k + 1) (U.set i ((List.range n).map fun l => ent U i l + c * ent U j l))
theorem Uni.sh {n k : Nat} {U : Mx} (h : Uni n k U) : Sh U n n := by
  induction h with
  | one => exact unitM_sh n
  | neg h hi ih => exact ih.set (by rw [List.length_map]; exact ih.get hi)
  | add h hi hj _ _ _ ih => exact ih.set (by rw [List.length_map, List.length_range])
def phiLUnimodular : TF := fun ds μ R => ∃ (p : Addr) (a b : Int) (n : Nat), ds = [.adr p, .int n] ∧ μ p = some (stO a b) ∧ 1 ≤ n ∧ n ≤ 3 ∧ ∀ U k a' b', k ≤ 3 → Uni n k U → R (ml U) (μ.put p (stO a' b'))
theorem sc_LUnimodular : FnScope ["_law_state_here", "_law_size", "_law_i", "_law_j", "_law_rows", "_law_turn", "_law_c", "_law_x", "_law_k"] ["_law_state_here", "_law_size"] (defScope sLUnimodular) := ⟨rfl, rfl, rfl, by decide +kernel, rfl, by decide +kernel, by decide +kernel⟩
theorem okLUnimodular (T : Tx K mg) : FnOk P w K mg base CX0 2 (He.ga K "_law_unimodular") (fdOf K (He.ga K "_law_unimodular")) ["_law_state_here", "_law_size"] (spD K phiLUnimodular) := by
  have sc := sc_LUnimodular
  have FLTake := okLTake (P := P) (w := w) (base := base) T
  refine fnd_ok T.d_LUnimodular sc (fun ds μ R h => ?len) fun cdv A outer s H E hr => ⟨_, _, (ss_cons (s_set 4 sc.nd (d_lcM rfl sc.nd (i_range1 T.n_range (dv 1)) (blkOk_by (own := [("_law_i", 2)]) (by first | rfl | kernel_rfl)) fr_name (fun s H C cl fp => (g_name 2 sc.nd)) (fun s H C cl fp => ts_nil) (fun s H C cl fp => (d_lc rfl sc.nd (i_range1 T.n_range (dv 1)) (blkOk_by (own := [("_law_j", 3)]) (by first | rfl | kernel_rfl)) fr_name (fun s H C cl fp => (g_name 3 sc.nd)) (fun s H C cl fp => ts_nil) (fun s H C cl fp => (d_callTy (c_int) T.n_int (a_cons (d_cmp (o_eq (hu hr)) (dv 2) (dv 3)) a_nil)))))))
      (ss_cons (s_for PassesOwn.never rfl (i_range1 T.n_range (d_call FLTake (hr.mono (by decide)) T.g_LTake T.d_LTake.kp T.b_LTake (a_cons (dv 0) (a_cons d_int a_nil)))) (g_name 5 sc.nd) (ss_cons (s_set 2 sc.nd (d_call FLTake (hr.mono (by decide)) T.g_LTake T.d_LTake.kp T.b_LTake (a_cons (dv 0) (a_cons (dv 1) a_nil))))
      (ss_cons (s_set 3 sc.nd (d_call FLTake (hr.mono (by decide)) T.g_LTake T.d_LTake.kp T.b_LTake (a_cons (dv 0) (a_cons (dv 1) a_nil))))
      (ss_cons (s_set 6 sc.nd (d_bin o_sub (d_call FLTake (hr.mono (by decide)) T.g_LTake T.d_LTake.kp T.b_LTake (a_cons (dv 0) (a_cons d_int a_nil))) d_int))
      (ss_one (s_if (t_cmp (o_eq (hu hr)) (dv 2) (dv 3)) (ss_one (s_asg (d_lc rfl sc.nd (i_seq (d_ix (dv 4) (dv 2))) (blkOk_by (own := [("_law_x", 7)]) (by first | rfl | kernel_rfl)) fr_name (fun s H C cl fp => (g_name 7 sc.nd)) (fun s H C cl fp => ts_nil) (fun s H C cl fp => (d_neg (dv 7)))) (g_sub (dv 4) (dv 2)))) (ss_one (s_asg (d_lc rfl sc.nd (i_range1 T.n_range (dv 1)) (blkOk_by (own := [("_law_k", 8)]) (by first | rfl | kernel_rfl)) fr_name (fun s H C cl fp => (g_name 8 sc.nd)) (fun s H C cl fp => ts_nil) (fun s H C cl fp => (d_bin o_add (d_ix (d_ix (dv 4) (dv 2)) (dv 8)) (d_bin o_mulI (dv 6) (d_ix (d_ix (dv 4) (dv 3)) (dv 8)))))) (g_sub (dv 4) (dv 2))))))))))
      (ss_one (s_ret (dv 4))))), fun ds μ R h => ?_⟩
  case len => obtain ⟨p, a, b, n, rfl, _⟩ := h; rfl
  obtain ⟨p, a, b, n, rfl, hp, n1, n3, hR⟩ := h
  have sL := sLine
  have e0 : ((n : Int)).toNat = n := Int.toNat_natCast n
  refine ⟨RB_nat (by omega), ?_⟩
  refine lc_map (List.range n) (fun i : Nat => D.int (i : Int)) (fun i => ri ((List.range n).map fun k => if i = k then 1 else 0)) (rng0 n) (by rw [List.length_range]; omega) trivial (fun i hi Y hY => ?_) ?_
  · refine ⟨RB_nat (by omega), ?_⟩
    refine lc_map (List.range n) (fun i : Nat => D.int (i : Int)) (fun j : Nat => .int (if i = j then 1 else 0)) (rng0 n) (by rw [List.length_range]; omega) trivial (fun j hj Z hZ => ?_) ?_
    · have e : (if id (decide ((i : Int) = (j : Int))) = true then (1 : Int) else 0) = if i = j then 1 else 0 := by
        by_cases c : i = j
        · simp [c]
        · have : ¬ ((i : Int) = (j : Int)) := by omega
          simp [c, this]
      have hZ2 := hZ
      rw [← e] at hZ2
      exact hZ2
    · have e : ((List.range n).map fun j : Nat => D.int (if i = j then 1 else 0)) = ((List.range n).map fun k => (if i = k then (1 : Int) else 0)).map D.int := by rw [List.map_map]; rfl
      rw [e]
      exact hY
  have eu : ((List.range n).map fun i => ri ((List.range n).map fun k => if i = k then 1 else 0)) = (unitM n).map ri := by unfold unitM; rw [List.map_map]; rfl
  rw [eu]
  intro q hq
  have qp : q ≠ p := fun e => by rw [e, hp] at hq; cases hq
  refine ⟨p, a, b, 4, rfl, by rw [Sto.put_ne (Ne.symm qp)]; exact hp, by decide, by decide, fun v a b v0 v1 => ?_⟩
  refine ⟨⟨by omega, by omega⟩, ?_⟩
  refine for_rng 0 v.toNat rfl (by omega) (fun i ρ μ' => i ≤ v.toNat ∧ ∃ U a b x2 x3 x5 x6 x7 x8, Uni n i U ∧ μ' = (μ.put p (stO a b)).put q (.lst (U.map ri)) ∧ ρ = [some (.adr p), some (.int (n : Int)), x2, x3, some (.adr q), x5, x6, x7, x8])
    ⟨Nat.zero_le _, unitM n, a, b, none, none, none, none, none, none, .one, by rw [Sto.put_comm qp], rfl⟩ ?_ ?_
  · rintro i ρ μ' _ hi ⟨_, U, a, b, x2, x3, x5, x6, x7, x8, un, rfl, rfl⟩
    have sh := un.sh
    refine ⟨p, a, b, n, rfl, by rw [Sto.put_ne (Ne.symm qp), Sto.put_same], by omega, by omega, fun vi a1 b1 i0 i1 => ?_⟩
    have e1 : ((μ.put p (stO a b)).put q (.lst (U.map ri))).put p (stO a1 b1) = (μ.put p (stO a1 b1)).put q (.lst (U.map ri)) := by rw [Sto.put_comm qp, Sto.put_put]
    rw [e1]
    refine ⟨p, a1, b1, n, rfl, by rw [Sto.put_ne (Ne.symm qp), Sto.put_same], by omega, by omega, fun vj a2 b2 j0 j1 => ?_⟩
    have e1 : ((μ.put p (stO a1 b1)).put q (.lst (U.map ri))).put p (stO a2 b2) = (μ.put p (stO a2 b2)).put q (.lst (U.map ri)) := by rw [Sto.put_comm qp, Sto.put_put]
    rw [e1]
    refine ⟨p, a2, b2, 3, rfl, by rw [Sto.put_ne (Ne.symm qp), Sto.put_same], by decide, by decide, fun vc a3 b3 c0 c1 => ?_⟩
    have e1 : ((μ.put p (stO a2 b2)).put q (.lst (U.map ri))).put p (stO a3 b3) = (μ.put p (stO a3 b3)).put q (.lst (U.map ri)) := by rw [Sto.put_comm qp, Sto.put_put]
    rw [e1]
    obtain ⟨ii, rfl⟩ : ∃ ii : Nat, vi = (ii : Int) := ⟨vi.toNat, by omega⟩
    obtain ⟨jj, rfl⟩ : ∃ jj : Nat, vj = (jj : Int) := ⟨vj.toNat, by omega⟩
    have hii : ii < n := by omega
    have hjj : jj < n := by omega
    have L : Lm (.adr q) ((μ.put p (stO a3 b3)).put q (.lst (U.map ri))) U := .inr ⟨q, rfl, Sto.put_same⟩
    refine if_eq (fun c => ?_) fun c => ?_
    · refine L.row (by rw [sh.len]; exact hii) ?_
      refine Sq.lst ?_
      refine lc_map (U.getD ii []) D.int (fun x => .int (-x)) rfl (by rw [sh.get hii]; omega) trivial (fun x hx Y hY => hY) ?_
      have er : ((U.getD ii []).map fun x => D.int (-x)) = ((U.getD ii []).map fun x => -x).map D.int := by rw [List.map_map]; rfl
      rw [er]
      refine onL_lst Sto.put_same ⟨ii, ixN_nat (by rw [List.length_map, sh.len]; exact hii), ?_⟩
      refine ⟨by omega, _, a3, b3, _, _, _, _, _, _, un.neg hii, ?_, rfl⟩
      rw [Sto.put_put, List.map_set]
    · refine ⟨RB_nat (by omega), ?_⟩
      refine lc_map (List.range n) (fun i : Nat => D.int (i : Int)) (fun l => .int (ent U ii l + (vc - 1) * ent U jj l)) (rng0 n) (by rw [List.length_range]; omega) trivial (fun l hl Y hY => ?_) ?_
      · have hl' := List.mem_range.mp hl
        refine L.cell (by rw [sh.len]; exact hii) (by rw [sh.get hii]; exact hl') ?_
        refine L.cell (by rw [sh.len]; exact hjj) (by rw [sh.get hjj]; exact hl') ?_
        exact ⟨mulOk (by omega), hY⟩
      · have er : ((List.range n).map fun l => D.int (ent U ii l + (vc - 1) * ent U jj l)) = ((List.range n).map fun l => ent U ii l + (vc - 1) * ent U jj l).map D.int := by rw [List.map_map]; rfl
        rw [er]
        refine onL_lst Sto.put_same ⟨ii, ixN_nat (by rw [List.length_map, sh.len]; exact hii), ?_⟩
        refine ⟨by omega, _, a3, b3, _, _, _, _, _, _, un.add hii hjj (fun e => c (by rw [e])) (c := vc - 1) (by omega) (by omega), ?_, rfl⟩
        rw [Sto.put_put, List.map_set]
  · rintro ρ μ' ⟨hi, U, a, b, x2, x3, x5, x6, x7, x8, un, rfl, rfl⟩
    have hqf : (μ.put p (stO a b)) q = none := by rw [Sto.put_ne qp]; exact hq
    rw [Nat.max_eq_right (Nat.zero_le _)] at un hi
    exact ⟨μ.put p (stO a b), ml U, SubS.put_none hqf, .adr hqf Sto.put_same (Fzs.refl _), hR U _ a b (by omega) un⟩
def movedL (g U : Mx) : Mx := U.map fun v => U.map fun w => prodL g v w
def phiLMoved : TF := fun ds μ R => ∃ g U n, ds = [ml g, ml U] ∧ Sh g n n ∧ Sh U n n ∧ n ≤ 3 ∧ (∀ r ∈ U, ∀ x ∈ r, x.natAbs ≤ 2 ^ 20) ∧ ∀ q qs μ', Nst μ μ' q qs (movedL g U) → R (.adr q) μ'
theorem sc_LMoved : FnScope ["_law_gram_here", "_law_rows", "_law_v", "_law_w"] ["_law_gram_here", "_law_rows"] (defScope sLMoved) := ⟨rfl, rfl, rfl, by decide +kernel, rfl, by decide +kernel, by decide +kernel⟩
theorem okLMoved (T : Tx K mg) : FnOk P w K mg base CX0 2 (He.ga K "_law_moved") (fdOf K (He.ga K "_law_moved")) ["_law_gram_here", "_law_rows"] (spD K phiLMoved) := by
  have sc := sc_LMoved
  have FLProduct := okLProduct (P := P) (w := w) (base := base) T
  refine fnd_ok T.d_LMoved sc (fun ds μ R h => ?len) fun cdv A outer s H E hr => ⟨_, _, (ss_one (s_ret (d_lcM rfl sc.nd (i_seq (dv 1)) (blkOk_by (own := [("_law_v", 2)]) (by first | rfl | kernel_rfl)) fr_name (fun s H C cl fp => (g_name 2 sc.nd)) (fun s H C cl fp => ts_nil) (fun s H C cl fp => (d_lcM rfl sc.nd (i_seq (dv 1)) (blkOk_by (own := [("_law_w", 3)]) (by first | rfl | kernel_rfl)) fr_name (fun s H C cl fp => (g_name 3 sc.nd)) (fun s H C cl fp => ts_nil) (fun s H C cl fp => (d_call FLProduct (hr.mono (by decide)) T.g_LProduct T.d_LProduct.kp T.b_LProduct (a_cons (dv 0) (a_cons (dv 2) (a_cons (dv 3) a_nil)))))))))), fun ds μ R h => ?_⟩
  case len => obtain ⟨g, U, n, rfl, _⟩ := h; rfl
  obtain ⟨g, U, n, rfl, sg, sU, n3, bd, hR⟩ := h
  have sL := sLine
  refine Sq.lst ?_
  refine ⟨by rw [List.length_map, sU.len]; omega, fun i acc μ' => ∃ qs, acc = qs.map D.adr ∧ Zs μ μ' qs ((U.take i).map fun v => U.map fun w => prodL g v w), ⟨[], rfl, .nil⟩, fun _ _ _ _ => trivial, ?_, ?_⟩
  · rintro i d acc μ' hd _ ⟨qs, rfl, Z⟩
    rw [List.getElem?_map] at hd
    obtain ⟨v, hv, rfl⟩ := Option.map_eq_some_iff.mp hd
    have mv := List.mem_of_getElem? hv
    refine Sq.lst ?_
    refine lc_map U ri (fun w => .int (prodL g v w)) rfl (by rw [sU.len]; omega) trivial (fun w hw Y hY => ?_) ?_
    · exact ⟨_, g, v, w, _, _, rfl, prC sg n3 .ri .ri (sU.row v mv) (sU.row w hw) (bd v mv) (bd w hw), hY⟩
    · intro p2 hp2
      have e : (U.map fun w => D.int (prodL g v w)) = (U.map fun w => prodL g v w).map D.int := by rw [List.map_map]; rfl
      rw [e]
      refine ⟨qs ++ [p2], by rw [List.map_append]; rfl, ?_⟩
      have tk : ((U.take (i + 1)).map fun v => U.map fun w => prodL g v w) = ((U.take i).map fun v => U.map fun w => prodL g v w) ++ [U.map fun w => prodL g v w] := by rw [List.take_add_one, hv, List.map_append]; rfl
      rw [tk]
      exact Z.next hp2
  · rintro acc μ' ⟨qs, rfl, Z⟩ q hq
    rw [List.length_map, List.take_length] at Z
    exact fzR.now (hR q qs _ (Z.fin hq))
def exE (t : Mx) (a b : Nat) : Int := if a = 0 ∧ b = 1 then ent t 0 2 else if a = 0 ∧ b = 2 then ent t 0 1 else if a = 1 ∧ b = 0 then ent t 2 0 else if a = 2 ∧ b = 0 then ent t 1 0 else ent t a b
def phiLExchanged : TF := fun ds μ R => ∃ (μ0 : Sto) (q : Addr) (qs : List Addr) (t : Mx), ds = [.adr q] ∧ Nst μ0 μ q qs t ∧ Sh t 3 3 ∧ ∀ T, Sh T 3 3 → (∀ a b, a < 3 → b < 3 → ent T a b = exE t a b) → R (ml T) μ
theorem sc_LExchanged : FnScope ["_law_gram_here", "_law_row", "_law_x", "_law_rows"] ["_law_gram_here"] (defScope sLExchanged) := ⟨rfl, rfl, rfl, by decide +kernel, rfl, by decide +kernel, by decide +kernel⟩
theorem okLExchanged (T : Tx K mg) : FnOk P w K mg base CX0 1 (He.ga K "_law_exchanged") (fdOf K (He.ga K "_law_exchanged")) ["_law_gram_here"] (spD K phiLExchanged) := by
  have sc := sc_LExchanged
  refine fnd_ok T.d_LExchanged sc (fun ds μ R h => ?len) fun cdv A outer s H E hr => ⟨_, _, (ss_cons (s_setLcM 3 rfl sc.nd (i_seq (dv 0)) (blkOk_by (own := [("_law_row", 1)]) (by first | rfl | kernel_rfl)) fr_name (fun s H C cl fp => (g_name 1 sc.nd)) (fun s H C cl fp => ts_nil) (fun s H C cl fp => (d_lcM rfl sc.nd (i_seq (dv 1)) (blkOk_by (own := [("_law_x", 2)]) (by first | rfl | kernel_rfl)) fr_name (fun s H C cl fp => (g_name 2 sc.nd)) (fun s H C cl fp => ts_nil) (fun s H C cl fp => (dv 2)))))
      (ss_cons (s_asg (d_tup (a_cons (d_ix (d_ix (dv 3) d_int) d_int) (a_cons (d_ix (d_ix (dv 3) d_int) d_int) a_nil))) (g_tup (n := 2) rfl (gs_cons (g_sub (d_ix (dv 3) d_int) d_int) (gs_cons (g_sub (d_ix (dv 3) d_int) d_int) gs_nil))))
      (ss_cons (s_asg (d_tup (a_cons (d_ix (d_ix (dv 3) d_int) d_int) (a_cons (d_ix (d_ix (dv 3) d_int) d_int) a_nil))) (g_tup (n := 2) rfl (gs_cons (g_sub (d_ix (dv 3) d_int) d_int) (gs_cons (g_sub (d_ix (dv 3) d_int) d_int) gs_nil))))
      (ss_one (s_ret (dv 3)))))), fun ds μ R h => ?_⟩
  case len => obtain ⟨μ0, q, qs, t, rfl, _⟩ := h; rfl
  obtain ⟨μ0, q, qs, t, rfl, N, sh, hR⟩ := h
  have sL := sLine
  refine Sq.adr N.top ?_
  refine ⟨by rw [List.length_map, N.len, sh.len]; omega, fun i acc μ' => ∃ qs', acc = qs'.map D.adr ∧ Zs μ μ' qs' (t.take i), ⟨[], rfl, .nil⟩, fun i acc μ' ⟨qs', _, Z⟩ => Z.sub _ _ N.top, ?_, ?_⟩
  · rintro i d acc μ' hd _ ⟨qs', rfl, Z⟩
    rw [List.getElem?_map] at hd
    obtain ⟨p1, hp1, rfl⟩ := Option.map_eq_some_iff.mp hd
    have rw1 := N.row i p1 hp1
    have hi : i < t.length := by rw [← N.len]; exact (List.getElem?_eq_some_iff.mp hp1).1
    have r2 := Z.sub _ _ rw1.2
    refine Sq.adr r2 ?_
    refine lc_map (t.getD i []) D.int D.int rfl (by rw [sh.get (by rw [← sh.len]; exact hi)]; omega) r2 (fun x hx Y hY => hY) ?_
    intro p2 hp2
    refine ⟨qs' ++ [p2], by rw [List.map_append]; rfl, ?_⟩
    have tk : t.take (i + 1) = t.take i ++ [t.getD i []] := by
      rw [List.take_add_one, List.getElem?_eq_getElem hi, List.getD_eq_getElem?_getD, List.getElem?_eq_getElem hi]
      rfl
    rw [tk]
    exact Z.next hp2
  · rintro acc μ' ⟨qs', rfl, Z⟩ q2 hq2
    rw [List.length_map, N.len, List.take_length] at Z
    have M0 := Z.fin hq2
    clear Z
    generalize μ'.put q2 (.lst (qs'.map D.adr)) = μ1 at M0 ⊢
    have l3 : t.length = 3 := sh.len
    refine M0.rd (i := 0) (k := 2) (by omega) (by rw [sh.get (by decide)]; decide) ?_
    refine M0.rd (i := 0) (k := 1) (by omega) (by rw [sh.get (by decide)]; decide) ?_
    refine ⟨by show 2 ≤ sizeLine; omega, rfl, ?_⟩
    refine M0.at (i := 0) (by omega) fun p1 hp1 => ?_
    refine onL_lst (M0.row _ _ hp1).2 ⟨1, ixN_nat (by rw [List.length_map]; rw [sh.get (by decide)]; decide), ?_⟩
    have M1 := M0.setL (j := 1) (x := ent t 0 2) hp1
    have s1 := sh.cell (i := 0) (j := 1) (x := ent t 0 2) (by decide)
    have e1 : ∀ a b, ent (t.set 0 ((t.getD 0 []).set 1 (ent t 0 2))) a b = if a = 0 ∧ b = 1 then ent t 0 2 else ent t a b := fun a b => ent_set (by omega) (by rw [sh.get (by decide)]; decide)
    generalize t.set 0 ((t.getD 0 []).set 1 (ent t 0 2)) = t1 at M1 s1 e1
    refine M1.at (i := 0) (by rw [s1.len]; decide) fun p2 hp2 => ?_
    refine onL_lst (M1.row _ _ hp2).2 ⟨2, ixN_nat (by rw [List.length_map]; rw [s1.get (by decide)]; decide), ?_⟩
    have M2 := M1.setL (j := 2) (x := ent t 0 1) hp2
    have s2 := s1.cell (i := 0) (j := 2) (x := ent t 0 1) (by decide)
    have e2 : ∀ a b, ent (t1.set 0 ((t1.getD 0 []).set 2 (ent t 0 1))) a b = if a = 0 ∧ b = 2 then ent t 0 1 else ent t1 a b := fun a b => ent_set (by rw [s1.len]; decide) (by rw [s1.get (by decide)]; decide)
    generalize t1.set 0 ((t1.getD 0 []).set 2 (ent t 0 1)) = t2 at M2 s2 e2
    refine M2.rd (i := 2) (k := 0) (by rw [s2.len]; decide) (by rw [s2.get (by decide)]; decide) ?_
    refine M2.rd (i := 1) (k := 0) (by rw [s2.len]; decide) (by rw [s2.get (by decide)]; decide) ?_
    have v1 : ent t2 2 0 = ent t 2 0 := by rw [e2, if_neg (by decide), e1, if_neg (by decide)]
    have v2 : ent t2 1 0 = ent t 1 0 := by rw [e2, if_neg (by decide), e1, if_neg (by decide)]
    rw [v1, v2]
    refine ⟨by show 2 ≤ sizeLine; omega, rfl, ?_⟩
    refine M2.at (i := 1) (by rw [s2.len]; decide) fun p3 hp3 => ?_
    refine onL_lst (M2.row _ _ hp3).2 ⟨0, ixN_nat (by rw [List.length_map]; rw [s2.get (by decide)]; decide), ?_⟩
    have M3 := M2.setL (j := 0) (x := ent t 2 0) hp3
    have s3 := s2.cell (i := 1) (j := 0) (x := ent t 2 0) (by decide)
    have e3 : ∀ a b, ent (t2.set 1 ((t2.getD 1 []).set 0 (ent t 2 0))) a b = if a = 1 ∧ b = 0 then ent t 2 0 else ent t2 a b := fun a b => ent_set (by rw [s2.len]; decide) (by rw [s2.get (by decide)]; decide)
    generalize t2.set 1 ((t2.getD 1 []).set 0 (ent t 2 0)) = t3 at M3 s3 e3
    refine M3.at (i := 2) (by rw [s3.len]; decide) fun p4 hp4 => ?_
    refine onL_lst (M3.row _ _ hp4).2 ⟨0, ixN_nat (by rw [List.length_map]; rw [s3.get (by decide)]; decide), ?_⟩
    have M4 := M3.setL (j := 0) (x := ent t 1 0) hp4
    have s4 := s3.cell (i := 2) (j := 0) (x := ent t 1 0) (by decide)
    have e4 : ∀ a b, ent (t3.set 2 ((t3.getD 2 []).set 0 (ent t 1 0))) a b = if a = 2 ∧ b = 0 then ent t 1 0 else ent t3 a b := fun a b => ent_set (by rw [s3.len]; decide) (by rw [s3.get (by decide)]; decide)
    generalize t3.set 2 ((t3.getD 2 []).set 0 (ent t 1 0)) = t4 at M4 s4 e4
    refine ⟨μ, _, M4.sub, M4.fz, hR t4 s4 fun a b _ _ => ?_⟩
    rw [e4, e3, e2, e1]
    unfold exE
    split <;> split <;> first | omega | (split <;> first | omega | (split <;> first | omega | rfl)) | rfl
end
end Gm
end
/-! Bf -/
section
set_option Elab.async false
set_option linter.all false
set_option maxRecDepth 100000
set_option maxHeartbeats 4000000
namespace Gm
open PySem PySem.Spec PyProof.Rows L2 DL Gp
theorem FzE.refl {μ0 μ : Sto} {ρ : Ev} : FzE μ0 μ ρ ρ := ⟨rfl, fun i e h => ⟨e, h, .same e⟩⟩
theorem FzE.nil {μ0 μ : Sto} : FzE μ0 μ [] [] := ⟨rfl, fun i e h => by simp at h⟩
theorem FzE.ex1 {μ0 μ : Sto} {ρ ρ' : Ev} {o o' : Option D} (h : FzE μ0 μ ρ ρ') (ho : ∀ e, o' = some e → ∃ d, o = some d ∧ Fz μ0 μ d e) : FzE μ0 μ (o :: ρ) (o' :: ρ') :=
  ⟨by rw [List.length_cons, List.length_cons, h.1], fun i e hi => by
    cases i with
    | zero =>
      obtain ⟨d, hd, f⟩ := ho e (by simpa using hi)
      exact ⟨d, by rw [hd]; rfl, f⟩
    | succ i => exact h.2 i e (by simpa using hi)⟩
theorem FzE.same {μ0 μ : Sto} {ρ ρ' : Ev} {o : Option D} (h : FzE μ0 μ ρ ρ') : FzE μ0 μ (o :: ρ) (o :: ρ') := FzE.ex1 h fun e he => ⟨e, he, .same e⟩
theorem FzE.cons {μ0 μ : Sto} {ρ ρ' : Ev} {d e : D} (h : FzE μ0 μ ρ ρ') (f : Fz μ0 μ d e) : FzE μ0 μ (some d :: ρ) (some e :: ρ') := FzE.ex1 h fun e' he => by cases he; exact ⟨d, rfl, f⟩
theorem Uni.bd {n k : Nat} {U : Mx} (h : Uni n k U) : ∀ i j, (ent U i j).natAbs ≤ 2 ^ k := by
  have inn : ∀ {U : Mx} {i a b : Nat} {r : List Int}, i < U.length → ent (U.set i r) a b = if a = i then r.getD b 0 else ent U a b := fun {U i a b r} hi => by
    unfold ent
    by_cases c : a = i
    · subst c
      simp [List.getD_eq_getElem?_getD, hi]
    · rw [if_neg c, List.getD_eq_getElem?_getD (l := U.set i r), List.getElem?_set_ne (Ne.symm c), ← List.getD_eq_getElem?_getD]
  induction h with
  | one =>
    intro i j
    unfold ent unitM
    rw [List.getD_eq_getElem?_getD (l := List.map _ _), List.getElem?_map]
    cases e : (List.range n)[i]? with
    | none => simp
    | some x =>
      simp only [Option.map_some, Option.getD_some]
      rw [List.getD_eq_getElem?_getD, List.getElem?_map]
      cases e2 : (List.range n)[j]? with
      | none => simp
      | some y =>
        simp only [Option.map_some, Option.getD_some]
        split <;> decide
  | neg h hi ih =>
    rename_i k ii U
    intro a b
    have hl : ii < U.length := by rw [h.sh.len]; exact hi
    rw [inn hl]
    have e2 : 2 ^ (k + 1) = 2 * 2 ^ k := by rw [Nat.pow_succ, Nat.mul_comm]
    split
    · have := ih ii b
      unfold ent at this
      rw [List.getD_eq_getElem?_getD (l := List.map _ _), List.getElem?_map]
      rw [List.getD_eq_getElem?_getD (l := U.getD ii [])] at this
      cases e : (U.getD ii [])[b]? with
      | none => simp
      | some x =>
        rw [e] at this
        simp only [Option.map_some, Option.getD_some] at this ⊢
        omega
    · have := ih a b
      omega
  | add h hi hj hij h1 h2 ih =>
    rename_i k ii jj c U
    intro a b
    have hl : ii < U.length := by rw [h.sh.len]; exact hi
    rw [inn hl]
    have e2 : 2 ^ (k + 1) = 2 * 2 ^ k := by rw [Nat.pow_succ, Nat.mul_comm]
    split
    · rw [List.getD_eq_getElem?_getD, List.getElem?_map]
      cases e : (List.range n)[b]? with
      | none => simp
      | some x =>
        simp only [Option.map_some, Option.getD_some]
        have a1 := ih ii x
        have a2 := ih jj x
        have hc : c = -1 ∨ c = 0 ∨ c = 1 := by omega
        rcases hc with rfl | rfl | rfl <;> omega
    · have := ih a b
      omega
def IsOne (t : Mx) (n : Nat) : Prop := WidOk t n ∨ (n = 3 ∧ BaseOk t 3 1 3)
inductive IsTwo : Mx → Nat → Prop where
  | wid {t : Mx} {n : Nat} (h : WidOk t n) : IsTwo t n
  | exc {one T : Mx} (h : BaseOk one 3 1 3) (s : Sh T 3 3) (e : ∀ a b, a < 3 → b < 3 → ent T a b = exE one a b) : IsTwo T 3
  | det {one : Mx} (h : WidOk one 2) : IsTwo [[1, 0], [0, detF 2 (ent one)]] 2
  | mov {one U : Mx} {n k : Nat} (h : WidOk one n) (hk : k ≤ 3) (u : Uni n k U) : IsTwo (movedL one U) n
  | mop {one U T : Mx} {n k : Nat} (h : WidOk one n) (hk : k ≤ 3) (u : Uni n k U) (s : Sh T n n) (e : ∀ a b, a < n → b < n → ent T a b = ent (movedL one U) a b + if a = 0 ∧ b = 0 then 1 else 0) : IsTwo T n
/-- all that the law asks of a pair -/
structure LawOk (one : Mx) (n : Nat) (two : Mx) (n' : Nat) : Prop where
  L1 : LatOk one n
  L2 : LatOk two n'
  am : n = n' → AmOk one two n
  mp : n = n' → MpOk one two n
  res : n = n' → ∀ Ms, AmRes one two n Ms → Ms = mapsL one two n
  al : n = n' → ∀ Ts out Ts' out', Lvl one n n Ts out → Lvl two n n Ts' out' → (formI out = formI out' ↔ mapsL one two n ≠ [])
theorem WidOk.base {t : Mx} {n : Nat} (h : WidOk t n) : BaseOk t n 3 3 := h.elim (fun h => h.2) fun h => h.2.mono (by decide) (by decide)
theorem IsOne.base {t : Mx} {n : Nat} (h : IsOne t n) : BaseOk t n 3 3 := h.elim (fun h => h.base) fun h => by rw [h.1]; exact h.2.mono (by decide) (by decide)
theorem movedL_sh {g U : Mx} {n : Nat} (s : Sh U n n) : Sh (movedL g U) n n := ⟨by unfold movedL; rw [List.length_map, s.len], fun r hr => by
  unfold movedL at hr
  obtain ⟨v, _, rfl⟩ := List.mem_map.mp hr
  rw [List.length_map, s.len]⟩
theorem IsTwo.sh {t : Mx} {n : Nat} (h : IsTwo t n) : Sh t n n := by
  cases h with
  | wid h => exact h.base.sh
  | exc h s e => exact s
  | det h => exact ⟨rfl, fun r hr => by simp at hr; rcases hr with rfl | rfl <;> rfl⟩
  | mov h hk u => exact movedL_sh u.sh
  | mop h hk u s e => exact s
theorem cut6 {a b c d e f χ : TDS} {R : DEnds} {ρ : Ev} {μ : Sto} (N : Ev → Sto → Prop) (h2 : ∀ ρ μ, N ρ μ → χ R ρ μ) (h1 : (∀ ρ μ, N ρ μ → χ R ρ μ) → sSeq a (sSeq b (sSeq c (sSeq d (sSeq e (sSeq f χ))))) R ρ μ) : sSeq a (sSeq b (sSeq c (sSeq d (sSeq e (sSeq f χ))))) R ρ μ := h1 h2
theorem cut1 {a χ : TDS} {R : DEnds} {ρ : Ev} {μ : Sto} (N : Ev → Sto → Prop) (h2 : ∀ ρ μ, N ρ μ → χ R ρ μ) (h1 : (∀ ρ μ, N ρ μ → χ R ρ μ) → sSeq a χ R ρ μ) : sSeq a χ R ρ μ := h1 h2
theorem eqv_list {α : Type} [DecidableEq α] (f : α → PyData) (hf : ∀ a b, PyData.eqv (f a) (f b) = decide (a = b)) : ∀ xs ys : List α, PyData.eqvAll (xs.map f) (ys.map f) = decide (xs = ys)
  | [], [] => by simp [PyData.eqvAll]
  | [], _ :: _ => by simp [PyData.eqvAll]
  | _ :: _, [] => by simp [PyData.eqvAll]
  | x :: xs, y :: ys => by
    rw [List.map_cons, List.map_cons, PyData.eqvAll, hf, eqv_list f hf xs ys]
    by_cases h1 : x = y
    · by_cases h2 : xs = ys <;> simp [h1, h2]
    · simp [h1]
theorem py_lmt (xs : List Mx) : (D.lst (xs.map mt)).py = .list (xs.map fun m => (mt m).py) := by
  show PyData.list (D.pys (xs.map mt)) = _
  rw [pys_map, List.map_map]
  rfl
theorem eqv_lmt (xs ys : List Mx) : PyData.eqv (D.lst (xs.map mt)).py (D.lst (ys.map mt)).py = decide (xs = ys) := by
  rw [py_lmt, py_lmt, PyData.eqv]
  exact eqv_list _ eqv_mt xs ys
theorem eqq_lmt (xs : List Mx) : (D.lst (xs.map mt)).eqq := by
  refine ⟨?_, ?_⟩
  · have : ∀ l : List Mx, D.flats (l.map mt) = true := fun l => by
      induction l with
      | nil => rfl
      | cons W l ih =>
        show (D.flats (W.map rt) && D.flats (l.map mt)) = true
        rw [flat_rows, ih]
        rfl
    exact this xs
  · rw [py_lmt, PyData.depth]
    have := depthAll_le (n := 2) (l := xs.map fun m => (mt m).py) fun d hd => by
      obtain ⟨x, _, rfl⟩ := List.mem_map.mp hd
      exact depth_mt x
    omega
theorem if_notT {b : Bool} {A B : Prop} (h : b = true) (hB : B) : if (!b) = true then A else B := by
  rw [h]
  exact hB
theorem if_bne {b c : Bool} {A B : Prop} (h : b = c) (hB : B) : if (!decide (b = c)) = true then A else B := by
  rw [decide_eq_true h]
  exact hB
section
variable {P : Program} {w : World} {K : PySem.W.Frag} {mg : Str → Option Value} {base : Heap}
def phiL : TF := fun ds μ R => ∃ ns : List Int, ds = [.sq (ns.map D.int)] ∧ (∀ one n two n', IsOne one n → IsTwo two n' → LawOk one n two n') ∧ R (.bl true) μ
theorem BaseOk.ebd {t : Mx} {n : Nat} (h : BaseOk t n 3 3) : ∀ i j, i < n → j < n → (ent t i j).natAbs ≤ 100 := by
  intro i j hi hj
  by_cases c : i = j
  · subst c
    obtain ⟨e, e0, eE, he⟩ := h.dg i hi
    have o := h.off
    have n3 := h.n3
    have n1 := h.n1
    have nn : n = 1 ∨ n = 2 ∨ n = 3 := by omega
    rcases nn with rfl | rfl | rfl
    · obtain rfl : i = 0 := by omega
      simp [offS, sumN] at he
      omega
    · have a := o 0 1 (by omega) (by omega) (by omega)
      have b := o 1 0 (by omega) (by omega) (by omega)
      have : i = 0 ∨ i = 1 := by omega
      rcases this with rfl | rfl <;> simp [offS, sumN] at he <;> omega
    · have a := o 0 1 (by omega) (by omega) (by omega)
      have b := o 1 0 (by omega) (by omega) (by omega)
      have c := o 0 2 (by omega) (by omega) (by omega)
      have d := o 2 0 (by omega) (by omega) (by omega)
      have f := o 1 2 (by omega) (by omega) (by omega)
      have g := o 2 1 (by omega) (by omega) (by omega)
      have : i = 0 ∨ i = 1 ∨ i = 2 := by omega
      rcases this with rfl | rfl | rfl <;> simp [offS, sumN] at he <;> omega
  · have := h.off i j hi hj c
    omega
theorem BaseOk.plus {t t' : Mx} (h : BaseOk t 3 1 2) (s : Sh t' 3 3) (e : ∀ a b, ent t' a b = ent t a b + if (a = 1 ∧ b = 1) ∨ (a = 2 ∧ b = 2) then 1 else 0) : BaseOk t' 3 1 3 := by
  have ne : ∀ a b, a ≠ b → ent t' a b = ent t a b := fun a b hab => by
    rw [e, if_neg (by omega), Int.add_zero]
  have of : ∀ i, offS t' 3 i = offS t 3 i := fun i => by
    have f : (fun j => if j = i then (0 : Int) else ((ent t' i j).natAbs : Int)) = fun j => if j = i then (0 : Int) else ((ent t i j).natAbs : Int) := funext fun j => by
      by_cases c : j = i
      · rw [if_pos c, if_pos c]
      · rw [if_neg c, if_neg c, ne i j fun q => c q.symm]
    unfold offS
    rw [f]
  refine ⟨s, h.n1, h.n3, fun i j hi hj => ?_, fun i j hi hj hij => by rw [ne i j hij]; exact h.off i j hi hj hij, fun i hi => ?_⟩
  · by_cases c : i = j
    · rw [c]
    · rw [ne i j c, ne j i fun q => c q.symm]
      exact h.sy i j hi hj
  · obtain ⟨x, x0, xE, hx⟩ := h.dg i hi
    rw [of, e i i, hx]
    split
    · exact ⟨x + 1, by omega, by omega, by omega⟩
    · exact ⟨x, by omega, by omega, by omega⟩
/-- behind the state and the two lattices -/
def N1 (μ : Sto) (sc : D) : Ev → Sto → Prop := fun ρ μ' => ∃ p one n two n' kd most a b, μ p = none ∧ IsOne one n ∧ IsTwo two n' ∧ 0 ≤ kd ∧ kd < 6 ∧ (kd ≠ 5 → WidOk one n) ∧ μ' = μ.put p (stO a b) ∧
  ρ = [some sc, some (.adr p), some (.int most), some (ml one), some (.int kd), some (ml two), none, none, none, none, none, none]
/-- behind the third kind -/
def N2 (μ : Sto) (sc : D) : Ev → Sto → Prop := fun ρ μ' => ∃ p one n two n' kd most a b d, μ p = none ∧ IsOne one n ∧ 0 ≤ kd ∧ kd < 6 ∧ (kd ≠ 5 → WidOk one n) ∧
  ((d = ml two ∧ IsTwo two n' ∧ 3 ≤ kd ∧ μ' = μ.put p (stO a b)) ∨ (kd < 3 ∧ n' = n ∧ ∃ q qs U k, d = D.adr q ∧ Nst (μ.put p (stO a b)) μ' q qs two ∧ k ≤ 3 ∧ Uni n k U ∧ two = movedL one U)) ∧
  ρ = [some sc, some (.adr p), some (.int most), some (ml one), some (.int kd), some d, none, none, none, none, none, none]
theorem sc_L : FnScope ["_law_script", "_law_state_here", "_law_most", "_law_one", "_law_kind", "_law_two", "_law_first", "_law_second", "_law_due", "_law_told", "_law_m", "_law_found"] ["_law_script"] (defScope sL) := ⟨rfl, rfl, rfl, by decide +kernel, rfl, by decide +kernel, by decide +kernel⟩
theorem okL (T : Tx K mg) : FnOk P w K mg base CX0 15 (He.ga K "law") (fdOf K (He.ga K "law")) ["_law_script"] (spD K phiL) := by
  have sc := sc_L
  have FLatticeInit := okLatticeInit (P := P) (w := w) (base := base) T
  have FLDeterminant := okLDeterminant (P := P) (w := w) (base := base) T
  have FLExchanged := okLExchanged (P := P) (w := w) (base := base) T
  have FLGram := okLGram (P := P) (w := w) (base := base) T
  have FLMaps := okLMaps (P := P) (w := w) (base := base) T
  have FLMoved := okLMoved (P := P) (w := w) (base := base) T
  have FLState := okLState (P := P) (w := w) (base := base) T
  have FLTake := okLTake (P := P) (w := w) (base := base) T
  have FLUnimodular := okLUnimodular (P := P) (w := w) (base := base) T
  have FLWider := okLWider (P := P) (w := w) (base := base) T
  have FAlike := okAlike (P := P) (w := w) (base := base) T
  have FAllMaps := okAllMaps (P := P) (w := w) (base := base) T
  have FFindMap := okFindMap (P := P) (w := w) (base := base) T
  refine fnd_ok T.d_L sc (fun ds μ R h => ?len) fun cdv A outer s H E hr => ⟨_, _, (ss_cons (s_set 1 sc.nd (d_call FLState (hr.mono (by decide)) T.g_LState T.d_LState.kp T.b_LState (a_cons (dv 0) a_nil)))
      (ss_cons (s_set 2 sc.nd (d_bin o_add d_int (d_callTy (c_int) T.n_int (a_cons (d_cmp (o_eq (hu hr)) (d_call FLTake (hr.mono (by decide)) T.g_LTake T.d_LTake.kp T.b_LTake (a_cons (dv 1) (a_cons d_int a_nil))) d_int) a_nil))))
      (ss_cons (s_set 3 sc.nd (d_call FLWider (hr.mono (by decide)) T.g_LWider T.d_LWider.kp T.b_LWider (a_cons (dv 1) (a_cons (d_call FLGram (hr.mono (by decide)) T.g_LGram T.d_LGram.kp T.b_LGram (a_cons (dv 1) (a_cons (dv 2) a_nil))) a_nil))))
      (ss_cons (s_set 4 sc.nd (d_call FLTake (hr.mono (by decide)) T.g_LTake T.d_LTake.kp T.b_LTake (a_cons (dv 1) (a_cons d_int a_nil))))
      (ss_cons (s_set 5 sc.nd (d_fz (d_call FLWider (hr.mono (by decide)) T.g_LWider T.d_LWider.kp T.b_LWider (a_cons (dv 1) (a_cons (d_call FLGram (hr.mono (by decide)) T.g_LGram T.d_LGram.kp T.b_LGram (a_cons (dv 1) (a_cons (dv 2) a_nil))) a_nil)))))
      (ss_cons (s_fz (s_if (t_w (tw_and (t_cmp (o_eq (hu hr)) (dv 4) d_int) (tw_and1 (t_cmp (o_eq (hu hr)) (d_callB (c_len) T.n_len (a_cons (dv 3) a_nil)) d_int)))) (ss_cons (s_asg (d_bin o_add (d_ix (d_ix (dv 3) d_int) d_int) d_int) (g_sub (d_ix (dv 3) d_int) d_int))
      (ss_cons (s_asg (d_bin o_add (d_ix (d_ix (dv 3) d_int) d_int) d_int) (g_sub (d_ix (dv 3) d_int) d_int))
      (ss_one (s_set 5 sc.nd (d_call FLExchanged (hr.mono (by decide)) T.g_LExchanged T.d_LExchanged.kp T.b_LExchanged (a_cons (dv 3) a_nil)))))) ss_nil))
      (ss_cons (s_if (t_w (tw_and (t_cmp (o_eq (hu hr)) (dv 4) d_int) (tw_and1 (t_cmp (o_eq (hu hr)) (d_callB (c_len) T.n_len (a_cons (dv 3) a_nil)) d_int)))) (ss_one (s_set 5 sc.nd (d_lst (a_cons (d_lst (a_cons d_int (a_cons d_int a_nil))) (a_cons (d_lst (a_cons d_int (a_cons (d_call FLDeterminant (hr.mono (by decide)) T.g_LDeterminant T.d_LDeterminant.kp T.b_LDeterminant (a_cons (dv 3) a_nil)) a_nil))) a_nil))))) ss_nil)
      (ss_cons (s_if (t_cmp o_ltI (dv 4) d_int) (ss_one (s_set 5 sc.nd (d_call FLMoved (hr.mono (by decide)) T.g_LMoved T.d_LMoved.kp T.b_LMoved (a_cons (dv 3) (a_cons (d_call FLUnimodular (hr.mono (by decide)) T.g_LUnimodular T.d_LUnimodular.kp T.b_LUnimodular (a_cons (dv 1) (a_cons (d_callB (c_len) T.n_len (a_cons (dv 3) a_nil)) a_nil))) a_nil))))) ss_nil)
      (ss_cons (s_fz (s_if (t_cmp (o_eq (hu hr)) (dv 4) d_int) (ss_one (s_asg (d_bin o_add (d_ix (d_ix (dv 5) d_int) d_int) d_int) (g_sub (d_ix (dv 5) d_int) d_int))) ss_nil))
      (ss_cons (s_set 6 sc.nd (d_make T.mk_Lattice FLatticeInit (hr.mono (by decide)) T.g_Lattice T.b_LatticeInit .nil (fun _ => .nil) (a_cons (dv 3) a_nil)))
      (ss_cons (s_set 7 sc.nd (d_make T.mk_Lattice FLatticeInit (hr.mono (by decide)) T.g_Lattice T.b_LatticeInit .nil (fun _ => .nil) (a_cons (dv 5) a_nil)))
      (ss_cons (s_set 8 sc.nd (d_lst a_nil))
      (ss_cons (s_if (t_cmp (o_eq (hu hr)) (d_callB (c_len) T.n_len (a_cons (dv 3) a_nil)) (d_callB (c_len) T.n_len (a_cons (dv 5) a_nil))) (ss_one (s_set 8 sc.nd (d_call FLMaps (hr.mono (by decide)) T.g_LMaps T.d_LMaps.kp T.b_LMaps (a_cons (dv 3) (a_cons (dv 5) a_nil))))) ss_nil)
      (ss_cons (s_set 9 sc.nd (d_call FAllMaps (hr.mono (by decide)) T.g_AllMaps T.d_AllMaps.kp T.b_AllMaps (a_cons (dv 6) (a_cons (dv 7) a_nil))))
      (ss_cons (s_if (t_w (tw_or (t_not (t_val (d_isi (T := "tuple") T.n_isinstance T.n_tuple (dv 9)))) (tw_or1 (t_cmp (o_ne (hu hr)) (d_lc rfl sc.nd (i_seq (dv 9)) (blkOk_by (own := [("_law_m", 10)]) (by first | rfl | kernel_rfl)) fr_name (fun s H C cl fp => (g_name 10 sc.nd)) (fun s H C cl fp => ts_nil) (fun s H C cl fp => (d_fld T.cls_Grid T.no_Grid_rows (dv 10)))) (dv 8))))) (ss_one (s_ret d_bl)) ss_nil)
      (ss_cons (s_if (t_cmp (o_ne (hu hr)) (d_call FAlike (hr.mono (by decide)) T.g_Alike T.d_Alike.kp T.b_Alike (a_cons (dv 6) (a_cons (dv 7) a_nil))) (d_cmp o_gtI (d_callB (c_len) T.n_len (a_cons (dv 8) a_nil)) d_int)) (ss_one (s_ret d_bl)) ss_nil)
      (ss_cons (s_set 11 sc.nd (d_call FFindMap (hr.mono (by decide)) T.g_FindMap T.d_FindMap.kp T.b_FindMap (a_cons (dv 6) (a_cons (dv 7) a_nil))))
      (ss_cons (s_if (t_w (tw_or (t_cmp (o_ne (hu hr)) (d_call FAlike (hr.mono (by decide)) T.g_Alike T.d_Alike.kp T.b_Alike (a_cons (dv 7) (a_cons (dv 6) a_nil))) (d_cmp o_gtI (d_callB (c_len) T.n_len (a_cons (dv 8) a_nil)) d_int)) (tw_or1 (t_cmp (o_ne (hu hr)) (d_lc rfl sc.nd (i_seq (d_call FAllMaps (hr.mono (by decide)) T.g_AllMaps T.d_AllMaps.kp T.b_AllMaps (a_cons (dv 6) (a_cons (dv 7) a_nil)))) (blkOk_by (own := [("_law_m", 10)]) (by first | rfl | kernel_rfl)) fr_name (fun s H C cl fp => (g_name 10 sc.nd)) (fun s H C cl fp => ts_nil) (fun s H C cl fp => (d_fld T.cls_Grid T.no_Grid_rows (dv 10)))) (dv 8))))) (ss_one (s_ret d_bl)) ss_nil)
      (ss_cons (s_if (t_cmp (o_eq (hu hr)) (d_callB (c_len) T.n_len (a_cons (dv 8) a_nil)) d_int) (ss_one (s_ret (d_cmp o_isN (dv 11) d_non))) ss_nil)
      (ss_one (s_ret (d_and (d_cmp o_notN (dv 11) d_non) (d_one (d_cmp (o_eq (hu hr)) (d_fld T.cls_Grid T.no_Grid_rows (dv 11)) (d_ix (dv 8) d_int))))))))))))))))))))))))), fun ds μ R h => ?_⟩
  case len => obtain ⟨ns, rfl, _⟩ := h; rfl
  obtain ⟨ns, rfl, W, hR⟩ := h
  have sL := sLine
  generalize hsc : D.sq (ns.map D.int) = sc
  have hns : sc = D.sq (ns.map D.int) := hsc.symm
  refine cut6 (N1 μ sc) ?_ fun k => ?_
  · rintro ρ μ' ⟨p, one, n, two, n', kd, most, a, b, hp, h1, h2, kd0, kd6, hw, rfl, rfl⟩
    refine cut1 (N1 μ sc) ?_ fun k => ?_
    · clear hp h1 h2 kd0 kd6 hw
      rintro ρ μ' ⟨p, one, n, two, n', kd, most, a, b, hp, h1, h2, kd0, kd6, hw, rfl, rfl⟩
      refine cut1 (N2 μ sc) ?_ fun k => ?_
      · clear hp h1 h2 kd0 kd6 hw
        rintro ρ μ' ⟨p, one, n, two, n', kd, most, a, b, d, hp, h1, kd0, kd6, hw, hd, rfl⟩
        refine cut1 (N1 μ sc) ?_ fun k => ?_
        · clear hp h1 kd0 kd6 hw hd
          rintro ρ μ' ⟨p, one, n, two, n', kd, most, a, b, hp, h1, h2, kd0, kd6, hw, rfl, rfl⟩
          have V := W one n two n' h1 h2
          have sh1 := V.L1.sh
          have sh2 := V.L2.sh
          have sub : SubS μ (μ.put p (stO a b)) := SubS.put_none hp
          clear hw kd0 kd6 h1 h2 hp W
          generalize μ.put p (stO a b) = μ2 at sub ⊢
          have fin : fzR R (.bl true) μ2 := ⟨μ, _, sub, .same _, hR⟩
          refine mk_lat V.L1 ?_
          refine mk_lat V.L2 ?_
          refine ⟨Nat.zero_le _, ?_⟩
          by_cases hn : n = n'
          · subst hn
            have A := V.am rfl
            have res := V.res rfl
            have al := V.al rfl
            refine if_eq (fun c => ?_) fun c => absurd (by rw [List.length_map, List.length_map, sh1.len, sh2.len]) c
            refine ⟨one, two, n, rfl, V.mp rfl, ?_⟩
            refine ⟨one, n, two, n, rfl, sh1, sh2, fun z => absurd rfl z, fun _ => ⟨A, fun Ms am => ?_⟩⟩
            obtain rfl := res Ms am
            generalize hM : mapsL one two n = Ms at res al am ⊢
            have lM : Ms.length ≤ 16000000 := by
              rw [← hM]
              unfold mapsL
              rw [List.length_mergeSort]
              exact Nat.le_trans (List.length_filter_le _ _) ((V.mp rfl).sz n (Nat.le_refl _))
            have eqM : PyData.eqv (D.lst (Ms.map mt)).py (D.lst (Ms.map mt)).py = true := by rw [eqv_lmt]; simp
            have pos : ∀ {q : Prop} [Decidable q], (q ↔ Ms ≠ []) → decide q = decide ((0 : Int) < (((Ms.map mt).length : Nat) : Int)) := fun {q} _ hq => by
              rw [decide_eq_decide, hq, List.length_map]
              constructor
              · intro h
                have := List.length_pos_iff.mpr h
                omega
              · intro h e
                rw [e] at h
                simp at h
            refine ⟨"tuple", true, rfl, by decide +kernel, ?_⟩
            refine Sq.tup ?_
            refine lc_map Ms (fun M => gr K M n) mt rfl (by omega) trivial (fun M hM Y hY => ⟨rfl, _, lk_rows, hY⟩) ?_
            refine ⟨eqq_lmt _, eqq_lmt _, ?_⟩
            refine if_notT eqM ?_
            refine ⟨one, n, two, n, rfl, sh1, sh2, fun z => absurd rfl z, fun _ => ⟨A.a, A.fa, A.b, A.fb, fun Ts out Ts' out' lv lv' => ?_⟩⟩
            refine if_bne (pos (al _ _ _ _ lv lv')) ?_
            clear lv lv'
            refine ⟨one, n, two, n, rfl, sh1, sh2, fun z => absurd rfl z, fun _ => ⟨A, fun Ms2 am2 => ?_⟩⟩
            obtain rfl := res Ms2 am2
            refine ⟨two, n, one, n, rfl, sh2, sh1, fun z => absurd rfl z, fun _ => ⟨A.b, A.fb, A.a, A.fa, fun Ts out Ts' out' lv lv' => ?_⟩⟩
            refine if_bne (pos ⟨fun h => (al _ _ _ _ lv' lv).mp h.symm, fun h => ((al _ _ _ _ lv' lv).mpr h).symm⟩) ?_
            clear lv lv'
            refine ⟨one, n, two, n, rfl, sh1, sh2, fun z => absurd rfl z, fun _ => ⟨A, fun Ms3 am3 => ?_⟩⟩
            obtain rfl := res Ms3 am3
            refine Sq.tup ?_
            refine lc_map Ms3 (fun M => gr K M n) mt rfl (by omega) trivial (fun M hM Y hY => ⟨rfl, _, lk_rows, hY⟩) ?_
            refine ⟨eqq_lmt _, eqq_lmt _, ?_⟩
            refine if_notT eqM ?_
            cases Ms3 with
            | nil => exact fin
            | cons M Ms =>
              show if id (decide ((((List.map mt (M :: Ms)).length : Nat) : Int) = 0)) = true then fzR R (.bl false) μ2 else sRet (dAndV (d2 pNotN (dVar 11) (dC .non)) (d2 (pEq id) (dFld (He.ga K "Grid") "rows" (dVar 11)) (d2 pIx (dVar 8) (dC (.int 0))))) { nx := fun x μ' => fzR R .non μ', rt := fzR R }
                [some sc, some (.adr p), some (.int most), some (ml one), some (.int kd), some (ml two), some (lat K one n), some (lat K two n), some (.lst ((M :: Ms).map mt)), some (.tup ((M :: Ms).map fun M => gr K M n)), none, some (gr K M n)] μ2
              refine if_eq (fun c => ?_) fun c => ?_
              · exfalso
                simp at c
                omega
              · refine ⟨rfl, _, lk_rows, ?_⟩
                refine pIx.lst (dAt_nat (i := 0) (Nat.succ_pos _) ?_)
                refine ⟨eqq_mt _, eqq_mt _, ?_⟩
                have e : id (PyData.eqv (mt M).py (mt M).py) = true := by rw [eqv_mt]; simp
                have f2 := fin
                rw [← e] at f2
                exact f2
          · refine if_eq (fun c => absurd (by rw [List.length_map, List.length_map, sh1.len, sh2.len] at c; omega) hn) fun c => ?_
            refine ⟨one, n, two, n', rfl, sh1, sh2, fun _ => ?_, fun z => absurd z hn⟩
            have eqM0 : PyData.eqv (D.lst (([] : List Mx).map mt)).py (D.lst (([] : List Mx).map mt)).py = true := by rw [eqv_lmt]; simp
            have eqM : PyData.eqv (D.lst (([] : List Mx).map mt)).py (D.lst []).py = true := eqM0
            refine ⟨"tuple", true, rfl, by decide +kernel, ?_⟩
            refine Sq.tup ?_
            refine lc_map ([] : List Mx) (fun M => gr K M n) mt rfl (Nat.zero_le _) trivial (fun M hM Y hY => ⟨rfl, _, lk_rows, hY⟩) ?_
            refine ⟨eqq_lmt [], eqq_lmt [], ?_⟩
            refine ⟨one, n, two, n', rfl, sh1, sh2, fun _ => ?_, fun z => absurd z hn⟩
            refine ⟨one, n, two, n', rfl, sh1, sh2, fun _ => ?_, fun z => absurd z hn⟩
            refine ⟨two, n', one, n, rfl, sh2, sh1, fun _ => ?_, fun z => absurd z.symm hn⟩
            refine ⟨one, n, two, n', rfl, sh1, sh2, fun _ => ?_, fun z => absurd z hn⟩
            refine Sq.tup ?_
            refine lc_map ([] : List Mx) (fun M => gr K M n) mt rfl (Nat.zero_le _) trivial (fun M hM Y hY => ⟨rfl, _, lk_rows, hY⟩) ?_
            refine ⟨eqq_lmt [], eqq_lmt [], ?_⟩
            exact fin
        · rcases hd with ⟨rfl, h2, k3, rfl⟩ | ⟨k3, rfl, q, qs, U, kk, rfl, N, hk, u, rfl⟩
          · refine if_eq (fun c => ?_) fun c => ?_
            · omega
            · exact fzN.now (k _ _ ⟨p, one, n, two, n', kd, most, a, b, hp, h1, h2, kd0, kd6, hw, rfl, rfl⟩)
          · have wd := hw (by omega)
            have sh := movedL_sh (g := one) u.sh
            have n1 := wd.base.n1
            refine if_eq (fun c => ?_) fun c => ?_
            · refine N.rd (i := 0) (k := 0) (by rw [sh.len]; omega) (by rw [sh.get (by omega)]; omega) ?_
              refine N.at (i := 0) (by rw [sh.len]; omega) fun p1 hp1 => ?_
              refine onL_lst (N.row _ _ hp1).2 ⟨0, ixN_nat (i := 0) (by rw [List.length_map, sh.get (by omega)]; omega), ?_⟩
              have M := N.setL (j := 0) (x := ent (movedL one U) 0 0 + 1) hp1
              refine ⟨μ.put p (stO a b), _, M.sub, FzE.same (FzE.same (FzE.same (FzE.same (FzE.same (FzE.cons FzE.refl M.fz))))), ?_⟩
              refine k _ _ ⟨p, one, n', _, n', kd, most, a, b, hp, h1, .mop wd hk u (sh.cell (by omega)) (fun c d _ _ => ?_), kd0, kd6, hw, rfl, rfl⟩
              rw [ent_set (by rw [sh.len]; omega) (by rw [sh.get (by omega)]; omega)]
              split
              · rename_i c2
                rw [c2.1, c2.2]
              · rw [Int.add_zero]
            · refine ⟨μ.put p (stO a b), _, N.sub, FzE.same (FzE.same (FzE.same (FzE.same (FzE.same (FzE.cons FzE.refl N.fz))))), ?_⟩
              exact k _ _ ⟨p, one, n', _, n', kd, most, a, b, hp, h1, .mov wd hk u, kd0, kd6, hw, rfl, rfl⟩
      · refine if_dec (fun c => ?_) fun c => ?_
        · have wd := hw (by omega)
          have sh := wd.base.sh
          have n1 := wd.base.n1
          have n3 := wd.base.n3
          refine ⟨p, a, b, n, by rw [List.length_map, sh.len]; rfl, Sto.put_same, n1, n3, fun U kk a b hk u => ?_⟩
          refine ⟨one, U, n, rfl, sh, u.sh, n3, fun r hr x hx => ?_, fun q qs μ2 N => ?_⟩
          · obtain ⟨i, j, _, _, rfl⟩ := ent_mem u.sh hr hx
            have h3 := u.bd i j
            have h4 : 2 ^ kk ≤ 2 ^ 3 := Nat.pow_le_pow_right (by decide) hk
            exact Nat.le_trans h3 (Nat.le_trans h4 (by decide))
          · rw [Sto.put_put] at N
            exact k _ _ ⟨p, one, n, _, n, kd, most, a, b, _, hp, h1, kd0, kd6, hw, .inr ⟨c, rfl, q, qs, U, kk, rfl, N, hk, u, rfl⟩, rfl⟩
        · exact k _ _ ⟨p, one, n, two, n', kd, most, a, b, _, hp, h1, kd0, kd6, hw, .inl ⟨rfl, h2, by omega, rfl⟩, rfl⟩
    · have same := k _ _ ⟨p, one, n, two, n', kd, most, a, b, hp, h1, h2, kd0, kd6, hw, rfl, rfl⟩
      refine if_eq (fun c => ?_) fun c => same
      refine if_eq (fun c2 => ?_) fun c2 => same
      have wd := hw (by omega)
      have sh := wd.base.sh
      rw [List.length_map, sh.len] at c2
      obtain rfl : n = 2 := by omega
      refine ⟨by show 2 ≤ sizeLine; omega, ?_⟩
      refine ⟨one, 2, rfl, sh, by decide, by decide, fun i j hi hj => Nat.le_trans (wd.base.ebd i j hi hj) (by decide), ?_⟩
      refine ⟨by show 2 ≤ sizeLine; omega, by show 2 ≤ sizeLine; omega, ?_⟩
      exact k _ _ ⟨p, one, 2, _, 2, kd, most, a, b, hp, h1, .det wd, kd0, kd6, hw, rfl, rfl⟩
  · refine ⟨ns, by rw [hns]; rfl, fun a b p hp => ?_⟩
    refine ⟨p, a, b, 4, rfl, Sto.put_same, by decide, by decide, fun v a b v0 v1 => ?_⟩
    have hmost : ∀ bb : Bool, (2 + (if bb = true then (1 : Int) else 0) = 2 ∨ 2 + (if bb = true then (1 : Int) else 0) = 3) := fun bb => by cases bb <;> simp
    refine ⟨p, a, b, _, rfl, Sto.put_same, hmost _, fun t n a b q qs μ1 g N => ?_⟩
    refine ⟨_, p, a, b, q, qs, t, n, rfl, N, g, fun one a b q qs μ2 wd N => ?_⟩
    refine ⟨p, a, b, 6, rfl, N.sub p _ Sto.put_same, by decide, by decide, fun kd a b kd0 kd1 => ?_⟩
    have N := N.tk a b
    refine ⟨p, a, b, _, rfl, Sto.put_same, hmost _, fun t n' a b q2 qs2 μ3 g2 M => ?_⟩
    refine ⟨_, p, a, b, q2, qs2, t, n', rfl, M, g2, fun two a b q2 qs2 μ4 wd2 M => ?_⟩
    refine ⟨_, ml two, M.sub, M.fz, ?_⟩
    have N := N.tk a b
    clear M
    have sh := wd.base.sh
    have n1 := wd.base.n1
    have same : ∀ {X Y : Sto}, X = μ.put p (stO a b) → Nst X Y q qs one → ∀ {most : Int}, (fzN (fun ρ μ' => N1 μ sc ρ μ')) [some sc, some (.adr p), some (.int most), some (.adr q), some (.int kd), some (ml two), none, none, none, none, none, none] Y := fun {X Y} e N {most} =>
      ⟨X, _, N.sub, FzE.same (FzE.same (FzE.same (FzE.cons FzE.refl N.fz))), p, one, n, two, n', kd, most, a, b, hp, .inl wd, .wid wd2, kd0, kd1, fun _ => wd, e, rfl⟩
    have lift : ∀ {A : Ev → Sto → Prop} {ρ : Ev} {μ' : Sto}, fzN (fun ρ μ' => N1 μ sc ρ μ') ρ μ' → (∀ ρ μ', N1 μ sc ρ μ' → A ρ μ') → fzN A ρ μ' := fun h g => let ⟨μ0, ρ', h1, h2, h3⟩ := h; ⟨μ0, ρ', h1, h2, g _ _ h3⟩
    refine if_eq (fun c => ?_) fun c => ?_
    · refine onL_lst N.top ?_
      refine if_eq (fun c2 => ?_) fun c2 => ?_
      · rw [List.length_map, N.len, sh.len] at c2
        obtain rfl : n = 3 := by omega
        have b3 : BaseOk one 3 1 2 := wd.elim (fun h => absurd h.1 (by decide)) fun h => h.2
        refine N.rd (i := 1) (k := 1) (by rw [sh.len]; decide) (by rw [sh.get (by decide)]; decide) ?_
        refine N.at (i := 1) (by rw [sh.len]; decide) fun p1 hp1 => ?_
        refine onL_lst (N.row _ _ hp1).2 ⟨1, ixN_nat (i := 1) (by rw [List.length_map, sh.get (by decide)]; decide), ?_⟩
        have M1 := N.setL (j := 1) (x := ent one 1 1 + 1) hp1
        have s1 := sh.cell (i := 1) (j := 1) (x := ent one 1 1 + 1) (by decide)
        have e1 : ∀ a b, ent (one.set 1 ((one.getD 1 []).set 1 (ent one 1 1 + 1))) a b = if a = 1 ∧ b = 1 then ent one 1 1 + 1 else ent one a b := fun a b => ent_set (by rw [sh.len]; decide) (by rw [sh.get (by decide)]; decide)
        generalize one.set 1 ((one.getD 1 []).set 1 (ent one 1 1 + 1)) = t1 at M1 s1 e1
        refine M1.rd (i := 2) (k := 2) (by rw [s1.len]; decide) (by rw [s1.get (by decide)]; decide) ?_
        have v1 : ent t1 2 2 = ent one 2 2 := by rw [e1, if_neg (by decide)]
        rw [v1]
        refine M1.at (i := 2) (by rw [s1.len]; decide) fun p2 hp2 => ?_
        refine onL_lst (M1.row _ _ hp2).2 ⟨2, ixN_nat (i := 2) (by rw [List.length_map, s1.get (by decide)]; decide), ?_⟩
        have M2 := M1.setL (j := 2) (x := ent one 2 2 + 1) hp2
        have s2 := s1.cell (i := 2) (j := 2) (x := ent one 2 2 + 1) (by decide)
        have e2 : ∀ a b, ent (t1.set 2 ((t1.getD 2 []).set 2 (ent one 2 2 + 1))) a b = if a = 2 ∧ b = 2 then ent one 2 2 + 1 else ent t1 a b := fun a b => ent_set (by rw [s1.len]; decide) (by rw [s1.get (by decide)]; decide)
        generalize t1.set 2 ((t1.getD 2 []).set 2 (ent one 2 2 + 1)) = t2 at M2 s2 e2
        have e3 : ∀ a b, ent t2 a b = ent one a b + if (a = 1 ∧ b = 1) ∨ (a = 2 ∧ b = 2) then 1 else 0 := fun a b => by
          rw [e2, e1]
          by_cases c1 : a = 2 ∧ b = 2
          · rw [if_pos c1, if_pos (.inr c1), c1.1, c1.2]
          · rw [if_neg c1]
            by_cases c2 : a = 1 ∧ b = 1
            · rw [if_pos c2, if_pos (.inl c2), c2.1, c2.2]
            · rw [if_neg c2, if_neg (by omega), Int.add_zero]
        have b4 := b3.plus s2 e3
        refine ⟨_, q, qs, t2, rfl, M2, s2, fun T sT eT => ?_⟩
        refine ⟨_, _, M2.sub, FzE.same (FzE.same (FzE.same (FzE.cons FzE.refl M2.fz))), ?_⟩
        exact k _ _ ⟨p, t2, 3, T, 3, kd, _, a, b, hp, .inr ⟨rfl, b4⟩, .exc b4 sT eT, kd0, kd1, fun h => absurd c h, by simp only [Sto.put_put], rfl⟩
      · exact lift (same (by simp only [Sto.put_put]) N) k
    · exact lift (same (by simp only [Sto.put_put]) N) k
end
end Gm
end
/-! La -/
section
set_option Elab.async false
set_option linter.all false
set_option maxRecDepth 100000
namespace Gp
theorem sqnn (a : Int) : 0 ≤ a * a := by
  rcases Int.le_total 0 a with h | h
  · exact Int.mul_nonneg h h
  · have := Int.mul_nonneg (show 0 ≤ -a by omega) (show 0 ≤ -a by omega)
    rwa [Int.neg_mul_neg] at this
/-! ### sums -/
theorem sumN_cg {f g : Nat → Int} : ∀ {n : Nat}, (∀ i, i < n → f i = g i) → sumN f n = sumN g n
  | 0, _ => rfl
  | n + 1, h => by rw [sumN, sumN, sumN_cg (n := n) fun i hi => h i (by omega), h n (by omega)]
theorem sumN_add (f g : Nat → Int) : ∀ n, sumN (fun i => f i + g i) n = sumN f n + sumN g n
  | 0 => rfl
  | n + 1 => by rw [sumN, sumN, sumN, sumN_add f g n]; omega
theorem sumN_mul (c : Int) (f : Nat → Int) : ∀ n, sumN (fun i => c * f i) n = c * sumN f n
  | 0 => by simp [sumN]
  | n + 1 => by rw [sumN, sumN, sumN_mul c f n, Int.mul_add]
theorem sumN_mulr (c : Int) (f : Nat → Int) (n : Nat) : sumN (fun i => f i * c) n = sumN f n * c := by
  rw [Int.mul_comm, ← sumN_mul]
  exact sumN_cg fun i _ => Int.mul_comm _ _
theorem sumN_zero {f : Nat → Int} : ∀ {n : Nat}, (∀ i, i < n → f i = 0) → sumN f n = 0
  | 0, _ => rfl
  | n + 1, h => by rw [sumN, sumN_zero (n := n) fun i hi => h i (by omega), h n (by omega)]; rfl
theorem sumN_swap (f : Nat → Nat → Int) (m : Nat) : ∀ n, sumN (fun i => sumN (fun j => f i j) m) n = sumN (fun j => sumN (fun i => f i j) n) m
  | 0 => (sumN_zero fun _ _ => rfl).symm
  | n + 1 => by
    rw [sumN, sumN_swap f m n, ← sumN_add]
    rfl
theorem sumN_le {f g : Nat → Int} : ∀ {n : Nat}, (∀ i, i < n → f i ≤ g i) → sumN f n ≤ sumN g n
  | 0, _ => Int.le_refl _
  | n + 1, h => by
    have := sumN_le (n := n) fun i hi => h i (by omega)
    have := h n (by omega)
    rw [sumN, sumN]
    omega
theorem sumN_nn {f : Nat → Int} {n : Nat} (h : ∀ i, i < n → 0 ≤ f i) : 0 ≤ sumN f n := by
  have := sumN_le (f := fun _ => 0) (g := f) h
  rwa [sumN_zero fun _ _ => rfl] at this
theorem sumN_one {f : Nat → Int} {n k : Nat} (hk : k < n) (h : ∀ i, i < n → i ≠ k → f i = 0) : sumN f n = f k := by
  induction n with
  | zero => omega
  | succ n ih =>
    rw [sumN]
    by_cases e : k = n
    · subst e
      rw [sumN_zero fun i hi => h i (by omega) (by omega), Int.zero_add]
    · rw [ih (by omega) fun i hi => h i (by omega), h n (by omega) (by omega), Int.add_zero]
theorem sumN_ge {f : Nat → Int} {n k : Nat} (hk : k < n) (h : ∀ i, i < n → 0 ≤ f i) : f k ≤ sumN f n := by
  induction n with
  | zero => omega
  | succ n ih =>
    rw [sumN]
    have h0 := sumN_nn (n := n) fun i hi => h i (by omega)
    by_cases e : k = n
    · subst e
      omega
    · have := ih (by omega) fun i hi => h i (by omega)
      have := h n (by omega)
      omega
theorem sumN_neg (f : Nat → Int) (n : Nat) : sumN (fun i => - f i) n = - sumN f n := by
  have := sumN_mul (-1) f n
  rw [show (fun i => -1 * f i) = fun i => - f i from funext fun i => by omega] at this
  omega
abbrev Vec := Nat → Int
/-- the bilinear form -/
def bil (f : Fn) (n : Nat) (x y : Vec) : Int := sumN (fun i => sumN (fun j => x i * f i j * y j) n) n
/-- a vector times a matrix -/
def lin (A : Fn) (n : Nat) (x : Vec) : Vec := fun j => sumN (fun i => x i * A i j) n
def sq (n : Nat) (x : Vec) : Int := sumN (fun i => x i * x i) n
section
variable {f : Fn} {n : Nat} {x y z : Vec}
theorem bil_cg {f g : Fn} {x x' y y' : Vec} (hf : ∀ i j, i < n → j < n → f i j = g i j) (hx : ∀ i, i < n → x i = x' i) (hy : ∀ i, i < n → y i = y' i) : bil f n x y = bil g n x' y' :=
  sumN_cg fun i hi => sumN_cg fun j hj => by rw [hf i j hi hj, hx i hi, hy j hj]
theorem bil_addL (x x' y : Vec) : bil f n (fun i => x i + x' i) y = bil f n x y + bil f n x' y := by
  unfold bil
  rw [← sumN_add]
  refine sumN_cg fun i _ => ?_
  rw [← sumN_add]
  exact sumN_cg fun j _ => by grind
theorem bil_mulL (c : Int) (x y : Vec) : bil f n (fun i => c * x i) y = c * bil f n x y := by
  unfold bil
  rw [← sumN_mul]
  refine sumN_cg fun i _ => ?_
  rw [← sumN_mul]
  exact sumN_cg fun j _ => by grind
theorem bil_comm (sy : ∀ i j, i < n → j < n → f i j = f j i) (x y : Vec) : bil f n x y = bil f n y x := by
  unfold bil
  rw [sumN_swap]
  exact sumN_cg fun i hi => sumN_cg fun j hj => by rw [sy i j hi hj]; grind
theorem bil_addR (sy : ∀ i j, i < n → j < n → f i j = f j i) (x y y' : Vec) : bil f n x (fun i => y i + y' i) = bil f n x y + bil f n x y' := by
  rw [bil_comm sy, bil_addL, bil_comm sy y, bil_comm sy y']
theorem bil_mulR (sy : ∀ i j, i < n → j < n → f i j = f j i) (c : Int) (x y : Vec) : bil f n x (fun i => c * y i) = c * bil f n x y := by
  rw [bil_comm sy, bil_mulL, bil_comm sy y]
/-- the form in another basis -/
def mvF (f : Fn) (n : Nat) (U : Fn) : Fn := fun a b => bil f n (U a) (U b)
theorem bil_sumL (U : Fn) (m : Nat) (c : Vec) (y : Vec) : bil f n (fun j => sumN (fun a => c a * U a j) m) y = sumN (fun a => c a * bil f n (U a) y) m := by
  induction m with
  | zero =>
    unfold bil
    refine (sumN_zero fun i _ => sumN_zero fun j _ => ?_)
    simp [sumN]
  | succ m ih =>
    have e : (fun j => sumN (fun a => c a * U a j) (m + 1)) = fun j => (fun j => sumN (fun a => c a * U a j) m) j + (fun j => c m * U m j) j := rfl
    rw [e, bil_addL, ih, bil_mulL]
    rfl
theorem bil_mv (sy : ∀ i j, i < n → j < n → f i j = f j i) (U : Fn) (x y : Vec) : bil (mvF f n U) n x y = bil f n (lin U n x) (lin U n y) := by
  have e1 : bil f n (lin U n x) (lin U n y) = sumN (fun a => x a * bil f n (U a) (lin U n y)) n := bil_sumL U n x _
  rw [e1]
  unfold bil
  refine sumN_cg fun i _ => ?_
  have e2 : bil f n (U i) (lin U n y) = sumN (fun b => y b * bil f n (U b) (U i)) n := by
    rw [bil_comm sy]
    exact bil_sumL U n y _
  show _ = x i * bil f n (U i) (lin U n y)
  rw [e2, ← sumN_mul]
  refine sumN_cg fun j _ => ?_
  show x i * bil f n (U i) (U j) * y j = _
  rw [bil_comm sy (U j)]
  grind
/-- Cauchy and Schwarz -/
theorem cs (n : Nat) (x y : Vec) : sumN (fun i => x i * y i) n * sumN (fun i => x i * y i) n ≤ sq n x * sq n y := by
  induction n with
  | zero => simp [sumN, sq]
  | succ n ih =>
    have e1 : sumN (fun i => x i * y i) (n + 1) = sumN (fun i => x i * y i) n + x n * y n := rfl
    have e2 : sq (n + 1) x = sq n x + x n * x n := rfl
    have e3 : sq (n + 1) y = sq n y + y n * y n := rfl
    rw [e1, e2, e3]
    generalize sumN (fun i => x i * y i) n = p at ih ⊢
    have hx : 0 ≤ sq n x := sumN_nn fun i _ => sqnn _
    have hy : 0 ≤ sq n y := sumN_nn fun i _ => sqnn _
    generalize sq n x = a at *
    generalize sq n y = b at *
    generalize x n = u
    generalize y n = v
    -- 2 p u v <= a v v + b u u
    have key : 2 * (p * (u * v)) ≤ a * (v * v) + b * (u * u) := by
      by_cases hab : a = 0
      · subst hab
        have : p * p ≤ 0 := by simpa using ih
        have p0 : p = 0 := by
          have h2 := sqnn p
          have h3 : p * p = 0 := by omega
          rcases Int.mul_eq_zero.mp h3 with h | h <;> exact h
        rw [p0]
        have := Int.mul_nonneg hy (sqnn u)
        simp
        exact this
      · have ha : 0 < a := by omega
        have h1 := sqnn (a * v - p * u)
        have h2 : (a * v - p * u) * (a * v - p * u) = a * (a * (v * v)) - a * (2 * (p * (u * v))) + p * p * (u * u) := by grind
        have h3 : p * p * (u * u) ≤ a * b * (u * u) := Int.mul_le_mul_of_nonneg_right ih (sqnn u)
        have h4 : a * (2 * (p * (u * v))) ≤ a * (a * (v * v) + b * (u * u)) := by
          have e : a * (a * (v * v) + b * (u * u)) = a * (a * (v * v)) + a * b * (u * u) := by grind
          rw [e]
          omega
        exact Int.le_of_mul_le_mul_left h4 ha
    have e : (p + u * v) * (p + u * v) = p * p + 2 * (p * (u * v)) + u * v * (u * v) := by grind
    have e' : (a + u * u) * (b + v * v) = a * b + (a * (v * v) + b * (u * u)) + u * v * (u * v) := by grind
    rw [e, e']
    omega
end
end Gp
end
/-! Lb -/
section
set_option Elab.async false
set_option linter.all false
set_option maxRecDepth 100000
namespace Gp
structure Good (f : Fn) (n : Nat) : Prop where
  n1 : 1 ≤ n
  n3 : n ≤ 3
  sy : ∀ i j, i < n → j < n → f i j = f j i
  inv : ∃ A A' : Fn, (∀ x, sq n (lin A n x) ≤ bil f n x x) ∧ (∀ x i, i < n → x i = sumN (fun j => lin A n x j * A' j i) n) ∧ ∀ i, i < n → sumN (fun j => ((A' j i).natAbs : Int)) n ≤ 5
  dg : ∀ i, i < n → f i i ≤ 176 ∧ (n = 3 → f i i ≤ 126)
  mn : ∃ x : Vec, (∃ i, i < n ∧ x i ≠ 0) ∧ bil f n x x ≤ if n = 3 then 6 else 11
theorem sq_nn (n : Nat) (x : Vec) : 0 ≤ sq n x := sumN_nn fun i _ => sqnn _
theorem sq_le_abs (x : Vec) : ∀ n, sq n x ≤ sumN (fun j => ((x j).natAbs : Int)) n * sumN (fun j => ((x j).natAbs : Int)) n ∧ 0 ≤ sumN (fun j => ((x j).natAbs : Int)) n
  | 0 => ⟨Int.le_refl _, Int.le_refl _⟩
  | n + 1 => by
    obtain ⟨h1, h2⟩ := sq_le_abs x n
    have e1 : sq (n + 1) x = sq n x + x n * x n := rfl
    have e2 : sumN (fun j => ((x j).natAbs : Int)) (n + 1) = sumN (fun j => ((x j).natAbs : Int)) n + ((x n).natAbs : Int) := rfl
    rw [e1, e2]
    generalize sumN (fun j => ((x j).natAbs : Int)) n = a at *
    have e3 : x n * x n = ((x n).natAbs : Int) * ((x n).natAbs : Int) := (Int.natAbs_mul_self' _).symm
    rw [e3]
    have hb : 0 ≤ ((x n).natAbs : Int) := Int.natCast_nonneg _
    generalize ((x n).natAbs : Int) = b at *
    refine ⟨?_, by omega⟩
    have e4 : (a + b) * (a + b) = a * a + 2 * (a * b) + b * b := by grind
    have := Int.mul_nonneg h2 hb
    rw [e4]
    omega
section
variable {f : Fn} {n : Nat}
theorem Good.nn (G : Good f n) (x : Vec) : 0 ≤ bil f n x x := by
  obtain ⟨A, A', h1, _⟩ := G.inv
  exact Int.le_trans (sq_nn n _) (h1 x)
theorem Good.co (G : Good f n) (x : Vec) {i : Nat} (hi : i < n) : x i * x i ≤ 25 * bil f n x x := by
  obtain ⟨A, A', h1, h2, h3⟩ := G.inv
  have e := h2 x i hi
  have c := cs n (lin A n x) (fun j => A' j i)
  rw [← e] at c
  have s1 := (sq_le_abs (fun j => A' j i) n)
  have s2 := h3 i hi
  have s3 : sq n (fun j => A' j i) ≤ 25 := by
    have h := s1.1
    have h0 := s1.2
    generalize sumN (fun j => ((A' j i).natAbs : Int)) n = z at *
    have : z * z ≤ 5 * 5 := Int.mul_le_mul s2 s2 h0 (by decide)
    omega
  have s4 := sq_nn n (fun j => A' j i)
  have s5 := sq_nn n (lin A n x)
  have s6 := h1 x
  calc x i * x i ≤ sq n (lin A n x) * sq n (fun j => A' j i) := c
    _ ≤ bil f n x x * 25 := Int.mul_le_mul s6 s3 s4 (by omega)
    _ = 25 * bil f n x x := Int.mul_comm _ _
theorem Good.pos (G : Good f n) (x : Vec) {i : Nat} (hi : i < n) (hx : x i ≠ 0) : 0 < bil f n x x := by
  have h1 := G.nn x
  have h2 := G.co x hi
  have h3 : 0 < x i * x i := by
    have := sqnn (x i)
    have : x i * x i ≠ 0 := fun e => by rcases Int.mul_eq_zero.mp e with h | h <;> exact hx h
    omega
  omega
/-- a coordinate by the norm -/
theorem Good.cb (G : Good f n) {x : Vec} {N b : Int} (hN : bil f n x x ≤ N) (hb : 25 * N < (b + 1) * (b + 1)) (b0 : 0 ≤ b) {i : Nat} (hi : i < n) : ((x i).natAbs : Int) ≤ b := by
  have h := G.co x hi
  rw [← Int.natAbs_mul_self' (x i)] at h
  refine Int.le_of_lt_add_one ?_
  refine Int.not_le.mp fun c => ?_
  have := Int.mul_le_mul c c (by omega) (Int.natCast_nonneg _)
  omega
def e1 (k : Nat) : Vec := fun i => if i = k then 1 else 0
theorem bil_e1 {k l : Nat} (hk : k < n) (hl : l < n) : bil f n (e1 k) (e1 l) = f k l := by
  unfold bil
  rw [sumN_one hk fun i _ hne => sumN_zero fun j _ => by simp [e1, hne]]
  rw [sumN_one hl fun j _ hne => by simp [e1, hne]]
  simp [e1]
theorem Good.dpos (G : Good f n) {i : Nat} (hi : i < n) : 1 ≤ f i i := by
  have := G.pos (e1 i) hi (by simp [e1])
  rw [bil_e1 hi hi] at this
  omega
theorem bil_lc (sy : ∀ i j, i < n → j < n → f i j = f j i) (a b : Int) (x y : Vec) : bil f n (fun i => a * x i + b * y i) (fun i => a * x i + b * y i) = a * a * bil f n x x + 2 * (a * b * bil f n x y) + b * b * bil f n y y := by
  have h1 := bil_addL (f := f) (n := n) (fun i => a * x i) (fun i => b * y i) (fun i => a * x i + b * y i)
  have h2 := bil_addR sy (fun i => a * x i) (fun i => a * x i) (fun i => b * y i)
  have h3 := bil_addR sy (fun i => b * y i) (fun i => a * x i) (fun i => b * y i)
  rw [h1, h2, h3]
  have g1 : bil f n (fun i => a * x i) (fun i => a * x i) = a * (a * bil f n x x) := by rw [bil_mulL, bil_mulR sy]
  have g2 : bil f n (fun i => a * x i) (fun i => b * y i) = a * (b * bil f n x y) := by rw [bil_mulL, bil_mulR sy]
  have g3 : bil f n (fun i => b * y i) (fun i => a * x i) = b * (a * bil f n x y) := by rw [bil_mulL, bil_mulR sy, bil_comm sy y x]
  have g4 : bil f n (fun i => b * y i) (fun i => b * y i) = b * (b * bil f n y y) := by rw [bil_mulL, bil_mulR sy]
  rw [g1, g2, g3, g4]
  grind
/-- of the form: Cauchy and Schwarz -/
theorem Good.csf (G : Good f n) (x y : Vec) : bil f n x y * bil f n x y ≤ bil f n x x * bil f n y y := by
  by_cases z : bil f n x x = 0
  · have xz : ∀ i, i < n → x i = 0 := fun i hi => Classical.byContradiction fun c => by have := G.pos x hi c; omega
    have : bil f n x y = 0 := sumN_zero fun i hi => sumN_zero fun j _ => by rw [xz i hi]; simp
    rw [this, z]
    simp
  · have p := G.nn x
    have px : 0 < bil f n x x := by omega
    have h := G.nn (fun i => bil f n x x * y i + - bil f n x y * x i)
    rw [bil_lc G.sy, bil_comm G.sy y x] at h
    generalize bil f n x x = a at *
    generalize bil f n x y = b at *
    generalize bil f n y y = c at *
    have e : 0 ≤ a * (a * c - b * b) := by
      have e2 : a * (a * c - b * b) = a * a * c + 2 * (a * -b * b) + -b * -b * a := by grind
      rw [e2]
      exact h
    have e3 : a * 0 ≤ a * (a * c - b * b) := by rw [Int.mul_zero]; exact e
    have := Int.le_of_mul_le_mul_left e3 px
    omega
theorem Good.ebd (G : Good f n) {i j : Nat} (hi : i < n) (hj : j < n) : (f i j).natAbs ≤ 176 := by
  have h := G.csf (e1 i) (e1 j)
  rw [bil_e1 hi hj, bil_e1 hi hi, bil_e1 hj hj] at h
  have d1 := (G.dg i hi).1
  have d2 := (G.dg j hj).1
  have p1 := G.dpos hi
  have p2 := G.dpos hj
  rw [← Int.natAbs_mul_self' (f i j)] at h
  have h2 : f i i * f j j ≤ 176 * 176 := Int.mul_le_mul d1 d2 (by omega) (by decide)
  refine Nat.le_of_not_lt fun c => ?_
  have h3 : (177 : Int) * 177 ≤ ((f i j).natAbs : Int) * ((f i j).natAbs : Int) := Int.mul_le_mul (by omega) (by omega) (by decide) (Int.natCast_nonneg _)
  omega
/-- positive -/
structure PD (f : Fn) (n : Nat) : Prop where
  n1 : 1 ≤ n
  n3 : n ≤ 3
  sy : ∀ i j, i < n → j < n → f i j = f j i
  ps : ∀ (x : Vec) {i : Nat}, i < n → x i ≠ 0 → 0 < bil f n x x
theorem PD.det1 (G : PD f n) : 1 ≤ detF 1 f := by
  have := G.ps (e1 0) (i := 0) (by have := G.n1; omega) (by simp [e1])
  rw [bil_e1 (by have := G.n1; omega) (by have := G.n1; omega)] at this
  exact this
theorem PD.det2 (G : PD f n) (h2 : 2 ≤ n) : 1 ≤ detF 2 f := by
  have d1 := G.det1
  have n3 := G.n3
  have s := G.sy 0 1 (by omega) (by omega)
  have h := G.ps (fun i => if i = 0 then - f 0 1 else if i = 1 then f 0 0 else 0) (i := 1) (by omega) (by
    show f 0 0 ≠ 0
    have : detF 1 f = f 0 0 := rfl
    omega)
  have e : bil f n (fun i => if i = 0 then - f 0 1 else if i = 1 then f 0 0 else 0) (fun i => if i = 0 then - f 0 1 else if i = 1 then f 0 0 else 0) = f 0 0 * detF 2 f := by
    have : n = 2 ∨ n = 3 := by omega
    rcases this with rfl | rfl <;> simp [bil, sumN, detF] <;> grind
  rw [e] at h
  have h3 : f 0 0 * 0 < f 0 0 * detF 2 f := by omega
  have := Int.lt_of_mul_lt_mul_left h3 (by have : detF 1 f = f 0 0 := rfl; omega)
  omega
theorem PD.det3 (G : PD f n) (h3 : n = 3) : 1 ≤ detF 3 f := by
  subst h3
  have d2 := G.det2 (by decide)
  have s1 := G.sy 0 1 (by omega) (by omega)
  have s2 := G.sy 0 2 (by omega) (by omega)
  have s3 := G.sy 1 2 (by omega) (by omega)
  have h := G.ps (fun i => if i = 0 then f 0 1 * f 1 2 - f 0 2 * f 1 1 else if i = 1 then f 0 1 * f 0 2 - f 0 0 * f 1 2 else detF 2 f) (i := 2) (by omega) (by
    show detF 2 f ≠ 0
    omega)
  have e : bil f 3 (fun i => if i = 0 then f 0 1 * f 1 2 - f 0 2 * f 1 1 else if i = 1 then f 0 1 * f 0 2 - f 0 0 * f 1 2 else detF 2 f) (fun i => if i = 0 then f 0 1 * f 1 2 - f 0 2 * f 1 1 else if i = 1 then f 0 1 * f 0 2 - f 0 0 * f 1 2 else detF 2 f) = detF 2 f * detF 3 f := by
    simp [bil, sumN, detF]
    grind
  rw [e] at h
  have h3 : detF 2 f * 0 < detF 2 f * detF 3 f := by omega
  have := Int.lt_of_mul_lt_mul_left h3 (by omega)
  omega
theorem PD.ld (G : PD f n) {k : Nat} (k1 : 1 ≤ k) (kn : k ≤ n) : 1 ≤ detF k f := by
  have n3 := G.n3
  have : k = 1 ∨ k = 2 ∨ k = 3 := by omega
  rcases this with rfl | rfl | rfl
  · exact G.det1
  · exact G.det2 kn
  · exact G.det3 (by omega)
theorem Good.pd (G : Good f n) : PD f n := ⟨G.n1, G.n3, G.sy, fun x => G.pos x⟩
theorem Good.det1 (G : Good f n) : 1 ≤ detF 1 f := G.pd.det1
theorem Good.ld (G : Good f n) {k : Nat} (k1 : 1 ≤ k) (kn : k ≤ n) : 1 ≤ detF k f := G.pd.ld k1 kn
end
end Gp
end
/-! Ld -/
section
set_option Elab.async false
set_option linter.all false
set_option maxRecDepth 100000
namespace Gp
abbrev getV (v : List Int) : Vec := fun i => v.getD i 0
def tq (f : Fn) (l : Nat) (v : List Int) : Int := bil f l (getV v) (getV v)
theorem nh6 {n h : Nat} (n3 : n ≤ 3) (hh : h < n) : (n = 1 ∧ h = 0) ∨ (n = 2 ∧ h = 0) ∨ (n = 2 ∧ h = 1) ∨ (n = 3 ∧ h = 0) ∨ (n = 3 ∧ h = 1) ∨ (n = 3 ∧ h = 2) := by omega
theorem tail00 {f : Fn} {n h : Nat} (n3 : n ≤ 3) (hh : h < n) : tailF h f 0 0 = detF (h + 1) f := by
  rcases nh6 n3 hh with ⟨rfl, rfl⟩ | ⟨rfl, rfl⟩ | ⟨rfl, rfl⟩ | ⟨rfl, rfl⟩ | ⟨rfl, rfl⟩ | ⟨rfl, rfl⟩ <;> simp [tailF, detF] <;> grind
section
variable {f : Fn} {n : Nat}
theorem len0 {b : List Int} (h : b.length = 0) : b = [] := List.length_eq_zero_iff.mp h
theorem len1 {b : List Int} (h : b.length = 1) : ∃ x, b = [x] := by
  match b, h with
  | [x], _ => exact ⟨x, rfl⟩
theorem len2 {b : List Int} (h : b.length = 2) : ∃ x y, b = [x, y] := by
  match b, h with
  | [x, y], _ => exact ⟨x, y, rfl⟩
theorem len3 {b : List Int} (h : b.length = 3) : ∃ x y z, b = [x, y, z] := by
  match b, h with
  | [x, y, z], _ => exact ⟨x, y, z, rfl⟩
/-- the square completed -/
theorem tq_sq (G : Good f n) {h : Nat} (hh : h < n) {b : List Int} (hb : b.length + h + 1 = n) (x : Int) :
    tailF h f 0 0 * tq (tailF h f) (n - h) (x :: b) = (tailF h f 0 0 * x + restN (tailF h f) b b.length) * (tailF h f 0 0 * x + restN (tailF h f) b b.length) + detF h f * tq (tailF (h + 1) f) (n - h - 1) b := by
  have n3 := G.n3
  rcases nh6 n3 hh with ⟨rfl, rfl⟩ | ⟨rfl, rfl⟩ | ⟨rfl, rfl⟩ | ⟨rfl, rfl⟩ | ⟨rfl, rfl⟩ | ⟨rfl, rfl⟩
  · obtain rfl := len0 (b := b) (by omega)
    simp [tq, bil, sumN, tailF, restN, detF]
    grind
  · obtain ⟨y, rfl⟩ := len1 (b := b) (by omega)
    have s := G.sy 0 1 (by omega) (by omega)
    simp [tq, bil, sumN, tailF, restN, detF]
    grind
  · obtain rfl := len0 (b := b) (by omega)
    simp [tq, bil, sumN, tailF, restN, detF]
    grind
  · obtain ⟨y, z, rfl⟩ := len2 (b := b) (by omega)
    have s := G.sy 0 1 (by omega) (by omega)
    have s2 := G.sy 0 2 (by omega) (by omega)
    have s3 := G.sy 1 2 (by omega) (by omega)
    simp [tq, bil, sumN, tailF, restN, detF]
    grind
  · obtain ⟨y, rfl⟩ := len1 (b := b) (by omega)
    have s := G.sy 0 1 (by omega) (by omega)
    have s2 := G.sy 0 2 (by omega) (by omega)
    have s3 := G.sy 1 2 (by omega) (by omega)
    simp [tq, bil, sumN, tailF, restN, detF]
    grind
  · obtain rfl := len0 (b := b) (by omega)
    simp [tq, bil, sumN, tailF, restN, detF]
    grind
theorem tq_in (G : Good f n) {h : Nat} (hh : h < n) {b : List Int} (hb : b.length + h + 1 = n) (x bd : Int) :
    (tailF h f 0 0 * x + restN (tailF h f) b b.length) * (tailF h f 0 0 * x + restN (tailF h f) b b.length) - insideF (tailF h f) b bd = tailF h f 0 0 * (tq (tailF h f) (n - h) (x :: b) - bd) := by
  have n3 := G.n3
  rcases nh6 n3 hh with ⟨rfl, rfl⟩ | ⟨rfl, rfl⟩ | ⟨rfl, rfl⟩ | ⟨rfl, rfl⟩ | ⟨rfl, rfl⟩ | ⟨rfl, rfl⟩
  · obtain rfl := len0 (b := b) (by omega)
    simp [tq, bil, sumN, tailF, restN, detF, insideF, knowN, knowR]
    grind
  · obtain ⟨y, rfl⟩ := len1 (b := b) (by omega)
    have s := G.sy 0 1 (by omega) (by omega)
    simp [tq, bil, sumN, tailF, restN, detF, insideF, knowN, knowR]
    grind
  · obtain rfl := len0 (b := b) (by omega)
    simp [tq, bil, sumN, tailF, restN, detF, insideF, knowN, knowR]
    grind
  · obtain ⟨y, z, rfl⟩ := len2 (b := b) (by omega)
    have s := G.sy 0 1 (by omega) (by omega)
    have s2 := G.sy 0 2 (by omega) (by omega)
    have s3 := G.sy 1 2 (by omega) (by omega)
    simp [tq, bil, sumN, tailF, restN, detF, insideF, knowN, knowR]
    grind
  · obtain ⟨y, rfl⟩ := len1 (b := b) (by omega)
    have s := G.sy 0 1 (by omega) (by omega)
    have s2 := G.sy 0 2 (by omega) (by omega)
    have s3 := G.sy 1 2 (by omega) (by omega)
    simp [tq, bil, sumN, tailF, restN, detF, insideF, knowN, knowR]
    grind
  · obtain rfl := len0 (b := b) (by omega)
    simp [tq, bil, sumN, tailF, restN, detF, insideF, knowN, knowR]
    grind
/-- a vector that has b behind -/
theorem tq_lift (G : Good f n) {h : Nat} (hh : h < n) {b : List Int} (hb : b.length + h = n) : ∃ y : Vec, (∀ i, i < n - h → y (h + i) = detF h f * getV b i) ∧ bil f n y y = detF h f * tq (tailF h f) (n - h) b := by
  have n3 := G.n3
  by_cases h0 : h = 0
  · subst h0
    exact ⟨getV b, fun i _ => by rw [Nat.zero_add]; simp [detF], by simp [tq, tailF, detF]⟩
  by_cases h1 : h = 1
  · subst h1
    refine ⟨fun i => if i = 0 then - sumN (fun j => f 0 (j + 1) * getV b j) (n - 1) else f 0 0 * getV b (i - 1), fun i hi => ?_, ?_⟩
    · show (if 1 + i = 0 then _ else f 0 0 * getV b (1 + i - 1)) = _
      rw [if_neg (by omega), show 1 + i - 1 = i from by omega]
      rfl
    · have : n = 2 ∨ n = 3 := by omega
      rcases this with rfl | rfl
      · obtain ⟨y, rfl⟩ := len1 (b := b) (by omega)
        have s := G.sy 0 1 (by omega) (by omega)
        simp [tq, bil, sumN, tailF, detF]
        grind
      · obtain ⟨y, z, rfl⟩ := len2 (b := b) (by omega)
        have s := G.sy 0 1 (by omega) (by omega)
        have s2 := G.sy 0 2 (by omega) (by omega)
        have s3 := G.sy 1 2 (by omega) (by omega)
        simp [tq, bil, sumN, tailF, detF]
        grind
  · obtain rfl : h = 2 := by omega
    obtain rfl : n = 3 := by omega
    obtain ⟨y, rfl⟩ := len1 (b := b) (by omega)
    have s := G.sy 0 1 (by omega) (by omega)
    have s2 := G.sy 0 2 (by omega) (by omega)
    have s3 := G.sy 1 2 (by omega) (by omega)
    refine ⟨fun i => if i = 0 then (f 0 1 * f 1 2 - f 0 2 * f 1 1) * y else if i = 1 then (f 0 1 * f 0 2 - f 0 0 * f 1 2) * y else detF 2 f * y, fun i hi => ?_, ?_⟩
    · obtain rfl : i = 0 := by omega
      simp [getV]
    · simp [tq, bil, sumN, tailF, detF]
      grind
end
end Gp
end
/-! Le -/
section
set_option Elab.async false
set_option linter.all false
set_option maxRecDepth 100000
namespace Gp
def RtOk (rt : Nat → Nat) : Prop := ∀ n, rt n * rt n ≤ n ∧ n < (rt n + 1) * (rt n + 1)
theorem sq_le_rt {rt : Nat → Nat} (R : RtOk rt) {z n : Int} (h0 : 0 ≤ n) : z * z ≤ n ↔ -(rt n.toNat : Int) ≤ z ∧ z ≤ (rt n.toNat : Int) := by
  obtain ⟨r1, r2⟩ := R n.toNat
  generalize rt n.toNat = r at *
  have e : ((n.toNat : Nat) : Int) = n := Int.toNat_of_nonneg h0
  have r1' : (r : Int) * (r : Int) ≤ n := by rw [← e]; exact_mod_cast r1
  have r2' : n < ((r : Int) + 1) * ((r : Int) + 1) := by rw [← e]; exact_mod_cast r2
  rw [← Int.natAbs_mul_self' z]
  constructor
  · intro h
    have : (z.natAbs : Int) ≤ r := by
      refine Int.le_of_lt_add_one (Int.not_le.mp fun c => ?_)
      have := Int.mul_le_mul c c (by omega) (Int.natCast_nonneg _)
      omega
    omega
  · intro h
    have hz : (z.natAbs : Int) ≤ r := by omega
    have := Int.mul_le_mul hz hz (Int.natCast_nonneg _) (by omega)
    omega
theorem mem_ivl {lo : Int} {n : Nat} {x : Int} : x ∈ ivl lo n ↔ lo ≤ x ∧ x < lo + n := by
  unfold ivl
  rw [List.mem_map]
  constructor
  · rintro ⟨i, hi, rfl⟩
    have := List.mem_range.mp hi
    omega
  · intro h
    exact ⟨(x - lo).toNat, List.mem_range.mpr (by omega), by omega⟩
theorem le_fd {x a p : Int} (hp : 0 < p) : x ≤ a.fdiv p ↔ x * p ≤ a := by
  rw [Int.fdiv_eq_ediv_of_nonneg _ (by omega), Int.le_ediv_iff_mul_le hp]
theorem mem_chF {rt : Nat → Nat} (R : RtOk rt) {f' : Fn} {b : List Int} {bd x : Int} (hp : 0 < f' 0 0) : x ∈ chF rt f' b bd ↔ (f' 0 0 * x + restN f' b b.length) * (f' 0 0 * x + restN f' b b.length) ≤ insideF f' b bd := by
  unfold chF
  split
  · rename_i neg
    have := sqnn (f' 0 0 * x + restN f' b b.length)
    constructor
    · intro h; cases h
    · intro h; omega
  · rename_i nn
    rw [mem_ivl, sq_le_rt R (by omega)]
    have e1 : loF rt f' b bd ≤ x ↔ -(rt (insideF f' b bd).toNat : Int) ≤ f' 0 0 * x + restN f' b b.length := by
      unfold loF
      have := le_fd (x := -x) (a := -(-(restN f' b b.length) - (rt (insideF f' b bd).toNat : Nat))) hp
      rw [Int.neg_mul, Int.mul_comm x] at this
      omega
    have e2 : x ≤ hiF rt f' b bd ↔ f' 0 0 * x + restN f' b b.length ≤ (rt (insideF f' b bd).toNat : Int) := by
      unfold hiF
      have := le_fd (x := x) (a := -(restN f' b b.length) + (rt (insideF f' b bd).toNat : Nat)) hp
      rw [Int.mul_comm x] at this
      omega
    rw [← e1, ← e2]
    omega
section
variable {m : Mx} {n : Nat} {rt : Nat → Nat} {N : Int}
theorem nlF_succ (j : Nat) : nlF rt m n N (j + 1) = (nlF rt m n N j).flatMap fun v => (chF rt (tailF (n - (j + 1)) (ent m)) v (detF (n - (j + 1)) (ent m) * N)).map fun x => x :: v := rfl
theorem nl_step (G : Good (ent m) n) (R : RtOk rt) {j : Nat} (hj : j < n) {x : Int} {u : List Int} : x :: u ∈ nlF rt m n N (j + 1) ↔ u ∈ nlF rt m n N j ∧ tq (tailF (n - (j + 1)) (ent m)) (j + 1) (x :: u) ≤ detF (n - (j + 1)) (ent m) * N := by
  have n3 := G.n3
  obtain ⟨h, hh⟩ : ∃ h, h = n - (j + 1) := ⟨_, rfl⟩
  rw [← hh]
  have hn : h < n := by omega
  have p0 : 0 < tailF h (ent m) 0 0 := by
    rw [tail00 n3 hn]
    have := G.ld (k := h + 1) (by omega) (by omega)
    omega
  have key : ∀ u : List Int, u.length = j → (x ∈ chF rt (tailF h (ent m)) u (detF h (ent m) * N) ↔ tq (tailF h (ent m)) (j + 1) (x :: u) ≤ detF h (ent m) * N) := fun u lu => by
    rw [mem_chF R p0]
    have e := tq_in G hn (b := u) (by omega) x (detF h (ent m) * N)
    rw [show n - h = j + 1 from by omega] at e
    generalize (tailF h (ent m) 0 0 * x + restN (tailF h (ent m)) u u.length) * (tailF h (ent m) 0 0 * x + restN (tailF h (ent m)) u u.length) = a at *
    generalize insideF (tailF h (ent m)) u (detF h (ent m) * N) = b at *
    generalize detF h (ent m) * N = d at *
    constructor
    · intro hab
      refine Int.not_lt.mp fun c => ?_
      have := Int.mul_pos p0 (show 0 < tq (tailF h (ent m)) (j + 1) (x :: u) - d by omega)
      omega
    · intro ht
      have := Int.mul_le_mul_of_nonneg_left (show tq (tailF h (ent m)) (j + 1) (x :: u) - d ≤ 0 by omega) (Int.le_of_lt p0)
      rw [Int.mul_zero] at this
      omega
  rw [nlF_succ, ← hh, List.mem_flatMap]
  constructor
  · rintro ⟨v, hv, h2⟩
    obtain ⟨y, hy, e⟩ := List.mem_map.mp h2
    injection e with e1 e2
    subst e1 e2
    exact ⟨hv, (key v (nlF_length hv)).mp hy⟩
  · rintro ⟨hu, ht⟩
    exact ⟨u, hu, List.mem_map.mpr ⟨x, (key u (nlF_length hu)).mpr ht, rfl⟩⟩
theorem nl_tq (G : Good (ent m) n) (R : RtOk rt) {j : Nat} (hj : j < n) {v : List Int} (hv : v ∈ nlF rt m n N (j + 1)) : tq (tailF (n - (j + 1)) (ent m)) (j + 1) v ≤ detF (n - (j + 1)) (ent m) * N := by
  have l := nlF_length hv
  match v, l with
  | x :: u, _ => exact ((nl_step G R hj).mp hv).2
theorem nl_mem (G : Good (ent m) n) (R : RtOk rt) (v : List Int) : v ∈ nlF rt m n N n ↔ v.length = n ∧ tq (ent m) n v ≤ N := by
  have n1 := G.n1
  have n3 := G.n3
  constructor
  · intro hv
    refine ⟨nlF_length hv, ?_⟩
    obtain ⟨j, rfl⟩ : ∃ j, n = j + 1 := ⟨n - 1, by omega⟩
    have := nl_tq G R (Nat.lt_succ_self j) hv
    rw [Nat.sub_self] at this
    simpa [tailF, detF] using this
  · rintro ⟨hl, ht⟩
    have down : ∀ h, h < n → tq (tailF h (ent m)) (n - h) (v.drop h) ≤ detF h (ent m) * N := fun h => by
      induction h with
      | zero => intro _; simpa [tailF, detF] using ht
      | succ h ih =>
        intro hh
        have i1 := ih (by omega)
        have hl2 : h < v.length := by omega
        rw [List.drop_eq_getElem_cons hl2] at i1
        have s := tq_sq G (h := h) (by omega) (b := v.drop (h + 1)) (by rw [List.length_drop]; omega) v[h]
        have sqn := sqnn (tailF h (ent m) 0 0 * v[h] + restN (tailF h (ent m)) (v.drop (h + 1)) (v.drop (h + 1)).length)
        rw [tail00 n3 (by omega)] at s sqn
        have d0 : 0 < detF h (ent m) := by
          by_cases c : h = 0
          · subst c; simp [detF]
          · have := G.ld (k := h) (by omega) (by omega); omega
        have d1 := G.ld (k := h + 1) (by omega) (by omega)
        have i2 := Int.mul_le_mul_of_nonneg_left i1 (show 0 ≤ detF (h + 1) (ent m) by omega)
        rw [show n - h - 1 = n - (h + 1) from by omega] at s
        have e : detF (h + 1) (ent m) * (detF h (ent m) * N) = detF h (ent m) * (detF (h + 1) (ent m) * N) := by grind
        have i3 : detF h (ent m) * tq (tailF (h + 1) (ent m)) (n - (h + 1)) (v.drop (h + 1)) ≤ detF h (ent m) * (detF (h + 1) (ent m) * N) := by omega
        exact Int.le_of_mul_le_mul_left i3 d0
    have up : ∀ j, j ≤ n → v.drop (n - j) ∈ nlF rt m n N j := fun j => by
      induction j with
      | zero =>
        intro _
        rw [Nat.sub_zero, List.drop_of_length_le (by omega)]
        simp [nlF]
      | succ j ih =>
        intro hj
        have hl2 : n - (j + 1) < v.length := by omega
        have d := down (n - (j + 1)) (by omega)
        rw [List.drop_eq_getElem_cons hl2] at d ⊢
        rw [show n - (j + 1) + 1 = n - j from by omega] at d ⊢
        rw [show n - (n - (j + 1)) = j + 1 from by omega] at d
        exact (nl_step G R (by omega)).mpr ⟨ih (by omega), d⟩
    have := up n (Nat.le_refl n)
    rwa [Nat.sub_self, List.drop_zero] at this
/-- the coordinates of the partial vectors -/
theorem nl_co (G : Good (ent m) n) (R : RtOk rt) (hN : N < 600) {j : Nat} (hj : j ≤ n) {v : List Int} (hv : v ∈ nlF rt m n N j) : ∀ x ∈ v, x.natAbs ≤ 122 := by
  intro x hx
  have l := nlF_length hv
  cases j with
  | zero =>
    rw [len0 l] at hx
    cases hx
  | succ j =>
    have t := nl_tq G R (by omega) hv
    obtain ⟨h, hh⟩ : ∃ h, h = n - (j + 1) := ⟨_, rfl⟩
    rw [← hh] at t
    have hn : h < n := by omega
    obtain ⟨y, hy, e⟩ := tq_lift G hn (b := v) (by omega)
    rw [show n - h = j + 1 from by omega] at hy e
    obtain ⟨i, hi, rfl⟩ := List.mem_iff_getElem.mp hx
    have c := G.co y (i := h + i) (by omega)
    rw [hy i (by omega), e] at c
    have gv : getV v i = v[i] := by simp [getV, List.getD_eq_getElem?_getD, hi]
    rw [gv] at c
    have d0 : 0 < detF h (ent m) := by
      by_cases c : h = 0
      · subst c; simp [detF]
      · have := G.ld (k := h) (by omega) (by omega); omega
    generalize detF h (ent m) = D at *
    generalize tq (tailF h (ent m)) (j + 1) v = T at *
    generalize v[i] = z at *
    have c2 : D * D * (z * z) ≤ D * D * (25 * N) := by
      have h1 : D * T ≤ D * (D * N) := Int.mul_le_mul_of_nonneg_left t (Int.le_of_lt d0)
      have e1 : D * z * (D * z) = D * D * (z * z) := by grind
      have e2 : D * D * (25 * N) = 25 * (D * (D * N)) := by grind
      rw [← e1, e2]
      omega
    have c3 := Int.le_of_mul_le_mul_left c2 (Int.mul_pos d0 d0)
    rw [← Int.natAbs_mul_self' z] at c3
    refine Nat.le_of_not_lt fun q => ?_
    have := Int.mul_le_mul (show (123 : Int) ≤ (z.natAbs : Int) by omega) (show (123 : Int) ≤ (z.natAbs : Int) by omega) (by decide) (Int.natCast_nonneg _)
    omega
theorem ivl_nd (lo : Int) (k : Nat) : (ivl lo k).Nodup := by
  unfold ivl
  exact List.Pairwise.map _ (fun a b hab e => hab (by omega)) List.nodup_range
theorem nl_nd : ∀ j, (nlF rt m n N j).Nodup
  | 0 => List.pairwise_singleton _ _
  | j + 1 => by
    rw [nlF_succ]
    have h : ∀ us : List (List Int), us.Nodup → (us.flatMap fun v => (chF rt (tailF (n - (j + 1)) (ent m)) v (detF (n - (j + 1)) (ent m) * N)).map fun x => x :: v).Nodup := fun us => by
      induction us with
      | nil => intro _; exact List.Pairwise.nil
      | cons u us ih =>
        intro hn
        have hc := List.nodup_cons.mp hn
        rw [List.flatMap_cons]
        refine List.nodup_append.mpr ⟨List.Pairwise.map (fun x => x :: u) (fun a b (hab : a ≠ b) e => hab (List.cons.inj e).1) ?_, ih hc.2, fun a ha b hb e => ?_⟩
        · unfold chF
          split
          · exact List.Pairwise.nil
          · exact ivl_nd _ _
        · obtain ⟨x, _, rfl⟩ := List.mem_map.mp ha
          obtain ⟨w, hw, hb2⟩ := List.mem_flatMap.mp hb
          obtain ⟨y, _, rfl⟩ := List.mem_map.mp hb2
          have := (List.cons.inj e).2
          exact hc.1 (this ▸ hw)
    exact h _ (nl_nd j)
end
end Gp
end
/-! Lf -/
section
set_option Elab.async false
set_option linter.all false
set_option maxRecDepth 100000
namespace Gp
theorem mulb {a b : Int} {A B : Nat} (ha : a.natAbs ≤ A) (hb : b.natAbs ≤ B) : (a * b).natAbs ≤ A * B := by
  rw [Int.natAbs_mul]
  exact Nat.mul_le_mul ha hb
theorem sumb {g : Nat → Int} {C : Nat} : ∀ {k : Nat}, (∀ i, i < k → (g i).natAbs ≤ C) → (sumN g k).natAbs ≤ k * C
  | 0, _ => by simp [sumN]
  | k + 1, h => by
    have h1 := sumb (k := k) fun i hi => h i (by omega)
    have h2 := h k (by omega)
    rw [sumN, Nat.succ_mul]
    omega
theorem Good.tb {f : Fn} {n h : Nat} (G : Good f n) (hh : h < n) : ∃ E : Nat, E ≤ 2 ^ 25 ∧ (n - h - 1) * E ≤ 2 ^ 17 ∧ ∀ i j, i < n - h → j < n - h → (tailF h f i j).natAbs ≤ E := by
  have b : ∀ i j, i < n → j < n → (f i j).natAbs ≤ 176 := fun i j hi hj => G.ebd hi hj
  have n3 := G.n3
  have h3 : h = 0 ∨ h = 1 ∨ h = 2 := by omega
  rcases h3 with rfl | rfl | rfl
  · exact ⟨176, by decide, by
      have : n - 0 - 1 ≤ 2 := by omega
      have := Nat.mul_le_mul_right 176 this
      omega, fun i j hi hj => b i j (by omega) (by omega)⟩
  · refine ⟨61952, by decide, by
      have : n - 1 - 1 ≤ 1 := by omega
      have := Nat.mul_le_mul_right 61952 this
      omega, fun i j hi hj => ?_⟩
    have m1 := mulb (b 0 0 (by omega) (by omega)) (b (1 + i) (1 + j) (by omega) (by omega))
    have m2 := mulb (b (1 + i) 0 (by omega) (by omega)) (b 0 (1 + j) (by omega) (by omega))
    simp only [tailF]
    omega
  · obtain rfl : n = 3 := by omega
    refine ⟨2 ^ 25, Nat.le_refl _, by simp, fun i j hi hj => ?_⟩
    have b2 : ∀ i j k l, i < 3 → j < 3 → k < 3 → l < 3 → (f i j * f k l).natAbs ≤ 30976 := fun i j k l hi hj hk hl => mulb (b i j hi hj) (b k l hk hl)
    have q : ∀ a b c d e e', a < 3 → b < 3 → c < 3 → d < 3 → e < 3 → e' < 3 → ∀ x y x' y', x < 3 → y < 3 → x' < 3 → y' < 3 → (f a b * (f c d * f e e' - f x y * f x' y')).natAbs ≤ 176 * 61952 := fun a' b' c d e e' h1 h2 h3 h4 h5 h6 x y x' y' h7 h8 h9 h10 => by
      refine mulb (b a' b' h1 h2) ?_
      have z1 := b2 c d e e' h3 h4 h5 h6
      have z2 := b2 x y x' y' h7 h8 h9 h10
      omega
    have q1 := q 0 0 1 1 2 2 (by decide) (by decide) (by decide) (by decide) (by decide) (by decide) 1 2 2 1 (by decide) (by decide) (by decide) (by decide)
    have q2 := q 0 1 1 0 2 2 (by decide) (by decide) (by decide) (by decide) (by decide) (by decide) 1 2 2 0 (by decide) (by decide) (by decide) (by decide)
    have q3 := q 0 2 1 0 2 1 (by decide) (by decide) (by decide) (by decide) (by decide) (by decide) 1 1 2 0 (by decide) (by decide) (by decide) (by decide)
    simp only [tailF, detF]
    omega
theorem Good.db {f : Fn} {n k : Nat} (G : Good f n) (hk : k < n) : 1 ≤ detF k f ∧ (detF k f).natAbs ≤ 2 ^ 16 := by
  have b : ∀ i j, i < n → j < n → (f i j).natAbs ≤ 176 := fun i j hi hj => G.ebd hi hj
  have n3 := G.n3
  have k3 : k = 0 ∨ k = 1 ∨ k = 2 := by omega
  rcases k3 with rfl | rfl | rfl
  · simp [detF]
  · have := b 0 0 (by omega) (by omega)
    refine ⟨G.ld (by decide) (by omega), ?_⟩
    simp only [detF]
    omega
  · refine ⟨G.ld (by decide) (by omega), ?_⟩
    have m1 := mulb (b 0 0 (by omega) (by omega)) (b 1 1 (by omega) (by omega))
    have m2 := mulb (b 0 1 (by omega) (by omega)) (b 1 0 (by omega) (by omega))
    simp only [detF]
    omega
theorem flen {α β : Type} (g : α → List β) (c : Nat) : ∀ xs : List α, (∀ x ∈ xs, (g x).length ≤ c) → (xs.flatMap g).length ≤ xs.length * c
  | [], _ => by simp
  | x :: xs, h => by
    rw [List.flatMap_cons, List.length_append, List.length_cons, Nat.succ_mul]
    have := flen g c xs fun y hy => h y (List.mem_cons_of_mem _ hy)
    have := h x (List.mem_cons_self ..)
    omega
theorem nrOk {m : Mx} {n : Nat} {rt : Nat → Nat} {N : Int} (G : Good (ent m) n) (R : RtOk rt) (h1 : 1 ≤ N) (h6 : N < 600) : NrOk rt m n N := by
  have n1 := G.n1
  have n3 := G.n3
  have ch : ∀ j, j < n → ∀ v ∈ nlF rt m n N j, ChOk rt (tailF (n - (j + 1)) (ent m)) v (detF (n - (j + 1)) (ent m) * N) := fun j hj v hv => by
    obtain ⟨h, hh⟩ : ∃ h, h = n - (j + 1) := ⟨_, rfl⟩
    have lv := nlF_length hv
    have cv := nl_co G R h6 (by omega) hv
    have gv : ∀ i, (v.getD i 0).natAbs ≤ 122 := fun i => by
      rw [List.getD_eq_getElem?_getD]
      cases e : v[i]? with
      | none => exact Nat.zero_le _
      | some x => exact cv x (List.mem_of_getElem? e)
    have mem := fun x : Int => (nl_step G R hj (x := x) (u := v) (N := N)).mp
    have hn : h < n := by omega
    obtain ⟨E, e1, e2, e3⟩ := G.tb hn
    have dh := G.db hn
    have d1 := G.ld (k := h + 1) (by omega) (by omega)
    have p00 := tail00 (f := ent m) n3 hn
    have pe := e3 0 0 (by omega) (by omega)
    have succ := nlF_succ (m := m) (n := n) (rt := rt) (N := N) j
    rw [← hh] at mem succ ⊢
    have rs : (restN (tailF h (ent m)) v v.length).natAbs ≤ 2 ^ 24 := by
      have := sumb (g := fun i => tailF h (ent m) 0 (i + 1) * v.getD i 0) (C := E * 122) (k := v.length) fun i hi => mulb (e3 0 (i + 1) (by omega) (by omega)) (gv i)
      refine Nat.le_trans this ?_
      rw [← Nat.mul_assoc, show v.length = n - h - 1 from by omega]
      exact Nat.le_trans (Nat.mul_le_mul_right 122 e2) (by decide)
    have kn : (knowN (tailF h (ent m)) v v.length v.length).natAbs ≤ 2 ^ 32 := by
      have := sumb (g := fun i => knowR (tailF h (ent m)) v i v.length) (C := v.length * (E * 122 * 122)) (k := v.length) fun i hi => sumb fun j' hj' => mulb (mulb (e3 (i + 1) (j' + 1) (by omega) (by omega)) (gv i)) (gv j')
      refine Nat.le_trans this ?_
      have l2 : v.length ≤ 2 := by omega
      have e4 : v.length * E ≤ 2 ^ 17 := by rw [show v.length = n - h - 1 from by omega]; exact e2
      calc v.length * (v.length * (E * 122 * 122)) = v.length * (v.length * E) * 14884 := by
            rw [Nat.mul_assoc E, ← Nat.mul_assoc v.length E, ← Nat.mul_assoc v.length]
        _ ≤ 2 * 2 ^ 17 * 14884 := Nat.mul_le_mul_right _ (Nat.mul_le_mul l2 e4)
        _ ≤ 2 ^ 32 := by decide
    have bd : (detF h (ent m) * N).natAbs ≤ 2 ^ 16 * 600 := mulb dh.2 (by omega)
    have ins : (insideF (tailF h (ent m)) v (detF h (ent m) * N)).natAbs ≤ 2 ^ 59 := by
      unfold insideF
      have m1 := mulb rs rs
      have m2 := mulb (show (tailF h (ent m) 0 0).natAbs ≤ 2 ^ 25 by omega) (show (knowN (tailF h (ent m)) v v.length v.length - detF h (ent m) * N).natAbs ≤ 2 ^ 33 by omega)
      omega
    obtain ⟨r1, r2⟩ := R (insideF (tailF h (ent m)) v (detF h (ent m) * N)).toNat
    have rb : rt (insideF (tailF h (ent m)) v (detF h (ent m) * N)).toNat ≤ 2 ^ 30 := by
      refine Nat.le_of_not_lt fun c => ?_
      have := Nat.mul_le_mul c c
      have e : (2 ^ 30).succ * (2 ^ 30).succ = 2 ^ 60 + 2 ^ 31 + 1 := by decide
      omega
    have p0 : tailF h (ent m) 0 0 ≠ 0 := by omega
    have lo : (loF rt (tailF h (ent m)) v (detF h (ent m) * N)).natAbs ≤ 2 ^ 31 := by
      unfold loF
      have := fdiv_natAbs (-(-(restN (tailF h (ent m)) v v.length) - (rt (insideF (tailF h (ent m)) v (detF h (ent m) * N)).toNat : Nat))) _ p0
      omega
    have hi : (hiF rt (tailF h (ent m)) v (detF h (ent m) * N)).natAbs ≤ 2 ^ 31 := by
      unfold hiF
      have := fdiv_natAbs (-(restN (tailF h (ent m)) v v.length) + (rt (insideF (tailF h (ent m)) v (detF h (ent m) * N)).toNat : Nat)) _ p0
      omega
    refine ⟨by omega, by omega, fun x hx => Nat.le_trans (cv x hx) (by decide), by omega, by omega, ⟨by omega, by omega⟩, ⟨by omega, by omega⟩, ?_⟩
    by_cases c : insideF (tailF h (ent m)) v (detF h (ent m) * N) < 0
    · have z : (insideF (tailF h (ent m)) v (detF h (ent m) * N)).toNat = 0 := by omega
      have r0 : rt 0 = 0 := by
        obtain ⟨q1, _⟩ := R 0
        rcases Nat.eq_zero_or_pos (rt 0) with e | e
        · exact e
        · have := Nat.mul_le_mul e e; omega
      have pp : 0 < tailF h (ent m) 0 0 := by omega
      have l1 := (le_fd pp).mp (Int.le_refl ((-(-(restN (tailF h (ent m)) v v.length) - (rt (insideF (tailF h (ent m)) v (detF h (ent m) * N)).toNat : Nat))).fdiv (tailF h (ent m) 0 0)))
      have l2 := (le_fd pp).mp (Int.le_refl ((-(restN (tailF h (ent m)) v v.length) + (rt (insideF (tailF h (ent m)) v (detF h (ent m) * N)).toNat : Nat)).fdiv (tailF h (ent m) 0 0)))
      unfold loF hiF
      rw [z, r0] at l1 l2 ⊢
      generalize (-(-(restN (tailF h (ent m)) v v.length) - ((0 : Nat) : Int))).fdiv (tailF h (ent m) 0 0) = x at *
      generalize (-(restN (tailF h (ent m)) v v.length) + ((0 : Nat) : Int)).fdiv (tailF h (ent m) 0 0) = y at *
      have l3 : y * tailF h (ent m) 0 0 ≤ -x * tailF h (ent m) 0 0 := by rw [Int.neg_mul]; omega
      have := Int.le_of_mul_le_mul_right l3 pp
      omega
    · by_cases c2 : hiF rt (tailF h (ent m)) v (detF h (ent m) * N) < loF rt (tailF h (ent m)) v (detF h (ent m) * N)
      · omega
      · have inn : ∀ x, loF rt (tailF h (ent m)) v (detF h (ent m) * N) ≤ x → x ≤ hiF rt (tailF h (ent m)) v (detF h (ent m) * N) → x.natAbs ≤ 122 := fun x x1 x2 => by
          have mx : x :: v ∈ nlF rt m n N (j + 1) := by
            rw [succ]
            refine List.mem_flatMap.mpr ⟨v, hv, List.mem_map.mpr ⟨x, ?_, rfl⟩⟩
            unfold chF
            rw [if_neg c]
            exact mem_ivl.mpr ⟨x1, by omega⟩
          exact nl_co G R h6 (by omega) mx x (List.mem_cons_self ..)
        have a1 := inn _ (Int.le_refl _) (by omega)
        have a2 := inn _ (by omega) (Int.le_refl _)
        omega
  have szp : ∀ j, j ≤ n → (nlF rt m n N j).length ≤ 250 ^ j := fun j => by
    induction j with
    | zero => intro _; simp [nlF]
    | succ j ih =>
      intro hj
      rw [nlF_succ, Nat.pow_succ]
      refine Nat.le_trans (flen _ 250 _ fun v hv => ?_) (Nat.mul_le_mul_right 250 (ih (by omega)))
      rw [List.length_map]
      have c := ch j (by omega) v hv
      unfold chF
      split
      · exact Nat.zero_le _
      · unfold ivl
        rw [List.length_map, List.length_range]
        exact c.few
  refine ⟨ch, fun j hj => Nat.le_trans (szp j hj) ?_, fun v hv x hx => Nat.le_trans (nl_co G R h6 (Nat.le_refl n) hv x hx) (by decide), fun k hk => Nat.le_trans (G.db hk).2 (by decide)⟩
  exact Nat.le_trans (Nat.pow_le_pow_right (by decide) (show j ≤ 3 by omega)) (by decide)
end Gp
end
/-! Lg -/
section
set_option Elab.async false
set_option linter.all false
set_option maxRecDepth 100000
namespace Gp
/-! ### counting -/
theorem nd_len {α : Type} [DecidableEq α] : ∀ {L B : List α}, L.Nodup → (∀ x ∈ L, x ∈ B) → L.length ≤ B.length
  | [], _, _, _ => Nat.zero_le _
  | x :: L, B, hn, h => by
    have hc := List.nodup_cons.mp hn
    have hx := h x (List.mem_cons_self ..)
    have := nd_len (L := L) (B := B.erase x) hc.2 fun y hy => (List.mem_erase_of_ne (fun (e : y = x) => hc.1 (e ▸ hy))).mpr (h y (List.mem_cons_of_mem _ hy))
    rw [List.length_erase_of_mem hx] at this
    have := List.length_pos_of_mem hx
    rw [List.length_cons]
    omega
theorem nd_map {α β : Type} {g : α → β} : ∀ {L : List α}, L.Nodup → (∀ x ∈ L, ∀ y ∈ L, g x = g y → x = y) → (L.map g).Nodup
  | [], _, _ => List.Pairwise.nil
  | x :: L, hn, h => by
    have hc := List.nodup_cons.mp hn
    rw [List.map_cons]
    refine List.nodup_cons.mpr ⟨fun hm => ?_, nd_map hc.2 fun a ha b hb => h a (List.mem_cons_of_mem _ ha) b (List.mem_cons_of_mem _ hb)⟩
    obtain ⟨y, hy, e⟩ := List.mem_map.mp hm
    have := h y (List.mem_cons_of_mem _ hy) x (List.mem_cons_self ..) e
    exact hc.1 (this ▸ hy)
def boxL (b : Nat) : Nat → List (List Int)
  | 0 => [[]]
  | n + 1 => (boxL b n).flatMap fun v => (ivl (-(b : Int)) (2 * b + 1)).map fun x => x :: v
theorem boxL_len (b : Nat) : ∀ n, (boxL b n).length ≤ (2 * b + 1) ^ n
  | 0 => by simp [boxL]
  | n + 1 => by
    rw [Nat.pow_succ]
    unfold boxL
    refine Nat.le_trans (flen _ (2 * b + 1) _ fun v _ => ?_) (Nat.mul_le_mul_right _ (boxL_len b n))
    unfold ivl
    simp
theorem boxL_mem {b : Nat} : ∀ {n : Nat} {v : List Int}, v.length = n → (∀ x ∈ v, x.natAbs ≤ b) → v ∈ boxL b n
  | 0, v, h, _ => by rw [len0 h]; simp [boxL]
  | n + 1, x :: v, h, hb => by
    unfold boxL
    refine List.mem_flatMap.mpr ⟨v, boxL_mem (by simpa using h) fun y hy => hb y (List.mem_cons_of_mem _ hy), List.mem_map.mpr ⟨x, mem_ivl.mpr ?_, rfl⟩⟩
    have := hb x (List.mem_cons_self ..)
    omega
def tupB (n : Nat) : List Nat → List Mx
  | [] => [[]]
  | b :: bs => (boxL b n).flatMap fun u => (tupB n bs).map fun T => u :: T
theorem tupB_mem {n : Nat} : ∀ {bs : List Nat} {T : Mx}, T.length = bs.length → (∀ i, i < T.length → T.getD i [] ∈ boxL (bs.getD i 0) n) → T ∈ tupB n bs
  | [], T, h, _ => by rw [List.length_eq_zero_iff.mp h]; simp [tupB]
  | b :: bs, u :: T, h, hb => by
    unfold tupB
    refine List.mem_flatMap.mpr ⟨u, by simpa using hb 0 (by simp), List.mem_map.mpr ⟨T, tupB_mem (by simpa using h) fun i hi => ?_, rfl⟩⟩
    have := hb (i + 1) (by simpa using hi)
    simpa using this
  | b :: bs, [], h, _ => by cases h
def wcode (A : Fn) (n : Nat) (v : List Int) : List Int := (List.range n).map (lin A n (getV v))
section
variable {f : Fn} {n : Nat}
theorem list_ext {v u : List Int} (hv : v.length = n) (hu : u.length = n) (h : ∀ i, i < n → getV v i = getV u i) : v = u := by
  refine List.ext_getElem (by rw [hv, hu]) fun i h1 h2 => ?_
  have := h i (by omega)
  simpa [getV, List.getD_eq_getElem?_getD, h1, h2] using this
/-- tuples of vectors of bounded norms are few -/
theorem Good.few (G : Good f n) {Ts : List Mx} (nd : Ts.Nodup) {k : Nat} (sh : ∀ T ∈ Ts, Sh T k n) (bs : List Nat) (lb : bs.length = k) (hq : ∀ T ∈ Ts, ∀ i, i < k → tq f n (T.getD i []) < (((bs.getD i 0 : Nat) : Int) + 1) * (((bs.getD i 0 : Nat) : Int) + 1)) : Ts.length ≤ (tupB n bs).length := by
  obtain ⟨A, A', h1, h2, h3⟩ := G.inv
  have inj : ∀ v u : List Int, v.length = n → u.length = n → wcode A n v = wcode A n u → v = u := fun v u hv hu e => by
    have ee : ∀ j, j < n → lin A n (getV v) j = lin A n (getV u) j := fun j hj => by
      have := congrArg (fun l : List Int => l.getD j 0) e
      simpa [wcode, List.getD_eq_getElem?_getD, hj] using this
    refine list_ext hv hu fun i hi => ?_
    rw [h2 (getV v) i hi, h2 (getV u) i hi]
    exact sumN_cg fun j hj => by rw [ee j hj]
  have nd2 : (Ts.map fun T => T.map (wcode A n)).Nodup := nd_map nd fun T hT T' hT' e => by
    have s1 := sh T hT
    have s2 := sh T' hT'
    refine List.ext_getElem (by rw [s1.len, s2.len]) fun i g1 g2 => ?_
    have := congrArg (fun l : Mx => l[i]?) e
    simp only [List.getElem?_map, List.getElem?_eq_getElem g1, List.getElem?_eq_getElem g2, Option.map_some] at this
    exact inj _ _ (s1.row _ (List.getElem_mem g1)) (s2.row _ (List.getElem_mem g2)) (Option.some.inj this)
  have := nd_len nd2 (B := tupB n bs) fun W hW => by
    obtain ⟨T, hT, rfl⟩ := List.mem_map.mp hW
    have s1 := sh T hT
    refine tupB_mem (by rw [List.length_map, s1.len, lb]) fun i hi => ?_
    rw [List.length_map, s1.len] at hi
    have e : (T.map (wcode A n)).getD i [] = wcode A n (T.getD i []) := getD_map _ _ _ [] [] (by rw [s1.len]; exact hi)
    rw [e]
    refine boxL_mem (by simp [wcode]) fun x hx => ?_
    obtain ⟨j, hj, rfl⟩ := List.mem_map.mp hx
    have hj' := List.mem_range.mp hj
    have q := hq T hT i hi
    have q2 := h1 (getV (T.getD i []))
    have q3 := sumN_ge (f := fun i' => lin A n (getV (T.getD i [])) i' * lin A n (getV (T.getD i [])) i') hj' fun _ _ => sqnn _
    have q4 : lin A n (getV (T.getD i [])) j * lin A n (getV (T.getD i [])) j < (((bs.getD i 0 : Nat) : Int) + 1) * (((bs.getD i 0 : Nat) : Int) + 1) := Int.lt_of_le_of_lt q3 (Int.lt_of_le_of_lt q2 q)
    rw [← Int.natAbs_mul_self' (lin A n (getV (T.getD i [])) j)] at q4
    refine Nat.le_of_not_lt fun c => ?_
    have := Int.mul_le_mul (show ((bs.getD i 0 : Nat) : Int) + 1 ≤ ((lin A n (getV (T.getD i [])) j).natAbs : Int) by omega) (show ((bs.getD i 0 : Nat) : Int) + 1 ≤ ((lin A n (getV (T.getD i [])) j).natAbs : Int) by omega) (by omega) (Int.natCast_nonneg _)
    omega
  rwa [List.length_map] at this
theorem tupB_len (n : Nat) : ∀ bs : List Nat, (tupB n bs).length ≤ (bs.map fun b => (2 * b + 1) ^ n).foldr (· * ·) 1
  | [] => by simp [tupB]
  | b :: bs => by
    unfold tupB
    rw [List.map_cons, List.foldr_cons]
    exact Nat.le_trans (flen _ _ _ fun u _ => by rw [List.length_map]; exact tupB_len n bs) (Nat.mul_le_mul_right _ (boxL_len b n))
/-! ### primitive vectors -/
theorem Comp.single {n i : Nat} (n3 : n ≤ 3) (hi : i < n) (c : Int) (hc : c = 1 ∨ c = -1) : Comp 1 n (fun _ k => if k = i then c else 0) := by
  have n123 : n = 1 ∨ n = 2 ∨ n = 3 := by omega
  rcases n123 with rfl | rfl | rfl
  · obtain rfl : i = 0 := by omega
    exact ⟨fun _ k => if k = 0 then c else 0, fun _ _ _ _ => rfl, by simpa [detF] using hc⟩
  · have i2 : i = 0 ∨ i = 1 := by omega
    rcases i2 with rfl | rfl
    · exact ⟨fun a k => if a = 0 then (if k = 0 then c else 0) else if k = a then 1 else 0, fun a k ha _ => by rw [show a = 0 by omega]; rfl, by simpa [detF] using hc⟩
    · exact ⟨fun a k => if a = 0 then (if k = 1 then c else 0) else if k = 0 then 1 else 0, fun a k ha _ => by rw [show a = 0 by omega]; rfl, by rcases hc with rfl | rfl <;> simp [detF]⟩
  · have i3 : i = 0 ∨ i = 1 ∨ i = 2 := by omega
    rcases i3 with rfl | rfl | rfl
    · exact ⟨fun a k => if a = 0 then (if k = 0 then c else 0) else if k = a then 1 else 0, fun a k ha _ => by rw [show a = 0 by omega]; rfl, by simpa [detF] using hc⟩
    · exact ⟨fun a k => if a = 0 then (if k = 1 then c else 0) else if a = 1 then (if k = 0 then 1 else 0) else if k = 2 then 1 else 0, fun a k ha _ => by rw [show a = 0 by omega]; rfl, by rcases hc with rfl | rfl <;> simp [detF]⟩
    · exact ⟨fun a k => if a = 0 then (if k = 2 then c else 0) else if a = 1 then (if k = 1 then 1 else 0) else if k = 0 then 1 else 0, fun a k ha _ => by rw [show a = 0 by omega]; rfl, by rcases hc with rfl | rfl <;> simp [detF]⟩
/-- a vector is a multiple of one that completes -/
theorem prim {n : Nat} (n3 : n ≤ 3) : ∀ (s : Nat) (x : Vec), sumN (fun i => ((x i).natAbs : Int)) n ≤ s → (∃ i, i < n ∧ x i ≠ 0) → ∃ (g : Int) (x' : Vec), g ≠ 0 ∧ (∀ i, i < n → x i = g * x' i) ∧ Comp 1 n (fun _ k => x' k) := by
  intro s
  induction s with
  | zero =>
    rintro x hs ⟨i, hi, hx⟩
    have := sumN_ge (f := fun i => ((x i).natAbs : Int)) hi fun _ _ => Int.natCast_nonneg _
    omega
  | succ s ih =>
    rintro x hs ⟨i, hi, hx⟩
    by_cases one : ∀ j, j < n → j ≠ i → x j = 0
    · refine ⟨x i, fun k => if k = i then 1 else 0, hx, fun j hj => ?_, Comp.single n3 hi 1 (.inl rfl)⟩
      by_cases e : j = i
      · subst e; simp
      · rw [one j hj e]; simp [e]
    · obtain ⟨j, hj, hji, hxj⟩ : ∃ j, j < n ∧ j ≠ i ∧ x j ≠ 0 := Classical.byContradiction fun c => one fun j hj hji => Classical.byContradiction fun q => c ⟨j, hj, hji, q⟩
      -- one of the two is lessened by the other
      have red : ∀ a b, a < n → b < n → a ≠ b → x b ≠ 0 → (x b).natAbs ≤ (x a).natAbs → ∃ (g : Int) (x' : Vec), g ≠ 0 ∧ (∀ i, i < n → x i = g * x' i) ∧ Comp 1 n (fun _ k => x' k) := fun a b ha hb hab hxb hle => by
        obtain ⟨c, hc⟩ : ∃ c : Int, (x a - c * x b).natAbs < (x a).natAbs := by
          by_cases q : (0 ≤ x a ↔ 0 ≤ x b)
          · exact ⟨1, by omega⟩
          · exact ⟨-1, by omega⟩
        have hs2 : sumN (fun k => (((if k = a then x a - c * x b else x k)).natAbs : Int)) n ≤ s := by
          have e : sumN (fun k => ((x k).natAbs : Int)) n = sumN (fun k => (((if k = a then x a - c * x b else x k)).natAbs : Int)) n + sumN (fun k => if k = a then ((x a).natAbs : Int) - ((x a - c * x b).natAbs : Int) else 0) n := by
            rw [← sumN_add]
            refine sumN_cg fun k _ => ?_
            by_cases ek : k = a
            · subst ek; simp; omega
            · simp [ek]
          have e2 : sumN (fun k => if k = a then ((x a).natAbs : Int) - ((x a - c * x b).natAbs : Int) else 0) n = ((x a).natAbs : Int) - ((x a - c * x b).natAbs : Int) := by
            rw [sumN_one ha fun k _ hk => by simp [hk]]
            simp
          omega
        obtain ⟨g, y, g0, hy, cy⟩ := ih (fun k => if k = a then x a - c * x b else x k) hs2 ⟨b, hb, by simp only [if_neg (Ne.symm hab)]; exact hxb⟩
        refine ⟨g, fun k => if k = a then y a + c * y b else y k, g0, fun k hk => ?_, ?_⟩
        · have ya := hy a ha
          have yb := hy b hb
          simp only [if_true, if_neg (Ne.symm hab)] at ya yb
          by_cases ek : k = a
          · subst ek
            simp only [if_true]
            rw [Int.mul_add]
            have : g * (c * y b) = c * (g * y b) := by grind
            rw [this, ← yb]
            omega
          · have := hy k hk
            simp only [if_neg ek] at this ⊢
            exact this
        · refine (Comp.shearC (f := fun _ k => y k) (s := b) n3 hb (fun k => if k = a then -c else 0) (by rw [if_neg (Ne.symm hab)]) fun r k _ _ => ?_).mp cy
          by_cases ek : k = a
          · subst ek
            simp only [if_true]
            grind
          · simp [ek]
      rcases Nat.le_total (x j).natAbs (x i).natAbs with h | h
      · exact red i j hi hj (Ne.symm hji) hxj h
      · exact red j i hj hi hji hx h
/-! ### Cramer -/
def R3 (a b c : Vec) : Fn := fun i j => if i = 0 then a j else if i = 1 then b j else c j
def R2 (a b : Vec) : Fn := fun i j => if i = 0 then a j else b j
theorem cramer3 (b1 b2 p x : Vec) : ∀ j, j < 3 → detF 3 (R3 b1 b2 p) * x j = detF 3 (R3 x b2 p) * b1 j + detF 3 (R3 b1 x p) * b2 j + detF 3 (R3 b1 b2 x) * p j := by
  intro j hj
  have : j = 0 ∨ j = 1 ∨ j = 2 := by omega
  rcases this with rfl | rfl | rfl <;> simp [R3, detF] <;> grind
theorem cramer2 (b1 p x : Vec) : ∀ j, j < 2 → detF 2 (R2 b1 p) * x j = detF 2 (R2 x p) * b1 j + detF 2 (R2 b1 x) * p j := by
  intro j hj
  have : j = 0 ∨ j = 1 := by omega
  rcases this with rfl | rfl <;> simp [R2, detF] <;> grind
/-- one of three vectors of one fibre repeats -/
theorem refl3 {f : Fn} (G : Good f 3) {b1 b2 p : Vec} (hd : detF 3 (R3 b1 b2 p) = 1 ∨ detF 3 (R3 b1 b2 p) = -1) {u v z : Vec}
    (h1 : bil f 3 b1 v = bil f 3 b1 u ∧ bil f 3 b2 v = bil f 3 b2 u ∧ bil f 3 v v = bil f 3 u u) (h2 : bil f 3 b1 z = bil f 3 b1 u ∧ bil f 3 b2 z = bil f 3 b2 u ∧ bil f 3 z z = bil f 3 u u) :
    (∀ i, i < 3 → v i = u i) ∨ (∀ i, i < 3 → z i = u i) ∨ ∀ i, i < 3 → v i = z i := by
  have sy := G.sy
  -- a difference of two with the same products
  have diff : ∀ x y : Vec, bil f 3 b1 x = bil f 3 b1 y → bil f 3 (fun i => 1 * x i + -1 * y i) b1 = 0 := fun x y e => by
    rw [bil_comm sy]
    have := bil_addR (f := f) (n := 3) sy b1 (fun i => 1 * x i) (fun i => -1 * y i)
    rw [this, bil_mulR sy, bil_mulR sy]
    omega
  have zero : ∀ x : Vec, bil f 3 x b1 = 0 → bil f 3 x b2 = 0 → detF 3 (R3 b1 b2 x) = 0 → ∀ i, i < 3 → x i = 0 := fun x z1 z2 z3 i hi => by
    refine Classical.byContradiction fun c => ?_
    have pos := G.pos x hi c
    have e : bil f 3 x (fun j => detF 3 (R3 b1 b2 p) * x j) = bil f 3 x (fun j => detF 3 (R3 x b2 p) * b1 j + detF 3 (R3 b1 x p) * b2 j) := bil_cg (fun _ _ _ _ => rfl) (fun _ _ => rfl) fun j hj => by
      rw [cramer3 b1 b2 p x j hj, z3]
      simp
    rw [bil_mulR sy] at e
    have e2 := bil_addR (f := f) (n := 3) sy x (fun j => detF 3 (R3 x b2 p) * b1 j) (fun j => detF 3 (R3 b1 x p) * b2 j)
    rw [e2, bil_mulR sy, bil_mulR sy, z1, z2] at e
    have e' : detF 3 (R3 b1 b2 p) * bil f 3 x x = 0 := by
      rw [e]
      simp
    rcases Int.mul_eq_zero.mp e' with e | e
    · rcases hd with q | q <;> omega
    · omega
  have philin : ∀ (a b : Int) (x y : Vec), detF 3 (R3 b1 b2 (fun j => a * x j + b * y j)) = a * detF 3 (R3 b1 b2 x) + b * detF 3 (R3 b1 b2 y) := fun a b x y => by
    simp [R3, detF]
    grind
  have diff2 : ∀ x y : Vec, bil f 3 b2 x = bil f 3 b2 y → bil f 3 (fun i => 1 * x i + -1 * y i) b2 = 0 := fun x y e => by
    rw [bil_comm sy]
    have := bil_addR (f := f) (n := 3) sy b2 (fun i => 1 * x i) (fun i => -1 * y i)
    rw [this, bil_mulR sy, bil_mulR sy]
    omega
  have dz1 := diff v u h1.1
  have dz2 := diff2 v u h1.2.1
  have ez1 := diff z u h2.1
  have ez2 := diff2 z u h2.2.1
  have dq : 2 * bil f 3 u (fun i => 1 * v i + -1 * u i) + bil f 3 (fun i => 1 * v i + -1 * u i) (fun i => 1 * v i + -1 * u i) = 0 := by
    have e : bil f 3 v v = bil f 3 (fun i => 1 * u i + 1 * (1 * v i + -1 * u i)) (fun i => 1 * u i + 1 * (1 * v i + -1 * u i)) := bil_cg (fun _ _ _ _ => rfl) (fun i _ => by omega) (fun i _ => by omega)
    have e2 := bil_lc (f := f) (n := 3) sy 1 1 u (fun i => 1 * v i + -1 * u i)
    rw [e2] at e
    have := h1.2.2
    omega
  have eq : 2 * bil f 3 u (fun i => 1 * z i + -1 * u i) + bil f 3 (fun i => 1 * z i + -1 * u i) (fun i => 1 * z i + -1 * u i) = 0 := by
    have e : bil f 3 z z = bil f 3 (fun i => 1 * u i + 1 * (1 * z i + -1 * u i)) (fun i => 1 * u i + 1 * (1 * z i + -1 * u i)) := bil_cg (fun _ _ _ _ => rfl) (fun i _ => by omega) (fun i _ => by omega)
    have e2 := bil_lc (f := f) (n := 3) sy 1 1 u (fun i => 1 * z i + -1 * u i)
    rw [e2] at e
    have := h2.2.2
    omega
  have hdv : ∀ i, (1 * v i + -1 * u i) = v i - u i := fun i => by omega
  have hev : ∀ i, (1 * z i + -1 * u i) = z i - u i := fun i => by omega
  generalize hd' : (fun i => 1 * v i + -1 * u i) = d at *
  generalize he' : (fun i => 1 * z i + -1 * u i) = e at *
  have dd : ∀ i, d i = v i - u i := fun i => by rw [← hd']; exact hdv i
  have ed : ∀ i, e i = z i - u i := fun i => by rw [← he']; exact hev i
  generalize h3d : detF 3 (R3 b1 b2 d) = d3
  generalize h3e : detF 3 (R3 b1 b2 e) = e3
  by_cases d0 : d3 = 0
  · left
    intro i hi
    have := zero d dz1 dz2 (by omega) i hi
    have := dd i
    omega
  by_cases e0 : e3 = 0
  · right; left
    intro i hi
    have := zero e ez1 ez2 (by omega) i hi
    have := ed i
    omega
  right; right
  have w1 : ∀ b : Vec, bil f 3 d b = 0 → bil f 3 e b = 0 → bil f 3 (fun j => e3 * d j + -d3 * e j) b = 0 := fun b q1 q2 => by
    have := bil_addL (f := f) (n := 3) (fun j => e3 * d j) (fun j => -d3 * e j) b
    rw [this, bil_mulL, bil_mulL, q1, q2]
    simp
  have wz := zero (fun j => e3 * d j + -d3 * e j) (w1 b1 dz1 ez1) (w1 b2 dz2 ez2) (by rw [philin, h3d, h3e]; grind)
  have k1 : e3 * bil f 3 u d = d3 * bil f 3 u e := by
    have q : bil f 3 u (fun j => e3 * d j) = bil f 3 u (fun j => d3 * e j) := bil_cg (fun _ _ _ _ => rfl) (fun _ _ => rfl) fun i hi => by
      have := wz i hi
      simp only [Int.neg_mul] at this
      omega
    rwa [bil_mulR sy, bil_mulR sy] at q
  have k2 : e3 * (e3 * bil f 3 d d) = d3 * (d3 * bil f 3 e e) := by
    have q : bil f 3 (fun j => e3 * d j) (fun j => e3 * d j) = bil f 3 (fun j => d3 * e j) (fun j => d3 * e j) := bil_cg (fun _ _ _ _ => rfl) (fun i hi => by
      have := wz i hi
      simp only [Int.neg_mul] at this
      omega) fun i hi => by
      have := wz i hi
      simp only [Int.neg_mul] at this
      omega
    rwa [bil_mulL, bil_mulL, bil_mulR sy, bil_mulR sy] at q
  have qe : bil f 3 e e ≠ 0 := fun c => by
    have ez : ∀ i, i < 3 → e i = 0 := fun i hi => Classical.byContradiction fun q => by have := G.pos e hi q; omega
    refine e0 ?_
    rw [← h3e]
    simp [R3, detF, ez 0 (by decide), ez 1 (by decide), ez 2 (by decide)]
  have k3 : d3 * (bil f 3 e e * (e3 - d3)) = 0 := by
    have a1 : e3 * bil f 3 d d = d3 * bil f 3 e e := by
      have b1' : bil f 3 d d = - (2 * bil f 3 u d) := by omega
      have b2' : bil f 3 e e = - (2 * bil f 3 u e) := by omega
      rw [b1', b2']
      have c1 : e3 * -(2 * bil f 3 u d) = -2 * (e3 * bil f 3 u d) := by grind
      have c2 : d3 * -(2 * bil f 3 u e) = -2 * (d3 * bil f 3 u e) := by grind
      rw [c1, c2, k1]
    rw [a1] at k2
    have : d3 * (bil f 3 e e * (e3 - d3)) = e3 * (d3 * bil f 3 e e) - d3 * (d3 * bil f 3 e e) := by grind
    rw [this, k2]
    omega
  have k4 : e3 = d3 := by
    rcases Int.mul_eq_zero.mp k3 with q | q
    · exact absurd q d0
    · rcases Int.mul_eq_zero.mp q with q | q
      · exact absurd q qe
      · omega
  intro i hi
  have q := wz i hi
  rw [k4] at q
  have q2 : d3 * (d i - e i) = 0 := by
    have : d3 * (d i - e i) = d3 * d i + -d3 * e i := by grind
    rw [this]
    exact q
  rcases Int.mul_eq_zero.mp q2 with r | r
  · exact absurd r d0
  · have := dd i
    have := ed i
    omega
end
end Gp
end
/-! Lh -/
section
set_option Elab.async false
set_option linter.all false
set_option maxRecDepth 100000
namespace Gp
theorem near0 (b q : Int) (hq : 0 < q) : ∃ t : Int, (2 * (b + t * q)).natAbs ≤ q.natAbs := by
  refine ⟨-((2 * b + q) / (2 * q)), ?_⟩
  have h1 := Int.emod_add_mul_ediv (2 * b + q) (2 * q)
  have h2 := Int.emod_nonneg (2 * b + q) (show 2 * q ≠ 0 by omega)
  have h3 := Int.emod_lt_of_pos (2 * b + q) (show 0 < 2 * q by omega)
  generalize (2 * b + q) / (2 * q) = t at *
  generalize (2 * b + q) % (2 * q) = r at *
  have e : 2 * (b + -t * q) = r - q := by
    have : 2 * q * t = 2 * (t * q) := by grind
    rw [Int.neg_mul]
    omega
  rw [e]
  omega
theorem sq_abs_le {a b : Int} (h : a.natAbs ≤ b.natAbs) : a * a ≤ b * b := by
  rw [← Int.natAbs_mul_self' a, ← Int.natAbs_mul_self' b]
  exact_mod_cast Nat.mul_le_mul h h
section
variable {f : Fn} {n : Nat}
theorem bil_l3 (sy : ∀ i j, i < n → j < n → f i j = f j i) (a s t : Int) (y b1 b2 z : Vec) : bil f n z (fun i => a * y i + (s * b1 i + t * b2 i)) = a * bil f n z y + (s * bil f n z b1 + t * bil f n z b2) := by
  have h1 := bil_addR (f := f) (n := n) sy z (fun i => a * y i) (fun i => s * b1 i + t * b2 i)
  have h2 := bil_addR (f := f) (n := n) sy z (fun i => s * b1 i) (fun i => t * b2 i)
  rw [h1, h2, bil_mulR sy, bil_mulR sy, bil_mulR sy]
theorem Good.psi (G : Good f n) (b1 y : Vec) (a c : Int) : bil f n b1 b1 * bil f n (fun i => a * y i + c * b1 i) (fun i => a * y i + c * b1 i) - bil f n b1 (fun i => a * y i + c * b1 i) * bil f n b1 (fun i => a * y i + c * b1 i) = a * a * (bil f n b1 b1 * bil f n y y - bil f n b1 y * bil f n b1 y) := by
  rw [bil_lc G.sy]
  have h2 := bil_addR (f := f) (n := n) G.sy b1 (fun i => a * y i) (fun i => c * b1 i)
  rw [h2, bil_mulR G.sy, bil_mulR G.sy, bil_comm G.sy y b1]
  grind
/-- a vector near, modulo b1 -/
theorem Good.red1 (G : Good f n) {b1 v0 e : Vec} {g c D : Int} (p1 : 0 < bil f n b1 b1) (g0 : g ≠ 0) (he : ∀ i, i < n → e i = g * v0 i + c * b1 i) (hD : bil f n e e ≤ D) : ∃ t : Int, 4 * bil f n (fun i => 1 * v0 i + t * b1 i) (fun i => 1 * v0 i + t * b1 i) ≤ 4 * D + bil f n b1 b1 := by
  obtain ⟨t, ht⟩ := near0 (bil f n b1 v0) (bil f n b1 b1) p1
  refine ⟨t, ?_⟩
  have s1 := G.psi b1 v0 1 t
  have s2 := G.psi b1 v0 g c
  have ee : bil f n (fun i => g * v0 i + c * b1 i) (fun i => g * v0 i + c * b1 i) = bil f n e e := bil_cg (fun _ _ _ _ => rfl) (fun i hi => (he i hi).symm) fun i hi => (he i hi).symm
  rw [ee] at s2
  have hb : bil f n b1 (fun i => 1 * v0 i + t * b1 i) = bil f n b1 v0 + t * bil f n b1 b1 := by
    have h2 := bil_addR (f := f) (n := n) G.sy b1 (fun i => 1 * v0 i) (fun i => t * b1 i)
    rw [h2, bil_mulR G.sy, bil_mulR G.sy]
    omega
  rw [hb] at s1
  have hc := G.csf b1 v0
  generalize bil f n b1 b1 = Q at *
  generalize bil f n (fun i => 1 * v0 i + t * b1 i) (fun i => 1 * v0 i + t * b1 i) = V at *
  generalize hz : bil f n b1 v0 + t * Q = z at *
  generalize bil f n b1 (fun i => g * v0 i + c * b1 i) = w at *
  generalize hP : Q * bil f n v0 v0 - bil f n b1 v0 * bil f n b1 v0 = P at *
  have hz2 := sq_abs_le ht
  have hP0 : 0 ≤ P := by omega
  have gg : 1 ≤ g * g := by
    have := sqnn g
    have : g * g ≠ 0 := fun c => by rcases Int.mul_eq_zero.mp c with h | h <;> exact g0 h
    omega
  have hPle : P ≤ g * g * P := by
    have := Int.mul_le_mul_of_nonneg_right gg hP0
    omega
  have hw := sqnn w
  have hQD : Q * bil f n e e ≤ Q * D := Int.mul_le_mul_of_nonneg_left hD (Int.le_of_lt p1)
  have e4 : 2 * z * (2 * z) = 4 * (z * z) := by grind
  have fin : Q * (4 * V) ≤ Q * (4 * D + Q) := by
    have a1 : Q * (4 * V) = 4 * (Q * V) := by grind
    have a2 : Q * (4 * D + Q) = 4 * (Q * D) + Q * Q := by grind
    rw [a1, a2]
    omega
  exact Int.le_of_mul_le_mul_left fin p1
theorem rowpos (G : Good f n) {h : Nat} {W : Fn} (c : Comp h n W) {k : Nat} (hk : k < h) (hn : k < n) : 0 < bil f n (W k) (W k) := by
  obtain ⟨F, hF, hd⟩ := c
  refine Classical.byContradiction fun q => ?_
  have z : ∀ j, j < n → W k j = 0 := fun j hj => Classical.byContradiction fun r => by have := G.pos (W k) hj r; omega
  obtain ⟨c, hc⟩ := det_row G.n3 hn F fun j hj _ => by rw [hF k j hk hj, z j hj]
  rw [hF k k hk hn, z k hn, Int.zero_mul] at hc
  rcases hd with e | e <;> omega
theorem Good.go1 (G : Good f n) (h2 : 2 ≤ n) {D : Int} (hD : ∀ i, i < n → f i i ≤ D) {W : Fn} (c : Comp 1 n W) : ∃ v : Vec, Comp 2 n (R2 (W 0) v) ∧ 4 * bil f n v v ≤ 4 * D + bil f n (W 0) (W 0) := by
  have p1 := rowpos G c (k := 0) (by decide) (by omega)
  have n3 := G.n3
  obtain ⟨F, hF, hd⟩ := c
  generalize hb1 : W 0 = b1 at p1 ⊢
  have hF0 : ∀ k, k < n → F 0 k = b1 k := fun k hk => by rw [hF 0 k (by decide) hk, hb1]
  clear hF
  have n23 : n = 2 ∨ n = 3 := by omega
  rcases n23 with rfl | rfl
  · have dF : detF 2 (R2 b1 (F 1)) = detF 2 F := by simp [R2, detF, hF0 0 (by decide), hF0 1 (by decide)]
    obtain ⟨i, hi, hne⟩ : ∃ i, i < 2 ∧ detF 2 (R2 b1 (e1 i)) ≠ 0 := by
      refine Classical.byContradiction fun q => ?_
      have z : ∀ i, i < 2 → detF 2 (R2 b1 (e1 i)) = 0 := fun i hi => Classical.byContradiction fun r => q ⟨i, hi, r⟩
      have z0 := z 0 (by decide)
      have z1 := z 1 (by decide)
      simp [R2, detF, e1] at z0 z1
      have : detF 2 F = 0 := by rw [← dF]; simp [R2, detF, z0, z1]
      rcases hd with r | r <;> omega
    have cr := cramer2 b1 (F 1) (e1 i)
    rw [dF] at cr
    obtain ⟨t, ht⟩ := G.red1 (b1 := b1) (v0 := F 1) (e := fun j => detF 2 F * e1 i j) (g := detF 2 (R2 b1 (e1 i))) (c := detF 2 (R2 (e1 i) (F 1))) (D := D) p1 hne (fun j hj => by rw [cr j hj]; omega) (by
      rw [bil_mulL, bil_mulR G.sy, bil_e1 hi hi]
      have := hD i hi
      rcases hd with r | r <;> rw [r] <;> omega)
    refine ⟨_, ⟨R2 b1 (fun j => 1 * F 1 j + t * b1 j), fun _ _ _ _ => rfl, ?_⟩, ht⟩
    have : detF 2 (R2 b1 (fun j => 1 * F 1 j + t * b1 j)) = detF 2 (R2 b1 (F 1)) := by
      simp [R2, detF]
      grind
    rw [this, dF]
    exact hd
  · have dF : detF 3 (R3 b1 (F 1) (F 2)) = detF 3 F := by simp [R3, detF, hF0 0 (by decide), hF0 1 (by decide), hF0 2 (by decide)]
    have cr := fun x => cramer3 b1 (F 1) (F 2) x
    rw [dF] at cr
    obtain ⟨i, hi, hne⟩ : ∃ i, i < 3 ∧ (detF 3 (R3 b1 (e1 i) (F 2)) ≠ 0 ∨ detF 3 (R3 b1 (F 1) (e1 i)) ≠ 0) := by
      refine Classical.byContradiction fun q => ?_
      have z1 : ∀ i, i < 3 → detF 3 (R3 b1 (e1 i) (F 2)) = 0 := fun i hi => Classical.byContradiction fun r => q ⟨i, hi, .inl r⟩
      have z2 : ∀ i, i < 3 → detF 3 (R3 b1 (F 1) (e1 i)) = 0 := fun i hi => Classical.byContradiction fun r => q ⟨i, hi, .inr r⟩
      have a0 := cr (e1 0) 0 (by decide)
      have a1 := cr (e1 0) 1 (by decide)
      have b1' := cr (e1 1) 1 (by decide)
      rw [z1 0 (by decide), z2 0 (by decide)] at a0 a1
      rw [z1 1 (by decide), z2 1 (by decide)] at b1'
      simp only [Int.zero_mul, Int.add_zero] at a0 a1 b1'
      have e00 : e1 0 0 = 1 := rfl
      have e01 : e1 0 1 = 0 := rfl
      have e11 : e1 1 1 = 1 := rfl
      rw [e00] at a0
      rw [e01] at a1
      rw [e11] at b1'
      have b10 : b1 1 = 0 := by
        rw [Int.mul_zero] at a1
        rcases Int.mul_eq_zero.mp a1.symm with h | h
        · rw [h, Int.zero_mul] at a0
          rcases hd with r | r <;> omega
        · exact h
      rw [b10, Int.mul_zero] at b1'
      rcases hd with r | r <;> omega
    obtain ⟨g, x', g0, hx, cx⟩ := prim (n := 2) (by decide) _ (fun k => if k = 0 then detF 3 (R3 b1 (e1 i) (F 2)) else detF 3 (R3 b1 (F 1) (e1 i))) (Int.self_le_toNat _) (by
      rcases hne with h | h
      · exact ⟨0, by decide, h⟩
      · exact ⟨1, by decide, h⟩)
    obtain ⟨X, hX, dX⟩ := cx
    have x0 := hx 0 (by decide)
    have x1 := hx 1 (by decide)
    simp only [if_true, Nat.one_ne_zero, if_false] at x0 x1
    obtain ⟨t, ht⟩ := G.red1 (b1 := b1) (v0 := fun j => x' 0 * F 1 j + x' 1 * F 2 j) (e := fun j => detF 3 F * e1 i j) (g := g) (c := detF 3 (R3 (e1 i) (F 1) (F 2))) (D := D) p1 g0 (fun j hj => by
        rw [cr (e1 i) j hj, x0, x1]
        grind) (by
      rw [bil_mulL, bil_mulR G.sy, bil_e1 hi hi]
      have := hD i hi
      rcases hd with r | r <;> rw [r] <;> omega)
    refine ⟨_, ⟨R3 b1 (fun j => 1 * (x' 0 * F 1 j + x' 1 * F 2 j) + t * b1 j) (fun j => X 1 0 * F 1 j + X 1 1 * F 2 j), fun a k ha _ => ?_, ?_⟩, ht⟩
    · have a2 : a = 0 ∨ a = 1 := by omega
      rcases a2 with rfl | rfl <;> rfl
    · have h0 := hX 0 0 (by decide) (by decide)
      have h1 := hX 0 1 (by decide) (by decide)
      have : detF 3 (R3 b1 (fun j => 1 * (x' 0 * F 1 j + x' 1 * F 2 j) + t * b1 j) (fun j => X 1 0 * F 1 j + X 1 1 * F 2 j)) = detF 3 (R3 b1 (F 1) (F 2)) * detF 2 X := by
        simp only [detF, h0, h1]
        simp [R3]
        grind
      rw [this, dF]
      rcases hd with r | r <;> rcases dX with r2 | r2 <;> rw [r, r2] <;> simp
end
end Gp
end
/-! Li -/
section
set_option Elab.async false
set_option linter.all false
set_option maxRecDepth 100000
namespace Gp
section
variable {f : Fn} {n : Nat}
def phi (f : Fn) (n : Nat) (b1 b2 x : Vec) : Int := (bil f n b1 b1 * bil f n b2 b2 - bil f n b1 b2 * bil f n b1 b2) * (bil f n b1 b1 * bil f n x x - bil f n b1 x * bil f n b1 x) - (bil f n b1 b1 * bil f n b2 x - bil f n b1 b2 * bil f n b1 x) * (bil f n b1 b1 * bil f n b2 x - bil f n b1 b2 * bil f n b1 x)
theorem bil_l2 (sy : ∀ i j, i < n → j < n → f i j = f j i) (a b c d : Int) (x y z w : Vec) : bil f n (fun i => a * x i + b * y i) (fun i => c * z i + d * w i) = a * c * bil f n x z + a * d * bil f n x w + b * c * bil f n y z + b * d * bil f n y w := by
  have h1 := bil_addL (f := f) (n := n) (fun i => a * x i) (fun i => b * y i) (fun i => c * z i + d * w i)
  have h2 := bil_addR sy (fun i => a * x i) (fun i => c * z i) (fun i => d * w i)
  have h3 := bil_addR sy (fun i => b * y i) (fun i => c * z i) (fun i => d * w i)
  rw [h1, h2, h3]
  have g1 : bil f n (fun i => a * x i) (fun i => c * z i) = a * (c * bil f n x z) := by rw [bil_mulL, bil_mulR sy]
  have g2 : bil f n (fun i => a * x i) (fun i => d * w i) = a * (d * bil f n x w) := by rw [bil_mulL, bil_mulR sy]
  have g3 : bil f n (fun i => b * y i) (fun i => c * z i) = b * (c * bil f n y z) := by rw [bil_mulL, bil_mulR sy]
  have g4 : bil f n (fun i => b * y i) (fun i => d * w i) = b * (d * bil f n y w) := by rw [bil_mulL, bil_mulR sy]
  rw [g1, g2, g3, g4]
  grind
theorem Good.phi_nn (G : Good f n) {b1 : Vec} (b2 x : Vec) (p1 : 0 < bil f n b1 b1) : 0 ≤ phi f n b1 b2 x := by
  have h := G.csf (fun i => bil f n b1 b1 * x i + - bil f n b1 x * b1 i) (fun i => bil f n b1 b1 * b2 i + - bil f n b1 b2 * b1 i)
  rw [bil_l2 G.sy, bil_l2 G.sy, bil_l2 G.sy] at h
  rw [bil_comm G.sy x b1, bil_comm G.sy x b2, bil_comm G.sy b2 b1] at h
  unfold phi
  generalize bil f n b1 b1 = Q at *
  generalize bil f n b2 b2 = Q2 at *
  generalize bil f n x x = X at *
  generalize bil f n b1 b2 = c at *
  generalize bil f n b1 x = u at *
  generalize bil f n b2 x = w at *
  have e : Q * Q * 0 ≤ Q * Q * ((Q * Q2 - c * c) * (Q * X - u * u) - (Q * w - c * u) * (Q * w - c * u)) := by
    have e2 : Q * Q * ((Q * Q2 - c * c) * (Q * X - u * u) - (Q * w - c * u) * (Q * w - c * u)) = (Q * Q * X + Q * -u * u + -u * Q * u + -u * -u * Q) * (Q * Q * Q2 + Q * -c * c + -c * Q * c + -c * -c * Q) - (Q * Q * w + Q * -c * u + -u * Q * c + -u * -c * Q) * (Q * Q * w + Q * -c * u + -u * Q * c + -u * -c * Q) := by grind
    rw [e2, Int.mul_zero]
    omega
  exact Int.le_of_mul_le_mul_left e (Int.mul_pos p1 p1)
theorem phi_lin (sy : ∀ i j, i < n → j < n → f i j = f j i) (b1 b2 y : Vec) (a s t : Int) : phi f n b1 b2 (fun i => a * y i + (s * b1 i + t * b2 i)) = a * a * phi f n b1 b2 y := by
  have e1 := bil_l3 sy a s t y b1 b2 b1
  have e2 := bil_l3 sy a s t y b1 b2 b2
  have e3 := bil_l3 sy a s t y b1 b2 (fun i => a * y i + (s * b1 i + t * b2 i))
  have e4 := bil_l3 sy a s t y b1 b2 y
  unfold phi
  rw [bil_comm sy _ y, bil_comm sy _ b1, bil_comm sy _ b2] at e3
  rw [e3, e1, e2, e4, bil_comm sy y b1, bil_comm sy y b2, bil_comm sy b2 b1]
  grind
theorem phi_up {f : Fn} {n : Nat} (b1 b2 x : Vec) (hD : 0 ≤ bil f n b1 b1 * bil f n b2 b2 - bil f n b1 b2 * bil f n b1 b2) : phi f n b1 b2 x ≤ (bil f n b1 b1 * bil f n b2 b2 - bil f n b1 b2 * bil f n b1 b2) * (bil f n b1 b1 * bil f n x x) := by
  unfold phi
  have h1 := sqnn (bil f n b1 b1 * bil f n b2 x - bil f n b1 b2 * bil f n b1 x)
  have h2 := sqnn (bil f n b1 x)
  generalize (bil f n b1 b1 * bil f n b2 x - bil f n b1 b2 * bil f n b1 x) * (bil f n b1 b1 * bil f n b2 x - bil f n b1 b2 * bil f n b1 x) = A at *
  have := Int.mul_le_mul_of_nonneg_left (show bil f n b1 b1 * bil f n x x - bil f n b1 x * bil f n b1 x ≤ bil f n b1 b1 * bil f n x x by omega) hD
  omega
/-- a vector near, modulo b1 and b2 -/
theorem Good.red2 (G : Good f n) {b1 b2 v0 e : Vec} {g c1 c2 D : Int} (p1 : 0 < bil f n b1 b1) (p2 : 0 < bil f n b1 b1 * bil f n b2 b2 - bil f n b1 b2 * bil f n b1 b2) (g0 : g ≠ 0) (he : ∀ i, i < n → e i = g * v0 i + (c1 * b1 i + c2 * b2 i)) (hD : bil f n e e ≤ D) : ∃ s t : Int, 4 * bil f n (fun i => 1 * v0 i + (s * b1 i + t * b2 i)) (fun i => 1 * v0 i + (s * b1 i + t * b2 i)) ≤ 4 * D + bil f n b1 b1 + bil f n b2 b2 := by
  obtain ⟨t, ht⟩ := near0 (bil f n b1 b1 * bil f n b2 v0 - bil f n b1 b2 * bil f n b1 v0) _ p2
  obtain ⟨s, hs⟩ := near0 (bil f n b1 v0 + t * bil f n b1 b2) _ p1
  refine ⟨s, t, ?_⟩
  have f1 := phi_lin G.sy b1 b2 v0 1 s t
  have f2 := phi_lin G.sy b1 b2 v0 g c1 c2
  have f3 := G.phi_nn b2 v0 p1
  have ee : phi f n b1 b2 (fun i => g * v0 i + (c1 * b1 i + c2 * b2 i)) = phi f n b1 b2 e := by
    have q1 : ∀ z, bil f n z (fun i => g * v0 i + (c1 * b1 i + c2 * b2 i)) = bil f n z e := fun z => bil_cg (fun _ _ _ _ => rfl) (fun _ _ => rfl) fun i hi => (he i hi).symm
    have q2 : bil f n (fun i => g * v0 i + (c1 * b1 i + c2 * b2 i)) (fun i => g * v0 i + (c1 * b1 i + c2 * b2 i)) = bil f n e e := bil_cg (fun _ _ _ _ => rfl) (fun i hi => (he i hi).symm) fun i hi => (he i hi).symm
    unfold phi
    rw [q2, q1, q1]
  rw [ee] at f2
  have f4 := phi_up (f := f) (n := n) b1 b2 e (Int.le_of_lt p2)
  have x1 := bil_l3 G.sy 1 s t v0 b1 b2 b1
  have x2 := bil_l3 G.sy 1 s t v0 b1 b2 b2
  have gg : 1 ≤ g * g := by
    have := sqnn g
    have : g * g ≠ 0 := fun c => by rcases Int.mul_eq_zero.mp c with h | h <;> exact g0 h
    omega
  have hPle := Int.mul_le_mul_of_nonneg_right gg f3
  generalize hP : phi f n b1 b2 v0 = P at *
  unfold phi at f1
  rw [x1, x2, bil_comm G.sy b2 b1] at f1
  generalize bil f n (fun i => 1 * v0 i + (s * b1 i + t * b2 i)) (fun i => 1 * v0 i + (s * b1 i + t * b2 i)) = V at *
  generalize phi f n b1 b2 e = E at *
  generalize bil f n e e = Ee at *
  generalize bil f n b1 b1 = Q at *
  generalize bil f n b2 b2 = Q2 at *
  generalize bil f n b1 b2 = c at *
  generalize bil f n b1 v0 = u at *
  generalize bil f n b2 v0 = w at *
  have hz2 := sq_abs_le ht
  have hz1 := sq_abs_le hs
  have D2le : Q * Q2 - c * c ≤ Q * Q2 := by have := sqnn c; omega
  generalize hD2 : Q * Q2 - c * c = D2 at *
  -- the two squares
  have e1 : Q * (1 * w + (s * c + t * Q2)) - c * (1 * u + (s * Q + t * c)) = Q * w - c * u + t * D2 := by
    rw [← hD2]; grind
  have e2 : (1 * u + (s * Q + t * c)) = u + t * c + s * Q := by omega
  rw [e1, e2] at f1
  generalize Q * w - c * u + t * D2 = z2 at *
  generalize u + t * c + s * Q = z1 at *
  have hE := Int.mul_le_mul_of_nonneg_left (Int.mul_le_mul_of_nonneg_left hD (Int.le_of_lt p1)) (Int.le_of_lt p2)
  have g1 := Int.mul_le_mul_of_nonneg_left hz1 (Int.le_of_lt p2)
  have g2 := Int.mul_le_mul_of_nonneg_left D2le (Int.le_of_lt p2)
  have fin : D2 * Q * (4 * V) ≤ D2 * Q * (4 * D + Q + Q2) := by
    have a1 : D2 * Q * (4 * V) = 4 * (D2 * (Q * V - z1 * z1) - z2 * z2) + D2 * (2 * z1 * (2 * z1)) + 2 * z2 * (2 * z2) := by grind
    have a2 : D2 * Q * (4 * D + Q + Q2) = 4 * (D2 * (Q * D)) + D2 * (Q * Q) + D2 * (Q * Q2) := by grind
    rw [a1, a2]
    omega
  exact Int.le_of_mul_le_mul_left fin (Int.mul_pos p2 p1)
theorem Good.dpos2 (G : Good f 3) {b1 b2 p : Vec} (p1 : 0 < bil f 3 b1 b1) (hd : detF 3 (R3 b1 b2 p) ≠ 0) : 0 < bil f 3 b1 b1 * bil f 3 b2 b2 - bil f 3 b1 b2 * bil f 3 b1 b2 := by
  have h := G.csf b1 b2
  refine Classical.byContradiction fun q => ?_
  have e0 : bil f 3 b1 b1 * bil f 3 b2 b2 - bil f 3 b1 b2 * bil f 3 b1 b2 = 0 := by omega
  have z : bil f 3 (fun i => bil f 3 b1 b1 * b2 i + - bil f 3 b1 b2 * b1 i) (fun i => bil f 3 b1 b1 * b2 i + - bil f 3 b1 b2 * b1 i) = 0 := by
    rw [bil_l2 G.sy, bil_comm G.sy b2 b1]
    have : bil f 3 b1 b1 * bil f 3 b1 b1 * bil f 3 b2 b2 + bil f 3 b1 b1 * -bil f 3 b1 b2 * bil f 3 b1 b2 + -bil f 3 b1 b2 * bil f 3 b1 b1 * bil f 3 b1 b2 + -bil f 3 b1 b2 * -bil f 3 b1 b2 * bil f 3 b1 b1 = bil f 3 b1 b1 * (bil f 3 b1 b1 * bil f 3 b2 b2 - bil f 3 b1 b2 * bil f 3 b1 b2) := by grind
    rw [this, e0]
    simp
  have zz : ∀ i, i < 3 → bil f 3 b1 b1 * b2 i + - bil f 3 b1 b2 * b1 i = 0 := fun i hi => Classical.byContradiction fun c => by have := G.pos (fun i => bil f 3 b1 b1 * b2 i + - bil f 3 b1 b2 * b1 i) hi c; omega
  have z0 := zz 0 (by decide)
  have z1 := zz 1 (by decide)
  have z2 := zz 2 (by decide)
  generalize bil f 3 b1 b1 = Q at *
  generalize bil f 3 b1 b2 = c at *
  have : Q * detF 3 (R3 b1 b2 p) = 0 := by
    have e : Q * detF 3 (R3 b1 b2 p) = detF 3 (R3 b1 (fun i => Q * b2 i + -c * b1 i) p) := by
      simp [R3, detF]
      grind
    rw [e]
    simp [R3, detF, z0, z1, z2]
  rcases Int.mul_eq_zero.mp this with r | r
  · omega
  · exact hd r
theorem Good.go2 (G : Good f 3) {D : Int} (hD : ∀ i, i < 3 → f i i ≤ D) {W : Fn} (c : Comp 2 3 W) : ∃ v : Vec, Comp 3 3 (R3 (W 0) (W 1) v) ∧ 4 * bil f 3 v v ≤ 4 * D + bil f 3 (W 0) (W 0) + bil f 3 (W 1) (W 1) := by
  have p1 := rowpos G c (k := 0) (by decide) (by decide)
  obtain ⟨F, hF, hd⟩ := c
  generalize hb1 : W 0 = b1 at p1 ⊢
  generalize hb2 : W 1 = b2 at ⊢
  have hF0 : ∀ k, k < 3 → F 0 k = b1 k := fun k hk => by rw [hF 0 k (by decide) hk, hb1]
  have hF1 : ∀ k, k < 3 → F 1 k = b2 k := fun k hk => by rw [hF 1 k (by decide) hk, hb2]
  clear hF
  have dF : detF 3 (R3 b1 b2 (F 2)) = detF 3 F := by simp [R3, detF, hF0 0 (by decide), hF0 1 (by decide), hF0 2 (by decide), hF1 0 (by decide), hF1 1 (by decide), hF1 2 (by decide)]
  have hdn : detF 3 (R3 b1 b2 (F 2)) ≠ 0 := by rw [dF]; rcases hd with r | r <;> omega
  have p2 := G.dpos2 p1 hdn
  obtain ⟨i, hi, hne⟩ : ∃ i, i < 3 ∧ detF 3 (R3 b1 b2 (e1 i)) ≠ 0 := by
    refine Classical.byContradiction fun q => ?_
    have z : ∀ i, i < 3 → detF 3 (R3 b1 b2 (e1 i)) = 0 := fun i hi => Classical.byContradiction fun r => q ⟨i, hi, r⟩
    have z0 := z 0 (by decide)
    have z1 := z 1 (by decide)
    have z2 := z 2 (by decide)
    simp [R3, detF, e1] at z0 z1 z2
    refine hdn ?_
    simp [R3, detF]
    grind
  have cr := cramer3 b1 b2 (F 2) (e1 i)
  rw [dF] at cr
  obtain ⟨s, t, ht⟩ := G.red2 (b1 := b1) (b2 := b2) (v0 := F 2) (e := fun j => detF 3 F * e1 i j) (g := detF 3 (R3 b1 b2 (e1 i))) (c1 := detF 3 (R3 (e1 i) b2 (F 2))) (c2 := detF 3 (R3 b1 (e1 i) (F 2))) (D := D) p1 p2 hne (fun j hj => by rw [cr j hj]; omega) (by
    rw [bil_mulL, bil_mulR G.sy, bil_e1 hi hi]
    have := hD i hi
    rcases hd with r | r <;> rw [r] <;> omega)
  refine ⟨_, ⟨R3 b1 b2 (fun j => 1 * F 2 j + (s * b1 j + t * b2 j)), fun _ _ _ _ => rfl, ?_⟩, ht⟩
  have : detF 3 (R3 b1 b2 (fun j => 1 * F 2 j + (s * b1 j + t * b2 j))) = detF 3 (R3 b1 b2 (F 2)) := by
    simp [R3, detF]
    grind
  rw [this, dF]
  exact hd
end
end Gp
end
/-! Lj -/
section
set_option Elab.async false
set_option linter.all false
set_option maxRecDepth 100000
namespace Gm
open PySem PySem.Spec PyProof.Rows L2 DL Gp
/-! ### from the lists to the form -/
theorem dot_sum {n : Nat} (n3 : n ≤ 3) {x y : List Int} (hx : x.length = n) (hy : y.length = n) : dotI x y = sumN (fun i => getV x i * getV y i) n := by
  have : n = 0 ∨ n = 1 ∨ n = 2 ∨ n = 3 := by omega
  rcases this with rfl | rfl | rfl | rfl
  · rw [List.length_eq_zero_iff.mp hx]
    rfl
  · rw [dot1 hx hy]
    simp [sumN]
  · rw [dot2 hx hy]
    simp [sumN]
  · rw [dot3 hx hy]
    simp [sumN]
theorem prod_bil {m : Mx} {n : Nat} (s : Sh m n n) (n3 : n ≤ 3) {v w : List Int} (hv : v.length = n) (hw : w.length = n) : prodI m v w = bil (ent m) n (getV v) (getV w) := by
  unfold prodI
  rw [dot_sum n3 hv (by unfold timesV; rw [List.length_map, s.len])]
  refine sumN_cg fun i hi => ?_
  have e : getV (timesV m w) i = dotI (m.getD i []) w := getD_map _ _ _ [] _ (by rw [s.len]; exact hi)
  rw [e, dot_sum n3 (s.get hi) hw, ← sumN_mul]
  refine sumN_cg fun j hj => ?_
  rw [← Int.mul_assoc]
  rfl
theorem prodL_bil {m : Mx} {n : Nat} {v w : List Int} (hv : v.length = n) (hw : w.length = n) : prodL m v w = bil (ent m) n (getV v) (getV w) := by
  unfold prodL
  rw [hv, hw]
  rfl
theorem prod_L {m : Mx} {n : Nat} (s : Sh m n n) (n3 : n ≤ 3) {v w : List Int} (hv : v.length = n) (hw : w.length = n) : prodI m v w = prodL m v w := by rw [prod_bil s n3 hv hw, prodL_bil hv hw]
def vl (n : Nat) (x : Vec) : List Int := (List.range n).map x
theorem vl_len (n : Nat) (x : Vec) : (vl n x).length = n := by simp [vl]
theorem vl_get {n : Nat} {x : Vec} {i : Nat} (hi : i < n) : getV (vl n x) i = x i := by
  simp [vl, getV, List.getD_eq_getElem?_getD, hi]
theorem ent_app {T : Mx} {v : List Int} {i k : Nat} : ent (T ++ [v]) i k = if i < T.length then ent T i k else if i = T.length then getV v k else 0 := by
  unfold ent getV
  simp only [List.getD_eq_getElem?_getD]
  split
  · rename_i h
    rw [List.getElem?_append_left h]
  · rename_i h
    rw [List.getElem?_append_right (by omega)]
    split
    · rename_i h2
      rw [h2, Nat.sub_self]
      rfl
    · have : i - T.length = (i - T.length - 1) + 1 := by omega
      rw [this]
      simp
theorem sh_app {T : Mx} {k n : Nat} {v : List Int} (s : Sh T k n) (hv : v.length = n) : Sh (T ++ [v]) (k + 1) n := ⟨by rw [List.length_append, s.len, List.length_singleton], fun r hr => by
  rcases List.mem_append.mp hr with h | h
  · exact s.row r h
  · rw [List.mem_singleton.mp h]; exact hv⟩
theorem sh_take {T : Mx} {k n i : Nat} (s : Sh T k n) (hi : i ≤ k) : Sh (T.take i) i n := ⟨by rw [List.length_take, s.len]; omega, fun r hr => s.row r (List.mem_of_mem_take hr)⟩
theorem take_app {T : Mx} {k n : Nat} (s : Sh T (k + 1) n) : T = T.take k ++ [T.getD k []] := by
  have h : k < T.length := by rw [s.len]; omega
  conv => lhs; rw [← List.take_append_drop k T]
  congr 1
  rw [List.drop_eq_getElem_cons h, List.drop_of_length_le (by rw [s.len]; omega), List.getD_eq_getElem?_getD, List.getElem?_eq_getElem h]
  rfl
theorem ent_take {T : Mx} {i a b : Nat} (h : a < i) : ent (T.take i) a b = ent T a b := by
  unfold ent
  simp [List.getD_eq_getElem?_getD, List.getElem?_take, h]
theorem pr_take {T : Mx} {k n i : Nat} (s : Sh T k n) (hi : i ≤ k) (p : Pr n T) : Pr n (T.take i) := by
  unfold Pr at *
  rw [(sh_take s hi).len]
  rw [s.len] at p
  obtain ⟨F, h, d⟩ := p
  exact ⟨F, fun a b ha hb => by rw [h a b (by omega) hb, ent_take ha], d⟩
theorem pr_nil {n : Nat} (n3 : n ≤ 3) : Pr n [] := by
  refine ⟨fun i j => if i = j then 1 else 0, fun i _ hi => absurd hi (Nat.not_lt_zero _), ?_⟩
  have : n = 0 ∨ n = 1 ∨ n = 2 ∨ n = 3 := by omega
  rcases this with rfl | rfl | rfl | rfl <;> simp [detF]
theorem mark_get {m T : Mx} {v : List Int} {j : Nat} (hj : j < T.length) : (markI m T v).getD (j + 1) 0 = prodI m (T.getD j []) v := by
  unfold markI
  rw [List.getD_cons_succ, getD_map _ _ _ [] _ hj]
/-- the tables of a level, by their marks -/
theorem Lvl.iff {m : Mx} {n : Nat} (n3 : n ≤ 3) {k : Nat} {Ts : List Mx} {out : List (List Int × List Mx)} (h : Lvl m n k Ts out) : out.length = k ∧ (∃ T, T ∈ Ts) ∧
    ∀ T, T ∈ Ts ↔ Sh T k n ∧ Pr n T ∧ ∀ i, i < k → markI m (T.take i) (T.getD i []) = (out.map (·.1)).getD i [] := by
  induction h with
  | zero =>
    refine ⟨rfl, ⟨[], List.mem_singleton.mpr rfl⟩, fun T => ?_⟩
    rw [List.mem_singleton]
    constructor
    · rintro rfl
      exact ⟨⟨rfl, fun r hr => by cases hr⟩, pr_nil n3, fun i hi => absurd hi (Nat.not_lt_zero _)⟩
    · intro h
      exact List.length_eq_zero_iff.mp h.1.len
  | @succ k Ts F out mk h M ih =>
    obtain ⟨hl, _, ih⟩ := ih
    have gl : ∀ i, i < k → ((out ++ [(mk, F)]).map (·.1)).getD i [] = (out.map (·.1)).getD i [] := fun i hi => by
      rw [List.map_append, List.getD_eq_getElem?_getD, List.getElem?_append_left (by rw [List.length_map]; omega), ← List.getD_eq_getElem?_getD]
    have gk : ((out ++ [(mk, F)]).map (·.1)).getD k [] = mk := by
      rw [List.map_append, List.getD_eq_getElem?_getD, List.getElem?_append_right (by rw [List.length_map]; omega), List.length_map, hl, Nat.sub_self]
      rfl
    refine ⟨by rw [List.length_append, hl]; rfl, ?_, fun T => ?_⟩
    · obtain ⟨T, hT, v, hv, hp, e⟩ := M.ex
      exact ⟨_, (M.mem _).mpr ⟨T, hT, v, hv, hp, e, rfl⟩⟩
    · rw [M.mem]
      constructor
      · rintro ⟨T0, hT0, v, hv, hp, e, rfl⟩
        obtain ⟨s0, p0, g0⟩ := (ih T0).mp hT0
        refine ⟨sh_app s0 hv, hp, fun i hi => ?_⟩
        rcases Nat.lt_or_ge i k with c | c
        · rw [gl i c, ← g0 i c, List.take_append_of_le_length (by rw [s0.len]; omega), List.getD_eq_getElem?_getD, List.getElem?_append_left (by rw [s0.len]; omega), ← List.getD_eq_getElem?_getD]
        · obtain rfl : i = k := by omega
          rw [gk, ← e, ← s0.len, List.take_left, List.getD_eq_getElem?_getD, List.getElem?_append_right (Nat.le_refl _), Nat.sub_self]
          rfl
      · rintro ⟨s, p, g⟩
        have e := take_app s
        refine ⟨T.take k, (ih _).mpr ⟨sh_take s (by omega), pr_take s (by omega) p, fun i hi => ?_⟩, T.getD k [], s.get (by omega), by rw [← e]; exact p, by rw [g k (by omega), gk], e⟩
        rw [← gl i hi, ← g i (by omega), List.take_take, Nat.min_eq_left (by omega)]
        congr 1
        rw [List.getD_eq_getElem?_getD, List.getElem?_take, if_pos hi, ← List.getD_eq_getElem?_getD]
def nb (n : Nat) : Nat → Int
  | 0 => if n = 3 then 6 else 11
  | 1 => if n = 3 then 127 else 178
  | _ => 159
theorem lex_head {a b : Int} {as bs : List Int} (h : HT.lexLt (a :: as) (b :: bs) = false) : b ≤ a := by
  refine Int.not_lt.mp fun c => ?_
  have : HT.lexLt (a :: as) (b :: bs) = true := by
    unfold HT.lexLt
    simp [c]
    left
    omega
  rw [this] at h
  cases h
theorem goK {m : Mx} {n : Nat} (G : Good (ent m) n) (s : Sh m n n) {k : Nat} {T : Mx} (sT : Sh T k n) (p : Pr n T) (hq : ∀ i, i < k → prodI m (T.getD i []) (T.getD i []) ≤ nb n i) (hk : k < n) :
    ∃ v : List Int, v.length = n ∧ Pr n (T ++ [v]) ∧ prodI m v v ≤ nb n k := by
  have n3 := G.n3
  have fin : ∀ x : Vec, Comp (k + 1) n (fun i j => if i < k then ent T i j else x j) → bil (ent m) n x x ≤ nb n k → ∃ v : List Int, v.length = n ∧ Pr n (T ++ [v]) ∧ prodI m v v ≤ nb n k := fun x c hx => by
    refine ⟨vl n x, vl_len n x, ?_, ?_⟩
    · unfold Pr
      rw [(sh_app sT (vl_len n x)).len]
      refine (Comp.congr fun i j hi hj => ?_).mp c
      rw [ent_app, sT.len]
      split
      · rfl
      · rw [if_pos (by omega), vl_get hj]
    · rw [prod_bil s n3 (vl_len n x) (vl_len n x)]
      have : bil (ent m) n (getV (vl n x)) (getV (vl n x)) = bil (ent m) n x x := bil_cg (fun _ _ _ _ => rfl) (fun i hi => vl_get hi) fun i hi => vl_get hi
      rw [this]
      exact hx
  have tq : ∀ i, i < k → bil (ent m) n (ent T i) (ent T i) ≤ nb n i := fun i hi => by
    have := hq i hi
    rw [prod_bil s n3 (sT.get hi) (sT.get hi)] at this
    exact this
  unfold Pr at p
  rw [sT.len] at p
  have k3 : k = 0 ∨ k = 1 ∨ k = 2 := by omega
  rcases k3 with rfl | rfl | rfl
  · obtain ⟨x, hx, hq⟩ := G.mn
    obtain ⟨g, x', g0, e, c⟩ := prim n3 (sumN (fun i => ((x i).natAbs : Int)) n).toNat x (Int.self_le_toNat _) hx
    refine fin x' ((Comp.congr fun i j hi _ => by simp).mp c) ?_
    have e2 : bil (ent m) n x x = g * (g * bil (ent m) n x' x') := by
      have : bil (ent m) n x x = bil (ent m) n (fun i => g * x' i) (fun i => g * x' i) := bil_cg (fun _ _ _ _ => rfl) e e
      rw [this, bil_mulL, bil_mulR G.sy]
    have nn := G.nn x'
    have gg : 1 ≤ g * g := by
      have := sqnn g
      have : g * g ≠ 0 := fun c => by rcases Int.mul_eq_zero.mp c with h | h <;> exact g0 h
      omega
    have := Int.mul_le_mul_of_nonneg_right gg nn
    rw [Int.mul_assoc] at this
    show bil (ent m) n x' x' ≤ if n = 3 then 6 else 11
    omega
  · have t0 := tq 0 (by decide)
    rcases Nat.lt_or_ge n 3 with c3 | c3
    · obtain ⟨v, cv, hv⟩ := G.go1 (by omega) (D := 176) (fun i hi => (G.dg i hi).1) p
      refine fin v ((Comp.congr fun i j hi _ => ?_).mp cv) ?_
      · have : i = 0 ∨ i = 1 := by omega
        rcases this with rfl | rfl <;> simp [Gp.R2]
      · have t0 : bil (ent m) n (ent T 0) (ent T 0) ≤ if n = 3 then 6 else 11 := t0
        show bil (ent m) n v v ≤ if n = 3 then 127 else 178
        rw [if_neg (show n ≠ 3 by omega)] at t0 ⊢
        omega
    · obtain rfl : n = 3 := by omega
      obtain ⟨v, cv, hv⟩ := G.go1 (by omega) (D := 126) (fun i hi => (G.dg i hi).2 rfl) p
      refine fin v ((Comp.congr fun i j hi _ => ?_).mp cv) ?_
      · have : i = 0 ∨ i = 1 := by omega
        rcases this with rfl | rfl <;> simp [Gp.R2]
      · have t0 : bil (ent m) 3 (ent T 0) (ent T 0) ≤ 6 := t0
        show bil (ent m) 3 v v ≤ 127
        omega
  · obtain rfl : n = 3 := by omega
    have t0 := tq 0 (by decide)
    have t1 := tq 1 (by decide)
    obtain ⟨v, cv, hv⟩ := G.go2 (D := 126) (fun i hi => (G.dg i hi).2 rfl) p
    refine fin v ((Comp.congr fun i j hi _ => ?_).mp cv) ?_
    · have : i = 0 ∨ i = 1 ∨ i = 2 := by omega
      rcases this with rfl | rfl | rfl <;> simp [R3]
    · have t0 : bil (ent m) 3 (ent T 0) (ent T 0) ≤ 6 := t0
      have t1 : bil (ent m) 3 (ent T 1) (ent T 1) ≤ 127 := t1
      show bil (ent m) 3 v v ≤ 159
      omega
/-- the norms of a level -/
theorem Lvl.nm {m : Mx} {n : Nat} (G : Good (ent m) n) (s : Sh m n n) {k : Nat} {Ts : List Mx} {out : List (List Int × List Mx)} (h : Lvl m n k Ts out) (kn : k ≤ n) : ∀ T ∈ Ts, ∀ i, i < k → prodI m (T.getD i []) (T.getD i []) ≤ nb n i := by
  have n3 := G.n3
  induction h with
  | zero => exact fun _ _ i hi => absurd hi (Nat.not_lt_zero _)
  | @succ k Ts F out mk h M ih =>
    have ih := ih (by omega)
    intro T hT i hi
    obtain ⟨T0, hT0, v, hv, hp, e, rfl⟩ := (M.mem T).mp hT
    obtain ⟨s0, p0, _⟩ := ((h.iff n3).2.2 T0).mp hT0
    rcases Nat.lt_or_ge i k with c | c
    · have := ih T0 hT0 i c
      rwa [List.getD_eq_getElem?_getD, List.getElem?_append_left (by rw [s0.len]; omega), ← List.getD_eq_getElem?_getD]
    · obtain rfl : i = k := by omega
      obtain ⟨v', hv', hp', hq'⟩ := goK G s s0 p0 (ih T0 hT0) (by omega)
      have le := M.le T0 hT0 v' hv' hp'
      rw [← e] at le
      have := lex_head le
      rw [List.getD_eq_getElem?_getD, List.getElem?_append_right (by rw [s0.len]; omega), s0.len, Nat.sub_self]
      show prodI m v v ≤ _
      omega
theorem lv_go {m : Mx} {n : Nat} (G : Good (ent m) n) (s : Sh m n n) {k : Nat} {Ts : List Mx} {out : List (List Int × List Mx)} (h : Lvl m n k Ts out) (kn : k < n) : ∃ T ∈ Ts, ∃ v : List Int, v.length = n ∧ Pr n (T ++ [v]) ∧ prodI m v v < 300 := by
  obtain ⟨T, hT⟩ := (h.iff G.n3).2.1
  obtain ⟨s0, p0, _⟩ := ((h.iff G.n3).2.2 T).mp hT
  obtain ⟨v, hv, hp, hq⟩ := goK G s s0 p0 (h.nm G s (by omega) T hT) kn
  refine ⟨T, hT, v, hv, hp, Int.lt_of_le_of_lt hq ?_⟩
  unfold nb
  split <;> (try split) <;> omega
end Gm
end
/-! Lk -/
section
set_option Elab.async false
set_option linter.all false
set_option maxRecDepth 100000
namespace Gm
open PySem PySem.Spec PyProof.Rows L2 DL Gp
theorem rt64_ok : RtOk rt64 := fun n => PySem.Float64.isqrt_spec n
theorem fsplit {α : Type} (p : α → Bool) : ∀ F : List α, F.length = (F.filter p).length + (F.filter fun x => !p x).length
  | [] => rfl
  | x :: F => by
    have := fsplit p F
    rw [List.filter_cons, List.filter_cons, List.length_cons]
    cases p x <;> simp <;> omega
theorem nd3 {α : Type} {F : List α} (nd : F.Nodup) (h : ∀ x ∈ F, ∀ y ∈ F, ∀ z ∈ F, x = y ∨ x = z ∨ y = z) : F.length ≤ 2 := by
  match F, nd with
  | [], _ => exact Nat.zero_le _
  | [_], _ => exact Nat.le_succ _
  | [_, _], _ => exact Nat.le_refl _
  | a :: b :: c :: r, nd =>
    have := h a (by simp) b (by simp) c (by simp)
    have n1 := List.nodup_cons.mp nd
    have n2 := List.nodup_cons.mp n1.2
    rcases this with e | e | e
    · exact absurd (by simp [e]) n1.1
    · exact absurd (by simp [e]) n1.1
    · exact absurd (by simp [e]) n2.1
theorem len2x {α β : Type} [DecidableEq β] (g : α → β) : ∀ (Ts : List β) (F : List α), F.Nodup → (∀ x ∈ F, g x ∈ Ts) → (∀ x ∈ F, ∀ y ∈ F, ∀ z ∈ F, g y = g x → g z = g x → x = y ∨ x = z ∨ y = z) → F.length ≤ 2 * Ts.length
  | [], F, _, h, _ => by
    cases F with
    | nil => exact Nat.zero_le _
    | cons x F => exact absurd (h x (List.mem_cons_self ..)) (by simp)
  | T :: Ts, F, nd, h, h3 => by
    rw [fsplit (fun x => decide (g x = T)) F, List.length_cons]
    have a1 := nd3 (F := F.filter fun x => decide (g x = T)) (List.Pairwise.filter _ nd) fun x hx y hy z hz => by
      have hx := List.mem_filter.mp hx
      have hy := List.mem_filter.mp hy
      have hz := List.mem_filter.mp hz
      have ex := of_decide_eq_true hx.2
      have ey := of_decide_eq_true hy.2
      have ez := of_decide_eq_true hz.2
      exact h3 x hx.1 y hy.1 z hz.1 (by rw [ex, ey]) (by rw [ex, ez])
    have a2 := len2x g Ts (F.filter fun x => !decide (g x = T)) (List.Pairwise.filter _ nd) (fun x hx => by
      have hx := List.mem_filter.mp hx
      rcases List.mem_cons.mp (h x hx.1) with e | e
      · have := hx.2
        rw [e] at this
        simp at this
      · exact e) fun x hx y hy z hz => h3 x (List.mem_filter.mp hx).1 y (List.mem_filter.mp hy).1 z (List.mem_filter.mp hz).1
    omega
section
variable {m : Mx} {n : Nat}
theorem latOk (G : Good (ent m) n) (s : Sh m n n) : LatOk m n := ⟨s, G.n1, G.n3, G.sy, fun i j hi hj => by have := G.ebd hi hj; omega, fun k h1 h2 => G.ld h1 h2⟩
theorem nl_iff (G : Good (ent m) n) (s : Sh m n n) {N : Int} {v : List Int} : v ∈ nl m n N n ↔ v.length = n ∧ prodI m v v ≤ N := by
  rw [nl_mem G rt64_ok]
  constructor
  · rintro ⟨h1, h2⟩
    exact ⟨h1, by rw [prod_bil s G.n3 h1 h1]; exact h2⟩
  · rintro ⟨h1, h2⟩
    exact ⟨h1, by rw [prod_bil s G.n3 h1 h1] at h2; exact h2⟩
/-- a coordinate by the norm -/
theorem co_le (G : Good (ent m) n) (s : Sh m n n) {v : List Int} (hv : v.length = n) {N : Int} {b : Nat} (hN : prodI m v v ≤ N) (hb : 25 * N < ((b : Int) + 1) * ((b : Int) + 1)) : ∀ i, i < n → (getV v i).natAbs ≤ b := fun i hi => by
  rw [prod_bil s G.n3 hv hv] at hN
  have := G.cb hN hb (Int.natCast_nonneg _) hi
  omega
theorem get_mem {v : List Int} {n b : Nat} (hv : v.length = n) (h : ∀ i, i < n → (getV v i).natAbs ≤ b) : ∀ x ∈ v, x.natAbs ≤ b := fun x hx => by
  obtain ⟨i, hi, e⟩ := List.mem_iff_getElem.mp hx
  have := h i (by omega)
  simp only [getV, List.getD_eq_getElem?_getD, List.getElem?_eq_getElem hi, Option.getD_some, e] at this
  exact this
theorem vec_of (G : Good (ent m) n) (s : Sh m n n) {v : List Int} (hv : v.length = n) (hN : prodI m v v < 600) : VecOk m n v :=
  ⟨hv, fun x hx => Nat.le_trans (get_mem hv (co_le G s hv (N := 599) (b := 122) (by omega) (by decide)) x hx) (by decide)⟩
theorem nz_get {v : List Int} (hv : v.length = n) (h : v ≠ zeros n) : ∃ i, i < n ∧ getV v i ≠ 0 := by
  refine Classical.byContradiction fun c => h ?_
  have z : ∀ i, i < n → getV v i = 0 := fun i hi => Classical.byContradiction fun q => c ⟨i, hi, q⟩
  refine list_ext hv (by simp [zeros]) fun i hi => ?_
  rw [z i hi]
  simp [getV, zeros, List.getD_eq_getElem?_getD, hi]
theorem nb_lt (n i : Nat) : nb n i < 600 := by
  unfold nb
  split <;> (try split) <;> omega
theorem lv_sm (G : Good (ent m) n) (s : Sh m n n) {k : Nat} {Ts : List Mx} {out : List (List Int × List Mx)} (h : Lvl m n k Ts out) (kn : k < n) {T : Mx} (hT : T ∈ Ts) {v : List Int} (hv : v.length = n) (hN : prodI m v v < 600) (v0 : v ≠ zeros n) : SmOk (T ++ [v]) (k + 1) n := by
  have n3 := G.n3
  obtain ⟨s0, p0, _⟩ := ((h.iff n3).2.2 T).mp hT
  have nm := h.nm G s (by omega) T hT
  have cv := co_le G s hv (N := 599) (b := 122) (by omega) (by decide)
  have e122 : ∀ i j, i < k + 1 → j < n → (ent (T ++ [v]) i j).natAbs ≤ 122 := fun i j hi hj => by
    rw [ent_app, s0.len]
    split
    · rename_i c
      have := co_le G s (s0.get c) (N := 599) (b := 122) (by have := nm i c; have := nb_lt n i; omega) (by decide) j hj
      exact this
    · rw [if_pos (by omega)]
      exact cv j hj
  obtain ⟨c, hc, hne⟩ := nz_get hv v0
  have ek : ∀ j, ent (T ++ [v]) k j = getV v j := fun j => by rw [ent_app, s0.len, if_neg (Nat.lt_irrefl _), if_pos rfl]
  have mnb : ∀ i j a b, i < k + 1 → j < k + 1 → a < n → b < n → (mn (ent (T ++ [v])) i j a b).natAbs ≤ 2 ^ 20 := fun i j a b hi hj ha hb => by
    unfold mn
    have h1 := mulb (e122 i a hi ha) (e122 j b hj hb)
    have h2 := mulb (e122 i b hi hb) (e122 j a hj ha)
    omega
  have mk : ∀ a, Bd (k + 1) n 0 a (ent (T ++ [v])) → Ms (k + 1) n 0 a (ent (T ++ [v])) → a < 2 ^ 70 → SmOk (T ++ [v]) (k + 1) n := fun a bd ms ha =>
    ⟨⟨a, ha, sh_app s0 hv, by omega, by omega, n3, by omega, fun i k _ _ h _ => by omega, fun i h => absurd h (Nat.not_lt_zero _), Iff.rfl, bd, ms⟩⟩
  have ms245 : Ms (k + 1) n 0 245 (ent (T ++ [v])) := .inr (.inl ⟨k, c, Nat.zero_le _, by omega, Nat.zero_le _, hc, by rw [ek]; exact hne, by have := e122 k c (by omega) hc; omega⟩)
  rcases Nat.eq_zero_or_pos k with k0 | k0
  · subst k0
    exact mk 245 (.one rfl fun j _ hj => Nat.le_trans (e122 0 j (by omega) hj) (by decide)) ms245 (by decide)
  · rcases Nat.lt_or_ge n 3 with c3 | c3
    · have e1 : k = 1 := by omega
      have e2 : n = 2 := by omega
      subst e1 e2
      exact mk 245 (.two rfl rfl (mnb 0 1 0 1 (by omega) (by omega) (by omega) (by omega)) (fun i j _ hi _ hj => Nat.le_trans (e122 i j hi hj) (by decide)) ⟨1, c, Nat.zero_le _, by omega, Nat.zero_le _, hc, by rw [ek]; exact hne, Nat.le_trans (e122 1 c (by omega) hc) (by decide)⟩) ms245 (by decide)
    · have e3 : n = 3 := by omega
      subst e3
      have q0 := nm 0 k0
      have r0 : ∀ j, j < 3 → (ent (T ++ [v]) 0 j).natAbs ≤ 12 := fun j hj => by
        rw [ent_app, s0.len, if_pos k0]
        exact co_le G s (s0.get k0) (N := 6) (b := 12) q0 (by decide) j hj
      have p1 := p0
      unfold Pr at p1
      rw [s0.len] at p1
      have pos := rowpos G p1 k0 (by decide)
      obtain ⟨j, hj, nej⟩ : ∃ j, j < 3 ∧ ent T 0 j ≠ 0 := by
        refine Classical.byContradiction fun q => ?_
        have z : ∀ j, j < 3 → ent T 0 j = 0 := fun j hj => Classical.byContradiction fun r => q ⟨j, hj, r⟩
        have : bil (ent m) 3 (ent T 0) (ent T 0) = 0 := sumN_zero fun i hi => sumN_zero fun j _ => by rw [z i hi]; simp
        omega
      have g25 : gB 25 = 2 ^ 20 := rfl
      refine mk 25 (.big rfl rfl (by omega) (Nat.le_refl _) (fun i j a b hi hj ha hb => by rw [g25]; exact mnb i j a b hi hj ha hb) (fun hk => ?_) fun i j hi hj => Nat.le_trans (e122 i j hi hj) (by decide)) (.inr (.inl ⟨0, j, Nat.le_refl _, by omega, Nat.zero_le _, hj, ?_, ?_⟩)) (by decide)
      · have ek2 : k = 2 := by omega
        subst ek2
        have q1 := nm 1 (by decide)
        have r1 : ∀ j, j < 3 → (ent (T ++ [v]) 1 j).natAbs ≤ 56 := fun j hj => by
          rw [ent_app, s0.len, if_pos (by decide)]
          exact co_le G s (s0.get (by decide)) (N := 127) (b := 56) q1 (by decide) j hj
        have r2 := fun j hj => e122 2 j (by decide) hj
        have t : ∀ a b c d, a < 3 → b < 3 → c < 3 → d < 3 → (ent (T ++ [v]) 1 a * ent (T ++ [v]) 2 b - ent (T ++ [v]) 1 c * ent (T ++ [v]) 2 d).natAbs ≤ 13664 := fun a b c d ha hb hc hd => by
          have h1 := mulb (r1 a ha) (r2 b hb)
          have h2 := mulb (r1 c hc) (r2 d hd)
          omega
        have t0 := mulb (r0 0 (by decide)) (t 1 2 2 1 (by decide) (by decide) (by decide) (by decide))
        have t1 := mulb (r0 1 (by decide)) (t 0 2 2 0 (by decide) (by decide) (by decide) (by decide))
        have t2 := mulb (r0 2 (by decide)) (t 0 1 1 0 (by decide) (by decide) (by decide) (by decide))
        show (detF 3 (ent (T ++ [v]))).natAbs ≤ 2 ^ 20
        simp only [detF]
        omega
      · rw [ent_app, s0.len, if_pos k0]
        exact nej
      · have := r0 j hj
        omega
theorem few_of (G : Good (ent m) n) (s : Sh m n n) {k : Nat} {F : List Mx} (nd : F.Nodup) (sh : ∀ T ∈ F, Sh T k n) (bs : List Nat) (lb : bs.length = k) (hq : ∀ T ∈ F, ∀ i, i < k → prodI m (T.getD i []) (T.getD i []) < (((bs.getD i 0 : Nat) : Int) + 1) * (((bs.getD i 0 : Nat) : Int) + 1)) : F.length ≤ (bs.map fun b => (2 * b + 1) ^ n).foldr (· * ·) 1 := by
  refine Nat.le_trans (G.few nd sh bs lb fun T hT i hi => ?_) (tupB_len n bs)
  have := hq T hT i hi
  rw [prod_bil s G.n3 ((sh T hT).get hi) ((sh T hT).get hi)] at this
  exact this
theorem mark_eqs {T : Mx} {u v : List Int} (e : markI m T v = markI m T u) : prodI m v v = prodI m u u ∧ ∀ i, i < T.length → prodI m (T.getD i []) v = prodI m (T.getD i []) u := by
  refine ⟨?_, fun i hi => ?_⟩
  · unfold markI at e
    exact (List.cons.inj e).1
  · rw [← mark_get hi, ← mark_get hi, e]
/-- of one table at most two -/
theorem two3 (G : Good (ent m) 3) (s : Sh m 3 3) {T : Mx} (sT : Sh T 2 3) (p : Pr 3 T) {u v z : List Int} (hu : u.length = 3) (hv : v.length = 3) (hz : z.length = 3) (e1 : markI m T v = markI m T u) (e2 : markI m T z = markI m T u) : u = v ∨ u = z ∨ v = z := by
  unfold Pr at p
  rw [sT.len] at p
  obtain ⟨Fc, hF, hd⟩ := p
  have dF : detF 3 (R3 (ent T 0) (ent T 1) (Fc 2)) = detF 3 Fc := by
    simp [R3, detF, hF 0 0 (by decide) (by decide), hF 0 1 (by decide) (by decide), hF 0 2 (by decide) (by decide), hF 1 0 (by decide) (by decide), hF 1 1 (by decide) (by decide), hF 1 2 (by decide) (by decide)]
  have a1 := mark_eqs e1
  have a2 := mark_eqs e2
  have tr : ∀ w : List Int, w.length = 3 → (prodI m w w = prodI m u u ∧ ∀ i, i < T.length → prodI m (T.getD i []) w = prodI m (T.getD i []) u) → bil (ent m) 3 (ent T 0) (getV w) = bil (ent m) 3 (ent T 0) (getV u) ∧ bil (ent m) 3 (ent T 1) (getV w) = bil (ent m) 3 (ent T 1) (getV u) ∧ bil (ent m) 3 (getV w) (getV w) = bil (ent m) 3 (getV u) (getV u) := fun w hw h => by
    have g0 := h.2 0 (by rw [sT.len]; decide)
    have g1 := h.2 1 (by rw [sT.len]; decide)
    have g2 := h.1
    rw [prod_bil s (by decide) (sT.get (by decide)) hw, prod_bil s (by decide) (sT.get (by decide)) hu] at g0 g1
    rw [prod_bil s (by decide) hw hw, prod_bil s (by decide) hu hu] at g2
    exact ⟨g0, g1, g2⟩
  rcases refl3 G (b1 := ent T 0) (b2 := ent T 1) (p := Fc 2) (u := getV u) (v := getV v) (z := getV z) (by rw [dF]; exact hd) (tr v hv a1) (tr z hz a2) with q | q | q
  · exact .inl (list_ext hv hu q).symm
  · exact .inr (.inl (list_ext hz hu q).symm)
  · exact .inr (.inr (list_ext hv hz q))
/-- tables of three rows over a few pairs -/
theorem len3x (G : Good (ent m) 3) (s : Sh m 3 3) {Ts F : List Mx} {out : List (List Int × List Mx)} (h : Lvl m 3 2 Ts out) (nd : F.Nodup) {mk : List Int} (hF : ∀ W ∈ F, ∃ T ∈ Ts, ∃ v : List Int, v.length = 3 ∧ markI m T v = mk ∧ W = T ++ [v]) : F.length ≤ 16000000 := by
  have i2 := (h.iff (by decide)).2.2
  have l2 : Ts.length ≤ 1520875 := Nat.le_trans (few_of G s h.nd (fun T hT => ((i2 T).mp hT).1) [2, 11] rfl fun T hT i hi => by
    have nm := h.nm G s (by decide) T hT i hi
    have : i = 0 ∨ i = 1 := by omega
    rcases this with rfl | rfl
    · have nm : _ ≤ (6 : Int) := nm
      show _ < (((2 : Nat) : Int) + 1) * (((2 : Nat) : Int) + 1)
      omega
    · have nm : _ ≤ (127 : Int) := nm
      show _ < (((11 : Nat) : Int) + 1) * (((11 : Nat) : Int) + 1)
      omega) (by decide)
  have : F.length ≤ 2 * Ts.length := len2x (fun W : Mx => W.take 2) Ts F nd (fun W hW => by
    obtain ⟨T, hT, v, hv, e, rfl⟩ := hF W hW
    have sT := ((i2 T).mp hT).1
    show (T ++ [v]).take 2 ∈ Ts
    rw [← sT.len, List.take_left]
    exact hT) fun x hx y hy z hz ey ez => by
    obtain ⟨T, hT, v, hv, e, rfl⟩ := hF x hx
    obtain ⟨T', hT', v', hv', e', rfl⟩ := hF y hy
    obtain ⟨T2, hT2, v2, hv2, e2, rfl⟩ := hF z hz
    have sT := ((i2 T).mp hT)
    have sT' := ((i2 T').mp hT').1
    have sT2 := ((i2 T2).mp hT2).1
    have r1 : T' = T := by
      have : (T' ++ [v']).take 2 = (T ++ [v]).take 2 := ey
      rwa [← sT.1.len, List.take_left, sT.1.len, ← sT'.len, List.take_left] at this
    have r2 : T2 = T := by
      have : (T2 ++ [v2]).take 2 = (T ++ [v]).take 2 := ez
      rwa [← sT.1.len, List.take_left, sT.1.len, ← sT2.len, List.take_left] at this
    subst r1 r2
    rcases two3 G s sT.1 sT.2.1 hv hv' hv2 (by rw [e, e']) (by rw [e, e2]) with q | q | q
    · exact .inl (by rw [q])
    · exact .inr (.inl (by rw [q]))
    · exact .inr (.inr (by rw [q]))
  omega
theorem row_app {T : Mx} {v : List Int} {k n i : Nat} (s : Sh T k n) : (T ++ [v]).getD i [] = if i < k then T.getD i [] else if i = k then v else [] := by
  simp only [List.getD_eq_getElem?_getD]
  split
  · rename_i c
    rw [List.getElem?_append_left (by rw [s.len]; exact c)]
  · rename_i c
    rw [List.getElem?_append_right (by rw [s.len]; omega), s.len]
    split
    · rename_i c2
      rw [c2, Nat.sub_self]
      rfl
    · have : i - k = (i - k - 1) + 1 := by omega
      rw [this]
      simp
theorem app_inj {T T' : Mx} {v v' : List Int} {k n : Nat} (s : Sh T k n) (s' : Sh T' k n) (e : T ++ [v] = T' ++ [v']) : T = T' ∧ v = v' := by
  have := List.append_inj e (by rw [s.len, s'.len])
  exact ⟨this.1, (List.cons.inj this.2).1⟩
theorem bs_le {n a b c d : Nat} (n3 : n ≤ 3) (h : 2 ≤ n) (x : n = 3 → (2 * a + 1) ^ 3 * ((2 * c + 1) ^ 3 * 1) ≤ 16000000) (y : n = 2 → (2 * a + 1) ^ 2 * ((2 * c + 1) ^ 2 * 1) ≤ 16000000) : (2 * a + 1) ^ n * ((2 * c + 1) ^ n * 1) ≤ 16000000 := by
  have : n = 2 ∨ n = 3 := by omega
  rcases this with rfl | rfl
  · exact y rfl
  · exact x rfl
theorem lcOk (G : Good (ent m) n) (s : Sh m n n) {k : Nat} {Ts : List Mx} {out : List (List Int × List Mx)} {N : Int} (h : Lvl m n k Ts out) (kn : k < n) (h1 : 1 ≤ N) (h6 : N < 600) : LcOk m n k N Ts := by
  have n3 := G.n3
  have it := (h.iff n3).2.2
  have nm := h.nm G s (by omega)
  have nlm := fun v => nl_iff G s (N := N) (v := v)
  have b0 : ∀ T ∈ Ts, 0 < k → prodI m (T.getD 0 []) (T.getD 0 []) ≤ if n = 3 then 6 else 11 := fun T hT k0 => nm T hT 0 k0
  refine ⟨latOk G s, h1, nrOk G rt64_ok h1 h6, kn, fun T hT => ((it T).mp hT).1.len, fun T hT b hb => ?_, fun v hv => vec_of G s ((nlm v).mp hv).1 (by have := ((nlm v).mp hv).2; omega), fun T hT v hv v0 => lv_sm G s h kn hT ((nlm v).mp hv).1 (by have := ((nlm v).mp hv).2; omega) v0, fun vs sv mk => ?_, ?_⟩
  · have sT := ((it T).mp hT).1
    obtain ⟨i, hi, e⟩ := List.mem_iff_getElem.mp hb
    have hi' : i < k := by rw [sT.len] at hi; exact hi
    have e2 : T.getD i [] = b := by rw [List.getD_eq_getElem?_getD, List.getElem?_eq_getElem hi, e]; rfl
    have := nm T hT i hi'
    rw [e2] at this
    exact vec_of G s (sT.row b hb) (by have := nb_lt n i; omega)
  · have svn : vs.Nodup := sv.nd (nl_nd n)
    have pn := List.Pairwise.filter (fun p : Mx × List Int => decide (markI m p.1 p.2 = mk)) (prs_nd h.nd svn)
    have pm : ∀ p, p ∈ (prs Ts vs).filter (fun p : Mx × List Int => decide (markI m p.1 p.2 = mk)) → p.1 ∈ Ts ∧ (p.2.length = n ∧ prodI m p.2 p.2 ≤ N) ∧ markI m p.1 p.2 = mk := fun p hp => by
      have hp := List.mem_filter.mp hp
      have h2 := mem_prs.mp hp.1
      exact ⟨h2.1, (nlm _).mp ((sv.mem _).mp h2.2).1, of_decide_eq_true hp.2⟩
    have wn : (((prs Ts vs).filter (fun p : Mx × List Int => decide (markI m p.1 p.2 = mk))).map fun p => p.1 ++ [p.2]).Nodup := nd_map pn fun p hp q hq e => by
      have := app_inj ((it _).mp (pm p hp).1).1 ((it _).mp (pm q hq).1).1 e
      exact Prod.ext this.1 this.2
    have wm : ∀ W ∈ ((prs Ts vs).filter (fun p : Mx × List Int => decide (markI m p.1 p.2 = mk))).map fun p => p.1 ++ [p.2], ∃ T ∈ Ts, ∃ v : List Int, v.length = n ∧ prodI m v v ≤ N ∧ markI m T v = mk ∧ W = T ++ [v] := fun W hW => by
      obtain ⟨p, hp, rfl⟩ := List.mem_map.mp hW
      have := pm p hp
      exact ⟨p.1, this.1, p.2, this.2.1.1, this.2.1.2, this.2.2, rfl⟩
    generalize ((prs Ts vs).filter (fun p : Mx × List Int => decide (markI m p.1 p.2 = mk))) = ps at *
    rw [← List.length_map (as := ps) (fun p : Mx × List Int => p.1 ++ [p.2])]
    generalize ps.map (fun p : Mx × List Int => p.1 ++ [p.2]) = F at *
    have sF : ∀ W ∈ F, Sh W (k + 1) n := fun W hW => by
      obtain ⟨T, hT, v, hv, _, _, rfl⟩ := wm W hW
      exact sh_app ((it T).mp hT).1 hv
    have k3 : k = 0 ∨ k = 1 ∨ k = 2 := by omega
    rcases k3 with rfl | rfl | rfl
    · refine Nat.le_trans (few_of G s wn sF [24] rfl fun W hW i hi => ?_) ?_
      · obtain ⟨T, hT, v, hv, hN, _, rfl⟩ := wm W hW
        obtain rfl : i = 0 := by omega
        rw [row_app ((it T).mp hT).1]
        show prodI m v v < (((24 : Nat) : Int) + 1) * (((24 : Nat) : Int) + 1)
        omega
      · show 49 ^ n * 1 ≤ _
        have : 49 ^ n ≤ 49 ^ 3 := Nat.pow_le_pow_right (by decide) n3
        omega
    · have last : ∀ W ∈ F, prodI m (W.getD 1 []) (W.getD 1 []) < 625 := fun W hW => by
        obtain ⟨T, hT, v, hv, hN, _, rfl⟩ := wm W hW
        rw [row_app ((it T).mp hT).1]
        show prodI m v v < 625
        omega
      have first : ∀ W ∈ F, prodI m (W.getD 0 []) (W.getD 0 []) ≤ if n = 3 then 6 else 11 := fun W hW => by
        obtain ⟨T, hT, v, hv, hN, _, rfl⟩ := wm W hW
        rw [row_app ((it T).mp hT).1]
        exact b0 T hT (by decide)
      rcases Nat.lt_or_ge n 3 with c3 | c3
      · obtain rfl : n = 2 := by omega
        refine Nat.le_trans (few_of G s wn sF [3, 24] rfl fun W hW i hi => ?_) (by decide)
        have : i = 0 ∨ i = 1 := by omega
        rcases this with rfl | rfl
        · have := first W hW
          show _ < (((3 : Nat) : Int) + 1) * (((3 : Nat) : Int) + 1)
          rw [if_neg (by decide)] at this
          omega
        · exact last W hW
      · obtain rfl : n = 3 := by omega
        refine Nat.le_trans (few_of G s wn sF [2, 24] rfl fun W hW i hi => ?_) (by decide)
        have : i = 0 ∨ i = 1 := by omega
        rcases this with rfl | rfl
        · have := first W hW
          show _ < (((2 : Nat) : Int) + 1) * (((2 : Nat) : Int) + 1)
          rw [if_pos rfl] at this
          omega
        · exact last W hW
    · obtain rfl : n = 3 := by omega
      exact len3x G s h wn fun W hW => by
        obtain ⟨T, hT, v, hv, _, e, rfl⟩ := wm W hW
        exact ⟨T, hT, v, hv, e, rfl⟩
  · have k3 : k = 0 ∨ k = 1 ∨ k = 2 := by omega
    rcases k3 with rfl | rfl | rfl
    · cases h
      decide
    · refine Nat.le_trans (few_of G s h.nd (fun T hT => ((it T).mp hT).1) [24] rfl fun W hW i hi => ?_) ?_
      · have := nm W hW i hi
        have := nb_lt n i
        obtain rfl : i = 0 := by omega
        show _ < (((24 : Nat) : Int) + 1) * (((24 : Nat) : Int) + 1)
        omega
      · show 49 ^ n * 1 ≤ _
        have : 49 ^ n ≤ 49 ^ 3 := Nat.pow_le_pow_right (by decide) n3
        omega
    · obtain rfl : n = 3 := by omega
      refine Nat.le_trans (few_of G s h.nd (fun T hT => ((it T).mp hT).1) [2, 11] rfl fun W hW i hi => ?_) (by decide)
      have nm := nm W hW i hi
      have : i = 0 ∨ i = 1 := by omega
      rcases this with rfl | rfl
      · have nm : _ ≤ (6 : Int) := nm
        show _ < (((2 : Nat) : Int) + 1) * (((2 : Nat) : Int) + 1)
        omega
      · have nm : _ ≤ (127 : Int) := nm
        show _ < (((11 : Nat) : Int) + 1) * (((11 : Nat) : Int) + 1)
        omega
theorem lv_fw (G : Good (ent m) n) (s : Sh m n n) {Ts : List Mx} {out : List (List Int × List Mx)} (h : Lvl m n n Ts out) : Ts.length ≤ 16000000 := by
  have n3 := G.n3
  have n1 := G.n1
  have it := (h.iff n3).2.2
  have nm := h.nm G s (Nat.le_refl _)
  have nn : n = 1 ∨ n = 2 ∨ n = 3 := by omega
  rcases nn with rfl | rfl | rfl
  · refine Nat.le_trans (few_of G s h.nd (fun T hT => ((it T).mp hT).1) [24] rfl fun W hW i hi => ?_) (by decide)
    have := nm W hW i hi
    have := nb_lt 1 i
    obtain rfl : i = 0 := by omega
    show _ < (((24 : Nat) : Int) + 1) * (((24 : Nat) : Int) + 1)
    omega
  · refine Nat.le_trans (few_of G s h.nd (fun T hT => ((it T).mp hT).1) [3, 13] rfl fun W hW i hi => ?_) (by decide)
    have nm := nm W hW i hi
    have : i = 0 ∨ i = 1 := by omega
    rcases this with rfl | rfl
    · have nm : _ ≤ (11 : Int) := nm
      show _ < (((3 : Nat) : Int) + 1) * (((3 : Nat) : Int) + 1)
      omega
    · have nm : _ ≤ (178 : Int) := nm
      show _ < (((13 : Nat) : Int) + 1) * (((13 : Nat) : Int) + 1)
      omega
  · cases h with
    | succ h M =>
      exact len3x G s h M.nd fun W hW => by
        obtain ⟨T, hT, v, hv, _, e, eW⟩ := (M.mem W).mp hW
        exact ⟨T, hT, v, hv, e, eW⟩
theorem lvOk (G : Good (ent m) n) (s : Sh m n n) : LvOk m n :=
  ⟨latOk G s, fun i hi => ⟨G.dpos hi, by have := (G.dg i hi).1; omega⟩, fun N _ _ v => nl_iff G s, fun N => nl_nd n, fun k Ts out N h kn h1 h6 => lcOk G s h kn h1 h6, fun Ts out h => lv_fw G s h, fun k Ts out h kn => lv_go G s h kn⟩
end
end Gm
end
/-! Lm -/
section
set_option Elab.async false
set_option linter.all false
set_option maxRecDepth 100000
namespace Gp
/-! ### products of small tables -/
theorem lin_cg {A B : Fn} {x y : Vec} {n j : Nat} (hj : j < n) (hA : ∀ i j, i < n → j < n → A i j = B i j) (hx : ∀ i, i < n → x i = y i) : lin A n x j = lin B n y j := sumN_cg fun i hi => by rw [hA i j hi hj, hx i hi]
theorem det_mul {n : Nat} (n3 : n ≤ 3) (W M : Fn) : detF n (fun i => lin M n (W i)) = detF n W * detF n M := by
  have : n = 0 ∨ n = 1 ∨ n = 2 ∨ n = 3 := by omega
  rcases this with rfl | rfl | rfl | rfl
  · rfl
  · simp [detF, lin, sumN]
  · simp [detF, lin, sumN]
    grind
  · simp [detF, lin, sumN]
    grind
def Un (n : Nat) (M : Fn) : Prop := detF n M = 1 ∨ detF n M = -1
theorem Comp.mul {h n : Nat} (n3 : n ≤ 3) {W M : Fn} (d : Un n M) (c : Comp h n W) : Comp h n (fun i => lin M n (W i)) := by
  obtain ⟨F, hF, hd⟩ := c
  refine ⟨fun i => lin M n (F i), fun i k hi hk => lin_cg hk (fun _ _ _ _ => rfl) fun j hj => hF i j hi hj, ?_⟩
  rw [det_mul n3]
  rcases hd with e | e <;> rcases d with e2 | e2 <;> rw [e, e2] <;> decide
theorem Comp.full {n : Nat} (n3 : n ≤ 3) {W : Fn} : Comp n n W ↔ Un n W := by
  constructor
  · rintro ⟨F, hF, hd⟩
    unfold Un
    rw [← detF_cg hF n3]
    exact hd
  · intro d
    exact ⟨W, fun _ _ _ _ => rfl, d⟩
theorem sh_lit {T : Mx} {n : Nat} (s : Sh T n n) (n3 : n ≤ 3) (n1 : 1 ≤ n) : (n = 1 ∧ ∃ a, T = [[a]]) ∨ (n = 2 ∧ ∃ a b c d, T = [[a, b], [c, d]]) ∨ (n = 3 ∧ ∃ a b c d e f g h i, T = [[a, b, c], [d, e, f], [g, h, i]]) := by
  have : n = 1 ∨ n = 2 ∨ n = 3 := by omega
  have l := s.len
  have r := s.row
  rcases this with rfl | rfl | rfl
  · match T, l with
    | [x], _ =>
      have hx := r x (by simp)
      match x, hx with
      | [a], _ => exact .inl ⟨rfl, a, rfl⟩
  · match T, l with
    | [x, y], _ =>
      have hx := r x (by simp)
      have hy := r y (by simp)
      match x, hx, y, hy with
      | [a, b], _, [c, d], _ => exact .inr (.inl ⟨rfl, a, b, c, d, rfl⟩)
  · match T, l with
    | [x, y, z], _ =>
      have hx := r x (by simp)
      have hy := r y (by simp)
      have hz := r z (by simp)
      match x, hx, y, hy, z, hz with
      | [a, b, c], _, [d, e, f], _, [g, h, i], _ => exact .inr (.inr ⟨rfl, a, b, c, d, e, f, g, h, i, rfl⟩)
end Gp
namespace Gm
open Gp
def invT (T : Mx) (n : Nat) : Mx := scaleM (detF n (ent T)) (adjM T n)
theorem invT_sh (T : Mx) (n : Nat) : Sh (invT T n) n n := by
  refine scaleM_sh ⟨by simp [adjM], fun r hr => ?_⟩
  unfold adjM at hr
  obtain ⟨i, _, rfl⟩ := List.mem_map.mp hr
  simp
theorem n3of {n i : Nat} (n3 : n ≤ 3) (hi : i < n) : i = 0 ∨ i = 1 ∨ i = 2 := by omega
theorem inv_l {T : Mx} {n : Nat} (s : Sh T n n) (n3 : n ≤ 3) (n1 : 1 ≤ n) (d : Un n (ent T)) : ∀ i j, i < n → j < n → lin (ent T) n (ent (invT T n) i) j = if i = j then 1 else 0 := by
  intro i j hi hj
  have d2 : detF n (ent T) * detF n (ent T) = 1 := by rcases d with e | e <;> rw [e] <;> rfl
  rcases sh_lit s n3 n1 with ⟨rfl, a, rfl⟩ | ⟨rfl, a, b, c, d, rfl⟩ | ⟨rfl, a, b, c, d, e, f, g, h, k, rfl⟩
  · obtain rfl : i = 0 := by omega
    obtain rfl : j = 0 := by omega
    simp [lin, sumN, invT, scaleM, adjM, adjE, minorL, detF, ent, timesI, List.range_succ] at d2 ⊢
    grind
  · have hi' : i = 0 ∨ i = 1 := by omega
    have hj' : j = 0 ∨ j = 1 := by omega
    rcases hi' with rfl | rfl <;> rcases hj' with rfl | rfl <;> simp [lin, sumN, invT, scaleM, adjM, adjE, minorL, detF, ent, timesI, List.range_succ] at d2 ⊢ <;> grind
  · have hi' : i = 0 ∨ i = 1 ∨ i = 2 := by omega
    have hj' : j = 0 ∨ j = 1 ∨ j = 2 := by omega
    rcases hi' with rfl | rfl | rfl <;> rcases hj' with rfl | rfl | rfl <;> simp [lin, sumN, invT, scaleM, adjM, adjE, minorL, detF, ent, timesI, List.range_succ] at d2 ⊢ <;> grind
theorem inv_r {T : Mx} {n : Nat} (s : Sh T n n) (n3 : n ≤ 3) (n1 : 1 ≤ n) (d : Un n (ent T)) : ∀ i j, i < n → j < n → lin (ent (invT T n)) n (ent T i) j = if i = j then 1 else 0 := by
  intro i j hi hj
  have d2 : detF n (ent T) * detF n (ent T) = 1 := by rcases d with e | e <;> rw [e] <;> rfl
  rcases sh_lit s n3 n1 with ⟨rfl, a, rfl⟩ | ⟨rfl, a, b, c, d, rfl⟩ | ⟨rfl, a, b, c, d, e, f, g, h, k, rfl⟩
  · obtain rfl : i = 0 := by omega
    obtain rfl : j = 0 := by omega
    simp [lin, sumN, invT, scaleM, adjM, adjE, minorL, detF, ent, timesI, List.range_succ] at d2 ⊢
    grind
  · have hi' : i = 0 ∨ i = 1 := by omega
    have hj' : j = 0 ∨ j = 1 := by omega
    rcases hi' with rfl | rfl <;> rcases hj' with rfl | rfl <;> simp [lin, sumN, invT, scaleM, adjM, adjE, minorL, detF, ent, timesI, List.range_succ] at d2 ⊢ <;> grind
  · have hi' : i = 0 ∨ i = 1 ∨ i = 2 := by omega
    have hj' : j = 0 ∨ j = 1 ∨ j = 2 := by omega
    rcases hi' with rfl | rfl | rfl <;> rcases hj' with rfl | rfl | rfl <;> simp [lin, sumN, invT, scaleM, adjM, adjE, minorL, detF, ent, timesI, List.range_succ] at d2 ⊢ <;> grind
end Gm
end
/-! Ln -/
section
set_option Elab.async false
set_option linter.all false
set_option maxRecDepth 100000
namespace Gm
open PySem PySem.Spec PyProof.Rows L2 DL Gp
/-! ### tables times tables -/
theorem ent_mulM {T M : Mx} {k n i j : Nat} (n3 : n ≤ 3) (s : Sh T k n) (sM : Sh M n n) (hi : i < k) (hj : j < n) : ent (mulM T M n) i j = lin (ent M) n (ent T i) j := by
  rw [ent_mul s sM hi hj, dot_sum n3 (s.get hi) (by rw [List.length_map, sM.len])]
  refine sumN_cg fun a ha => ?_
  have e : getV (M.map fun r => r.getD j 0) a = ent M a j := getD_map _ _ _ [] _ (by rw [sM.len]; exact ha)
  rw [e]
  rfl
theorem mx_ext {T T' : Mx} {k n : Nat} (s : Sh T k n) (s' : Sh T' k n) (h : ∀ i j, i < k → j < n → ent T i j = ent T' i j) : T = T' := by
  refine List.ext_getElem (by rw [s.len, s'.len]) fun i h1 h2 => ?_
  have hi : i < k := by rw [s.len] at h1; exact h1
  refine list_ext (s.row _ (List.getElem_mem h1)) (s'.row _ (List.getElem_mem h2)) fun j hj => ?_
  have := h i j hi hj
  simpa [ent, getV, List.getD_eq_getElem?_getD, h1, h2] using this
theorem row_get {T : Mx} {k n i : Nat} (s : Sh T k n) (hi : i < k) : ∀ j, getV (T.getD i []) j = ent T i j := fun _ => rfl
/-- an isometry: one = M two M^t -/
structure Iso (one two M : Mx) (n : Nat) : Prop where
  n1 : 1 ≤ n
  n3 : n ≤ 3
  s1 : Sh one n n
  s2 : Sh two n n
  y1 : ∀ i j, i < n → j < n → ent one i j = ent one j i
  y2 : ∀ i j, i < n → j < n → ent two i j = ent two j i
  sM : Sh M n n
  un : Gp.Un n (ent M)
  eq : ∀ i j, i < n → j < n → mvF (ent two) n (ent M) i j = ent one i j
theorem un_inv {M : Mx} {n : Nat} (n1 : 1 ≤ n) (n3 : n ≤ 3) (s : Sh M n n) (u : Gp.Un n (ent M)) : Gp.Un n (ent (invI M n)) := by
  have e : detF n (fun i => lin (ent M) n (ent (invI M n) i)) = 1 := by
    have : detF n (fun i => lin (ent M) n (ent (invI M n) i)) = detF n (fun i j => if i = j then 1 else 0) := detF_cg (fun i j hi hj => inv_l s n3 n1 u i j hi hj) n3
    rw [this]
    have : n = 1 ∨ n = 2 ∨ n = 3 := by omega
    rcases this with rfl | rfl | rfl <;> simp [detF]
  rw [det_mul n3] at e
  unfold Gp.Un at *
  rcases u with h | h
  · rw [h] at e; left; omega
  · rw [h] at e; right; omega
section
variable {one two M : Mx} {n : Nat}
theorem Iso.bil (I : Iso one two M n) (x y : Vec) : Gp.bil (ent one) n x y = Gp.bil (ent two) n (lin (ent M) n x) (lin (ent M) n y) := by
  rw [← bil_mv I.y2]
  exact bil_cg (fun i j hi hj => (I.eq i j hi hj).symm) (fun _ _ => rfl) fun _ _ => rfl
theorem bil_ee {f : Fn} {i j : Nat} (hi : i < n) (hj : j < n) : Gp.bil f n (fun k => if i = k then 1 else 0) (fun k => if j = k then 1 else 0) = f i j := by
  have e : ∀ i : Nat, (fun k => if i = k then (1 : Int) else 0) = e1 i := fun i => funext fun k => by
    unfold e1
    by_cases h : i = k
    · rw [if_pos h, if_pos h.symm]
    · rw [if_neg h, if_neg fun q => h q.symm]
  rw [e, e]
  exact bil_e1 hi hj
theorem Iso.symm (I : Iso one two M n) : Iso two one (invI M n) n := by
  refine ⟨I.n1, I.n3, I.s2, I.s1, I.y2, I.y1, invT_sh M n, un_inv I.n1 I.n3 I.sM I.un, fun i j hi hj => ?_⟩
  show Gp.bil (ent one) n (ent (invI M n) i) (ent (invI M n) j) = _
  rw [I.bil]
  rw [← bil_ee (f := ent two) hi hj]
  exact bil_cg (fun _ _ _ _ => rfl) (fun k hk => inv_l I.sM I.n3 I.n1 I.un i k hi hk) fun k hk => inv_l I.sM I.n3 I.n1 I.un j k hj hk
theorem unit_ent {i j : Nat} (hi : i < n) (hj : j < n) : ent (unitM n) i j = if i = j then 1 else 0 := by
  unfold ent unitM
  rw [getD_map _ _ _ 0 _ (by rw [List.length_range]; exact hi)]
  simp [List.getD_eq_getElem?_getD, hi, hj]
theorem Iso.refl (n1 : 1 ≤ n) (n3 : n ≤ 3) (s : Sh one n n) (y : ∀ i j, i < n → j < n → ent one i j = ent one j i) : Iso one one (unitM n) n := by
  refine ⟨n1, n3, s, s, y, y, unitM_sh n, ?_, fun i j hi hj => ?_⟩
  · unfold Gp.Un
    rw [detF_cg (fun i j hi hj => unit_ent hi hj) n3]
    have : n = 1 ∨ n = 2 ∨ n = 3 := by omega
    rcases this with rfl | rfl | rfl <;> simp [detF]
  · show Gp.bil (ent one) n (ent (unitM n) i) (ent (unitM n) j) = _
    rw [← bil_ee (f := ent one) hi hj]
    exact bil_cg (fun _ _ _ _ => rfl) (fun k hk => unit_ent hi hk) fun k hk => unit_ent hj hk
theorem mark_vals {m T : Mx} {k i : Nat} (n3 : n ≤ 3) (sm : Sh m n n) (s : Sh T k n) (hi : i < k) : (∀ j, j < i → (markI m (T.take i) (T.getD i [])).getD (j + 1) 0 = Gp.bil (ent m) n (ent T j) (ent T i)) ∧ (markI m (T.take i) (T.getD i [])).getD 0 0 = Gp.bil (ent m) n (ent T i) (ent T i) ∧ (markI m (T.take i) (T.getD i [])).length = i + 1 := by
  refine ⟨fun j hj => ?_, ?_, ?_⟩
  · rw [mark_get (by rw [(sh_take s (by omega)).len]; exact hj)]
    have e : (T.take i).getD j [] = T.getD j [] := by
      simp only [List.getD_eq_getElem?_getD, List.getElem?_take, if_pos hj]
    rw [e, prod_bil sm n3 (s.get (by omega)) (s.get hi)]
    rfl
  · show prodI m (T.getD i []) (T.getD i []) = _
    rw [prod_bil sm n3 (s.get hi) (s.get hi)]
    rfl
  · rw [markI_len, (sh_take s (by omega)).len]
/-- marks by the products -/
theorem mark_iff {m m' T T' : Mx} {k i : Nat} (n3 : n ≤ 3) (sm : Sh m n n) (sm' : Sh m' n n) (s : Sh T k n) (s' : Sh T' k n) (hi : i < k) : markI m (T.take i) (T.getD i []) = markI m' (T'.take i) (T'.getD i []) ↔ ∀ j, j ≤ i → Gp.bil (ent m) n (ent T j) (ent T i) = Gp.bil (ent m') n (ent T' j) (ent T' i) := by
  have g1 := mark_vals n3 sm s hi
  have g2 := mark_vals n3 sm' s' hi
  constructor
  · intro e j hj
    rcases Nat.lt_or_ge j i with c | c
    · rw [← g1.1 j c, ← g2.1 j c, e]
    · obtain rfl : j = i := by omega
      rw [← g1.2.1, ← g2.2.1, e]
  · intro h
    refine list_ext g1.2.2 g2.2.2 fun a ha => ?_
    cases a with
    | zero =>
      have := h i (Nat.le_refl _)
      rw [← g1.2.1, ← g2.2.1] at this
      exact this
    | succ j =>
      have := h j (by omega)
      rw [← g1.1 j (by omega), ← g2.1 j (by omega)] at this
      exact this
theorem Iso.mark (I : Iso one two M n) {T : Mx} {k i : Nat} (s : Sh T k n) (hi : i < k) : markI two ((mulM T M n).take i) ((mulM T M n).getD i []) = markI one (T.take i) (T.getD i []) := by
  refine (mark_iff I.n3 I.s2 I.s1 (mulM_sh s) s hi).mpr fun j hj => ?_
  rw [I.bil]
  exact bil_cg (fun _ _ _ _ => rfl) (fun a ha => ent_mulM I.n3 s I.sM (by omega) ha) fun a ha => ent_mulM I.n3 s I.sM hi ha
theorem Iso.pr (I : Iso one two M n) {T : Mx} {k : Nat} (s : Sh T k n) (p : Pr n T) : Pr n (mulM T M n) := by
  unfold Pr at *
  rw [(mulM_sh (m' := M) (w := n) s).len]
  rw [s.len] at p
  exact (Comp.congr fun i j hi hj => (ent_mulM I.n3 s I.sM hi hj).symm).mp (p.mul I.n3 I.un)
theorem Iso.le (I : Iso one two M n) {k : Nat} {Ts F Ts' F' : List Mx} {mk mk' : List Int} {out out' : List (List Int × List Mx)} (h : Lvl one n k Ts out) (h' : Lvl two n k Ts' out') (e : out.map (·.1) = out'.map (·.1)) (A : Mn one n Ts mk F) (B : Mn two n Ts' mk' F') : HT.lexLt mk mk' = false := by
  obtain ⟨T, hT, v, hv, hp, em⟩ := A.ex
  obtain ⟨s0, p0, g0⟩ := ((h.iff I.n3).2.2 T).mp hT
  have sW := sh_app s0 hv
  have sW' := mulM_sh (m' := M) (w := n) sW
  have pW := I.pr sW hp
  have eW := take_app sW'
  have mem : (mulM (T ++ [v]) M n).take k ∈ Ts' := by
    refine ((h'.iff I.n3).2.2 _).mpr ⟨sh_take sW' (by omega), pr_take sW' (by omega) pW, fun i hi => ?_⟩
    rw [← e, ← g0 i hi]
    have := I.mark sW (i := i) (by omega)
    rw [List.take_take, Nat.min_eq_left (by omega)]
    have e2 : ((mulM (T ++ [v]) M n).take k).getD i [] = (mulM (T ++ [v]) M n).getD i [] := by
      simp only [List.getD_eq_getElem?_getD, List.getElem?_take, if_pos hi]
    rw [e2, this, row_app s0, if_pos hi, List.take_append_of_le_length (by rw [s0.len]; omega)]
  have := B.le _ mem _ (sW'.get (Nat.lt_succ_self k)) (by rw [← eW]; exact pW)
  rw [I.mark sW (Nat.lt_succ_self k), row_app s0, if_neg (Nat.lt_irrefl _), if_pos rfl] at this
  have e3 : (T ++ [v]).take k = T := by rw [← s0.len, List.take_left]
  rw [e3, em] at this
  exact this
/-- isometric lattices have the same marks -/
theorem Iso.same (I : Iso one two M n) {k : Nat} {Ts : List Mx} {out : List (List Int × List Mx)} (h : Lvl one n k Ts out) : ∀ {Ts' : List Mx} {out' : List (List Int × List Mx)}, Lvl two n k Ts' out' → out.map (·.1) = out'.map (·.1) := by
  induction h with
  | zero =>
    intro Ts' out' h'
    cases h'
    rfl
  | @succ k Ts F out mk h A ih =>
    intro Ts' out' h'
    cases h' with
    | @succ _ Ts2 F2 out2 mk2 h2 B =>
      have e := ih h2
      have l1 := I.le h h2 e A B
      have l2 := I.symm.le h2 h e.symm B A
      rw [List.map_append, List.map_append, e, lx_tri _ _ l1 l2]
      rfl
theorem Iso.form (I : Iso one two M n) {k : Nat} {Ts Ts' : List Mx} {out out' : List (List Int × List Mx)} (h : Lvl one n k Ts out) (h' : Lvl two n k Ts' out') : formI out = formI out' := by
  unfold formI
  rw [I.same h h']
end
end Gm
end
/-! Lo -/
section
set_option Elab.async false
set_option linter.all false
set_option maxRecDepth 100000
namespace Gp
theorem adjv {f : Fn} {n i : Nat} (n3 : n ≤ 3) (hi : i < n) (sy : ∀ i j, i < n → j < n → f i j = f j i) : ∃ a : Vec, (∀ x, bil f n a x = detF n f * x i) ∧ a i = detF (n - 1) fun a b => f (if a < i then a else a + 1) (if b < i then b else b + 1) := by
  have : n = 1 ∨ n = 2 ∨ n = 3 := by omega
  rcases this with rfl | rfl | rfl
  · obtain rfl : i = 0 := by omega
    exact ⟨fun _ => 1, fun x => by simp [bil, sumN, detF], by simp [detF]⟩
  · have s := sy 0 1 (by omega) (by omega)
    have hi' : i = 0 ∨ i = 1 := by omega
    rcases hi' with rfl | rfl
    · exact ⟨fun k => if k = 0 then f 1 1 else - f 0 1, fun x => by simp [bil, sumN, detF]; grind, by simp [detF]⟩
    · exact ⟨fun k => if k = 0 then - f 0 1 else f 0 0, fun x => by simp [bil, sumN, detF]; grind, by simp [detF]⟩
  · have s := sy 0 1 (by omega) (by omega)
    have s2 := sy 0 2 (by omega) (by omega)
    have s3 := sy 1 2 (by omega) (by omega)
    have hi' : i = 0 ∨ i = 1 ∨ i = 2 := by omega
    rcases hi' with rfl | rfl | rfl
    · exact ⟨fun k => if k = 0 then f 1 1 * f 2 2 - f 1 2 * f 1 2 else if k = 1 then f 0 2 * f 1 2 - f 0 1 * f 2 2 else f 0 1 * f 1 2 - f 0 2 * f 1 1, fun x => by simp [bil, sumN, detF]; grind, by simp [detF]; grind⟩
    · exact ⟨fun k => if k = 0 then f 0 2 * f 1 2 - f 0 1 * f 2 2 else if k = 1 then f 0 0 * f 2 2 - f 0 2 * f 0 2 else f 0 1 * f 0 2 - f 0 0 * f 1 2, fun x => by simp [bil, sumN, detF]; grind, by simp [detF]; grind⟩
    · exact ⟨fun k => if k = 0 then f 0 1 * f 1 2 - f 0 2 * f 1 1 else if k = 1 then f 0 1 * f 0 2 - f 0 0 * f 1 2 else f 0 0 * f 1 1 - f 0 1 * f 0 1, fun x => by simp [bil, sumN, detF]; grind, by simp [detF]; grind⟩
end Gp
namespace Gm
open PySem PySem.Spec PyProof.Rows L2 DL Gp
theorem root_ge (n : Int) : ∀ (k r : Nat), r ≤ k → (r : Int) * (r : Int) ≤ n → r ≤ rootL n k
  | 0, r, h, _ => by omega
  | k + 1, r, h, hr => by
    have le := rootL_le n k
    unfold rootL
    rcases Nat.lt_or_ge k r with c | c
    · have er : r = k + 1 := by omega
      subst er
      have e1 : ((k + 1 : Nat) : Int) = (k : Int) + 1 := by omega
      rw [e1] at hr
      have ih := root_ge n k k (Nat.le_refl _) (by
        have : ((k : Int) + 1) * ((k : Int) + 1) = (k : Int) * k + 2 * k + 1 := by grind
        omega)
      have ek : rootL n k = k := by omega
      rw [ek, if_pos hr]
      exact Nat.le_refl _
    · have ih := root_ge n k r c hr
      split <;> omega
theorem root_sq (n : Int) (h : 0 ≤ n) : ∀ k, ((rootL n k : Nat) : Int) * ((rootL n k : Nat) : Int) ≤ n
  | 0 => by simpa [rootL] using h
  | k + 1 => by
    have ih := root_sq n h k
    unfold rootL
    split
    · rename_i c
      have : ((rootL n k + 1 : Nat) : Int) = (rootL n k : Int) + 1 := by omega
      rw [this]
      exact c
    · exact ih
section
variable {g : Mx} {n : Nat}
theorem most_of (G : Good (ent g) n) (s : Sh g n n) {N : Int} (h1 : 1 ≤ N) (h8 : N ≤ 8) {i : Nat} (hi : i < n) : mostL g N n i ≤ 14 ∧ ∀ x : Vec, bil (ent g) n x x ≤ N → (x i).natAbs ≤ mostL g N n i := by
  obtain ⟨a, ha, hai⟩ := adjv G.n3 hi G.sy
  have em : detF (n - 1) (ent (minorG g i i)) = a i := by rw [hai]; exact det_minorG s G.n3 hi hi
  have d1 := G.ld (k := n) G.n1 (Nat.le_refl _)
  unfold mostL
  rw [em]
  generalize hd : detF n (ent g) = d at *
  have aa := ha a
  have nn := G.nn a
  rw [aa] at nn
  have a0 : 0 ≤ a i := by
    refine Int.not_lt.mp fun c => ?_
    have := Int.mul_neg_of_pos_of_neg (show 0 < d by omega) c
    omega
  have a25 : a i ≤ 25 * d := by
    have := G.co a hi
    rw [aa] at this
    rcases Int.lt_or_eq_of_le a0 with c | c
    · have e : 25 * (d * a i) = 25 * d * a i := by grind
      rw [e] at this
      exact Int.le_of_mul_le_mul_right this c
    · omega
  have na0 : 0 ≤ N * a i := Int.mul_nonneg (by omega) a0
  have fd : (N * a i).fdiv d = N * a i / d := Int.fdiv_eq_ediv_of_nonneg _ (by omega)
  rw [fd]
  constructor
  · have r := root_sq (N * a i / d) (Int.ediv_nonneg na0 (by omega)) 200
    have up : N * a i / d ≤ 200 := by
      refine Int.ediv_le_of_le_mul (by omega) ?_
      have := Int.mul_le_mul h8 a25 a0 (by decide)
      omega
    generalize rootL (N * a i / d) 200 = q at *
    refine Nat.le_of_not_lt fun c => ?_
    have : (15 : Int) * 15 ≤ (q : Int) * q := Int.mul_le_mul (by omega) (by omega) (by decide) (by omega)
    omega
  · intro x hx
    have cx := G.cb hx (b := 15) (by omega) (by decide) hi
    refine root_ge _ 200 _ (by omega) ?_
    rw [Int.natAbs_mul_self' (x i)]
    have c := G.csf a x
    rw [ha x, aa] at c
    refine Int.le_ediv_of_mul_le (by omega) ?_
    have e1 : d * x i * (d * x i) = d * (x i * x i * d) := by grind
    have e2 : d * a i * bil (ent g) n x x = d * (a i * bil (ent g) n x x) := by grind
    rw [e1, e2] at c
    have c2 := Int.le_of_mul_le_mul_left c (show 0 < d by omega)
    have c3 := Int.mul_le_mul_of_nonneg_left hx a0
    have e3 : N * a i = a i * N := Int.mul_comm _ _
    omega
theorem box_mem {r : Nat} {x : Int} : x ∈ boxI r ↔ x.natAbs ≤ r := by
  unfold boxI
  rw [List.mem_map]
  constructor
  · rintro ⟨i, hi, rfl⟩
    have := List.mem_range.mp hi
    omega
  · intro h
    exact ⟨(x + r).toNat, List.mem_range.mpr (by omega), by omega⟩
theorem box_nd (r : Nat) : (boxI r).Nodup := nd_map List.nodup_range fun x _ y _ e => by omega
theorem box_len (r : Nat) : (boxI r).length = 2 * r + 1 := by simp [boxI]
theorem nd_flat {α β : Type} {h : α → List β} {xs : List α} (nd : xs.Nodup) (h1 : ∀ x ∈ xs, (h x).Nodup) (h2 : ∀ x ∈ xs, ∀ y ∈ xs, ∀ z, z ∈ h x → z ∈ h y → x = y) : (xs.flatMap h).Nodup := by
  induction xs with
  | nil => exact List.Pairwise.nil
  | cons x xs ih =>
    have hc := List.nodup_cons.mp nd
    rw [List.flatMap_cons]
    refine List.nodup_append.mpr ⟨h1 x (List.mem_cons_self ..), ih hc.2 (fun y hy => h1 y (List.mem_cons_of_mem _ hy)) fun a ha b hb => h2 a (List.mem_cons_of_mem _ ha) b (List.mem_cons_of_mem _ hb), fun z hz w hw e => ?_⟩
    subst e
    obtain ⟨y, hy, hzy⟩ := List.mem_flatMap.mp hw
    rw [h2 x (List.mem_cons_self ..) y (List.mem_cons_of_mem _ hy) z hz hzy] at hc
    exact hc.1 hy
theorem out_nd {N : Int} : ∀ i, (outL g N n i).Nodup
  | 0 => List.pairwise_singleton _ _
  | i + 1 => by
    unfold outL
    refine nd_flat (out_nd i) (fun v _ => nd_map (box_nd _) fun x _ y _ e => ?_) fun v hv u hu z h1 h2 => ?_
    · exact (List.cons.inj (List.append_cancel_left e)).1
    · obtain ⟨x, _, rfl⟩ := List.mem_map.mp h1
      obtain ⟨y, _, e⟩ := List.mem_map.mp h2
      exact (List.append_inj e (by rw [outL_len hu, outL_len hv])).1.symm
theorem out_mem {N : Int} : ∀ i v, v.length = i → (∀ j, j < i → (getV v j).natAbs ≤ mostL g N n j) → v ∈ outL g N n i
  | 0, v, hv, _ => by
    rw [List.length_eq_zero_iff.mp hv]
    exact List.mem_singleton.mpr rfl
  | i + 1, v, hv, h => by
    have hl : i < v.length := by omega
    have e : v = v.take i ++ [v[i]] := by
      conv => lhs; rw [← List.take_append_drop i v]
      congr 1
      rw [List.drop_eq_getElem_cons hl, List.drop_of_length_le (by omega)]
    unfold outL
    rw [List.mem_flatMap]
    refine ⟨v.take i, out_mem i _ (by rw [List.length_take]; omega) fun j hj => ?_, List.mem_map.mpr ⟨v[i], box_mem.mpr ?_, e.symm⟩⟩
    · have := h j (by omega)
      simpa [getV, List.getD_eq_getElem?_getD, List.getElem?_take, hj] using this
    · have := h i (by omega)
      simpa [getV, List.getD_eq_getElem?_getD, hl] using this
theorem out_sz {N : Int} (h : ∀ i, i < n → mostL g N n i ≤ 14) : ∀ i, i ≤ n → (outL g N n i).length ≤ 29 ^ i
  | 0, _ => Nat.le_refl _
  | i + 1, hi => by
    unfold outL
    rw [Nat.pow_succ]
    have := h i (by omega)
    exact Nat.le_trans (flen _ 29 _ fun v _ => by rw [List.length_map, box_len]; omega) (Nat.mul_le_mul_right _ (out_sz h i (by omega)))
theorem near_mem (G : Good (ent g) n) (s : Sh g n n) {N : Int} (h1 : 1 ≤ N) (h8 : N ≤ 8) {v : List Int} : v ∈ nearL g N n ↔ v.length = n ∧ 0 < bil (ent g) n (getV v) (getV v) ∧ bil (ent g) n (getV v) (getV v) ≤ N := by
  unfold nearL
  rw [List.mem_filter, decide_eq_true_iff]
  constructor
  · rintro ⟨h, h2⟩
    have l := outL_len h
    rw [prodL_bil l l] at h2
    exact ⟨l, h2⟩
  · rintro ⟨l, h2⟩
    rw [prodL_bil l l]
    exact ⟨out_mem n v l fun j hj => (most_of G s h1 h8 hj).2 _ h2.2, h2⟩
theorem neOk (G : Good (ent g) n) (s : Sh g n n) {N : Int} (h1 : 1 ≤ N) (h8 : N ≤ 8) : NeOk' g N n := by
  have d1 := G.ld (k := n) G.n1 (Nat.le_refl _)
  have n3 := G.n3
  refine ⟨s, G.n1, n3, fun i j hi hj => Nat.le_trans (G.ebd hi hj) (by decide), by omega, ?_, by omega, fun i hi => ?_⟩
  · have b : ∀ i j, i < n → j < n → (ent g i j).natAbs ≤ 176 := fun i j hi hj => G.ebd hi hj
    have n1 := G.n1
    have nn : n = 1 ∨ n = 2 ∨ n = 3 := by omega
    rcases nn with rfl | rfl | rfl
    · have := b 0 0 (by decide) (by decide)
      simp only [detF]
      omega
    · have m1 := mulb (b 0 0 (by omega) (by omega)) (b 1 1 (by omega) (by omega))
      have m2 := mulb (b 0 1 (by omega) (by omega)) (b 1 0 (by omega) (by omega))
      simp only [detF]
      omega
    · have t : ∀ c d e f, c < 3 → d < 3 → e < 3 → f < 3 → (ent g 1 c * ent g 2 d - ent g 1 e * ent g 2 f).natAbs ≤ 61952 := fun c d e f hc hd he hf => by
        have m1 := mulb (b 1 c (by omega) (by omega)) (b 2 d (by omega) (by omega))
        have m2 := mulb (b 1 e (by omega) (by omega)) (b 2 f (by omega) (by omega))
        omega
      have t0 := mulb (b 0 0 (by omega) (by omega)) (t 1 2 2 1 (by omega) (by omega) (by omega) (by omega))
      have t1 := mulb (b 0 1 (by omega) (by omega)) (t 0 2 2 0 (by omega) (by omega) (by omega) (by omega))
      have t2 := mulb (b 0 2 (by omega) (by omega)) (t 0 1 1 0 (by omega) (by omega) (by omega) (by omega))
      simp only [detF]
      omega
  · have h := out_sz (g := g) (N := N) (fun i hi => (most_of G s h1 h8 hi).1) i hi
    have : 29 ^ i ≤ 29 ^ 3 := Nat.pow_le_pow_right (by decide) (by omega)
    omega
end
section
variable {one two : Mx} {n : Nat}
/-- a first lattice small enough for the law's search -/
structure OneOk (one : Mx) (n : Nat) : Prop where
  sh : Sh one n n
  sy : ∀ i j, i < n → j < n → ent one i j = ent one j i
  dg : ∀ i, i < n → 1 ≤ ent one i i ∧ ent one i i ≤ 8
theorem tup_mem (O : OneOk one n) (G : Good (ent two) n) (s : Sh two n n) : ∀ k, k ≤ n → ∀ T, T ∈ tupL one two n k ↔ Sh T k n ∧ ∀ i j, j ≤ i → i < k → bil (ent two) n (ent T j) (ent T i) = ent one j i
  | 0, _, T => by
    show T ∈ [[]] ↔ _
    rw [List.mem_singleton]
    constructor
    · rintro rfl
      exact ⟨⟨rfl, fun r hr => by cases hr⟩, fun i j _ hi => absurd hi (Nat.not_lt_zero _)⟩
    · intro h
      exact List.length_eq_zero_iff.mp h.1.len
  | k + 1, hk, T => by
    have ih := tup_mem O G s k (by omega)
    have kn : k < n := by omega
    have dg := O.dg k kn
    have nr := fun v => near_mem G s dg.1 dg.2 (v := v)
    have fit : ∀ T v, Sh T k n → v.length = n → (fitL one two k T v = true ↔ bil (ent two) n (getV v) (getV v) = ent one k k ∧ ∀ j, j < k → bil (ent two) n (ent T j) (getV v) = ent one j k) := fun T v sT hv => by
      unfold fitL
      rw [decide_eq_true_iff, prodL_bil hv hv]
      refine and_congr Iff.rfl ?_
      have l1 : (T.map fun b => prodL two b v).length = k := by rw [List.length_map, sT.len]
      have l2 : ((one.getD k []).take k).length = k := by rw [List.length_take, O.sh.get kn]; omega
      have g1 : ∀ j, j < k → getV (T.map fun b => prodL two b v) j = bil (ent two) n (ent T j) (getV v) := fun j hj => by
        have e : getV (T.map fun b => prodL two b v) j = prodL two (T.getD j []) v := getD_map _ _ _ [] _ (by rw [sT.len]; exact hj)
        rw [e, prodL_bil (sT.get hj) hv]
        rfl
      have g2 : ∀ j, j < k → getV ((one.getD k []).take k) j = ent one j k := fun j hj => by
        rw [O.sy j k (by omega) kn]
        simp [getV, ent, List.getD_eq_getElem?_getD, List.getElem?_take, hj]
      constructor
      · intro e j hj
        rw [← g1 j hj, ← g2 j hj, e]
      · intro h
        exact list_ext l1 l2 fun j hj => by rw [g1 j hj, g2 j hj, h j hj]
    unfold tupL
    rw [List.mem_flatMap]
    constructor
    · rintro ⟨T0, hT0, h2⟩
      obtain ⟨v, hv, rfl⟩ := List.mem_map.mp h2
      obtain ⟨s0, g0⟩ := (ih T0).mp hT0
      obtain ⟨hv1, hf⟩ := List.mem_filter.mp hv
      obtain ⟨lv, -, -⟩ := (nr v).mp hv1
      have f2 := (fit T0 v s0 lv).mp hf
      have ek : ∀ a, ent (T0 ++ [v]) k a = getV v a := fun a => by rw [ent_app, s0.len, if_neg (Nat.lt_irrefl _), if_pos rfl]
      have el : ∀ i a, i < k → ent (T0 ++ [v]) i a = ent T0 i a := fun i a hi => by rw [ent_app, s0.len, if_pos hi]
      refine ⟨sh_app s0 lv, fun i j hj hi => ?_⟩
      rcases Nat.lt_or_ge i k with c | c
      · rw [← g0 i j hj c]
        exact bil_cg (fun _ _ _ _ => rfl) (fun a _ => el j a (by omega)) fun a _ => el i a c
      · obtain rfl : i = k := by omega
        rcases Nat.lt_or_ge j i with c2 | c2
        · rw [← f2.2 j c2]
          exact bil_cg (fun _ _ _ _ => rfl) (fun a _ => el j a c2) fun a _ => ek a
        · obtain rfl : j = i := by omega
          rw [← f2.1]
          exact bil_cg (fun _ _ _ _ => rfl) (fun a _ => ek a) fun a _ => ek a
    · rintro ⟨sT, gT⟩
      have lv := sT.get (Nat.lt_succ_self k)
      have et : ∀ i a, i < k → ent (T.take k) i a = ent T i a := fun i a hi => ent_take hi
      refine ⟨T.take k, (ih _).mpr ⟨sh_take sT (by omega), fun i j hj hi => ?_⟩, List.mem_map.mpr ⟨T.getD k [], List.mem_filter.mpr ⟨(nr _).mpr ⟨lv, ?_, ?_⟩, (fit _ _ (sh_take sT (by omega)) lv).mpr ⟨gT k k (Nat.le_refl _) (Nat.lt_succ_self k), fun j hj => ?_⟩⟩, (take_app sT).symm⟩⟩
      · rw [← gT i j hj (by omega)]
        exact bil_cg (fun _ _ _ _ => rfl) (fun a _ => et j a (by omega)) fun a _ => et i a hi
      · have := gT k k (Nat.le_refl _) (Nat.lt_succ_self k)
        show 0 < bil (ent two) n (ent T k) (ent T k)
        omega
      · have := gT k k (Nat.le_refl _) (Nat.lt_succ_self k)
        show bil (ent two) n (ent T k) (ent T k) ≤ _
        omega
      · rw [← gT k j (by omega) (Nat.lt_succ_self k)]
        exact bil_cg (fun _ _ _ _ => rfl) (fun a _ => et j a hj) fun a _ => rfl
theorem tup_nd : ∀ k, (tupL one two n k).Nodup
  | 0 => List.pairwise_singleton _ _
  | k + 1 => by
    unfold tupL
    refine nd_flat (tup_nd k) (fun T _ => nd_map (List.Pairwise.filter _ (List.Pairwise.filter _ (out_nd n))) fun x _ y _ e => ?_) fun T hT U hU z h1 h2 => ?_
    · exact (List.cons.inj (List.append_cancel_left e)).1
    · obtain ⟨x, _, rfl⟩ := List.mem_map.mp h1
      obtain ⟨y, _, e⟩ := List.mem_map.mp h2
      exact (List.append_inj e (by rw [(tupL_sh hU).1.len, (tupL_sh hT).1.len])).1.symm
theorem tup_sz (O : OneOk one n) (G : Good (ent two) n) (s : Sh two n n) : ∀ k, k ≤ n → (tupL one two n k).length ≤ 16000000 := fun k hk => by
  have n3 := G.n3
  have n1 := G.n1
  have f := few_of G s (tup_nd (one := one) (two := two) (n := n) k) (fun T hT => ((tup_mem O G s k hk T).mp hT).1) (List.replicate k 2) (by simp) fun T hT i hi => by
    have h := (tup_mem O G s k hk T).mp hT
    have := h.2 i i (Nat.le_refl _) hi
    have d := (O.dg i (by omega)).2
    rw [prod_bil s n3 (h.1.get hi) (h.1.get hi)]
    have e : (List.replicate k 2).getD i 0 = 2 := by simp [List.getD_eq_getElem?_getD, hi]
    rw [e]
    show bil (ent two) n (ent T i) (ent T i) < _
    omega
  have k4 : k = 0 ∨ k = 1 ∨ k = 2 ∨ k = 3 := by omega
  have p : 5 ^ n ≤ 125 := by
    have nn : n = 1 ∨ n = 2 ∨ n = 3 := by omega
    rcases nn with rfl | rfl | rfl <;> decide
  refine Nat.le_trans f ?_
  have q2 : 5 ^ n * 5 ^ n ≤ 125 * 125 := Nat.mul_le_mul p p
  have q3 : 5 ^ n * (5 ^ n * 5 ^ n) ≤ 125 * (125 * 125) := Nat.mul_le_mul p q2
  clear f
  rcases k4 with rfl | rfl | rfl | rfl
  · simp
  · simp [List.replicate]; generalize 5 ^ n = q at *; omega
  · simp [List.replicate]; generalize 5 ^ n = q at *; omega
  · simp [List.replicate]; generalize 5 ^ n = q at *; omega
theorem mpOk (O : OneOk one n) (G : Good (ent two) n) (s : Sh two n n) : MpOk one two n := ⟨O.sh, fun k hk => neOk G s (O.dg k hk).1 (O.dg k hk).2, tup_sz O G s, G.n1⟩
end
end Gm
end
/-! Lp -/
section
set_option Elab.async false
set_option linter.all false
set_option maxRecDepth 100000
namespace Gm
open PySem PySem.Spec PyProof.Rows L2 DL Gp
abbrev tpl (r : List Int) : PyData := .tuple (r.map PyData.int)
theorem rows_anti : ∀ xs ys : Mx, PySem.W.rowLt (xs.map tpl) (ys.map tpl) = false → PySem.W.rowLt (ys.map tpl) (xs.map tpl) = false → xs = ys
  | [], [], _, _ => rfl
  | [], y :: ys, h, _ => by
    have e : PySem.W.rowLt [] (tpl y :: ys.map tpl) = true := by
      unfold PySem.W.rowLt
      rw [PySem.W.toks_all_cons]
      simp only [PySem.W.keyToksAll]
      rw [PyProof.Rows.lex_diff (O := PyProof.Rows.itemOrd) (by simp)]
      rfl
    rw [List.map_nil, List.map_cons, e] at h
    cases h
  | x :: xs, [], _, h => by
    have e : PySem.W.rowLt [] (tpl x :: xs.map tpl) = true := by
      unfold PySem.W.rowLt
      rw [PySem.W.toks_all_cons]
      simp only [PySem.W.keyToksAll]
      rw [PyProof.Rows.lex_diff (O := PyProof.Rows.itemOrd) (by simp)]
      rfl
    rw [List.map_nil, List.map_cons, e] at h
    cases h
  | x :: xs, y :: ys, h1, h2 => by
    have al : ∀ a b : List Int, PySem.W.alike (tpl a) (tpl b) = true := fun a b => by simp [PySem.W.alike, PySem.W.alike_ints]
    have ev : ∀ a b : List Int, PyData.eqv (tpl a) (tpl b) = decide (a = b) := fun a b => by
      rw [PyData.eqv]
      exact eqv_ints a b
    have lt : ∀ a b : List Int, PySem.W.dataLt (tpl a) (tpl b) = decide (a < b) := fun a b => by
      rw [PySem.W.dataLt_tuple]
      exact PySem.W.dataLt_ints a b
    unfold PySem.W.rowLt at h1 h2
    rw [List.map_cons, List.map_cons, PySem.W.dataLt_cons (al _ _), ev, lt] at h1 h2
    by_cases e : x = y
    · subst e
      rw [if_pos (decide_eq_true rfl)] at h1 h2
      rw [rows_anti xs ys h1 h2]
    · rw [if_neg (by simp [e])] at h1
      rw [if_neg (by simp [Ne.symm e])] at h2
      have g1 := List.not_lt.mp (of_decide_eq_false h1)
      have g2 := List.not_lt.mp (of_decide_eq_false h2)
      exact absurd (List.le_antisymm g2 g1) e
theorem mt_anti (a b : Mx) (h1 : mtLe a b = true) (h2 : mtLe b a = true) : a = b := by
  have e : ∀ a b : Mx, mtLe a b = !PySem.W.rowLt (b.map tpl) (a.map tpl) := fun a b => by
    show (!PySem.W.dataLt (mt b).py (mt a).py) = _
    rw [py_mt, py_mt, PySem.W.dataLt_tuple]
    rfl
  rw [e] at h1 h2
  exact rows_anti a b (by simpa using h2) (by simpa using h1)
theorem mt_tot : PySem.W.TotalLe mtLe := by
  have t : PySem.W.TotalLe (PySem.W.dataLe false fun T : Mx => (mt T).py) := PySem.W.sortLe_total _ _ _
  exact t
/-- sorted alike, whatever the order before -/
theorem mt_same {l r : List Mx} (n1 : l.Nodup) (n2 : r.Nodup) (h : ∀ T, T ∈ l ↔ T ∈ r) : l.mergeSort mtLe = r.mergeSort mtLe := by
  have p : l.Perm r := (List.perm_ext_iff_of_nodup n1 n2).mpr fun T => h T
  exact PySem.W.Srt.the_of_perm mtLe mt_tot.trans (fun x y => by rcases mt_tot.total x y with h | h <;> simp [h]) mt_anti ((List.mergeSort_perm l mtLe).trans p) (PySem.W.sort_pairwise mt_tot l)
end Gm
end
/-! Lq -/
section
set_option Elab.async false
set_option linter.all false
set_option maxRecDepth 100000
namespace Gp
theorem lin_lin (A B : Fn) (n : Nat) (x : Vec) (j : Nat) : lin B n (lin A n x) j = sumN (fun i => x i * lin B n (A i) j) n := by
  unfold lin
  have e1 : ∀ k, sumN (fun i => x i * A i k) n * B k j = sumN (fun i => x i * A i k * B k j) n := fun k => (sumN_mulr _ _ _).symm
  have e2 : ∀ i, x i * sumN (fun k => A i k * B k j) n = sumN (fun k => x i * (A i k * B k j)) n := fun i => (sumN_mul _ _ _).symm
  rw [sumN_cg fun k _ => e1 k, sumN_cg fun i _ => e2 i, sumN_swap]
  exact sumN_cg fun i _ => sumN_cg fun k _ => by rw [Int.mul_assoc]
theorem sum_dl {x : Vec} {n j : Nat} (hj : j < n) : sumN (fun i => x i * if i = j then 1 else 0) n = x j := by
  rw [sumN_one hj fun i _ hne => by simp [hne]]
  simp
end Gp
namespace Gm
open PySem PySem.Spec PyProof.Rows L2 DL Gp
section
variable {m : Mx} {n : Nat}
theorem formI_ent {Ts : List Mx} {out : List (List Int × List Mx)} (n3 : n ≤ 3) (s : Sh m n n) (y : ∀ i j, i < n → j < n → ent m i j = ent m j i) (h : Lvl m n n Ts out) {T : Mx} (hT : T ∈ Ts) : Sh (formI out) n n ∧ ∀ i j, i < n → j < n → ent (formI out) i j = bil (ent m) n (ent T i) (ent T j) := by
  obtain ⟨hl, _, it⟩ := h.iff n3
  obtain ⟨sT, _, g⟩ := (it T).mp hT
  have ml : (out.map (·.1)).length = n := by rw [List.length_map, hl]
  refine ⟨⟨by unfold formI gramI; rw [List.length_map, List.length_range, ml], fun r hr => ?_⟩, fun i j hi hj => ?_⟩
  · unfold formI gramI at hr
    obtain ⟨i, _, rfl⟩ := List.mem_map.mp hr
    rw [List.length_map, List.length_range, ml]
  · have e : ent (formI out) i j = gcell (out.map (·.1)) i j := by
      unfold ent formI gramI
      rw [ml, getD_map _ _ _ 0 _ (by rw [List.length_range]; exact hi), getD_map _ _ _ 0 _ (by rw [List.length_range]; exact hj)]
      simp [List.getD_eq_getElem?_getD, hi, hj]
    rw [e]
    unfold gcell
    have vi := mark_vals n3 s sT hi
    have vj := mark_vals n3 s sT hj
    rw [g i hi] at vi
    rw [g j hj] at vj
    split
    · rename_i c
      subst c
      exact vi.2.1
    · split
      · rename_i c
        rw [vi.1 j c]
        exact bil_comm y _ _
      · rename_i c1 c2
        exact vj.1 i (by omega)
theorem un_of {T : Mx} {n : Nat} (n3 : n ≤ 3) (s : Sh T n n) : Pr n T ↔ Gp.Un n (ent T) := by
  unfold Pr
  rw [s.len]
  exact Comp.full n3
/-- a full level, by the form -/
theorem mem_lv {Ts : List Mx} {out : List (List Int × List Mx)} (n3 : n ≤ 3) (s : Sh m n n) (y : ∀ i j, i < n → j < n → ent m i j = ent m j i) (h : Lvl m n n Ts out) (T : Mx) : T ∈ Ts ↔ Sh T n n ∧ Gp.Un n (ent T) ∧ ∀ i j, i < n → j < n → bil (ent m) n (ent T i) (ent T j) = ent (formI out) i j := by
  obtain ⟨hl, ⟨T0, hT0⟩, it⟩ := h.iff n3
  constructor
  · intro hT
    have f := formI_ent n3 s y h hT
    obtain ⟨sT, pT, _⟩ := (it T).mp hT
    exact ⟨sT, (un_of n3 sT).mp pT, fun i j hi hj => (f.2 i j hi hj).symm⟩
  · rintro ⟨sT, uT, e⟩
    obtain ⟨s0, _, g0⟩ := (it T0).mp hT0
    have f0 := (formI_ent n3 s y h hT0).2
    refine (it T).mpr ⟨sT, (un_of n3 sT).mpr uT, fun i hi => ?_⟩
    rw [← g0 i hi]
    exact (mark_iff n3 s s sT s0 hi).mpr fun j hj => by rw [e j i (by omega) hi, f0 j i (by omega) hi]
theorem pd_mv {f : Fn} {T : Mx} (P : PD f n) (s : Sh T n n) (u : Gp.Un n (ent T)) : PD (mvF f n (ent T)) n := by
  refine ⟨P.n1, P.n3, fun i j _ _ => bil_comm P.sy _ _, fun x i hi hx => ?_⟩
  rw [bil_mv P.sy]
  refine Classical.byContradiction fun q => ?_
  have z : ∀ j, j < n → lin (ent T) n x j = 0 := fun j hj => Classical.byContradiction fun r => q (P.ps (lin (ent T) n x) hj r)
  have e := lin_lin (ent T) (ent (invT T n)) n x i
  rw [sumN_cg fun k hk => by rw [inv_r s P.n3 P.n1 u k i hk hi], sum_dl hi] at e
  have e2 : lin (ent (invT T n)) n (lin (ent T) n x) i = 0 := sumN_zero fun k hk => by rw [z k hk, Int.zero_mul]
  rw [e2] at e
  exact hx e.symm
theorem fmOk (G : Good (ent m) n) (s : Sh m n n) : FmOk m n := by
  intro Ts out h
  have n3 := G.n3
  obtain ⟨_, ⟨T, hT⟩, it⟩ := h.iff n3
  have f := formI_ent n3 s G.sy h hT
  obtain ⟨sT, pT, _⟩ := (it T).mp hT
  have pd := pd_mv G.pd sT ((un_of n3 sT).mp pT)
  have nm := h.nm G s (Nat.le_refl _) T hT
  have q : ∀ i, i < n → bil (ent m) n (ent T i) (ent T i) < 600 := fun i hi => by
    have := nm i hi
    rw [prod_bil s n3 (sT.get hi) (sT.get hi)] at this
    exact Int.lt_of_le_of_lt this (nb_lt n i)
  refine ⟨f.1, G.n1, n3, fun i j hi hj => by rw [f.2 i j hi hj, f.2 j i hj hi, bil_comm G.sy], fun i j hi hj => ?_, fun k k1 kn => ?_⟩
  · rw [f.2 i j hi hj]
    have c := G.csf (ent T i) (ent T j)
    have n1 := G.nn (ent T i)
    have n2 := G.nn (ent T j)
    have := Int.mul_le_mul (Int.le_of_lt (q i hi)) (Int.le_of_lt (q j hj)) n2 (by decide)
    rw [← Int.natAbs_mul_self' (bil (ent m) n (ent T i) (ent T j))] at c
    generalize (bil (ent m) n (ent T i) (ent T j)).natAbs = z at *
    refine Nat.le_of_not_lt fun c2 => ?_
    have : (10001 : Int) * 10001 ≤ (z : Int) * z := Int.mul_le_mul (by omega) (by omega) (by decide) (by omega)
    omega
  · rw [detF_cg (f := ent (formI out)) (g := mvF (ent m) n (ent T)) (fun i j hi hj => f.2 i j (by omega) (by omega)) (by omega)]
    exact pd.ld k1 kn
theorem row_bd (G : Good (ent m) n) (s : Sh m n n) {Ts : List Mx} {out : List (List Int × List Mx)} (h : Lvl m n n Ts out) {T : Mx} (hT : T ∈ Ts) : ∀ i j, i < n → j < n → (ent T i j).natAbs ≤ 122 := fun i j hi hj => by
  obtain ⟨sT, _, _⟩ := ((h.iff G.n3).2.2 T).mp hT
  have := nb_lt n i
  have := h.nm G s (Nat.le_refl _) T hT i hi
  exact co_le G s (sT.get hi) (N := 599) (b := 122) (by omega) (by decide) j hj
theorem mul_fwd {T A : Mx} (n1 : 1 ≤ n) (n3 : n ≤ 3) (s : Sh T n n) (u : Gp.Un n (ent T)) (sA : Sh A n n) : mulM (invI T n) (mulM T A n) n = A := by
  have sI : Sh (invI T n) n n := invT_sh T n
  refine mx_ext (mulM_sh sI) sA fun i j hi hj => ?_
  rw [ent_mulM n3 sI (mulM_sh s) hi hj]
  have e : lin (ent (mulM T A n)) n (ent (invI T n) i) j = lin (lin (ent A) n ∘ ent T) n (ent (invI T n) i) j := sumN_cg fun k hk => by
    rw [ent_mulM n3 s sA hk hj]
    rfl
  rw [e]
  have e2 : lin (lin (ent A) n ∘ ent T) n (ent (invI T n) i) j = lin (ent A) n (lin (ent T) n (ent (invI T n) i)) j := (lin_lin (ent T) (ent A) n _ j).symm
  rw [e2]
  have e3 : lin (ent A) n (lin (ent T) n (ent (invI T n) i)) j = sumN (fun k => (if i = k then 1 else 0) * ent A k j) n := sumN_cg fun k hk => by rw [show lin (ent T) n (ent (invI T n) i) k = _ from inv_l s n3 n1 u i k hi hk]
  rw [e3, sumN_one hi fun k _ hne => by simp [Ne.symm hne]]
  simp
theorem mul_back {T A : Mx} (n1 : 1 ≤ n) (n3 : n ≤ 3) (s : Sh T n n) (u : Gp.Un n (ent T)) (sA : Sh A n n) : mulM T (mulM (invI T n) A n) n = A := by
  have sI : Sh (invI T n) n n := invT_sh T n
  refine mx_ext (mulM_sh s) sA fun i j hi hj => ?_
  rw [ent_mulM n3 s (mulM_sh sI) hi hj]
  have e : lin (ent (mulM (invI T n) A n)) n (ent T i) j = lin (lin (ent A) n ∘ ent (invI T n)) n (ent T i) j := sumN_cg fun k hk => by
    rw [ent_mulM n3 sI sA hk hj]
    rfl
  rw [e]
  have e2 : lin (lin (ent A) n ∘ ent (invI T n)) n (ent T i) j = lin (ent A) n (lin (ent (invI T n)) n (ent T i)) j := (lin_lin (ent (invI T n)) (ent A) n _ j).symm
  rw [e2]
  have e3 : lin (ent A) n (lin (ent (invI T n)) n (ent T i)) j = sumN (fun k => (if i = k then 1 else 0) * ent A k j) n := sumN_cg fun k hk => by rw [show lin (ent (invI T n)) n (ent T i) k = _ from inv_r s n3 n1 u i k hi hk]
  rw [e3, sumN_one hi fun k _ hne => by simp [Ne.symm hne]]
  simp
end
section
variable {one two : Mx} {n : Nat}
/-- both lattices are good -/
structure Both (one two : Mx) (n : Nat) : Prop where
  G : Good (ent one) n
  G' : Good (ent two) n
  s : Sh one n n
  s' : Sh two n n
  O : OneOk one n
theorem un_mul {A M : Mx} (n3 : n ≤ 3) (sA : Sh A n n) (sM : Sh M n n) (uA : Gp.Un n (ent A)) (uM : Gp.Un n (ent M)) : Gp.Un n (ent (mulM A M n)) := by
  have e : detF n (ent (mulM A M n)) = detF n (ent A) * detF n (ent M) := by
    rw [← det_mul n3]
    exact detF_cg (fun i j hi hj => ent_mulM n3 sA sM hi hj) n3
  unfold Gp.Un at *
  rw [e]
  rcases uA with h | h <;> rcases uM with h2 | h2 <;> rw [h, h2] <;> decide
theorem iso_of (B : Both one two n) {Ts Ts' : List Mx} {out out' : List (List Int × List Mx)} (h : Lvl one n n Ts out) (h' : Lvl two n n Ts' out') (e : formI out = formI out') {T T' : Mx} (hT : T ∈ Ts) (hT' : T' ∈ Ts') : Iso one two (mulM (invI T n) T' n) n := by
  have n1 := B.G.n1
  have n3 := B.G.n3
  obtain ⟨sT, uT, gT⟩ := (mem_lv n3 B.s B.G.sy h T).mp hT
  obtain ⟨sT', uT', gT'⟩ := (mem_lv n3 B.s' B.G'.sy h' T').mp hT'
  have sI : Sh (invI T n) n n := invT_sh T n
  refine ⟨n1, n3, B.s, B.s', B.G.sy, B.G'.sy, mulM_sh sI, un_mul n3 sI sT' (un_inv n1 n3 sT uT) uT', fun i j hi hj => ?_⟩
  show bil (ent two) n (ent (mulM (invI T n) T' n) i) (ent (mulM (invI T n) T' n) j) = _
  have e1 : bil (ent two) n (ent (mulM (invI T n) T' n) i) (ent (mulM (invI T n) T' n) j) = bil (ent two) n (lin (ent T') n (ent (invI T n) i)) (lin (ent T') n (ent (invI T n) j)) := bil_cg (fun _ _ _ _ => rfl) (fun k hk => ent_mulM n3 sI sT' hi hk) fun k hk => ent_mulM n3 sI sT' hj hk
  rw [e1, ← bil_mv B.G'.sy]
  have e2 : bil (mvF (ent two) n (ent T')) n (ent (invI T n) i) (ent (invI T n) j) = bil (mvF (ent one) n (ent T)) n (ent (invI T n) i) (ent (invI T n) j) := bil_cg (fun a b ha hb => by
    show bil (ent two) n (ent T' a) (ent T' b) = bil (ent one) n (ent T a) (ent T b)
    rw [gT a b ha hb, gT' a b ha hb, e]) (fun _ _ => rfl) fun _ _ => rfl
  rw [e2, bil_mv B.G.sy, ← bil_ee (f := ent one) hi hj]
  exact bil_cg (fun _ _ _ _ => rfl) (fun k hk => inv_l sT n3 n1 uT i k hi hk) fun k hk => inv_l sT n3 n1 uT j k hj hk
def foundL (one two : Mx) (n : Nat) : List Mx := (tupL one two n n).filter fun T => decide ((detF n (ent T)).natAbs = 1)
theorem un_abs {M : Fn} : Gp.Un n M ↔ (detF n M).natAbs = 1 := by
  unfold Gp.Un
  omega
theorem found_mem (B : Both one two n) (M : Mx) : M ∈ foundL one two n ↔ Iso one two M n := by
  unfold foundL
  rw [List.mem_filter, decide_eq_true_iff, ← un_abs, tup_mem B.O B.G' B.s' n (Nat.le_refl _)]
  constructor
  · rintro ⟨⟨sM, g⟩, u⟩
    refine ⟨B.G.n1, B.G.n3, B.s, B.s', B.G.sy, B.G'.sy, sM, u, fun i j hi hj => ?_⟩
    show bil (ent two) n (ent M i) (ent M j) = _
    rcases Nat.le_total i j with c | c
    · exact g j i c hj
    · rw [bil_comm B.G'.sy, g i j c hi]
      exact B.G.sy j i hj hi
  · intro I
    exact ⟨⟨I.sM, fun i j hj hi => I.eq j i (by omega) hi⟩, I.un⟩
theorem amOk (B : Both one two n) : AmOk one two n := by
  have n1 := B.G.n1
  have n3 := B.G.n3
  refine ⟨lvOk B.G B.s, fmOk B.G B.s, lvOk B.G' B.s', fmOk B.G' B.s', fun Ts out h T hT => ?_, fun Ts out Ts' out' h h' T hT T' hT' r _ c hc p hp => ?_, fun Ts out Ts' out' h h' T hT => ?_⟩
  · obtain ⟨sT, uT, _⟩ := (mem_lv n3 B.s B.G.sy h T).mp hT
    exact ⟨⟨sT, n3, fun i j hi hj => Nat.le_trans (row_bd B.G B.s h hT i j hi hj) (by decide)⟩, un_abs.mp uT⟩
  · obtain ⟨sT', _, _⟩ := (mem_lv n3 B.s' B.G'.sy h' T').mp hT'
    have bd := row_bd B.G' B.s' h' hT'
    have h2 := (List.of_mem_zip hp).2
    unfold turned at hc
    obtain ⟨k, hk, rfl⟩ := List.mem_map.mp hc
    obtain ⟨row, hrow, e⟩ := List.mem_map.mp h2
    obtain ⟨i, hi, er⟩ := List.mem_iff_getElem.mp hrow
    have b := bd i k (by rw [sT'.len] at hi; exact hi) (List.mem_range.mp hk)
    have e3 : ent T' i k = p.2 := by
      rw [← e, ← er]
      simp [ent, List.getD_eq_getElem?_getD, hi]
    rw [e3] at b
    exact mulOkR (by omega)
  · obtain ⟨sT, uT, _⟩ := (mem_lv n3 B.s B.G.sy h T).mp hT
    refine nd_map h'.nd fun A hA C hC e => ?_
    have sA := ((mem_lv n3 B.s' B.G'.sy h' A).mp hA).1
    have sC := ((mem_lv n3 B.s' B.G'.sy h' C).mp hC).1
    rw [← mul_back n1 n3 sT uT sA, e, mul_back n1 n3 sT uT sC]
theorem al_of (B : Both one two n) {Ts Ts' : List Mx} {out out' : List (List Int × List Mx)} (h : Lvl one n n Ts out) (h' : Lvl two n n Ts' out') : formI out = formI out' ↔ ∃ M, Iso one two M n := by
  constructor
  · intro e
    obtain ⟨_, ⟨T, hT⟩, _⟩ := h.iff B.G.n3
    obtain ⟨_, ⟨T', hT'⟩, _⟩ := h'.iff B.G.n3
    exact ⟨_, iso_of B h h' e hT hT'⟩
  · rintro ⟨M, I⟩
    exact I.form h h'
theorem mapsL_eq (one two : Mx) (n : Nat) : mapsL one two n = (foundL one two n).mergeSort mtLe := rfl
theorem maps_ne (B : Both one two n) : mapsL one two n ≠ [] ↔ ∃ M, Iso one two M n := by
  rw [mapsL_eq]
  constructor
  · intro h
    cases e : (foundL one two n).mergeSort mtLe with
    | nil => exact absurd e h
    | cons M r =>
      have : M ∈ (foundL one two n).mergeSort mtLe := by rw [e]; exact List.mem_cons_self ..
      exact ⟨M, (found_mem B M).mp (List.mem_mergeSort.mp this)⟩
  · rintro ⟨M, I⟩ e
    have := List.mem_mergeSort (le := mtLe).mpr ((found_mem B M).mpr I)
    rw [e] at this
    cases this
theorem res_of (B : Both one two n) {Ms : List Mx} (h : AmRes one two n Ms) : Ms = mapsL one two n := by
  have n1 := B.G.n1
  have n3 := B.G.n3
  obtain ⟨Ts1, out, Ts1', out', l1, l1', h⟩ := h
  rcases h with ⟨ne, rfl⟩ | ⟨e, Ts, o, Ts', o', T0, l, l', hT0, rfl⟩
  · refine Classical.byContradiction fun c => ne ((al_of B l1 l1').mpr ((maps_ne B).mp (Ne.symm c)))
  · have e' : formI o = formI o' := (al_of B l l').mpr ((al_of B l1 l1').mp e)
    obtain ⟨sT, uT, gT⟩ := (mem_lv n3 B.s B.G.sy l T0).mp hT0
    rw [mapsL_eq]
    refine mt_same ((amOk B).nd Ts o Ts' o' l l' T0 hT0) (List.Pairwise.filter _ (tup_nd n)) fun M => ?_
    show _ ↔ M ∈ foundL one two n
    rw [found_mem B, List.mem_map]
    constructor
    · rintro ⟨T, hT, rfl⟩
      exact iso_of B l l' e' hT0 hT
    · intro I
      refine ⟨mulM T0 M n, (mem_lv n3 B.s' B.G'.sy l' _).mpr ⟨mulM_sh sT, un_mul n3 sT I.sM uT I.un, fun i j hi hj => ?_⟩, mul_fwd n1 n3 sT uT I.sM⟩
      rw [← e', ← gT i j hi hj, I.bil]
      exact bil_cg (fun _ _ _ _ => rfl) (fun k hk => ent_mulM n3 sT I.sM hi hk) fun k hk => ent_mulM n3 sT I.sM hj hk
theorem lawOk_both (B : Both one two n) : LawOk one n two n :=
  ⟨latOk B.G B.s, latOk B.G' B.s', fun _ => amOk B, fun _ => mpOk B.O B.G' B.s', fun _ Ms h => res_of B h, fun _ Ts out Ts' out' h h' => by rw [al_of B h h', maps_ne B]⟩
end
end Gm
end
/-! Lr -/
section
set_option Elab.async false
set_option linter.all false
set_option maxRecDepth 100000
namespace Gp
/-! ### the lattices of the law are good -/
theorem dd (a x y : Int) : 0 ≤ (a.natAbs : Int) * (x * x) + (a.natAbs : Int) * (y * y) + 2 * (a * (x * y)) := by
  rcases Int.le_total 0 a with h | h
  · have e : (a.natAbs : Int) = a := by omega
    have q := Int.mul_nonneg h (sqnn (x + y))
    have : a * ((x + y) * (x + y)) = a * (x * x) + a * (y * y) + 2 * (a * (x * y)) := by grind
    rw [e]
    omega
  · have e : (a.natAbs : Int) = -a := by omega
    have q := Int.mul_nonneg (show 0 ≤ -a by omega) (sqnn (x - y))
    have : -a * ((x - y) * (x - y)) = -a * (x * x) + -a * (y * y) + 2 * (a * (x * y)) := by grind
    rw [e]
    omega
def kro : Fn := fun i j => if i = j then 1 else 0
theorem lin_kro {n j : Nat} (x : Vec) (hj : j < n) : lin kro n x j = x j := by
  unfold lin kro
  rw [sumN_one hj fun i _ hne => by simp [hne]]
  simp
theorem sq_cg {n : Nat} {x y : Vec} (h : ∀ i, i < n → x i = y i) : sq n x = sq n y := sumN_cg fun i hi => by rw [h i hi]
theorem inv_kro {f : Fn} {n : Nat} (h : ∀ x, sq n x ≤ bil f n x x) : ∃ A A' : Fn, (∀ x, sq n (lin A n x) ≤ bil f n x x) ∧ (∀ x i, i < n → x i = sumN (fun j => lin A n x j * A' j i) n) ∧ ∀ i, i < n → sumN (fun j => ((A' j i).natAbs : Int)) n ≤ 5 := by
  refine ⟨kro, kro, fun x => ?_, fun x i hi => ?_, fun i hi => ?_⟩
  · rw [sq_cg fun i hi => lin_kro x hi]
    exact h x
  · have : sumN (fun j => lin kro n x j * kro j i) n = lin kro n x i := by
      show lin kro n (lin kro n x) i = _
      rw [lin_kro _ hi]
    rw [this, lin_kro x hi]
  · rw [sumN_one hi fun j _ hne => by simp [kro, hne]]
    simp [kro]
/-- of a product with a table and its inverse -/
theorem bil_bd {f : Fn} {n : Nat} {M : Int} (h : ∀ i j, i < n → j < n → ((f i j).natAbs : Int) ≤ M) (x : Vec) : bil f n x x ≤ M * (sumN (fun i => ((x i).natAbs : Int)) n * sumN (fun i => ((x i).natAbs : Int)) n) := by
  have e1 : ∀ i, i < n → sumN (fun j => x i * f i j * x j) n ≤ ((x i).natAbs : Int) * (M * sumN (fun j => ((x j).natAbs : Int)) n) := fun i hi => by
    rw [← sumN_mul, ← sumN_mul]
    refine sumN_le fun j hj => ?_
    have a1 : x i * f i j * x j ≤ ((x i * f i j * x j).natAbs : Int) := Int.le_natAbs
    have a2 : ((x i * f i j * x j).natAbs : Int) = ((x i).natAbs : Int) * (((f i j).natAbs : Int) * ((x j).natAbs : Int)) := by
      rw [Int.natAbs_mul, Int.natAbs_mul, Nat.mul_assoc]
      simp
    have a3 := Int.mul_le_mul_of_nonneg_right (h i j hi hj) (Int.natCast_nonneg (x j).natAbs)
    have a4 := Int.mul_le_mul_of_nonneg_left a3 (Int.natCast_nonneg (x i).natAbs)
    omega
  have e2 : bil f n x x ≤ sumN (fun i => ((x i).natAbs : Int) * (M * sumN (fun j => ((x j).natAbs : Int)) n)) n := sumN_le e1
  rw [sumN_mulr] at e2
  have e3 : sumN (fun i => ((x i).natAbs : Int)) n * (M * sumN (fun j => ((x j).natAbs : Int)) n) = M * (sumN (fun i => ((x i).natAbs : Int)) n * sumN (fun i => ((x i).natAbs : Int)) n) := by grind
  omega
end Gp
namespace Gm
open PySem PySem.Spec PyProof.Rows L2 DL Gp
section
variable {t : Mx} {n : Nat} {B E : Int}
theorem off_le (h : BaseOk t n B E) {i : Nat} (hi : i < n) : 0 ≤ offS t n i ∧ (n = 1 → offS t n i = 0) ∧ (n = 2 → offS t n i ≤ B) ∧ (n = 3 → offS t n i ≤ 2 * B) := by
  have o := h.off
  have n3 := h.n3
  refine ⟨sumN_nn fun j _ => by split <;> omega, ?_, ?_, ?_⟩
  · rintro rfl
    obtain rfl : i = 0 := by omega
    simp [offS, sumN]
  · rintro rfl
    have a := o 0 1 (by omega) (by omega) (by omega)
    have b := o 1 0 (by omega) (by omega) (by omega)
    have : i = 0 ∨ i = 1 := by omega
    rcases this with rfl | rfl <;> simp [offS, sumN] <;> omega
  · rintro rfl
    have a := o 0 1 (by omega) (by omega) (by omega)
    have b := o 1 0 (by omega) (by omega) (by omega)
    have c := o 0 2 (by omega) (by omega) (by omega)
    have d := o 2 0 (by omega) (by omega) (by omega)
    have e := o 1 2 (by omega) (by omega) (by omega)
    have f := o 2 1 (by omega) (by omega) (by omega)
    have : i = 0 ∨ i = 1 ∨ i = 2 := by omega
    rcases this with rfl | rfl | rfl <;> simp [offS, sumN] <;> omega
theorem base_sq (h : BaseOk t n B E) (x : Vec) : sq n x ≤ bil (ent t) n x x := by
  have n1 := h.n1
  have n3 := h.n3
  have nn : n = 1 ∨ n = 2 ∨ n = 3 := by omega
  rcases nn with rfl | rfl | rfl
  · obtain ⟨e, e0, _, he⟩ := h.dg 0 (by omega)
    simp [offS, sumN] at he
    simp [sq, bil, sumN, he]
    have := Int.mul_nonneg e0 (sqnn (x 0))
    have e2 : x 0 * (1 + e) * x 0 = x 0 * x 0 + e * (x 0 * x 0) := by grind
    omega
  · obtain ⟨e, e0, _, he⟩ := h.dg 0 (by omega)
    obtain ⟨g, g0, _, hg⟩ := h.dg 1 (by omega)
    have s := h.sy 0 1 (by omega) (by omega)
    simp [offS, sumN] at he hg
    simp [sq, bil, sumN, he, hg]
    rw [← s]
    have a1 := Int.mul_nonneg e0 (sqnn (x 0))
    have a2 := Int.mul_nonneg g0 (sqnn (x 1))
    have a3 := dd (ent t 0 1) (x 0) (x 1)
    generalize ent t 0 1 = a at *
    generalize (a.natAbs : Int) = z at *
    have e2 : x 0 * (1 + e + z) * x 0 + x 0 * a * x 1 + (x 1 * a * x 0 + x 1 * (1 + g + z) * x 1) = x 0 * x 0 + x 1 * x 1 + e * (x 0 * x 0) + g * (x 1 * x 1) + (z * (x 0 * x 0) + z * (x 1 * x 1) + 2 * (a * (x 0 * x 1))) := by grind
    omega
  · obtain ⟨e, e0, _, he⟩ := h.dg 0 (by omega)
    obtain ⟨g, g0, _, hg⟩ := h.dg 1 (by omega)
    obtain ⟨k, k0, _, hk⟩ := h.dg 2 (by omega)
    have s := h.sy 0 1 (by omega) (by omega)
    have s2 := h.sy 0 2 (by omega) (by omega)
    have s3 := h.sy 1 2 (by omega) (by omega)
    simp [offS, sumN] at he hg hk
    simp [sq, bil, sumN, he, hg, hk]
    rw [← s, ← s2, ← s3]
    have a1 := Int.mul_nonneg e0 (sqnn (x 0))
    have a2 := Int.mul_nonneg g0 (sqnn (x 1))
    have a3 := Int.mul_nonneg k0 (sqnn (x 2))
    have a4 := dd (ent t 0 1) (x 0) (x 1)
    have a5 := dd (ent t 0 2) (x 0) (x 2)
    have a6 := dd (ent t 1 2) (x 1) (x 2)
    generalize ent t 0 1 = a at *
    generalize ent t 0 2 = b at *
    generalize ent t 1 2 = c at *
    generalize (a.natAbs : Int) = z at *
    generalize (b.natAbs : Int) = y at *
    generalize (c.natAbs : Int) = w at *
    have e2 : x 0 * (1 + e + (z + y)) * x 0 + x 0 * a * x 1 + x 0 * b * x 2 + (x 1 * a * x 0 + x 1 * (1 + g + (z + w)) * x 1 + x 1 * c * x 2) + (x 2 * b * x 0 + x 2 * c * x 1 + x 2 * (1 + k + (y + w)) * x 2) = x 0 * x 0 + x 1 * x 1 + x 2 * x 2 + e * (x 0 * x 0) + g * (x 1 * x 1) + k * (x 2 * x 2) + (z * (x 0 * x 0) + z * (x 1 * x 1) + 2 * (a * (x 0 * x 1))) + (y * (x 0 * x 0) + y * (x 2 * x 2) + 2 * (b * (x 0 * x 2))) + (w * (x 1 * x 1) + w * (x 2 * x 2) + 2 * (c * (x 1 * x 2))) := by grind
    omega
end
end Gm
end
/-! Ls -/
section
set_option Elab.async false
set_option linter.all false
set_option maxRecDepth 100000
namespace Gm
open PySem PySem.Spec PyProof.Rows L2 DL Gp
section
variable {t : Mx} {n : Nat} {B E : Int}
theorem base_good (h : BaseOk t n B E) (hB : 0 ≤ B) (h3 : n = 3 → 1 + E + 2 * B ≤ 6) (h2 : 1 + E + B ≤ 11) : Good (ent t) n := by
  have n1 := h.n1
  have n3 := h.n3
  have d : ∀ i, i < n → ent t i i ≤ if n = 3 then 6 else 11 := fun i hi => by
    obtain ⟨e, e0, eE, he⟩ := h.dg i hi
    obtain ⟨o0, o1, o2, o3⟩ := off_le h hi
    have nn : n = 1 ∨ n = 2 ∨ n = 3 := by omega
    rcases nn with rfl | rfl | rfl
    · have := o1 rfl
      simp
      omega
    · have := o2 rfl
      simp
      omega
    · have := o3 rfl
      have := h3 rfl
      simp
      omega
  refine ⟨n1, n3, h.sy, inv_kro (base_sq h), fun i hi => ?_, ⟨e1 0, ⟨0, by omega, by simp [e1]⟩, ?_⟩⟩
  · have := d i hi
    split at this <;> omega
  · rw [bil_e1 (by omega) (by omega)]
    exact d 0 (by omega)
theorem wid_good (h : WidOk t n) : Good (ent t) n := by
  rcases h with ⟨rfl, h⟩ | ⟨_, h⟩
  · exact base_good h (by decide) (fun h => by omega) (by decide)
  · exact base_good h (by decide) (fun _ => by decide) (by decide)
theorem one_good (h : IsOne t n) : Good (ent t) n := by
  rcases h with h | ⟨rfl, h⟩
  · exact wid_good h
  · exact base_good h (by decide) (fun _ => by decide) (by decide)
theorem base_dg8 (h : BaseOk t n B E) (hE : 0 ≤ E) (hB : 0 ≤ B) (h3 : n = 3 → 1 + E + 2 * B ≤ 8) (h2 : 1 + E + B ≤ 8) {i : Nat} (hi : i < n) : 1 ≤ ent t i i ∧ ent t i i ≤ 8 := by
  have n1 := h.n1
  have n3 := h.n3
  obtain ⟨e, e0, eE, he⟩ := h.dg i hi
  obtain ⟨o0, o1, o2, o3⟩ := off_le h hi
  have nn : n = 1 ∨ n = 2 ∨ n = 3 := by omega
  rcases nn with rfl | rfl | rfl
  · have := o1 rfl
    omega
  · have := o2 rfl
    omega
  · have := o3 rfl
    have := h3 rfl
    omega
theorem one_ok (h : IsOne t n) : OneOk t n := by
  rcases h with (⟨rfl, h⟩ | ⟨_, h⟩) | ⟨rfl, h⟩
  · exact ⟨h.sh, h.sy, fun i hi => base_dg8 h (by decide) (by decide) (fun h => by omega) (by decide) hi⟩
  · exact ⟨h.sh, h.sy, fun i hi => base_dg8 h (by decide) (by decide) (fun _ => by decide) (by decide) hi⟩
  · exact ⟨h.sh, h.sy, fun i hi => base_dg8 h (by decide) (by decide) (fun _ => by decide) (by decide) hi⟩
/-- a wider table's cells -/
theorem wid_bd (h : WidOk t n) : ∀ i j, i < n → j < n → ((ent t i j).natAbs : Int) ≤ if n = 3 then 5 else 7 := fun i j hi hj => by
  have go : ∀ {B E : Int}, BaseOk t n B E → 0 ≤ B → 0 ≤ E → (n = 3 → 1 + E + 2 * B ≤ 5) → 1 + E + B ≤ 7 → ((ent t i j).natAbs : Int) ≤ if n = 3 then 5 else 7 := fun {B E} h hB hE h3 h2 => by
    have n1 := h.n1
    have n3 := h.n3
    by_cases c : i = j
    · subst c
      obtain ⟨e, e0, eE, he⟩ := h.dg i hi
      obtain ⟨o0, o1, o2, o3⟩ := off_le h hi
      have nn : n = 1 ∨ n = 2 ∨ n = 3 := by omega
      rcases nn with rfl | rfl | rfl
      · have := o1 rfl
        simp
        omega
      · have := o2 rfl
        simp
        omega
      · have := o3 rfl
        have := h3 rfl
        simp
        omega
    · have := h.off i j hi hj c
      split
      · rename_i c3
        have := h3 c3
        omega
      · omega
  rcases h with ⟨rfl, h⟩ | ⟨_, h⟩
  · exact go h (by decide) (by decide) (fun h => by omega) (by decide)
  · exact go h (by decide) (by decide) (fun _ => by decide) (by decide)
theorem det_good (h : WidOk t 2) : Good (ent [[1, 0], [0, detF 2 (ent t)]]) 2 := by
  have G := wid_good h
  have d1 := G.ld (k := 2) (by decide) (by decide)
  have b := wid_bd h
  have d2 : detF 2 (ent t) ≤ 98 := by
    have m1 := mulb (A := 7) (B := 7) (by have := b 0 0 (by decide) (by decide); simp at this; omega) (by have := b 1 1 (by decide) (by decide); simp at this; omega) (a := ent t 0 0) (b := ent t 1 1)
    have m2 := mulb (A := 7) (B := 7) (by have := b 0 1 (by decide) (by decide); simp at this; omega) (by have := b 1 0 (by decide) (by decide); simp at this; omega) (a := ent t 0 1) (b := ent t 1 0)
    simp only [detF]
    omega
  generalize detF 2 (ent t) = D at *
  have e00 : ent [[1, 0], [0, D]] 0 0 = 1 := rfl
  have e01 : ent [[1, 0], [0, D]] 0 1 = 0 := rfl
  have e10 : ent [[1, 0], [0, D]] 1 0 = 0 := rfl
  have e11 : ent [[1, 0], [0, D]] 1 1 = D := rfl
  have two : ∀ i, i < 2 → i = 0 ∨ i = 1 := fun i h => by omega
  refine ⟨by decide, by decide, fun i j hi hj => ?_, inv_kro fun x => ?_, fun i hi => ?_, ⟨e1 0, ⟨0, by omega, by simp [e1]⟩, ?_⟩⟩
  · rcases two i hi with rfl | rfl <;> rcases two j hj with rfl | rfl <;> rfl
  · simp only [sq, bil, sumN, e00, e01, e10, e11]
    have := Int.mul_nonneg (show 0 ≤ D - 1 by omega) (sqnn (x 1))
    have e : x 1 * D * x 1 = x 1 * x 1 + (D - 1) * (x 1 * x 1) := by grind
    simp
    omega
  · rcases two i hi with rfl | rfl
    · rw [e00]; simp
    · rw [e11]; simp; omega
  · rw [bil_e1 (by omega) (by omega), e00]
    decide
end
/-! ### exchanged -/
theorem exc_sq {one T : Mx} (h : BaseOk one 3 1 3) (e : ∀ a b, a < 3 → b < 3 → ent T a b = exE one a b) : ∃ α β : Int, -1 ≤ α ∧ α ≤ 1 ∧ -1 ≤ β ∧ β ≤ 1 ∧ ∀ x : Vec, x 0 * x 0 + (x 1 + β * x 0) * (x 1 + β * x 0) + (x 2 + α * x 0) * (x 2 + α * x 0) ≤ bil (ent T) 3 x x := by
  obtain ⟨e0, e00, _, he⟩ := h.dg 0 (by omega)
  obtain ⟨g, g0, _, hg⟩ := h.dg 1 (by omega)
  obtain ⟨k, k0, _, hk⟩ := h.dg 2 (by omega)
  have s := h.sy 0 1 (by omega) (by omega)
  have s2 := h.sy 0 2 (by omega) (by omega)
  have s3 := h.sy 1 2 (by omega) (by omega)
  have o1 := h.off 0 1 (by omega) (by omega) (by omega)
  have o2 := h.off 0 2 (by omega) (by omega) (by omega)
  simp [offS, sumN] at he hg hk
  have q : ∀ x : Vec, bil (ent T) 3 x x = ent one 0 0 * (x 0 * x 0) + ent one 1 1 * (x 1 * x 1) + ent one 2 2 * (x 2 * x 2) + 2 * (ent one 0 2 * (x 0 * x 1)) + 2 * (ent one 0 1 * (x 0 * x 2)) + 2 * (ent one 1 2 * (x 1 * x 2)) := fun x => by
    simp [bil, sumN, e 0 0 (by decide) (by decide), e 0 1 (by decide) (by decide), e 0 2 (by decide) (by decide), e 1 0 (by decide) (by decide), e 1 1 (by decide) (by decide), e 1 2 (by decide) (by decide), e 2 0 (by decide) (by decide), e 2 1 (by decide) (by decide), e 2 2 (by decide) (by decide), exE]
    rw [← s, ← s2, ← s3]
    grind
  rw [← s, ← s2] at *
  rw [← s3] at hk
  generalize ha : ent one 0 1 = a at *
  generalize hb : ent one 0 2 = b at *
  generalize hc : ent one 1 2 = c at *
  have sq1 : ∀ u : Int, u = -1 ∨ u = 1 → u * u = 1 := fun u hu => by rcases hu with rfl | rfl <;> rfl
  have base : ∀ x : Vec, 0 ≤ e0 * (x 0 * x 0) ∧ 0 ≤ g * (x 1 * x 1) ∧ 0 ≤ k * (x 2 * x 2) ∧ 0 ≤ (c.natAbs : Int) * (x 1 * x 1) + (c.natAbs : Int) * (x 2 * x 2) + 2 * (c * (x 1 * x 2)) := fun x => ⟨Int.mul_nonneg e00 (sqnn _), Int.mul_nonneg g0 (sqnn _), Int.mul_nonneg k0 (sqnn _), dd c (x 1) (x 2)⟩
  by_cases za : a = 0
  · by_cases zb : b = 0
    · refine ⟨0, 0, by decide, by decide, by decide, by decide, fun x => ?_⟩
      obtain ⟨b1, b2, b3, b4⟩ := base x
      rw [q, he, hg, hk, za, zb]
      generalize (c.natAbs : Int) = w at *
      have : (1 + e0 + (((0 : Int).natAbs : Int) + ((0 : Int).natAbs : Int))) * (x 0 * x 0) + (1 + g + (((0 : Int).natAbs : Int) + w)) * (x 1 * x 1) + (1 + k + (((0 : Int).natAbs : Int) + w)) * (x 2 * x 2) + 2 * (0 * (x 0 * x 1)) + 2 * (0 * (x 0 * x 2)) + 2 * (c * (x 1 * x 2)) = x 0 * x 0 + x 1 * x 1 + x 2 * x 2 + e0 * (x 0 * x 0) + g * (x 1 * x 1) + k * (x 2 * x 2) + (w * (x 1 * x 1) + w * (x 2 * x 2) + 2 * (c * (x 1 * x 2))) := by
        simp
        grind
      rw [this]
      simp
      omega
    · have hb1 : b = -1 ∨ b = 1 := by omega
      have b2 := sq1 b hb1
      have nb : (b.natAbs : Int) = 1 := by omega
      refine ⟨0, b, by decide, by decide, by omega, by omega, fun x => ?_⟩
      obtain ⟨b1, b2', b3, b4⟩ := base x
      rw [q, he, hg, hk, za, nb]
      generalize (c.natAbs : Int) = w at *
      have e1 : (x 1 + b * x 0) * (x 1 + b * x 0) = x 1 * x 1 + 2 * (b * (x 0 * x 1)) + x 0 * x 0 := by grind
      have e2 : (1 + e0 + (((0 : Int).natAbs : Int) + 1)) * (x 0 * x 0) + (1 + g + (((0 : Int).natAbs : Int) + w)) * (x 1 * x 1) + (1 + k + (1 + w)) * (x 2 * x 2) + 2 * (b * (x 0 * x 1)) + 2 * (0 * (x 0 * x 2)) + 2 * (c * (x 1 * x 2)) = 2 * (x 0 * x 0) + x 1 * x 1 + 2 * (x 2 * x 2) + 2 * (b * (x 0 * x 1)) + e0 * (x 0 * x 0) + g * (x 1 * x 1) + k * (x 2 * x 2) + (w * (x 1 * x 1) + w * (x 2 * x 2) + 2 * (c * (x 1 * x 2))) := by
        simp
        grind
      rw [e1, e2]
      have := sqnn (x 2)
      simp
      omega
  · have ha1 : a = -1 ∨ a = 1 := by omega
    have a2 := sq1 a ha1
    have na : (a.natAbs : Int) = 1 := by omega
    by_cases zb : b = 0
    · refine ⟨a, 0, by omega, by omega, by decide, by decide, fun x => ?_⟩
      obtain ⟨b1, b2', b3, b4⟩ := base x
      rw [q, he, hg, hk, zb, na]
      generalize (c.natAbs : Int) = w at *
      have e1 : (x 2 + a * x 0) * (x 2 + a * x 0) = x 2 * x 2 + 2 * (a * (x 0 * x 2)) + x 0 * x 0 := by grind
      have e2 : (1 + e0 + (1 + ((0 : Int).natAbs : Int))) * (x 0 * x 0) + (1 + g + (1 + w)) * (x 1 * x 1) + (1 + k + (((0 : Int).natAbs : Int) + w)) * (x 2 * x 2) + 2 * (0 * (x 0 * x 1)) + 2 * (a * (x 0 * x 2)) + 2 * (c * (x 1 * x 2)) = 2 * (x 0 * x 0) + 2 * (x 1 * x 1) + x 2 * x 2 + 2 * (a * (x 0 * x 2)) + e0 * (x 0 * x 0) + g * (x 1 * x 1) + k * (x 2 * x 2) + (w * (x 1 * x 1) + w * (x 2 * x 2) + 2 * (c * (x 1 * x 2))) := by
        simp
        grind
      rw [e1, e2]
      have := sqnn (x 1)
      simp
      omega
    · have hb1 : b = -1 ∨ b = 1 := by omega
      have b2 := sq1 b hb1
      have nb : (b.natAbs : Int) = 1 := by omega
      refine ⟨0, 0, by decide, by decide, by decide, by decide, fun x => ?_⟩
      obtain ⟨b1, b2', b3, b4⟩ := base x
      rw [q, he, hg, hk, nb, na]
      generalize (c.natAbs : Int) = w at *
      have s1 := dd b (x 0) (x 1)
      have s2 := dd a (x 0) (x 2)
      rw [nb] at s1
      rw [na] at s2
      have e2 : (1 + e0 + (1 + 1)) * (x 0 * x 0) + (1 + g + (1 + w)) * (x 1 * x 1) + (1 + k + (1 + w)) * (x 2 * x 2) + 2 * (b * (x 0 * x 1)) + 2 * (a * (x 0 * x 2)) + 2 * (c * (x 1 * x 2)) = x 0 * x 0 + x 1 * x 1 + x 2 * x 2 + e0 * (x 0 * x 0) + g * (x 1 * x 1) + k * (x 2 * x 2) + (1 * (x 0 * x 0) + 1 * (x 1 * x 1) + 2 * (b * (x 0 * x 1))) + (1 * (x 0 * x 0) + 1 * (x 2 * x 2) + 2 * (a * (x 0 * x 2))) + (w * (x 1 * x 1) + w * (x 2 * x 2) + 2 * (c * (x 1 * x 2))) := by grind
      rw [e2]
      simp only [Int.zero_mul, Int.add_zero]
      omega
theorem exc_good {one T : Mx} (h : BaseOk one 3 1 3) (e : ∀ a b, a < 3 → b < 3 → ent T a b = exE one a b) : Good (ent T) 3 := by
  obtain ⟨α, β, a1, a2, b1, b2, hx⟩ := exc_sq h e
  have three : ∀ i, i < 3 → i = 0 ∨ i = 1 ∨ i = 2 := fun i h => by omega
  have d : ∀ i, i < 3 → ent T i i ≤ 6 := fun i hi => by
    have := (base_good h (by decide) (fun _ => by decide) (by decide)).dg i hi
    obtain ⟨e0, e00, eE, he⟩ := h.dg i hi
    obtain ⟨o0, o1, o2, o3⟩ := off_le h hi
    have o3 := o3 rfl
    have ee : ent T i i = ent one i i := by
      rw [e i i hi hi]
      rcases three i hi with rfl | rfl | rfl <;> rfl
    omega
  refine ⟨by decide, by decide, fun i j hi hj => ?_, ⟨fun i j => if i = j then 1 else if i = 0 ∧ j = 1 then β else if i = 0 ∧ j = 2 then α else 0, fun i j => if i = j then 1 else if i = 0 ∧ j = 1 then -β else if i = 0 ∧ j = 2 then -α else 0, fun x => ?_, fun x i hi => ?_, fun i hi => ?_⟩, fun i hi => ?_, ⟨e1 0, ⟨0, by omega, by simp [e1]⟩, ?_⟩⟩
  · rw [e i j hi hj, e j i hj hi]
    have s := h.sy 0 1 (by omega) (by omega)
    have s2 := h.sy 0 2 (by omega) (by omega)
    have s3 := h.sy 1 2 (by omega) (by omega)
    rcases three i hi with rfl | rfl | rfl <;> rcases three j hj with rfl | rfl | rfl <;> simp [exE] <;> omega
  · have := hx x
    simp [sq, lin, sumN]
    have f1 : (x 0 * β + x 1) = x 1 + β * x 0 := by grind
    have f2 : (x 0 * α + x 2) = x 2 + α * x 0 := by grind
    rw [f1, f2]
    exact this
  · rcases three i hi with rfl | rfl | rfl <;> simp [lin, sumN] <;> grind
  · rcases three i hi with rfl | rfl | rfl <;> simp [sumN] <;> omega
  · have := d i hi
    omega
  · rw [bil_e1 (by omega) (by omega)]
    exact d 0 (by omega)
end Gm
end
/-! Lt -/
section
set_option Elab.async false
set_option linter.all false
set_option maxRecDepth 100000
namespace Gp
/-- rows' sums and pairs of rows' sums -/
def l1 (n : Nat) (x : Vec) : Int := sumN (fun i => ((x i).natAbs : Int)) n
theorem l1_nn (n : Nat) (x : Vec) : 0 ≤ l1 n x := sumN_nn fun _ _ => Int.natCast_nonneg _
theorem l1_cg {n : Nat} {x y : Vec} (h : ∀ i, i < n → x i = y i) : l1 n x = l1 n y := sumN_cg fun i hi => by rw [h i hi]
theorem l1_lc {n : Nat} {x y z : Vec} {c : Int} (h1 : -1 ≤ c) (h2 : c ≤ 1) (h : ∀ i, i < n → z i = x i + c * y i) : l1 n z ≤ l1 n x + l1 n y := by
  unfold l1
  rw [← sumN_add]
  refine sumN_le fun i hi => ?_
  rw [h i hi]
  have : c = -1 ∨ c = 0 ∨ c = 1 := by omega
  rcases this with rfl | rfl | rfl <;> omega
/-- the sums stay within L and P -/
structure Sm (n : Nat) (r : Nat → Int) (L P : Int) : Prop where
  nn : ∀ i, i < n → 0 ≤ r i
  one : ∀ i, i < n → r i ≤ L
  two : ∀ i j, i < n → j < n → i ≠ j → r i + r j ≤ P
  le : L ≤ P
theorem Sm.mono {n : Nat} {r r' : Nat → Int} {L P : Int} (S : Sm n r L P) (h : ∀ i, i < n → r' i = r i) (l0 : 0 ≤ L) : Sm n r' P (P + L) :=
  ⟨fun i hi => by rw [h i hi]; exact S.nn i hi, fun i hi => by rw [h i hi]; have := S.one i hi; have := S.le; omega, fun i j hi hj hij => by rw [h i hi, h j hj]; have := S.two i j hi hj hij; omega, by omega⟩
theorem Sm.add {n i j : Nat} {r r' : Nat → Int} {L P : Int} (S : Sm n r L P) (l0 : 0 ≤ L) (hi : i < n) (hj : j < n) (hij : i ≠ j) (h : ∀ a, a < n → a ≠ i → r' a = r a) (n0 : 0 ≤ r' i) (hr : r' i ≤ r i + r j) : Sm n r' P (P + L) := by
  have le := S.le
  have pij := S.two i j hi hj hij
  have key : ∀ a, a < n → a ≠ i → r' i + r' a ≤ P + L := fun a ha hai => by
    rw [h a ha hai]
    by_cases c : a = j
    · subst c
      have := S.one a ha
      omega
    · have := S.one a ha
      omega
  refine ⟨fun a ha => ?_, fun a ha => ?_, fun a b ha hb hab => ?_, by omega⟩
  · by_cases c : a = i
    · rw [c]; exact n0
    · rw [h a ha c]; exact S.nn a ha
  · by_cases c : a = i
    · rw [c]; omega
    · rw [h a ha c]
      have := S.one a ha
      omega
  · by_cases c : a = i
    · subst c
      exact key b hb (Ne.symm hab)
    · by_cases c2 : b = i
      · subst c2
        have := key a ha c
        omega
      · rw [h a ha c, h b hb c2]
        have := S.two a b ha hb hab
        omega
/-- of a table of the script: its inverse, and the sums -/
structure Ui (n : Nat) (U V : Fn) (L P : Int) : Prop where
  uv : ∀ i j, i < n → j < n → lin V n (U i) j = kro i j
  vu : ∀ i j, i < n → j < n → lin U n (V i) j = kro i j
  ru : Sm n (fun i => l1 n (U i)) L P
  cv : Sm n (fun j => l1 n fun a => V a j) L P
  l0 : 0 ≤ L
theorem Ui.one (n : Nat) {U : Fn} (h : ∀ i j, i < n → j < n → U i j = kro i j) : Ui n U kro 1 2 := by
  have r : ∀ i, i < n → l1 n (U i) = 1 := fun i hi => by
    rw [l1_cg fun j hj => h i j hi hj]
    unfold l1
    rw [sumN_one hi fun j _ hne => by simp [kro, Ne.symm hne]]
    simp [kro]
  have c : ∀ j, j < n → l1 n (fun a => kro a j) = 1 := fun j hj => by
    unfold l1
    rw [sumN_one hj fun i _ hne => by simp [kro, hne]]
    simp [kro]
  refine ⟨fun i j hi hj => by rw [lin_kro _ hj, h i j hi hj], fun i j hi hj => ?_, ⟨fun i hi => l1_nn _ _, fun i hi => by rw [r i hi]; decide, fun i j hi hj _ => by rw [r i hi, r j hj]; decide, by decide⟩, ⟨fun i hi => l1_nn _ _, fun i hi => by rw [c i hi]; decide, fun i j hi hj _ => by rw [c i hi, c j hj]; decide, by decide⟩, by decide⟩
  unfold lin
  rw [sumN_one hi fun k _ hne => by simp [kro, Ne.symm hne], h i j hi hj]
  simp [kro]
theorem lin_row {n : Nat} (A : Fn) {x y z : Vec} {c : Int} (h : ∀ i, i < n → z i = x i + c * y i) (j : Nat) : lin A n z j = lin A n x j + c * lin A n y j := by
  unfold lin
  rw [← sumN_mul, ← sumN_add]
  exact sumN_cg fun i hi => by rw [h i hi]; grind
theorem lin_col {n : Nat} {A B C : Nat → Int} {c : Int} (x : Vec) (h : ∀ i, i < n → C i = A i + c * B i) : sumN (fun i => x i * C i) n = sumN (fun i => x i * A i) n + c * sumN (fun i => x i * B i) n := by
  rw [← sumN_mul, ← sumN_add]
  exact sumN_cg fun i hi => by rw [h i hi]; grind
theorem Ui.add {n i j : Nat} {U V U' : Fn} {L P c : Int} (I : Ui n U V L P) (hi : i < n) (hj : j < n) (hij : i ≠ j) (h1 : -1 ≤ c) (h2 : c ≤ 1) (e : ∀ a b, a < n → b < n → U' a b = if a = i then U i b + c * U j b else U a b) : ∃ V', Ui n U' V' P (P + L) := by
  refine ⟨fun a b => if b = j then V a j + -c * V a i else V a b, ?_, ?_, ?_, ?_, ?_⟩
  · intro a b ha hb
    have row : ∀ k, k < n → lin V n (U' a) k = if a = i then kro i k + c * kro j k else kro a k := fun k hk => by
      by_cases ca : a = i
      · subst ca
        rw [if_pos rfl, lin_row V (x := U a) (y := U j) (c := c) (fun b hb => by rw [e a b ha hb, if_pos rfl]), I.uv a k ha hk, I.uv j k hj hk]
      · rw [if_neg ca, ← I.uv a k ha hk]
        exact lin_cg hk (fun _ _ _ _ => rfl) fun b hb => by rw [e a b ha hb, if_neg ca]
    by_cases cb : b = j
    · subst cb
      have : lin (fun a b' => if b' = b then V a b + -c * V a i else V a b') n (U' a) b = lin V n (U' a) b + -c * lin V n (U' a) i := lin_col (U' a) fun k _ => by simp
      rw [this, row b hb, row i hi]
      by_cases ca : a = i
      · subst ca
        simp [kro, hij, Ne.symm hij]
        omega
      · simp [kro, ca]
    · have : lin (fun a b' => if b' = j then V a j + -c * V a i else V a b') n (U' a) b = lin V n (U' a) b := sumN_cg fun k _ => by simp [cb]
      rw [this, row b hb]
      by_cases ca : a = i
      · subst ca
        have : ¬ j = b := fun q => cb q.symm
        simp [kro, this]
      · simp [ca]
  · intro a b ha hb
    rw [← I.vu a b ha hb]
    have p1 : sumN (fun k => if k = i then c * V a i * U j b else 0) n = c * V a i * U j b := by
      rw [sumN_one hi fun k _ hk => by simp [hk]]
      simp
    have p2 : sumN (fun k => if k = j then c * V a i * U j b else 0) n = c * V a i * U j b := by
      rw [sumN_one hj fun k _ hk => by simp [hk]]
      simp
    have p3 : lin U' n ((fun a b => if b = j then V a j + -c * V a i else V a b) a) b = lin U n (V a) b + sumN (fun k => if k = i then c * V a i * U j b else 0) n + -1 * sumN (fun k => if k = j then c * V a i * U j b else 0) n := by
      unfold lin
      rw [← sumN_mul, ← sumN_add, ← sumN_add]
      refine sumN_cg fun k hk => ?_
      rw [e k b hk hb]
      by_cases ki : k = i
      · subst ki
        simp [hij]
        grind
      · by_cases kj : k = j
        · subst kj
          simp [ki]
          grind
        · simp [ki, kj]
    rw [p3, p1, p2]
    omega
  · refine I.ru.add I.l0 hi hj hij (fun a ha hne => l1_cg fun b hb => by rw [e a b ha hb, if_neg hne]) (l1_nn _ _) (l1_lc h1 h2 fun b hb => by rw [e i b hi hb, if_pos rfl])
  · refine I.cv.add I.l0 hj hi (Ne.symm hij) (fun b hb hne => l1_cg fun a ha => by simp [hne]) (l1_nn _ _) (l1_lc (c := -c) (by omega) (by omega) fun a ha => by simp)
  · have := I.l0
    have := I.ru.le
    omega
theorem Ui.neg {n i : Nat} {U V U' : Fn} {L P : Int} (I : Ui n U V L P) (hi : i < n) (e : ∀ a b, a < n → b < n → U' a b = if a = i then - U i b else U a b) : ∃ V', Ui n U' V' P (P + L) := by
  refine ⟨fun a b => if b = i then - V a i else V a b, ?_, ?_, ?_, ?_, ?_⟩
  · intro a b ha hb
    have row : ∀ k, k < n → lin V n (U' a) k = if a = i then - kro i k else kro a k := fun k hk => by
      by_cases ca : a = i
      · subst ca
        rw [if_pos rfl, ← I.uv a k ha hk]
        unfold lin
        rw [← sumN_neg]
        exact sumN_cg fun b hb => by rw [e a b ha hb, if_pos rfl, Int.neg_mul]
      · rw [if_neg ca, ← I.uv a k ha hk]
        exact lin_cg hk (fun _ _ _ _ => rfl) fun b hb => by rw [e a b ha hb, if_neg ca]
    by_cases cb : b = i
    · subst cb
      have : lin (fun a b' => if b' = b then - V a b else V a b') n (U' a) b = - lin V n (U' a) b := by
        unfold lin
        rw [← sumN_neg]
        exact sumN_cg fun k _ => by simp [Int.mul_neg]
      rw [this, row b hb]
      by_cases ca : a = b
      · subst ca
        simp [kro]
      · simp [kro, ca]
    · have : lin (fun a b' => if b' = i then - V a i else V a b') n (U' a) b = lin V n (U' a) b := sumN_cg fun k _ => by simp [cb]
      rw [this, row b hb]
      by_cases ca : a = i
      · subst ca
        have : ¬ a = b := fun q => cb q.symm
        simp [kro, this]
      · simp [ca]
  · intro a b ha hb
    rw [← I.vu a b ha hb]
    refine sumN_cg fun k hk => ?_
    rw [e k b hk hb]
    by_cases ki : k = i
    · subst ki
      simp [Int.neg_mul_neg]
    · simp [ki]
  · refine I.ru.mono (fun a ha => ?_) I.l0
    by_cases ca : a = i
    · subst ca
      exact sumN_cg fun b hb => by rw [e a b ha hb, if_pos rfl, Int.natAbs_neg]
    · exact l1_cg fun b hb => by rw [e a b ha hb, if_neg ca]
  · refine I.cv.mono (fun b hb => ?_) I.l0
    by_cases cb : b = i
    · subst cb
      exact sumN_cg fun a _ => by simp
    · exact l1_cg fun a _ => by simp [cb]
  · have := I.l0
    have := I.ru.le
    omega
/-- the sums after k turns -/
def fibL : Nat → Int × Int
  | 0 => (1, 2)
  | k + 1 => ((fibL k).2, (fibL k).2 + (fibL k).1)
end Gp
namespace Gm
open PySem PySem.Spec PyProof.Rows L2 DL Gp
theorem uni_ui {n k : Nat} {U : Mx} (h : Uni n k U) : ∃ V, Ui n (ent U) V (fibL k).1 (fibL k).2 := by
  induction h with
  | one => exact ⟨kro, Ui.one n fun i j hi hj => unit_ent hi hj⟩
  | @neg k i U h hi ih =>
    obtain ⟨V, I⟩ := ih
    refine I.neg hi fun a b ha hb => ?_
    rw [ent_setrow h.sh hi]
    split
    · rw [getD_map _ _ _ 0 _ (by rw [h.sh.get hi]; exact hb)]
      rfl
    · rfl
  | @add k i j c U h hi hj hij h1 h2 ih =>
    obtain ⟨V, I⟩ := ih
    refine I.add hi hj hij h1 h2 fun a b ha hb => ?_
    rw [ent_setrow h.sh hi]
    split
    · rw [getD_map _ _ _ 0 _ (by rw [List.length_range]; exact hb)]
      simp [List.getD_eq_getElem?_getD, hb]
    · rfl
theorem ui5 {n k : Nat} {U : Mx} (hk : k ≤ 3) (h : Uni n k U) : ∃ V : Fn, (∀ i j, i < n → j < n → lin V n (ent U i) j = kro i j) ∧ (∀ i j, i < n → j < n → lin (ent U) n (V i) j = kro i j) ∧ (∀ i, i < n → l1 n (ent U i) ≤ 5) ∧ ∀ j, j < n → l1 n (fun a => V a j) ≤ 5 := by
  obtain ⟨V, I⟩ := uni_ui h
  have : (fibL k).1 ≤ 5 := by
    have k4 : k = 0 ∨ k = 1 ∨ k = 2 ∨ k = 3 := by omega
    rcases k4 with rfl | rfl | rfl | rfl <;> decide
  exact ⟨V, I.uv, I.vu, fun i hi => Int.le_trans (I.ru.one i hi) this, fun j hj => Int.le_trans (I.cv.one j hj) this⟩
theorem moved_ent {one U : Mx} {n : Nat} (s : Sh U n n) {i j : Nat} (hi : i < n) (hj : j < n) : ent (movedL one U) i j = bil (ent one) n (ent U i) (ent U j) := by
  unfold ent movedL
  rw [getD_map _ _ _ [] _ (by rw [s.len]; exact hi), getD_map _ _ _ [] _ (by rw [s.len]; exact hj), prodL_bil (s.get hi) (s.get hj)]
  rfl
/-- moved, the corner lifted by z -/
theorem mov_good {one U T : Mx} {n k : Nat} {z : Int} (h : WidOk one n) (hk : k ≤ 3) (u : Uni n k U) (z0 : 0 ≤ z) (z1 : z ≤ 1) (e : ∀ a b, a < n → b < n → ent T a b = ent (movedL one U) a b + if a = 0 ∧ b = 0 then z else 0) : Good (ent T) n := by
  have G := wid_good h
  have n1 := G.n1
  have n3 := G.n3
  have sU := u.sh
  have b0 := h.base
  obtain ⟨V, uv, vu, ru, cv⟩ := ui5 hk u
  have ee : ∀ a b, a < n → b < n → ent T a b = mvF (ent one) n (ent U) a b + if a = 0 ∧ b = 0 then z else 0 := fun a b ha hb => by
    rw [e a b ha hb, moved_ent sU ha hb]
    rfl
  have q : ∀ x, bil (ent T) n x x = bil (ent one) n (lin (ent U) n x) (lin (ent U) n x) + z * (x 0 * x 0) := fun x => by
    rw [← bil_mv G.sy]
    have p1 : bil (ent T) n x x = bil (mvF (ent one) n (ent U)) n x x + sumN (fun i => sumN (fun j => if i = 0 then (if j = 0 then z * (x 0 * x 0) else 0) else 0) n) n := by
      unfold bil
      rw [← sumN_add]
      refine sumN_cg fun i hi => ?_
      rw [← sumN_add]
      refine sumN_cg fun j hj => ?_
      rw [ee i j hi hj]
      by_cases c : i = 0
      · by_cases c2 : j = 0
        · subst c c2
          simp
          grind
        · simp [c2]
      · simp [c]
    have p2 : sumN (fun i => sumN (fun j => if i = 0 then (if j = 0 then z * (x 0 * x 0) else 0) else 0) n) n = z * (x 0 * x 0) := by
      rw [sumN_one (k := 0) (by omega) fun i _ hne => sumN_zero fun j _ => by simp [hne]]
      rw [sumN_one (k := 0) (by omega) fun j _ hne => by simp [hne]]
      simp
    rw [p1, p2]
  have xx : ∀ (x : Vec), 0 ≤ z * (x 0 * x 0) ∧ z * (x 0 * x 0) ≤ x 0 * x 0 := fun x => by
    have s := sqnn (x 0)
    exact ⟨Int.mul_nonneg z0 s, by have := Int.mul_le_mul_of_nonneg_right z1 s; omega⟩
  have row0 : ∀ r, r < n → bil (ent T) n (V r) (V r) ≤ ent one r r + V r 0 * V r 0 := fun r hr => by
    rw [q]
    have : bil (ent one) n (lin (ent U) n (V r)) (lin (ent U) n (V r)) = ent one r r := by
      rw [← bil_e1 (f := ent one) hr hr]
      have f : ∀ j, j < n → lin (ent U) n (V r) j = e1 r j := fun j hj => by
        rw [vu r j hr hj]
        by_cases c : r = j
        · subst c; simp [kro, e1]
        · have : ¬ j = r := fun q => c q.symm
          simp [kro, e1, c, this]
      exact bil_cg (fun _ _ _ _ => rfl) f f
    have := (xx (V r)).2
    omega
  have nz : ∀ r, r < n → ∃ i, i < n ∧ V r i ≠ 0 := fun r hr => by
    refine Classical.byContradiction fun c => ?_
    have zz : ∀ i, i < n → V r i = 0 := fun i hi => Classical.byContradiction fun p => c ⟨i, hi, p⟩
    have : lin (ent U) n (V r) r = 0 := sumN_zero fun i hi => by rw [zz i hi, Int.zero_mul]
    rw [vu r r hr hr] at this
    simp [kro] at this
  have ob := wid_bd h
  refine ⟨n1, n3, fun i j hi hj => ?_, ⟨ent U, V, fun x => ?_, fun x i hi => ?_, cv⟩, fun i hi => ?_, ?_⟩
  · rw [ee i j hi hj, ee j i hj hi]
    show bil (ent one) n (ent U i) (ent U j) + _ = bil (ent one) n (ent U j) (ent U i) + _
    rw [bil_comm G.sy]
    congr 1
    simp only [And.comm]
  · have a1 := base_sq b0 (lin (ent U) n x)
    have := q x
    have := (xx x).1
    omega
  · have : sumN (fun j => lin (ent U) n x j * V j i) n = lin V n (lin (ent U) n x) i := rfl
    rw [this, lin_lin, sumN_cg fun k hk => by rw [uv k i hk hi]]
    exact (sum_dl hi).symm
  · rw [ee i i hi hi]
    have a1 := bil_bd ob (ent U i)
    have a2 := ru i hi
    have a3 := l1_nn n (ent U i)
    have a4 : l1 n (ent U i) * l1 n (ent U i) ≤ 5 * 5 := Int.mul_le_mul a2 a2 a3 (by decide)
    have a5 : bil (ent one) n (ent U i) (ent U i) ≤ (if n = 3 then 5 else 7) * (l1 n (ent U i) * l1 n (ent U i)) := a1
    show bil (ent one) n (ent U i) (ent U i) + _ ≤ _ ∧ (_ → bil (ent one) n (ent U i) (ent U i) + _ ≤ _)
    have a6 : (if i = 0 ∧ i = 0 then z else 0) ≤ 1 := by split <;> omega
    generalize (if i = 0 ∧ i = 0 then z else 0) = y at *
    split at a5 <;> omega
  · have c0 := cv 0 (by omega)
    have d : ∀ r, r < n → ent one r r ≤ if n = 3 then 5 else 7 := fun r hr => Int.le_trans Int.le_natAbs (ob r r hr hr)
    have nn : n = 1 ∨ n = 2 ∨ n = 3 := by omega
    have sm : ∀ (v : Int) (b : Nat), v.natAbs ≤ b → v * v ≤ (b : Int) * b := fun v b hv => by
      rw [← Int.natAbs_mul_self' v]
      exact_mod_cast Nat.mul_le_mul hv hv
    have use : ∀ r, r < n → ∀ b : Nat, (V r 0).natAbs ≤ b → (if n = 3 then (5 : Int) else 7) + (b : Int) * b ≤ (if n = 3 then 6 else 11) → ∃ x : Vec, (∃ i, i < n ∧ x i ≠ 0) ∧ bil (ent T) n x x ≤ if n = 3 then 6 else 11 := fun r hr b hb hle => ⟨V r, nz r hr, by
      have a1 := row0 r hr
      have a2 := d r hr
      have a3 := sm _ _ hb
      exact Int.le_trans a1 (Int.le_trans (Int.add_le_add a2 a3) hle)⟩
    rcases nn with rfl | rfl | rfl
    · refine use 0 (by decide) 1 ?_ (by decide)
      have h1 := uv 0 0 (by decide) (by decide)
      simp [lin, sumN, kro] at h1
      have h2 := congrArg Int.natAbs h1
      rw [Int.natAbs_mul] at h2
      have : (V 0 0).natAbs = 1 := Nat.dvd_one.mp ⟨(ent U 0 0).natAbs, by rw [Nat.mul_comm]; exact h2.symm⟩
      omega
    · simp [l1, sumN] at c0
      have : (V 0 0).natAbs ≤ 2 ∨ (V 1 0).natAbs ≤ 2 := by omega
      rcases this with c | c
      · exact use 0 (by decide) 2 c (by decide)
      · exact use 1 (by decide) 2 c (by decide)
    · simp [l1, sumN] at c0
      have : (V 0 0).natAbs ≤ 1 ∨ (V 1 0).natAbs ≤ 1 ∨ (V 2 0).natAbs ≤ 1 := by omega
      rcases this with c | c | c
      · exact use 0 (by decide) 1 c (by decide)
      · exact use 1 (by decide) 1 c (by decide)
      · exact use 2 (by decide) 1 c (by decide)
theorem two_good {t : Mx} {n : Nat} (h : IsTwo t n) : Good (ent t) n := by
  cases h with
  | wid h => exact wid_good h
  | exc h s e => exact exc_good h e
  | det h => exact det_good h
  | mov h hk u => exact mov_good h hk u (z := 0) (by decide) (by decide) fun a b _ _ => by simp
  | mop h hk u s e => exact mov_good h hk u (z := 1) (by decide) (by decide) e
theorem two_sh {t : Mx} {n : Nat} (h : IsTwo t n) : Sh t n n := by
  cases h with
  | wid h => exact h.base.sh
  | exc h s e => exact s
  | det h => exact ⟨rfl, fun r hr => by
      simp at hr
      rcases hr with rfl | rfl <;> rfl⟩
  | mov h hk u => exact movedL_sh u.sh
  | mop h hk u s e => exact s
theorem lawOk_all : ∀ one n two n', IsOne one n → IsTwo two n' → LawOk one n two n' := fun one n two n' h1 h2 => by
  have G := one_good h1
  have G' := two_good h2
  have s := h1.base.sh
  have s' := two_sh h2
  by_cases e : n = n'
  · subst e
    exact lawOk_both ⟨G, G', s, s', one_ok h1⟩
  · exact ⟨latOk G s, latOk G' s', fun h => absurd h e, fun h => absurd h e, fun h => absurd h e, fun h => absurd h e⟩
end Gm
end
/-! Tx -/
section
set_option Elab.async false
set_option linter.all false
set_option maxRecDepth 100000
set_option maxHeartbeats 4000000
namespace Gm
open PySem PySem.Spec PyProof.Rows L2 DL
theorem oB_ok {K : PySem.W.Frag} {C : Addr} (c : Cls K C) (h : oB K C = true) : IsO K C := by
  obtain ⟨h1, h⟩ := He.ba h
  obtain ⟨h2, h⟩ := He.ba h
  obtain ⟨h3, h⟩ := He.ba h
  obtain ⟨h4, h⟩ := He.ba h
  obtain ⟨h5, h6⟩ := He.ba h
  exact ⟨c, He.eqO_ok h1, He.eqO_ok h2, of_decide_eq_true h3, of_decide_eq_true h4, of_decide_eq_true h5, of_decide_eq_true h6⟩
theorem fdD {K : PySem.W.Frag} {d : He.DefD} (c : ∃ fd, FunD K d.name d.qual d.params d.body d.scope (d.dvs K) (d.kws K) (He.fAd K d.at_) fd) : FunD K d.name d.qual d.params d.body d.scope (d.dvs K) (d.kws K) (He.fAd K d.at_) (fdOf K (He.fAd K d.at_)) :=
  let ⟨_, F⟩ := c
  fdOf_eq F
theorem tx_of {K : PySem.W.Frag} {h : Heap} {mg : Str → Option Value} (X : K.In h) (G : h.Ns mainGlobals mg) (c : He.SaysD fa fn K) (e : ex K = true) : Tx K mg := by
  obtain ⟨e1, e⟩ := He.ba e
  obtain ⟨e2, e⟩ := He.ba e
  obtain ⟨e3, e⟩ := He.ba e
  obtain ⟨e4, e⟩ := He.ba e
  obtain ⟨e5, e6⟩ := He.ba e
  exact {
    n_range := He.free_ok X G (c.fact 84 (f := .free "range") rfl)
    n_len := He.free_ok X G (c.fact 85 (f := .free "len") rfl)
    n_abs := He.free_ok X G (c.fact 86 (f := .free "abs") rfl)
    n_min := He.free_ok X G (c.fact 87 (f := .free "min") rfl)
    n_isinstance := He.free_ok X G (c.fact 88 (f := .free "isinstance") rfl)
    n_int := He.free_ok X G (c.fact 89 (f := .free "int") rfl)
    n_list := He.free_ok X G (c.fact 90 (f := .free "list") rfl)
    n_tuple := He.free_ok X G (c.fact 91 (f := .free "tuple") rfl)
    n_sum := He.free_ok X G (c.fact 92 (f := .free "sum") rfl)
    n_sorted := He.free_ok X G (c.fact 93 (f := .free "sorted") rfl)
    n_zip := He.free_ok X G (c.fact 94 (f := .free "zip") rfl)
    n_enumerate := He.free_ok X G (c.fact 95 (f := .free "enumerate") rfl)
    n_all := He.free_ok X G (c.fact 96 (f := .free "all") rfl)
    n_bool := He.free_ok X G (c.fact 97 (f := .free "bool") rfl)
    g_isqrt := PySem.W.mg_of X G (He.eqO_ok e1)
    c_MOST_RANK := He.int_ok X G (c.fact 82 (f := .int "MOST_RANK" 4) rfl)
    c_MOST_ITEM := He.int_ok X G (c.fact 83 (f := .int "MOST_ITEM" 10000) rfl)
    g_TimesRow := He.glo_ok X G (c.fact 0 (f := .glo "_times_row") rfl)
    d_TimesRow := fdD (c.def_ 0 (d := dTimesRow) rfl)
    g_Less := He.glo_ok X G (c.fact 1 (f := .glo "_less") rfl)
    d_Less := fdD (c.def_ 1 (d := dLess) rfl)
    g_LeastPlace := He.glo_ok X G (c.fact 2 (f := .glo "_least_place") rfl)
    d_LeastPlace := fdD (c.def_ 2 (d := dLeastPlace) rfl)
    g_Turned := He.glo_ok X G (c.fact 3 (f := .glo "_turned") rfl)
    d_Turned := fdD (c.def_ 3 (d := dTurned) rfl)
    g_Swap := He.glo_ok X G (c.fact 4 (f := .glo "_swap") rfl)
    d_Swap := fdD (c.def_ 4 (d := dSwap) rfl)
    g_SwapItems := He.glo_ok X G (c.fact 5 (f := .glo "_swap_items") rfl)
    d_SwapItems := fdD (c.def_ 5 (d := dSwapItems) rfl)
    g_ClearColumn := He.glo_ok X G (c.fact 6 (f := .glo "_clear_column") rfl)
    d_ClearColumn := fdD (c.def_ 6 (d := dClearColumn) rfl)
    g_IsClear := He.glo_ok X G (c.fact 7 (f := .glo "_is_clear") rfl)
    d_IsClear := fdD (c.def_ 7 (d := dIsClear) rfl)
    g_Unfit := He.glo_ok X G (c.fact 8 (f := .glo "_unfit") rfl)
    d_Unfit := fdD (c.def_ 8 (d := dUnfit) rfl)
    g_SmithRows := He.glo_ok X G (c.fact 9 (f := .glo "smith_rows") rfl)
    d_SmithRows := fdD (c.def_ 9 (d := dSmithRows) rfl)
    g_IsInteger := He.glo_ok X G (c.fact 10 (f := .glo "is_integer") rfl)
    d_IsInteger := fdD (c.def_ 10 (d := dIsInteger) rfl)
    g_RootFloor := He.glo_ok X G (c.fact 11 (f := .glo "root_floor") rfl)
    d_RootFloor := fdD (c.def_ 11 (d := dRootFloor) rfl)
    g_Upper := He.glo_ok X G (c.fact 12 (f := .glo "upper") rfl)
    d_Upper := fdD (c.def_ 12 (d := dUpper) rfl)
    g_Lower := He.glo_ok X G (c.fact 13 (f := .glo "lower") rfl)
    d_Lower := fdD (c.def_ 13 (d := dLower) rfl)
    g_Dot := He.glo_ok X G (c.fact 14 (f := .glo "dot") rfl)
    d_Dot := fdD (c.def_ 14 (d := dDot) rfl)
    g_Checked := He.glo_ok X G (c.fact 15 (f := .glo "_checked") rfl)
    d_Checked := fdD (c.def_ 15 (d := dChecked) rfl)
    g_UnitRows := He.glo_ok X G (c.fact 16 (f := .glo "_unit_rows") rfl)
    d_UnitRows := fdD (c.def_ 16 (d := dUnitRows) rfl)
    g_Determinant := He.glo_ok X G (c.fact 17 (f := .glo "_determinant") rfl)
    d_Determinant := fdD (c.def_ 17 (d := dDeterminant) rfl)
    g_Minor := He.glo_ok X G (c.fact 18 (f := .glo "_minor") rfl)
    d_Minor := fdD (c.def_ 18 (d := dMinor) rfl)
    d_GridInit := fdD (c.def_ 19 (d := dGridInit) rfl)
    d_GridLen := fdD (c.def_ 20 (d := dGridLen) rfl)
    m_GridLen := He.meth_ok (c.fact 55 (f := .meth "Grid" "__len__") rfl)
    d_GridEq := fdD (c.def_ 21 (d := dGridEq) rfl)
    m_GridEq := He.meth_ok (c.fact 56 (f := .meth "Grid" "__eq__") rfl)
    d_GridSub := fdD (c.def_ 22 (d := dGridSub) rfl)
    m_GridSub := He.meth_ok (c.fact 57 (f := .meth "Grid" "__sub__") rfl)
    d_GridMul := fdD (c.def_ 23 (d := dGridMul) rfl)
    m_GridMul := He.meth_ok (c.fact 58 (f := .meth "Grid" "__mul__") rfl)
    d_GridScaled := fdD (c.def_ 24 (d := dGridScaled) rfl)
    m_GridScaled := He.meth_ok (c.fact 59 (f := .meth "Grid" "scaled") rfl)
    d_GridTransposed := fdD (c.def_ 25 (d := dGridTransposed) rfl)
    m_GridTransposed := He.meth_ok (c.fact 60 (f := .meth "Grid" "transposed") rfl)
    d_GridTimes := fdD (c.def_ 26 (d := dGridTimes) rfl)
    m_GridTimes := He.meth_ok (c.fact 61 (f := .meth "Grid" "times") rfl)
    d_GridIsSquare := fdD (c.def_ 27 (d := dGridIsSquare) rfl)
    m_GridIsSquare := He.meth_ok (c.fact 62 (f := .meth "Grid" "is_square") rfl)
    d_GridDeterminant := fdD (c.def_ 28 (d := dGridDeterminant) rfl)
    m_GridDeterminant := He.meth_ok (c.fact 63 (f := .meth "Grid" "determinant") rfl)
    d_GridAdjugate := fdD (c.def_ 29 (d := dGridAdjugate) rfl)
    m_GridAdjugate := He.meth_ok (c.fact 64 (f := .meth "Grid" "adjugate") rfl)
    d_GridIsUnimodular := fdD (c.def_ 30 (d := dGridIsUnimodular) rfl)
    m_GridIsUnimodular := He.meth_ok (c.fact 65 (f := .meth "Grid" "is_unimodular") rfl)
    d_GridInverse := fdD (c.def_ 31 (d := dGridInverse) rfl)
    m_GridInverse := He.meth_ok (c.fact 66 (f := .meth "Grid" "inverse") rfl)
    d_GridSmith := fdD (c.def_ 32 (d := dGridSmith) rfl)
    m_GridSmith := He.meth_ok (c.fact 67 (f := .meth "Grid" "smith") rfl)
    d_GridFactors := fdD (c.def_ 33 (d := dGridFactors) rfl)
    m_GridFactors := He.meth_ok (c.fact 68 (f := .meth "Grid" "factors") rfl)
    d_GridIsPrimitive := fdD (c.def_ 34 (d := dGridIsPrimitive) rfl)
    m_GridIsPrimitive := He.meth_ok (c.fact 69 (f := .meth "Grid" "is_primitive") rfl)
    g_SquareRows := He.glo_ok X G (c.fact 19 (f := .glo "square_rows") rfl)
    d_SquareRows := fdD (c.def_ 35 (d := dSquareRows) rfl)
    g_CheckSymmetric := He.glo_ok X G (c.fact 20 (f := .glo "check_symmetric") rfl)
    d_CheckSymmetric := fdD (c.def_ 36 (d := dCheckSymmetric) rfl)
    d_LatticeInit := fdD (c.def_ 37 (d := dLatticeInit) rfl)
    d_LatticeEq := fdD (c.def_ 38 (d := dLatticeEq) rfl)
    m_LatticeEq := He.meth_ok (c.fact 74 (f := .meth "Lattice" "__eq__") rfl)
    d_LatticeContains := fdD (c.def_ 39 (d := dLatticeContains) rfl)
    m_LatticeContains := He.meth_ok (c.fact 75 (f := .meth "Lattice" "__contains__") rfl)
    d_LatticeRank := fdD (c.def_ 40 (d := dLatticeRank) rfl)
    m_LatticeRank := He.meth_ok (c.fact 76 (f := .meth "Lattice" "rank") rfl)
    d_LatticeProduct := fdD (c.def_ 41 (d := dLatticeProduct) rfl)
    m_LatticeProduct := He.meth_ok (c.fact 77 (f := .meth "Lattice" "product") rfl)
    d_LatticeNorm := fdD (c.def_ 42 (d := dLatticeNorm) rfl)
    m_LatticeNorm := He.meth_ok (c.fact 78 (f := .meth "Lattice" "norm") rfl)
    g_TailMatrix := He.glo_ok X G (c.fact 21 (f := .glo "tail_matrix") rfl)
    d_TailMatrix := fdD (c.def_ 43 (d := dTailMatrix) rfl)
    g_IsPoint := He.glo_ok X G (c.fact 22 (f := .glo "is_point") rfl)
    d_IsPoint := fdD (c.def_ 44 (d := dIsPoint) rfl)
    g_HeadDeterminants := He.glo_ok X G (c.fact 23 (f := .glo "head_determinants") rfl)
    d_HeadDeterminants := fdD (c.def_ 45 (d := dHeadDeterminants) rfl)
    g_Choices := He.glo_ok X G (c.fact 24 (f := .glo "choices") rfl)
    d_Choices := fdD (c.def_ 46 (d := dChoices) rfl)
    g_NearVectors := He.glo_ok X G (c.fact 25 (f := .glo "near_vectors") rfl)
    d_NearVectors := fdD (c.def_ 47 (d := dNearVectors) rfl)
    g_ShortVectors := He.glo_ok X G (c.fact 26 (f := .glo "short_vectors") rfl)
    d_ShortVectors := fdD (c.def_ 48 (d := dShortVectors) rfl)
    g_MarkOf := He.glo_ok X G (c.fact 27 (f := .glo "mark_of") rfl)
    d_MarkOf := fdD (c.def_ 49 (d := dMarkOf) rfl)
    g_IsPrimitive := He.glo_ok X G (c.fact 28 (f := .glo "is_primitive") rfl)
    d_IsPrimitive := fdD (c.def_ 50 (d := dIsPrimitive) rfl)
    g_LeastContinued := He.glo_ok X G (c.fact 29 (f := .glo "least_continued") rfl)
    d_LeastContinued := fdD (c.def_ 51 (d := dLeastContinued) rfl)
    g_Levels := He.glo_ok X G (c.fact 30 (f := .glo "levels") rfl)
    d_Levels := fdD (c.def_ 52 (d := dLevels) rfl)
    g_LeastBases := He.glo_ok X G (c.fact 31 (f := .glo "least_bases") rfl)
    d_LeastBases := fdD (c.def_ 53 (d := dLeastBases) rfl)
    g_GramOfMarks := He.glo_ok X G (c.fact 32 (f := .glo "gram_of_marks") rfl)
    d_GramOfMarks := fdD (c.def_ 54 (d := dGramOfMarks) rfl)
    g_Form := He.glo_ok X G (c.fact 33 (f := .glo "form") rfl)
    d_Form := fdD (c.def_ 55 (d := dForm) rfl)
    g_AllMaps := He.glo_ok X G (c.fact 34 (f := .glo "all_maps") rfl)
    d_AllMaps := fdD (c.def_ 56 (d := dAllMaps) rfl)
    g_Alike := He.glo_ok X G (c.fact 35 (f := .glo "alike") rfl)
    d_Alike := fdD (c.def_ 57 (d := dAlike) rfl)
    g_FindMap := He.glo_ok X G (c.fact 36 (f := .glo "find_map") rfl)
    d_FindMap := fdD (c.def_ 58 (d := dFindMap) rfl)
    g_LState := He.glo_ok X G (c.fact 37 (f := .glo "_law_state") rfl)
    d_LState := fdD (c.def_ 59 (d := dLState) rfl)
    g_LTake := He.glo_ok X G (c.fact 38 (f := .glo "_law_take") rfl)
    d_LTake := fdD (c.def_ 60 (d := dLTake) rfl)
    g_LGram := He.glo_ok X G (c.fact 39 (f := .glo "_law_gram") rfl)
    d_LGram := fdD (c.def_ 61 (d := dLGram) rfl)
    g_LUnimodular := He.glo_ok X G (c.fact 40 (f := .glo "_law_unimodular") rfl)
    d_LUnimodular := fdD (c.def_ 62 (d := dLUnimodular) rfl)
    g_LProduct := He.glo_ok X G (c.fact 41 (f := .glo "_law_product") rfl)
    d_LProduct := fdD (c.def_ 63 (d := dLProduct) rfl)
    g_LMoved := He.glo_ok X G (c.fact 42 (f := .glo "_law_moved") rfl)
    d_LMoved := fdD (c.def_ 64 (d := dLMoved) rfl)
    g_LMinor := He.glo_ok X G (c.fact 43 (f := .glo "_law_minor") rfl)
    d_LMinor := fdD (c.def_ 65 (d := dLMinor) rfl)
    g_LDeterminant := He.glo_ok X G (c.fact 44 (f := .glo "_law_determinant") rfl)
    d_LDeterminant := fdD (c.def_ 66 (d := dLDeterminant) rfl)
    g_LRoot := He.glo_ok X G (c.fact 45 (f := .glo "_law_root") rfl)
    d_LRoot := fdD (c.def_ 67 (d := dLRoot) rfl)
    g_LNear := He.glo_ok X G (c.fact 46 (f := .glo "_law_near") rfl)
    d_LNear := fdD (c.def_ 68 (d := dLNear) rfl)
    g_LMaps := He.glo_ok X G (c.fact 47 (f := .glo "_law_maps") rfl)
    d_LMaps := fdD (c.def_ 69 (d := dLMaps) rfl)
    g_LWider := He.glo_ok X G (c.fact 48 (f := .glo "_law_wider") rfl)
    d_LWider := fdD (c.def_ 70 (d := dLWider) rfl)
    g_LExchanged := He.glo_ok X G (c.fact 49 (f := .glo "_law_exchanged") rfl)
    d_LExchanged := fdD (c.def_ 71 (d := dLExchanged) rfl)
    g_L := He.glo_ok X G (c.fact 50 (f := .glo "law") rfl)
    d_L := fdD (c.def_ 72 (d := dL) rfl)
    g_Grid := He.glo_ok X G (c.fact 51 (f := .glo "Grid") rfl)
    cls_Grid := He.cls_ok (c.fact 52 (f := .cls "Grid") rfl)
    mk_Grid := He.mkr_ok (c.fact 53 (f := .mkr "Grid") rfl)
    iso_Grid := oB_ok (He.cls_ok (c.fact 52 (f := .cls "Grid") rfl)) e2
    g_Lattice := He.glo_ok X G (c.fact 70 (f := .glo "Lattice") rfl)
    cls_Lattice := He.cls_ok (c.fact 71 (f := .cls "Lattice") rfl)
    mk_Lattice := He.mkr_ok (c.fact 72 (f := .mkr "Lattice") rfl)
    iso_Lattice := oB_ok (He.cls_ok (c.fact 71 (f := .cls "Lattice") rfl)) e3
    no_Grid_rows := He.noat_ok (c.fact 79 (f := .noat "Grid" "rows") rfl)
    no_Grid_width := He.noat_ok (c.fact 80 (f := .noat "Grid" "width") rfl)
    no_Lattice_gram := He.noat_ok (c.fact 81 (f := .noat "Lattice" "gram") rfl)
    self_Grid := e4
    ne_Lattice := ⟨He.eqO_ok e5, of_decide_eq_true e6⟩ }
end Gm
end
/-! End -/
set_option Elab.async false
set_option linter.all false
set_option maxRecDepth 100000
set_option maxHeartbeats 4000000
namespace Gm
open PySem PySem.Spec PyProof.Rows L2 DL Gp
theorem hd_all (w : World) : HandSHeadRun.RunEqI R vw hk ob 6000 loose w := by
  obtain ⟨x, hx⟩ := Option.isSome_iff_exists.mp (hdT1 w)
  have h2 := hdT2 w
  have h3 := hdT3 w
  have h4 := hdT4 w
  have h5 := hdT5 w
  have h6 := hdT6 w
  have h7 := hdT7 w
  rw [hx, Option.map_some] at h2 h3 h4 h5 h6 h7
  have h2 := Option.some.inj h2
  have h3 := Option.some.inj h3
  have h4 := Option.some.inj h4
  have h5 := Option.some.inj h5
  have h6 := Option.some.inj h6
  have h7 := Option.some.inj h7
  have h57 : (ob x.2).1.1.1 = true := by
    show ((fa.all fun f => f.ok (kx x.2)) && fn.all fun d => d.ok (kx x.2)) = true
    rw [h5, h7]
    rfl
  show (Wx w).map _ = _
  rw [hx, Option.map_some]
  refine congrArg some ?_
  have ho : ob x.2 = hk.val w := by
    have e : ob x.2 = ((((ob x.2).1.1.1, (ob x.2).1.1.2), (ob x.2).1.2), (ob x.2).2) := rfl
    rw [e, h4, h57, h6]
    rfl
  exact Prod.ext h2 (Prod.ext h3 ho)
theorem law_fn {P : Program} {w : World} {K : PySem.W.Frag} {h : Heap} {mg : Str → Option Value} {f : Addr} (X : K.In h) (G : h.Ns mainGlobals mg) (hfa : mg ("law" : Str) = some (.ref f)) (c : He.SaysX fa fn [] [] ex w h K) :
    ∃ fd : FuncData, (∀ (s : Shared) (v : Value), BindsTo s fd ⟨[v], []⟩ [("_law_script", v)]) ∧ ∀ base : Heap, K.In base → base.Ns mainGlobals mg → FnOk P w K mg base CX0 15 f fd ["_law_script"] (spD K phiL) := by
  have T : Tx K mg := tx_of X G c.t.d c.more
  have e := hfa.symm.trans T.g_L
  cases e
  have b := FunD.bindsA (ps := ["_law_script"]) T.d_L fun _ _ _ _ _ _ us hl => match us, hl with | [_], _ => rfl
  exact ⟨_, fun s v => b s [v] rfl, fun base _ _ => (okL T).mono (by decide)⟩
theorem law_sp {K : PySem.W.Frag} {H : Hp} {a : Addr} {ns : List Int} (hS : SqL K H a (ns.map V.int)) : spD K phiL [.ref a] H (fun v _ => v = .bl true) fun _ _ _ => False := by
  refine ⟨H, fun _ => none, fun _ => none, [.sq (ns.map D.int)], fun d _ => d = .bl true, ⟨Same.refl _, fun _ _ e => (by cases e), fun _ _ e => (by cases e), fun _ _ e => (by cases e)⟩, .cons (.sq hS (Ats.of_ints ns)) .nil, ⟨ns, rfl, lawOk_all, rfl⟩, fun d μ' v G' H' hd _ _ a => ?_⟩
  subst hd
  cases a
  rfl
end Gm
open PySem PySem.W PySem.Calls PyProof.Rows
theorem PySem.Challenge.cw_gridmetric_k23_whole_alike_or_not_holds : PySem.Challenge.rw_gridmetric_k23_whole_alike_or_not.Holds := by
  w_on; o_law
  refine HandSHeadRun.head_imp (r := OpenLaw.row PySem.Challenge.rw_gridmetric_k23_whole_alike_or_not) (q := Gm.vw) (H := Gm.hk) (ob := Gm.ob) (M := 6000) (loose := Gm.loose) (d := HandSHeadRun.topDef (OpenLaw.row PySem.Challenge.rw_gridmetric_k23_whole_alike_or_not).prog 70) (kwd := []) Gm.ob_eq
    Gm.hd_all (by kernel_rfl) (by kernel_rfl) (by kernel_rfl) (by rfl) (by first | assumption | decide +kernel) (by decide +kernel) ⟨rfl, rfl, rfl, rfl, rfl, by decide +kernel⟩ ?hw ?hc
  case hw => w_witness2
  case hc =>
    refine L2.walk_ofE (l := PySem.Challenge.rw_gridmetric_k23_whole_alike_or_not) (n := 63) (k := 15) (x := "_law_script") (CX := L2.CX0) rfl (by decide) (by kernel_rfl) ⟨rfl, by decide, by decide⟩ ?F (fun _ _ _ _ z => z)
    intro w mg fa h Y G hmg0
    obtain ⟨K, KX, c⟩ := Y
    have hmg : mg ("law" : PySem.Str) = some (.ref fa) := by
      have e : (HandSHeadRun.topDef (OpenLaw.row PySem.Challenge.rw_gridmetric_k23_whole_alike_or_not).prog 70).name = ("law" : PySem.Str) := by kernel_rfl
      rw [← e]
      exact hmg0
    obtain ⟨fd, hb, hF⟩ := Gm.law_fn (P := (PySem.Challenge.rw_gridmetric_k23_whole_alike_or_not).prog) (w := w) KX G hmg c
    exact ⟨K, fd, DL.spD K Gm.phiL, KX, hb, fun H a ns hl _ hS => Gm.law_sp hS, hF⟩
