import PyProof.Rows.All
import Wide.All
import OpenK.AllK
import Wide.FinOn
import KE.KStateDown
import Lean
import HandS.Base
import HandS.Call
import HandS.List
import HandS.Ends
import HandS.More
import HandS.Words
import HandS.WordsExc
import HandS.Defaults
import HandS.Head0
import HandS.Head1
import HandS.Head2
import HandS.HeadEnd
import HandS.HeadHook1
import HandS.HeadHook2
import HandS.HeadHook3
import HandS.HeadHook4
import KE.GoesEnum
import HandS.ForMost
import HandS.Walk
import HandS.Zip
import HandS.SetFor
import HandS.Strs
import KE.SortKeyHeap
import KE.SortUse
import HandS.SortKw
import HandS.Codes
import PyProof.ReprRoads
import PyProof.ReprBulk
import KE.GoesMore
import HandS.IsInst
import HandS.TupAny
import HandS.Deep
import HandS.Exc
import HandS.ExcOwn
import PySem.Challenge.RW_waysfold_k65_whole_least_weights
set_option Elab.async false
set_option linter.all false
set_option maxRecDepth 100000
set_option maxHeartbeats 0
namespace Wf
open PySem PySem.Spec PyProof.Rows L2
abbrev prog0 : Program := PySem.Challenge.pw_waysfold_k65_whole_least_weights
def top (i : Nat) : Stmt := prog0.main.body.getD i (.Pass ⟨0, 0, 0, 0⟩)
abbrev sIsWhole : Stmt := top 15
abbrev sIsAmong : Stmt := top 16
abbrev sIsLeaf : Stmt := top 25
abbrev sSizeWithin : Stmt := top 26
abbrev sIsWorth : Stmt := top 27
abbrev sIsThing : Stmt := top 30
abbrev sNeedThing : Stmt := top 31
abbrev sGoesOn : Stmt := top 32
abbrev sLean : Stmt := top 35
abbrev sAtPlace : Stmt := top 36
abbrev sAheadOf : Stmt := top 37
abbrev sBehind : Stmt := top 38
abbrev sRises : Stmt := top 44
abbrev sIsClass : Stmt := top 45
abbrev sIsKind : Stmt := top 46
abbrev sNeedKind : Stmt := top 47
abbrev sCanonOf : Stmt := top 49
abbrev sAreLike : Stmt := top 50
abbrev sAreItems : Stmt := top 59
abbrev sHasForm : Stmt := top 60
abbrev sWithin : Stmt := top 61
abbrev sPartsWithin : Stmt := top 62
abbrev sIsPattern : Stmt := top 63
abbrev sNeedForm : Stmt := top 64
abbrev sAllParts : Stmt := top 65
abbrev sToldBy : Stmt := top 66
abbrev sAllUses : Stmt := top 67
abbrev sUsesFit : Stmt := top 69
abbrev sFirstBad : Stmt := top 70
abbrev sNeedBook : Stmt := top 71
abbrev sNeedPattern : Stmt := top 72
abbrev sIsStand : Stmt := top 79
abbrev sWeightOf : Stmt := top 83
abbrev sLeftIn : Stmt := top 84
abbrev sPutBehind : Stmt := top 86
abbrev sNeedAsked : Stmt := top 87
abbrev sNeedBookAndKind : Stmt := top 88
abbrev sNeedRoom : Stmt := top 89
abbrev sRuns : Stmt := top 90
abbrev sIsPlainItem : Stmt := top 96
abbrev sInnerOf : Stmt := top 97
abbrev sIsPlain : Stmt := top 98
abbrev sNeedPlain : Stmt := top 99
abbrev sNeedByRows : Stmt := top 100
abbrev sIsWide : Stmt := top 101
abbrev sNeedWide : Stmt := top 102
abbrev sAddPieces : Stmt := top 103
abbrev sPiecesBy : Stmt := top 104
abbrev sIsByReading : Stmt := top 105
abbrev sItemsOf : Stmt := top 106
abbrev sGoneOn : Stmt := top 107
abbrev sBegun : Stmt := top 108
abbrev sSpotsBehind : Stmt := top 109
abbrev sReadOn : Stmt := top 110
abbrev sPutTogether : Stmt := top 111
abbrev sLikeLeaves : Stmt := top 112
abbrev sLeafTold : Stmt := top 113
abbrev sRowTold : Stmt := top 114
abbrev sToldOf : Stmt := top 115
abbrev sMatches : Stmt := top 116
abbrev sLawMixed : Stmt := top 118
abbrev sLawFolded : Stmt := top 119
abbrev sLawDraw : Stmt := top 120
abbrev sLawBegun : Stmt := top 121
abbrev sLawLeaf : Stmt := top 122
abbrev sLawWorth : Stmt := top 123
abbrev sLawKind : Stmt := top 124
abbrev sLawKindByRows : Stmt := top 125
abbrev sLawPlain : Stmt := top 126
abbrev sLawDepth : Stmt := top 127
abbrev sLawPlainIn : Stmt := top 128
abbrev sLawPlainItem : Stmt := top 129
abbrev sLawLike : Stmt := top 130
abbrev sLawMatched : Stmt := top 133
abbrev sLawPieces : Stmt := top 134
abbrev sLawNoNots : Stmt := top 135
abbrev sLawSum : Stmt := top 136
abbrev sLawLeast : Stmt := top 137
abbrev sLawWeight : Stmt := top 138
abbrev sLawRowWeight : Stmt := top 139
abbrev sLawRuns : Stmt := top 140
abbrev sLaw0 : Stmt := top 141
abbrev sTrInit : Stmt := inClass (top 85) 0
abbrev sTrAlike : Stmt := inClass (top 85) 1
abbrev sTrFound : Stmt := inClass (top 85) 2
abbrev sTrByWorth : Stmt := inClass (top 85) 3
abbrev sTrByTwo : Stmt := inClass (top 85) 4
abbrev sTrByLooking : Stmt := inClass (top 85) 5
abbrev sTrChosen : Stmt := inClass (top 85) 6
abbrev sTrByAll : Stmt := inClass (top 85) 7
abbrev sTrByRow : Stmt := inClass (top 85) 8
abbrev sTrCut : Stmt := inClass (top 85) 9
def dIsWhole : He.DefD := ⟨("is_whole", none), "is_whole", "is_whole", defArgs sIsWhole, defBody sIsWhole, defScope sIsWhole, [], []⟩
def dIsAmong : He.DefD := ⟨("is_among", none), "is_among", "is_among", defArgs sIsAmong, defBody sIsAmong, defScope sIsAmong, [], []⟩
def dIsLeaf : He.DefD := ⟨("is_leaf", none), "is_leaf", "is_leaf", defArgs sIsLeaf, defBody sIsLeaf, defScope sIsLeaf, [], []⟩
def dSizeWithin : He.DefD := ⟨("size_within", none), "size_within", "size_within", defArgs sSizeWithin, defBody sSizeWithin, defScope sSizeWithin, [], []⟩
def dIsWorth : He.DefD := ⟨("is_worth", none), "is_worth", "is_worth", defArgs sIsWorth, defBody sIsWorth, defScope sIsWorth, [], []⟩
def dIsThing : He.DefD := ⟨("is_thing", none), "is_thing", "is_thing", defArgs sIsThing, defBody sIsThing, defScope sIsThing, [], []⟩
def dNeedThing : He.DefD := ⟨("need_thing", none), "need_thing", "need_thing", defArgs sNeedThing, defBody sNeedThing, defScope sNeedThing, [], []⟩
def dGoesOn : He.DefD := ⟨("goes_on", none), "goes_on", "goes_on", defArgs sGoesOn, defBody sGoesOn, defScope sGoesOn, [], []⟩
def dLean : He.DefD := ⟨("lean", none), "lean", "lean", defArgs sLean, defBody sLean, defScope sLean, [], []⟩
def dAtPlace : He.DefD := ⟨("at_place", none), "at_place", "at_place", defArgs sAtPlace, defBody sAtPlace, defScope sAtPlace, [], []⟩
def dAheadOf : He.DefD := ⟨("ahead_of", none), "ahead_of", "ahead_of", defArgs sAheadOf, defBody sAheadOf, defScope sAheadOf, [], []⟩
def dBehind : He.DefD := ⟨("behind", none), "behind", "behind", defArgs sBehind, defBody sBehind, defScope sBehind, [], []⟩
def dRises : He.DefD := ⟨("rises", none), "rises", "rises", defArgs sRises, defBody sRises, defScope sRises, [], []⟩
def dIsClass : He.DefD := ⟨("is_class", none), "is_class", "is_class", defArgs sIsClass, defBody sIsClass, defScope sIsClass, [], []⟩
def dIsKind : He.DefD := ⟨("is_kind", none), "is_kind", "is_kind", defArgs sIsKind, defBody sIsKind, defScope sIsKind, [], []⟩
def dNeedKind : He.DefD := ⟨("need_kind", none), "need_kind", "need_kind", defArgs sNeedKind, defBody sNeedKind, defScope sNeedKind, [], []⟩
def dCanonOf : He.DefD := ⟨("canon_of", none), "canon_of", "canon_of", defArgs sCanonOf, defBody sCanonOf, defScope sCanonOf, [], []⟩
def dAreLike : He.DefD := ⟨("are_like", none), "are_like", "are_like", defArgs sAreLike, defBody sAreLike, defScope sAreLike, [], []⟩
def dAreItems : He.DefD := ⟨("are_items", none), "are_items", "are_items", defArgs sAreItems, defBody sAreItems, defScope sAreItems, [], []⟩
def dHasForm : He.DefD := ⟨("has_form", none), "has_form", "has_form", defArgs sHasForm, defBody sHasForm, defScope sHasForm, [], []⟩
def dWithin : He.DefD := ⟨("within", none), "within", "within", defArgs sWithin, defBody sWithin, defScope sWithin, [], []⟩
def dPartsWithin : He.DefD := ⟨("parts_within", none), "parts_within", "parts_within", defArgs sPartsWithin, defBody sPartsWithin, defScope sPartsWithin, [], []⟩
def dIsPattern : He.DefD := ⟨("is_pattern", none), "is_pattern", "is_pattern", defArgs sIsPattern, defBody sIsPattern, defScope sIsPattern, [], []⟩
def dNeedForm : He.DefD := ⟨("need_form", none), "need_form", "need_form", defArgs sNeedForm, defBody sNeedForm, defScope sNeedForm, [], []⟩
def dAllParts : He.DefD := ⟨("all_parts", none), "all_parts", "all_parts", defArgs sAllParts, defBody sAllParts, defScope sAllParts, [], []⟩
def dToldBy : He.DefD := ⟨("told_by", none), "told_by", "told_by", defArgs sToldBy, defBody sToldBy, defScope sToldBy, [], []⟩
def dAllUses : He.DefD := ⟨("all_uses", none), "all_uses", "all_uses", defArgs sAllUses, defBody sAllUses, defScope sAllUses, [], []⟩
def dUsesFit : He.DefD := ⟨("uses_fit", none), "uses_fit", "uses_fit", defArgs sUsesFit, defBody sUsesFit, defScope sUsesFit, [], []⟩
def dFirstBad : He.DefD := ⟨("first_bad", none), "first_bad", "first_bad", defArgs sFirstBad, defBody sFirstBad, defScope sFirstBad, [], []⟩
def dNeedBook : He.DefD := ⟨("need_book", none), "need_book", "need_book", defArgs sNeedBook, defBody sNeedBook, defScope sNeedBook, [], []⟩
def dNeedPattern : He.DefD := ⟨("need_pattern", none), "need_pattern", "need_pattern", defArgs sNeedPattern, defBody sNeedPattern, defScope sNeedPattern, [], []⟩
def dIsStand : He.DefD := ⟨("is_stand", none), "is_stand", "is_stand", defArgs sIsStand, defBody sIsStand, defScope sIsStand, [], []⟩
def dWeightOf : He.DefD := ⟨("weight_of", none), "weight_of", "weight_of", defArgs sWeightOf, defBody sWeightOf, defScope sWeightOf, [], []⟩
def dLeftIn : He.DefD := ⟨("left_in", none), "left_in", "left_in", defArgs sLeftIn, defBody sLeftIn, defScope sLeftIn, [], []⟩
def dPutBehind : He.DefD := ⟨("put_behind", none), "put_behind", "put_behind", defArgs sPutBehind, defBody sPutBehind, defScope sPutBehind, [], []⟩
def dNeedAsked : He.DefD := ⟨("need_asked", none), "need_asked", "need_asked", defArgs sNeedAsked, defBody sNeedAsked, defScope sNeedAsked, [], []⟩
def dNeedBookAndKind : He.DefD := ⟨("need_book_and_kind", none), "need_book_and_kind", "need_book_and_kind", defArgs sNeedBookAndKind, defBody sNeedBookAndKind, defScope sNeedBookAndKind, [], []⟩
def dNeedRoom : He.DefD := ⟨("need_room", none), "need_room", "need_room", defArgs sNeedRoom, defBody sNeedRoom, defScope sNeedRoom, [], []⟩
def dRuns : He.DefD := ⟨("runs", none), "runs", "runs", defArgs sRuns, defBody sRuns, defScope sRuns, [], []⟩
def dIsPlainItem : He.DefD := ⟨("is_plain_item", none), "is_plain_item", "is_plain_item", defArgs sIsPlainItem, defBody sIsPlainItem, defScope sIsPlainItem, [], []⟩
def dInnerOf : He.DefD := ⟨("inner_of", none), "inner_of", "inner_of", defArgs sInnerOf, defBody sInnerOf, defScope sInnerOf, [], []⟩
def dIsPlain : He.DefD := ⟨("is_plain", none), "is_plain", "is_plain", defArgs sIsPlain, defBody sIsPlain, defScope sIsPlain, [], []⟩
def dNeedPlain : He.DefD := ⟨("need_plain", none), "need_plain", "need_plain", defArgs sNeedPlain, defBody sNeedPlain, defScope sNeedPlain, [], []⟩
def dNeedByRows : He.DefD := ⟨("need_by_rows", none), "need_by_rows", "need_by_rows", defArgs sNeedByRows, defBody sNeedByRows, defScope sNeedByRows, [], []⟩
def dIsWide : He.DefD := ⟨("is_wide", none), "is_wide", "is_wide", defArgs sIsWide, defBody sIsWide, defScope sIsWide, [], []⟩
def dNeedWide : He.DefD := ⟨("need_wide", none), "need_wide", "need_wide", defArgs sNeedWide, defBody sNeedWide, defScope sNeedWide, [], []⟩
def dAddPieces : He.DefD := ⟨("add_pieces", none), "add_pieces", "add_pieces", defArgs sAddPieces, defBody sAddPieces, defScope sAddPieces, [], []⟩
def dPiecesBy : He.DefD := ⟨("pieces_by", none), "pieces_by", "pieces_by", defArgs sPiecesBy, defBody sPiecesBy, defScope sPiecesBy, [], []⟩
def dIsByReading : He.DefD := ⟨("is_by_reading", none), "is_by_reading", "is_by_reading", defArgs sIsByReading, defBody sIsByReading, defScope sIsByReading, [], []⟩
def dItemsOf : He.DefD := ⟨("items_of", none), "items_of", "items_of", defArgs sItemsOf, defBody sItemsOf, defScope sItemsOf, [], []⟩
def dGoneOn : He.DefD := ⟨("gone_on", none), "gone_on", "gone_on", defArgs sGoneOn, defBody sGoneOn, defScope sGoneOn, [], []⟩
def dBegun : He.DefD := ⟨("begun", none), "begun", "begun", defArgs sBegun, defBody sBegun, defScope sBegun, [], []⟩
def dSpotsBehind : He.DefD := ⟨("spots_behind", none), "spots_behind", "spots_behind", defArgs sSpotsBehind, defBody sSpotsBehind, defScope sSpotsBehind, [], []⟩
def dReadOn : He.DefD := ⟨("read_on", none), "read_on", "read_on", defArgs sReadOn, defBody sReadOn, defScope sReadOn, [], []⟩
def dPutTogether : He.DefD := ⟨("put_together", none), "put_together", "put_together", defArgs sPutTogether, defBody sPutTogether, defScope sPutTogether, [], []⟩
def dLikeLeaves : He.DefD := ⟨("like_leaves", none), "like_leaves", "like_leaves", defArgs sLikeLeaves, defBody sLikeLeaves, defScope sLikeLeaves, [], []⟩
def dLeafTold : He.DefD := ⟨("leaf_told", none), "leaf_told", "leaf_told", defArgs sLeafTold, defBody sLeafTold, defScope sLeafTold, [], []⟩
def dRowTold : He.DefD := ⟨("row_told", none), "row_told", "row_told", defArgs sRowTold, defBody sRowTold, defScope sRowTold, [], []⟩
def dToldOf : He.DefD := ⟨("told_of", none), "told_of", "told_of", defArgs sToldOf, defBody sToldOf, defScope sToldOf, [], []⟩
def dMatches : He.DefD := ⟨("matches", none), "matches", "matches", defArgs sMatches, defBody sMatches, defScope sMatches, [], []⟩
def dLawMixed : He.DefD := ⟨("_law_mixed", none), "_law_mixed", "_law_mixed", defArgs sLawMixed, defBody sLawMixed, defScope sLawMixed, [], []⟩
def dLawFolded : He.DefD := ⟨("_law_folded", none), "_law_folded", "_law_folded", defArgs sLawFolded, defBody sLawFolded, defScope sLawFolded, [], []⟩
def dLawDraw : He.DefD := ⟨("_law_draw", none), "_law_draw", "_law_draw", defArgs sLawDraw, defBody sLawDraw, defScope sLawDraw, [], []⟩
def dLawBegun : He.DefD := ⟨("_law_begun", none), "_law_begun", "_law_begun", defArgs sLawBegun, defBody sLawBegun, defScope sLawBegun, [], []⟩
def dLawLeaf : He.DefD := ⟨("_law_leaf", none), "_law_leaf", "_law_leaf", defArgs sLawLeaf, defBody sLawLeaf, defScope sLawLeaf, [], []⟩
def dLawWorth : He.DefD := ⟨("_law_worth", none), "_law_worth", "_law_worth", defArgs sLawWorth, defBody sLawWorth, defScope sLawWorth, [], []⟩
def dLawKind : He.DefD := ⟨("_law_kind", none), "_law_kind", "_law_kind", defArgs sLawKind, defBody sLawKind, defScope sLawKind, [], []⟩
def dLawKindByRows : He.DefD := ⟨("_law_kind_by_rows", none), "_law_kind_by_rows", "_law_kind_by_rows", defArgs sLawKindByRows, defBody sLawKindByRows, defScope sLawKindByRows, [], []⟩
def dLawPlain : He.DefD := ⟨("_law_plain", none), "_law_plain", "_law_plain", defArgs sLawPlain, defBody sLawPlain, defScope sLawPlain, [], []⟩
def dLawDepth : He.DefD := ⟨("_law_depth", none), "_law_depth", "_law_depth", defArgs sLawDepth, defBody sLawDepth, defScope sLawDepth, [], []⟩
def dLawPlainIn : He.DefD := ⟨("_law_plain_in", none), "_law_plain_in", "_law_plain_in", defArgs sLawPlainIn, defBody sLawPlainIn, defScope sLawPlainIn, [], []⟩
def dLawPlainItem : He.DefD := ⟨("_law_plain_item", none), "_law_plain_item", "_law_plain_item", defArgs sLawPlainItem, defBody sLawPlainItem, defScope sLawPlainItem, [], []⟩
def dLawLike : He.DefD := ⟨("_law_like", none), "_law_like", "_law_like", defArgs sLawLike, defBody sLawLike, defScope sLawLike, [], []⟩
def dLawMatched : He.DefD := ⟨("_law_matched", none), "_law_matched", "_law_matched", defArgs sLawMatched, defBody sLawMatched, defScope sLawMatched, [], []⟩
def dLawPieces : He.DefD := ⟨("_law_pieces", none), "_law_pieces", "_law_pieces", defArgs sLawPieces, defBody sLawPieces, defScope sLawPieces, [], []⟩
def dLawNoNots : He.DefD := ⟨("_law_no_nots", none), "_law_no_nots", "_law_no_nots", defArgs sLawNoNots, defBody sLawNoNots, defScope sLawNoNots, [], []⟩
def dLawSum : He.DefD := ⟨("_law_sum", none), "_law_sum", "_law_sum", defArgs sLawSum, defBody sLawSum, defScope sLawSum, [], []⟩
def dLawLeast : He.DefD := ⟨("_law_least", none), "_law_least", "_law_least", defArgs sLawLeast, defBody sLawLeast, defScope sLawLeast, [], []⟩
def dLawWeight : He.DefD := ⟨("_law_weight", none), "_law_weight", "_law_weight", defArgs sLawWeight, defBody sLawWeight, defScope sLawWeight, [], []⟩
def dLawRowWeight : He.DefD := ⟨("_law_row_weight", none), "_law_row_weight", "_law_row_weight", defArgs sLawRowWeight, defBody sLawRowWeight, defScope sLawRowWeight, [], []⟩
def dLawRuns : He.DefD := ⟨("_law_runs", none), "_law_runs", "_law_runs", defArgs sLawRuns, defBody sLawRuns, defScope sLawRuns, [], []⟩
def dLaw0 : He.DefD := ⟨("law", none), "law", "law", defArgs sLaw0, defBody sLaw0, defScope sLaw0, [], []⟩
def dTrInit : He.DefD := ⟨("Trying", some "__init__"), "__init__", "Trying.__init__", defArgs sTrInit, defBody sTrInit, defScope sTrInit, [], []⟩
def dTrAlike : He.DefD := ⟨("Trying", some "alike"), "alike", "Trying.alike", defArgs sTrAlike, defBody sTrAlike, defScope sTrAlike, [], []⟩
def dTrFound : He.DefD := ⟨("Trying", some "found"), "found", "Trying.found", defArgs sTrFound, defBody sTrFound, defScope sTrFound, [], []⟩
def dTrByWorth : He.DefD := ⟨("Trying", some "by_worth"), "by_worth", "Trying.by_worth", defArgs sTrByWorth, defBody sTrByWorth, defScope sTrByWorth, [], []⟩
def dTrByTwo : He.DefD := ⟨("Trying", some "by_two"), "by_two", "Trying.by_two", defArgs sTrByTwo, defBody sTrByTwo, defScope sTrByTwo, [], []⟩
def dTrByLooking : He.DefD := ⟨("Trying", some "by_looking"), "by_looking", "Trying.by_looking", defArgs sTrByLooking, defBody sTrByLooking, defScope sTrByLooking, [], []⟩
def dTrChosen : He.DefD := ⟨("Trying", some "chosen"), "chosen", "Trying.chosen", defArgs sTrChosen, defBody sTrChosen, defScope sTrChosen, [], []⟩
def dTrByAll : He.DefD := ⟨("Trying", some "by_all"), "by_all", "Trying.by_all", defArgs sTrByAll, defBody sTrByAll, defScope sTrByAll, [], []⟩
def dTrByRow : He.DefD := ⟨("Trying", some "by_row"), "by_row", "Trying.by_row", defArgs sTrByRow, defBody sTrByRow, defScope sTrByRow, [], []⟩
def dTrCut : He.DefD := ⟨("Trying", some "cut"), "cut", "Trying.cut", defArgs sTrCut, defBody sTrCut, defScope sTrCut, [], []⟩
def fns : List He.DefD := [dIsWhole, dIsAmong, dIsLeaf, dSizeWithin, dIsWorth, dIsThing, dNeedThing, dGoesOn, dLean, dAtPlace, dAheadOf, dBehind, dRises, dIsClass, dIsKind, dNeedKind, dCanonOf, dAreLike, dAreItems, dHasForm, dWithin, dPartsWithin, dIsPattern, dNeedForm, dAllParts, dToldBy, dAllUses, dUsesFit, dFirstBad, dNeedBook, dNeedPattern, dIsStand, dWeightOf, dLeftIn, dPutBehind, dNeedAsked, dNeedBookAndKind, dNeedRoom, dRuns, dIsPlainItem, dInnerOf, dIsPlain, dNeedPlain, dNeedByRows, dIsWide, dNeedWide, dAddPieces, dPiecesBy, dIsByReading, dItemsOf, dGoneOn, dBegun, dSpotsBehind, dReadOn, dPutTogether, dLikeLeaves, dLeafTold, dRowTold, dToldOf, dMatches, dLawMixed, dLawFolded, dLawDraw, dLawBegun, dLawLeaf, dLawWorth, dLawKind, dLawKindByRows, dLawPlain, dLawDepth, dLawPlainIn, dLawPlainItem, dLawLike, dLawMatched, dLawPieces, dLawNoNots, dLawSum, dLawLeast, dLawWeight, dLawRowWeight, dLawRuns, dLaw0, dTrInit, dTrAlike, dTrFound, dTrByWorth, dTrByTwo, dTrByLooking, dTrChosen, dTrByAll, dTrByRow, dTrCut]
def fas : List He.Fa := [.glo "is_whole",
  .glo "is_among",
  .glo "is_leaf",
  .glo "size_within",
  .glo "is_worth",
  .glo "is_thing",
  .glo "need_thing",
  .glo "goes_on",
  .glo "lean",
  .glo "at_place",
  .glo "ahead_of",
  .glo "behind",
  .glo "rises",
  .glo "is_class",
  .glo "is_kind",
  .glo "need_kind",
  .glo "canon_of",
  .glo "are_like",
  .glo "are_items",
  .glo "has_form",
  .glo "within",
  .glo "parts_within",
  .glo "is_pattern",
  .glo "need_form",
  .glo "all_parts",
  .glo "told_by",
  .glo "all_uses",
  .glo "uses_fit",
  .glo "first_bad",
  .glo "need_book",
  .glo "need_pattern",
  .glo "is_stand",
  .glo "weight_of",
  .glo "left_in",
  .glo "put_behind",
  .glo "need_asked",
  .glo "need_book_and_kind",
  .glo "need_room",
  .glo "runs",
  .glo "is_plain_item",
  .glo "inner_of",
  .glo "is_plain",
  .glo "need_plain",
  .glo "need_by_rows",
  .glo "is_wide",
  .glo "need_wide",
  .glo "add_pieces",
  .glo "pieces_by",
  .glo "is_by_reading",
  .glo "items_of",
  .glo "gone_on",
  .glo "begun",
  .glo "spots_behind",
  .glo "read_on",
  .glo "put_together",
  .glo "like_leaves",
  .glo "leaf_told",
  .glo "row_told",
  .glo "told_of",
  .glo "matches",
  .glo "_law_mixed",
  .glo "_law_folded",
  .glo "_law_draw",
  .glo "_law_begun",
  .glo "_law_leaf",
  .glo "_law_worth",
  .glo "_law_kind",
  .glo "_law_kind_by_rows",
  .glo "_law_plain",
  .glo "_law_depth",
  .glo "_law_plain_in",
  .glo "_law_plain_item",
  .glo "_law_like",
  .glo "_law_matched",
  .glo "_law_pieces",
  .glo "_law_no_nots",
  .glo "_law_sum",
  .glo "_law_least",
  .glo "_law_weight",
  .glo "_law_row_weight",
  .glo "_law_runs",
  .glo "law",
  .free "isinstance",
  .free "int",
  .free "bool",
  .free "len",
  .free "all",
  .free "any",
  .free "tuple",
  .free "list",
  .free "zip",
  .free "set",
  .free "sorted",
  .free "enumerate",
  .free "range",
  .free "sum",
  .free "max",
  .free "min",
  .free "str",
  .free "dict",
  .free "repr",
  .int "MOST_LETTERS" 6,
  .int "MOST_LEAF_words" 99,
  .int "MOST_THINGS" 10,
  .int "MOST_SIZE_worths" 60,
  .int "MOST_DEEP_worths" 6,
  .int "MOST_STEM" 60,
  .int "MOST_SMALL" 5,
  .int "MOST_CLASSES" 5,
  .int "MOST_LEAVES" 10,
  .int "MOST_PARTS" 40,
  .int "MOST_DEEP_patterns" 10,
  .int "MOST_ARGS" 2,
  .int "MOST_RULES" 4,
  .int "MOST_ROOM" 8,
  .int "MOST_RUNS" 2000,
  .int "MOST_LEAF_plain" 99,
  .int "MOST_SIZE_plain" 3000,
  .int "MOST_DEEP_plain" 300,
  .str "ENDLESS" "endless",
  .glo "HOWS",
  .glo "PAIRS",
  .glo "LONE",
  .glo "ANY",
  .glo "MOST_ITEMS",
  .glo "Trying",
  .glo "TooMany",
  .cls "Trying",
  .mkr "Trying",
  .noat "Trying" "rules",
  .noat "Trying" "kind",
  .meth "Trying" "alike",
  .meth "Trying" "found",
  .meth "Trying" "by_worth",
  .meth "Trying" "by_two",
  .meth "Trying" "by_looking",
  .meth "Trying" "chosen",
  .meth "Trying" "by_all",
  .meth "Trying" "by_row",
  .meth "Trying" "cut",
  .exc "TooMany",
  .exm "TooMany" "TooMany" true]
def exB (K : PySem.W.Frag) : Bool := He.tupB K "HOWS" [.str "rows", .str "lots", .str "turned"] && He.tupB K "PAIRS" [.str "both", .str "either"] && He.tupB K "LONE" [.str "not", .str "first", .str "turned", .str "all"] && He.tupB K "ANY" [.str "any"] && He.eqO (PySem.W.nsIn K (He.ga K "MOST_ITEMS") "any") (some none) && He.eqO (PySem.W.nsIn K (He.ga K "MOST_ITEMS") "is") (some none) && He.eqO (PySem.W.nsIn K (He.ga K "MOST_ITEMS") "name") (some none) && He.eqO (PySem.W.nsIn K (He.ga K "MOST_ITEMS") "both") (some none) && He.eqO (PySem.W.nsIn K (He.ga K "MOST_ITEMS") "either") (some none) && He.eqO (PySem.W.nsIn K (He.ga K "MOST_ITEMS") "not") (some none) && He.eqO (PySem.W.nsIn K (He.ga K "MOST_ITEMS") "first") (some none) && He.eqO (PySem.W.nsIn K (He.ga K "MOST_ITEMS") "turned") (some none) && He.eqO (PySem.W.nsIn K (He.ga K "MOST_ITEMS") "all") (some none) && He.eqO (PySem.W.nsIn K (He.ga K "MOST_ITEMS") "use") (some none) && He.eqO (PySem.W.nsIn K (He.ga K "MOST_ITEMS") "hole") (some none) && He.valsB K (He.ga K "MOST_ITEMS") [("row", .int 6), ("lot", .int 4)]
def tabs : List He.Tab := [(fun K => He.ga K "MOST_ITEMS", ["row", "lot"])]
def loose0 : List PySem.Str := ["WayError", "BadThing", "BadKind", "BadPattern", "BadStand", "BadPlace", "TooMany", "BadBook", "NotPlain", "LETTERS", "MOST_LETTERS", "MOST_LEAF_words", "BARRED", "is_whole", "is_among", "is_name", "MOST_THINGS", "MOST_SIZE_worths", "MOST_DEEP_worths", "MOST_STEM", "MOST_SMALL", "ENDLESS", "is_leaf", "size_within"]
def loose1 : List PySem.Str := ["is_worth", "are_worths", "is_endless", "is_thing", "need_thing", "goes_on", "least_round", "leaned", "lean", "at_place", "ahead_of", "behind", "left_without", "MOST_CLASSES", "MOST_LEAVES", "HOWS", "rises", "is_class", "is_kind", "need_kind", "rank_of", "canon_of", "are_like", "MOST_PARTS"]
def loose2 : List PySem.Str := ["MOST_DEEP_patterns", "MOST_ITEMS", "MOST_ARGS", "MOST_RULES", "PAIRS", "LONE", "are_items", "has_form", "within", "parts_within", "is_pattern", "need_form", "all_parts", "told_by", "all_uses", "is_rule", "uses_fit", "first_bad", "need_book", "need_pattern", "filled", "rule_filled", "MOST_ROOM", "MOST_RUNS"]
def loose3 : List PySem.Str := ["is_told", "is_stand", "known_in", "with_name", "name_of", "weight_of", "left_in", "Trying", "put_behind", "need_asked", "need_book_and_kind", "need_room", "runs", "MOST_LEAF_plain", "MOST_SIZE_plain", "MOST_DEEP_plain", "ANY", "is_plain_item", "inner_of", "is_plain", "need_plain", "need_by_rows", "is_wide", "need_wide"]
def loose4 : List PySem.Str := ["add_pieces", "pieces_by", "is_by_reading", "items_of", "gone_on", "begun", "spots_behind", "read_on", "put_together", "like_leaves", "leaf_told", "row_told", "told_of", "matches", "_law_mixed", "_law_folded", "_law_draw", "_law_begun", "_law_leaf", "_law_worth", "_law_kind", "_law_kind_by_rows", "_law_plain", "_law_depth"]
def loose5 : List PySem.Str := ["_law_plain_in", "_law_plain_item", "_law_like", "_law_goes", "_law_spots", "_law_matched", "_law_pieces", "_law_no_nots", "_law_sum", "_law_least", "_law_weight", "_law_row_weight", "_law_runs"]
def loose : List PySem.Str := loose0 ++ loose1 ++ loose2 ++ loose3 ++ loose4 ++ loose5
abbrev R : PySem.W.OpenRow := PySem.W.OpenLaw.row PySem.Challenge.rw_waysfold_k65_whole_least_weights
def refsAt (g : Addr → Option Obj) (a : Addr) : List Addr := match g a with
  | some o => He.refsO o
  | none => []
def nsAt (g : Addr → Option Obj) (a : Addr) : List Addr := match g a with
  | some ⟨_, _, .dict es n, _⟩ => es.toList.flatMap fun e => He.refV e.val
  | _ => []
def lev1 (g : Addr → Option Obj) : List Addr := refsAt g mainGlobals
def lev2 (g : Addr → Option Obj) : List Addr := (lev1 g).flatMap (refsAt g)
def lev3 (g : Addr → Option Obj) : List Addr := (lev2 g).flatMap (nsAt g)
def asY (g : Addr → Option Obj) : List Addr := mainGlobals :: (lev1 g ++ (lev2 g ++ (lev3 g ++ (lev3 g).flatMap (refsAt g))))
abbrev AlY : Type := He.AlT × Bool
def obsY (K : PySem.W.Frag) : AlY := (He.obsT fas fns tabs K, exB K)
def valY (w : World) : AlY := (He.valT fns tabs w, true)
def SaysY (w : World) (K : PySem.W.Frag) : Prop := obsY K = valY w
def hk : PySem.W.Hook where
  α := AlY
  obs := fun s => obsY (He.frG s.heap.get? (asY s.heap.get?))
  val := valY
  says := fun w h => ∃ K : PySem.W.Frag, K.In h ∧ SaysY w K
  of := fun _ _ e => ⟨_, He.frG_in, e⟩
  keeps := fun _ _ _ ⟨K, hK, c⟩ k => ⟨K, PySem.W.Frag.In.keeps hK k, c⟩
def ob (s : PySem.W.SharedT) : AlY := obsY (He.frG (HandSHeadRun.getT s) (asY (HandSHeadRun.getT s)))
theorem ob_eq (s : PySem.W.SharedT) : ob s = hk.obs s.abs := by
  have e : HandSHeadRun.getT s = s.abs.heap.get? := funext (HandSHeadRun.getT_eq s)
  show obsY (He.frG (HandSHeadRun.getT s) (asY (HandSHeadRun.getT s))) = obsY (He.frG s.abs.heap.get? (asY s.abs.heap.get?))
  rw [e]
theorem run0 (w : World) : HandSHeadRun.RunEq R (PySem.W.view R.prog [141]) hk ob 6000 loose (w.withFollow "special-get-raises" false) := by
  intro os
  kernel_rfl
theorem run1 (w : World) : HandSHeadRun.RunEq R (PySem.W.view R.prog [141]) hk ob 6000 loose (w.withFollow "special-get-raises" true) := by
  intro os
  kernel_rfl
theorem run (w : World) : HandSHeadRun.RunEq R (PySem.W.view R.prog [141]) hk ob 6000 loose w := PySem.W.byRow2 "special-get-raises" run0 run1 w
end Wf
set_option Elab.async false
set_option linter.all false
set_option maxRecDepth 100000
set_option maxHeartbeats 4000000
namespace Wf
open PySem PySem.Spec PyProof.Rows L2
section
variable {X : Cx}
def tNoE : TE := fun _ _ _ => False
def tNoT : TT := fun _ _ _ => False
def tNoI : TI := fun _ _ _ => False
theorem pe_no {e : Expr} : PE X e tNoE := ⟨fun _ _ _ _ _ _ z => z.elim⟩
theorem pt_no {e : Expr} : PT X e tNoT := ⟨fun _ _ _ _ _ _ z => z.elim⟩
theorem pi_no {tg e : Expr} : PI X tg e tNoI := ⟨fun _ _ _ _ _ _ z => z.elim⟩
theorem meets_extT (l : Addr) (xs : Array Value) (n : Nat) (b : Addr) (ys : Array Value) (m : Nat) (dd : Option Addr) (ss : Array (Option Value))
    (q0 : ¬(!xs.isEmpty && Builtin.List.listTooLong (xs.size + ys.size)) = true) (q1 : xs.size ≤ sizeLine) (q2 : xs.size + ys.size ≤ sizeLine + 1) :
    Meets (Builtin.«list.extend» ⟨[.ref l, .ref b], []⟩) fun _ R s => s.heap.get? l = some { cls := .type "list", data := .seq xs n } ∧
      s.heap.get? b = some { cls := .type "tuple", dict := dd, data := .seq ys m, slots := ss } ∧
      R (.ok (.ret Value.none)) { s with heap := s.heap.update l (Obj.mapSeq fun z => z ++ ys), toks := s.toks } :=
  .of_wp fun prog w A R s z => by
    obtain ⟨hp, g, d, tk, os⟩ := s
    obtain ⟨z1, z2, z3⟩ := z
    have e1 := AutoSeq1.sub_tuple_tuple
    have e2 := AutoSeq1.sub_list_list
    have e3 := AutoSeq1.sub_tuple_list
    have e4 := AutoSeq1.sub_list_tuple
    have e5 := AutoSeq1.idx_int
    have zz : (xs ++ ys).size ≤ sizeLine + 1 := by
      rw [Array.size_append]
      exact q2
    wp_walk using (wpAny_updateSeq z1 rfl (hz := q1) (_hz' := zz)), AutoSeq1.wpAny_loadPart' z1, AutoSeq1.wpAny_loadPart' z2
    exact ⟨_, rfl, z3⟩
def rExtT (K : PySem.W.Frag) : V → List V → Hp → VK → Prop := fun x vs H Q => ∃ l b xs zs, x = .ref l ∧ vs = [.ref b] ∧ H l = some (.lst xs) ∧ SqT K H b zs ∧ xs.length + zs.length ≤ sizeLine ∧
  Q .non (upd H l (.lst (xs ++ zs)))
theorem mt_extT : MtM X "list.extend" (rExtT X.K) := by
  intro pins s σ H x vs v us Q I rx rv q
  obtain ⟨l, b, xs, zs, rfl, rfl, q1, q2, q3, q⟩ := q
  cases rx
  obtain ⟨u, rfl, ru⟩ := rv.one
  cases ru
  obtain ⟨_, its, n, r, el, e⟩ := I.lstM q1
  obtain ⟨its2, r2, ⟨⟨oc, od, dt, osl⟩, e2, ec, m, ed⟩, _⟩ := I.tuple q2
  obtain rfl : oc = Value.type "tuple" := ec
  obtain rfl : dt = Data.seq its2.toArray m := ed
  have el2 := r2.length
  have k1 : its.toArray.size + its2.toArray.size ≤ sizeLine := by
    rw [List.size_toArray, List.size_toArray]
    omega
  have k2 : ¬(!its.toArray.isEmpty && Builtin.List.listTooLong (its.toArray.size + its2.toArray.size)) = true := by
    rw [notLongL k1, Bool.and_false]
    exact Bool.false_ne_true
  refine call_meets F.slot_list_extend ⟨_, e, rfl⟩ F.entry_list_extend (F.args_list_extend_2 _ _) (meets_extT l its.toArray n b its2.toArray m od osl k2 (Nat.le_trans (Nat.le_add_right _ _) k1) (Nat.le_succ_of_le k1)) ⟨e, e2, ?_⟩
  refine ⟨.non, _, I.lset (its' := its ++ its2) q1 e (by simp) (r.append r2) (by rw [List.length_append]; exact q3), rfl, q⟩
def rSumT (K : PySem.W.Frag) : List V → Hp → VK → Prop := fun vs H Q => ∃ (a : Addr) (ns : List Int), vs = [V.ref a] ∧ SqT K H a (ns.map V.int) ∧ Q (.int ns.sum) H
theorem sum_rawT {prog : Program} {w : World} {A : Around} {E : Value → Shared → Prop} {s : Shared} {l : Addr} {its : List Value} {ns : List Int} {Q : Value → Shared → Prop} (hh : A.handled = none) (hl : s.heap.IsTuple l its.toArray) (hi : IntsAre its ns)
    (q : ∀ h' tk t', (∀ b o, s.heap.get? b = some o → h'.get? b = some o) → Q (.int ns.sum t') { s with heap := h', toks := tk }) : wpAny (model prog w) A (call (.builtin "sum") [.ref l]) Q E s := by
  obtain ⟨xs, e⟩ := hi.allInts.items
  have hn : numsOf (intItems xs).toList = ns := by
    rw [← e]
    exact hi.numsOf
  rw [nums_intItems] at hn
  rw [e] at hl
  have lt : l < s.heap.objs.size := by
    obtain ⟨_, y, _⟩ := hl
    exact Heap.lt_size y
  refine call_sum_walkG (wpAny_pyIter_tuple hl ?_)
  refine ⟨_, [s.heap.objs.size, l], [s.heap.objs.size], _, _, _, numAt xs, rfl, Walks.tuple (A := A.in1) hh _ l (Nat.ne_of_lt lt) (intItems xs), ⟨⟨_, Heap.get?_push_size _ rfl, rfl, rfl⟩, hl.push _⟩, fun b hb => ?_, fun _ _ => intItems_at, fun h' tk t' hk => ?_⟩
  · show b < (s.heap.push _).objs.size
    rw [Heap.size_push]
    rcases List.mem_cons.mp hb with z | z
    · rw [z]
      exact Nat.lt_succ_self _
    · rw [List.mem_singleton.mp z]
      exact Nat.lt_succ_of_lt lt
  · have k2 := q h' tk t' fun b o y => hk b o (fun z => Nat.lt_irrefl s.heap.objs.size (by
      have z3 := Heap.lt_size y
      rw [List.mem_singleton.mp z] at z3
      exact z3)) (Heap.get?_push_of_some _ y)
    rw [preSum_eq, List.take_of_length_le (by simp [intItems]), hn]
    exact k2
theorem cr_sumT (hc : X.calm = true) : CallR X (.builtin "sum") (rSumT X.K) := by
  intro pins s σ H vs us Q I r z
  obtain ⟨a, ns, rfl, hs, q⟩ := z
  obtain ⟨its, rv, hl, _⟩ := I.tuple hs
  rw [Vals.ref1 r]
  exact sum_rawT (I.ok.hd hc) hl rv.ints fun h' tk t' hk => ⟨.int _, H, I.kept hk, ⟨_, rfl⟩, q⟩
end
end Wf
set_option Elab.async false
set_option linter.all false
set_option maxRecDepth 100000
set_option maxHeartbeats 4000000
namespace Wf
open PySem PySem.Spec PyProof.Rows L2
section
variable {X : Cx}
theorem get_list : PGet X (fun x y H Q => ∃ (p : Addr) (xs : List V) (j : Nat) (v : V), x = .ref p ∧ y = .int (j : Int) ∧ SqL X.K H p xs ∧ xs[j]? = some v ∧ Q v H) := by
  intro pins s σ H o i ov iv Q I ro ri q
  obtain ⟨p, xs, j, v, rfl, rfl, hs, hv, q⟩ := q
  cases ro
  obtain ⟨t, rfl⟩ := ri
  obtain ⟨its, r, pl, hz⟩ := I.list hs
  obtain ⟨u, hu, ru⟩ := r.get hv
  have lt : j < its.length := (List.getElem?_eq_some_iff.mp hu).1
  have e := r.length
  have big := line63
  exact wpAny_getItem_list pl.isList (by omega) (by omega) (by simpa using hu) ⟨v, H, I, ru, q⟩
end
def IteT (K : PySem.W.Frag) (a : Addr) : It :=
  ⟨fun i H => ∃ (xs : List V) (x : V), SqT K H a xs ∧ xs[i]? = some x, fun i H v H' => ∃ T x, v = .ref T ∧ H T = none ∧ H' = upd H T (.tup [.int (i : Nat), x]) ∧ ∀ xs, SqT K H a xs → xs[i]? = some x,
    fun i H => ∃ xs : List V, SqT K H a xs ∧ xs.length = i⟩
theorem meets_enumB {v : Value} {o : Obj} {C : Heap → Prop} (B : Begins v o C) : Meets (Builtin.«enumerate.__new__» ⟨[.type "enumerate", v], []⟩) fun _ R s => C s.heap ∧
    R (.ok (.ret (.ref (s.heap.push o).objs.size))) { s with heap := (s.heap.push o).push { cls := .type "enumerate", data := .fields #[.none, .bool false, .ref s.heap.objs.size, rawInt 0, .none, .none] } } :=
  .of_wp fun prog w A R s z => by
    obtain ⟨hp, g, d, tk, os⟩ := s
    obtain ⟨z1, z2⟩ := z
    have hsub := sub_enumerate
    have go : ∀ {A' : Around} {E Q : Value → Shared → Prop}, Q (.ref hp.objs.size) ⟨hp.push o, g, d, tk, os⟩ → wpAny (model prog w) A' (pyIter v) Q E ⟨hp, g, d, tk, os⟩ := fun q => B.iter prog w _ _ ⟨hp, g, d, tk, os⟩ _ z1 q
    wp_walk using go
    refine wpAny_stack_any fun st => wpAny_pure ?_
    split
    · rename_i c _ _ _ _ _
      cases (c == Value.type "enumerate") <;> (wp_walk using go; exact ⟨_, rfl, z2⟩)
    · wp_walk using go
      exact ⟨_, rfl, z2⟩
theorem call_enumB {prog : Program} {w : World} {A : Around} {E : Value → Shared → Prop} {s : Shared} {v : Value} {o : Obj} {C : Heap → Prop} {Q : Value → Shared → Prop} (B : Begins v o C) (z : C s.heap)
    (q : ∀ h', IsEnum h' (s.heap.objs.size + 1) s.heap.objs.size 0 .none → h'.get? s.heap.objs.size = some o → (∀ b u, s.heap.get? b = some u → h'.get? b = some u) → Q (.ref (s.heap.objs.size + 1)) { s with heap := h' }) :
    wpAny (model prog w) A (call (.type "enumerate") [v]) Q E s := by
  refine callType_new F.called_enumerate (by decide) (F.typeCall_enumerate_1 _) (F.newCall_enumerate_1 _) (fun obj => F.args_object_init_2 obj _) F.entry_enumerate_new (meets_enumB B) ⟨z, ?_⟩
  have sz : (s.heap.push o).objs.size = s.heap.objs.size + 1 := Heap.size_push ..
  show _ ∧ _
  rw [sz]
  have en : IsEnum ((s.heap.push o).push { cls := .type "enumerate", data := .fields #[.none, .bool false, .ref s.heap.objs.size, rawInt 0, .none, .none] }) (s.heap.objs.size + 1) s.heap.objs.size 0 .none := by
    have y := Heap.get?_push_size (s.heap.push o) (o := { cls := .type "enumerate", data := .fields #[.none, .bool false, .ref s.heap.objs.size, rawInt 0, .none, .none] }) rfl
    rw [sz] at y
    exact y
  exact ⟨⟨_, en, rfl⟩, q _ en (Heap.get?_push_of_some _ (Heap.get?_push_size _ B.free)) fun b u y => Heap.get?_push_of_some _ (Heap.get?_push_of_some _ y)⟩
theorem turn_enumT {P : Program} {w : World} {K : PySem.W.Frag} {elts : List Expr} {kk : Nat} {tpos : Pos} (a e it : Addr) (nai : a ≠ it) (nea : e ≠ a) :
    Turn P w K (.Tuple elts kk tpos) (IteT K a) [e, it] e (fun i h => (∃ old, IsEnum h e it ((i : Nat) : Int) old) ∧ h.IsTupleIter it a i ∧ e ≠ it) where
  mem := by simp
  obj := fun i h st b hb => by
    obtain ⟨⟨old, x1⟩, ⟨o, x2, _, x3⟩, _⟩ := st
    rcases List.mem_cons.mp hb with z | z
    · rw [z]
      exact ⟨_, x1, fun v q => nomatch q⟩
    · rw [List.mem_singleton.mp z]
      exact ⟨o, x2, fun v q => by rw [x3] at q; cases q⟩
  keep := fun i h h' st k => by
    obtain ⟨⟨old, x1⟩, x2, x3⟩ := st
    exact ⟨⟨old, k e (by simp) _ x1⟩, x2.at fun o q => k it (by simp) o q, x3⟩
  item := by
    intro X hP hw hK hc i pins s σ H E I hf st hg
    subst hP hw hK
    obtain ⟨⟨old, x1⟩, x2, x3⟩ := st
    obtain ⟨xs, x, g1, g2⟩ := hg
    obtain ⟨its, rv, p, _⟩ := I.tuple g1
    obtain ⟨u, hu, ru⟩ := rv.get g2
    have lt1 : e < s.heap.objs.size := Heap.lt_size x1
    have lt2 : it < s.heap.objs.size := by
      obtain ⟨_, y, _⟩ := x2
      exact Heap.lt_size y
    have li : i < its.toArray.size := by
      have y := (List.getElem?_eq_some_iff.mp hu).1
      simpa using y
    refine wpAny_pyNext_enum_itemC (Draws.tuple (A := X.A.in1) (I.ok.hd hc) it a nai its.toArray) x1 ⟨x2, p⟩ li x3 (fun z => by
      rcases List.mem_cons.mp z with y | y
      · exact x3 y
      · exact nea (List.mem_singleton.mp y)) fun v h' tk hv ho hst hT hsz hk => ?_
    have ev : v = u := by
      have y : its[i]? = some v := by simpa using hv
      rw [hu] at y
      exact (Option.some.inj y).symm
    subst ev
    refine ⟨_, rfl, wpAny_letOwnedTupleGo_enum (s := { s with heap := h', toks := tk + 1 }) ho fun h2 he2 sb => ?_⟩
    have hT2 : h2.get? s.heap.objs.size = some { cls := .type "tuple", data := .seq #[.int i tk, v] } := (sb.2 _ (Nat.ne_of_gt lt1)).trans hT
    have new : ObjOk X.prog X.w (upd H s.heap.objs.size (.tup [.int (i : Nat), x])) h2 s.heap.objs.size (.tup [.int (i : Nat), x]) := ⟨by show 2 ≤ sizeLine; decide, [.int i tk, v], .cons ⟨_, rfl⟩ (.cons ru .nil), ⟨_, hT2, rfl, _, rfl⟩⟩
    have I1 : Inv X pins σ (upd H s.heap.objs.size (.tup [.int (i : Nat), x])) { s with heap := h2, toks := tk + 1 } := I.turnedNew (ch := [e, it]) (fun b ob nb q => (sb.2 b (fun z => nb (by simp [z]))).trans (hk b ob (fun z => nb (by simp [z])) (fun z => nb (by simp [z])) q)) hf (Nat.le_refl _) new
    refine ⟨.ref s.heap.objs.size, _, I1, rfl, ⟨_, x, rfl, I.hok.fresh (Nat.le_refl _), rfl, fun ys hy => by rw [I.tuple_inj hy g1]; exact g2⟩, ⟨⟨v, ?_⟩, hst.1.at fun o q => (sb.2 it (Ne.symm x3)).trans q, x3⟩, fun b hb => ?_⟩
    · have e1 : ((i + 1 : Nat) : Int) = (i : Int) + 1 := by omega
      rw [e1]
      exact he2
    · have hb' : b < s.heap.objs.size := by
        rcases List.mem_cons.mp hb with z | z
        · rw [z]; exact lt1
        · rw [List.mem_singleton.mp z]; exact lt2
      rw [upd_ne (Nat.ne_of_lt hb')]
      exact (hf b hb).1
  done := by
    intro X hP hw hK hc i pins s σ H E I hf st hg
    subst hP hw hK
    obtain ⟨⟨old, x1⟩, x2, x3⟩ := st
    obtain ⟨xs, g1, g2⟩ := hg
    obtain ⟨its, rv, p, _⟩ := I.tuple g1
    obtain ⟨f0, f1, f2, f3, f4, f5⟩ := hf it (by simp)
    have el := rv.length
    have en : i = its.toArray.size := by
      rw [List.size_toArray]
      omega
    refine wpAny_pyNext_enum_endD (Draws.tuple (A := X.A.in1) (I.ok.hd hc) it a nai its.toArray) x1 ⟨en ▸ x2, p⟩ fun h' eb => ⟨rfl, I.turned (t' := s.toks) (fun b o nb q => eb b o nb q) f0 f1 f3 f4 f5⟩
  self := fun A i s Q E st h => by
    obtain ⟨⟨_, x1⟩, _⟩ := st
    exact wpAny_pyIter_enum x1 h
def iEnumT (K : PySem.W.Frag) (ta : TA) : TI := fun σ H R => ta σ H fun vs H1 => ∃ a xs, vs = [.ref a] ∧ SqT K H1 a xs ∧ R (IteT K a) H1
theorem pi_enumT {X : Cx} {e : Expr} {ta : TA} {p pos tpos : Pos} {elts : List Expr} {kk : Nat} (hg : Gl X "enumerate") (hm : X.mg "enumerate" = none) (ha : PA X [e] ta) (hs : starEach [e] X.env = [(false, eval e X.env)] := by rfl) :
    PI X (.Tuple elts kk tpos) (.Call (.Name "enumerate" p) [e] [] pos) (iEnumT X.K ta) := by
  refine ⟨fun pins s σ H R I z => ?_⟩
  refine Call_ (ld_blt I hg hm boot_enumerate (PyProof.Rows.callWith_type1 (thn (ha.run pos pins s σ H _ I z) fun us s1 ⟨vs, H1, I1, r1, q1⟩ => ?_) hs rfl))
  obtain ⟨a, xs, ex, hq, q⟩ := q1
  subst ex
  cases r1 with
  | cons r rr =>
    cases rr
    cases r
    obtain ⟨its, rv, tp, _⟩ := I1.tuple hq
    have la : a < s1.heap.objs.size := tp.lt
    refine call_enumB (begins_tuple a its.toArray) tp fun h' x1 x2 hk => wpAny_pyIter_enum x1 ?_
    have I2 : Inv X pins σ H1 { s1 with heap := h' } := I1.kept (t' := s1.toks) hk
    refine ⟨s1.heap.objs.size + 1, [s1.heap.objs.size + 1, s1.heap.objs.size], _, _, H1, rfl, I2, turn_enumT a (s1.heap.objs.size + 1) s1.heap.objs.size (Nat.ne_of_lt la) (Nat.ne_of_gt (Nat.lt_succ_of_lt la)), ⟨⟨.none, x1⟩, ⟨_, x2, rfl, rfl⟩, Nat.succ_ne_self _⟩, fun b hb => ?_, q⟩
    have hle : s1.heap.objs.size ≤ b := by
      rcases List.mem_cons.mp hb with y | y
      · rw [y]; exact Nat.le_succ _
      · rw [List.mem_singleton.mp y]; exact Nat.le_refl _
    exact I1.fpOk hle (I1.hok.fresh hle)
theorem walk_enumT {K : PySem.W.Frag} {a : Addr} {xs : List V} : Walk (IteT K a) xs.length (fun H => SqT K H a xs) (YPair (fun i => some (.int (i : Nat))) (fun i => xs[i]?)) := by
  refine ⟨fun i _ hi q => ⟨xs, xs[i], q, by simp [hi]⟩, fun _ q => ⟨xs, q, rfl⟩, fun i H v H' _ q y => ?_⟩
  obtain ⟨T, x, h1, h2, h3, h4⟩ := y
  exact ⟨T, .int (i : Nat), x, h1, h2, h3, rfl, h4 xs q⟩
end Wf
set_option Elab.async false
set_option linter.all false
set_option maxRecDepth 100000
set_option maxHeartbeats 4000000
namespace Wf
open PySem PySem.Spec PyProof.Rows L2
section
variable {P : Program} {w : World} {A : Around} {E : Value → Shared → Prop} {s : Shared}
abbrev eSet (w : World) : Obj := { cls := .type "set", dict := none, data := .set #[] 0 (.fresh 0 0 (!w.params.followText "set-order")) }
def Filled (w : World) (h0 : Heap) (ns : List Int) (h' : Heap) : Prop := (∃ c, c ≤ ns.length ∧ SetR w h' h0.objs.size (fun j => decide (j ∈ ns)) c) ∧ ∀ b o, h0.get? b = some o → h'.get? b = some o
theorem fill_list {l : Addr} {items : Array Value} (ns : List Int) (hh : A.handled = none) (hl : s.heap.IsList l items) (hi : IntsAre items.toList ns) (hb : ns.length + 1 < scanBound) {T : Value → Shared → Prop}
    (hT : ∀ h' tk, Filled w s.heap ns h' → T .none { s with heap := h', toks := tk }) :
    codeAny (model P w) A (.call (.builtin "set.__init__") ⟨[.ref s.heap.objs.size, .ref l], []⟩) (wants T E) { s with heap := s.heap.push (eSet w) } := by
  have esz : items.size = ns.length := by
    have y := IntsAre.length hi
    rw [Array.length_toList] at y
    exact y
  have at0 : (s.heap.push (eSet w)).get? s.heap.objs.size = some (eSet w) := Heap.get?_push_size _ rfl
  have sz1 : (s.heap.push (eSet w)).objs.size = s.heap.objs.size + 1 := Heap.size_push ..
  obtain ⟨⟨oc, od, dt, osl⟩, o1, o2, m, o3⟩ := id hl
  obtain rfl : oc = Value.type "list" := o2
  obtain rfl : dt = Data.seq items m := o3
  have lt : l < s.heap.objs.size := Heap.lt_size o1
  have at1 : (s.heap.push (eSet w)).get? l = some { cls := .type "list", dict := od, data := .seq items m, slots := osl } := Heap.get?_push_of_some _ o1
  have l1 : (s.heap.push (eSet w)).IsList l items := ⟨_, at1, rfl, m, rfl⟩
  have f1 := F.sub_list_set
  have f2 := F.sub_list_frozenset
  have f3 : (Value.type "list" == Value.type "dict") = false := by decide
  refine codeAny_call_builtin (R := wants T E) F.called_set.init.plain F.entry_set_init (check_set_init_1 (show Shared.TypeIs { s with heap := s.heap.push (eSet w) } (.ref s.heap.objs.size) "set" from ⟨_, at0, rfl⟩) ?_)
  unfold Builtin.«set.__init__» noKeywords Builtin.Frozenset.updateFrom
  generalize pi0 : pyIter = PI0
  wp_walk
  subst pi0
  refine wpAny_pyIter_list l1 (wpAny_bind (wpAny_runValue ?_))
  have nI : l ≠ (s.heap.push (eSet w)).objs.size := by
    rw [sz1]
    exact Nat.ne_of_lt (Nat.lt_succ_of_lt lt)
  have nS : s.heap.objs.size ∉ [(s.heap.push (eSet w)).objs.size, l] := fun z => by
    rw [sz1] at z
    rcases List.mem_cons.mp z with y | y
    · exact absurd y (Nat.ne_of_lt (Nat.lt_succ_self _))
    · exact absurd (List.mem_singleton.mp y) (Nat.ne_of_gt lt)
  refine set_update_ints ((Walks.list (A := A.in1.in1) (by simp [hh]) _ l nI items).toS) s.heap.objs.size nS ns esz hb (fun i v hv => ?_) (items.size - 0) 0 _ (by omega) (Nat.zero_le _)
    ⟨⟨_, Heap.get?_push_size _ rfl, rfl, rfl⟩, l1.push _⟩ ⟨0, Nat.le_refl 0, setR_new_at (Heap.get?_push_of_some _ at0)⟩ fun s' c hm hc hS => ?_
  · have hi2 : i < ns.length := by
      rw [← esz]
      exact (Array.getElem?_eq_some_iff.mp hv).1
    obtain ⟨t, e⟩ := PyProof.Rows.IntsAre.int_at hi i v (by rw [Array.getElem?_toList]; exact hv)
    refine ⟨ns[i], t, List.getElem?_eq_getElem hi2, ?_⟩
    rw [e, List.getD_eq_getElem?_getD, List.getElem?_eq_getElem hi2] <;> rfl
  · obtain ⟨h', g2, d2, tk2, os2⟩ := s'
    obtain rfl : g2 = s.gens := hm.gens
    obtain rfl : d2 = s.drawn := hm.drawn
    obtain rfl : os2 = s.os := hm.os
    refine wpAny_pure (wpAny_pure (hT h' tk2 ⟨⟨c, by rw [← esz]; exact hc, hS⟩, fun b o y => hm.heap b o (fun z => ?_) (Heap.get?_push_of_some _ (Heap.get?_push_of_some _ y))⟩))
    have y1 := Heap.lt_size y
    rcases List.mem_cons.mp z with y2 | y2
    · rw [y2] at y1
      exact Nat.lt_irrefl _ y1
    · rw [List.mem_singleton.mp y2, sz1] at y1
      exact Nat.lt_irrefl _ (Nat.lt_of_succ_lt y1)
theorem call_setI {l : Addr} {items : Array Value} (ns : List Int) {Q : Value → Shared → Prop} (hh : A.handled = none) (hl : s.heap.IsList l items) (hi : IntsAre items.toList ns) (hb : ns.length + 1 < scanBound)
    (q : ∀ h' tk, Filled w s.heap ns h' → Q (.ref s.heap.objs.size) { s with heap := h', toks := tk }) : wpAny (model P w) A (call (.type "set") [.ref l]) Q E s := by
  obtain ⟨_, _, m1⟩ := F.called_set.mro
  have m2 := F.called_set.made
  have m3 := F.called_set.sub
  have m4 := F.called_set.notType
  have m5 := F.called_set.canCreate
  have m6 := F.typeCall_set_1 (.ref l)
  have at0 : (s.heap.push (eSet w)).get? s.heap.objs.size = some (eSet w) := Heap.get?_push_size _ rfl
  have m7 : Shared.TypeIs { s with heap := s.heap.push (eSet w) } (.ref s.heap.objs.size) "set" := ⟨_, at0, rfl⟩
  refine wpAny_call (codeAny_of_tree (show wpAny _ _ (callAny (.type "set") _) _ _ _ from wpAny_pure ⟨Code.quiet_builtin _ (by decide +kernel), codeAny_builtin F.entry_type_call ?_⟩))
  rw [Around.under_plain (weight_type_call_type "set" [.ref l] []) rfl]
  repeat (any_goals (first | assumption | wp_step))
  refine codeAny_mono (code_set_led1 (.ref l) (E := E) (Q₁ := fun obj s1 => obj = .ref s.heap.objs.size ∧ s1 = { s with heap := s.heap.push (eSet w) }) ⟨rfl, rfl⟩) fun r s1 z => ?_
  match r, z with
  | .error e, z => exact z
  | .ok (.ret obj), z =>
    obtain ⟨rfl, rfl⟩ := z
    have m8 := F.called_set.init.lookup
    have m9 := F.called_set.init.bind (.ref s.heap.objs.size)
    repeat (any_goals (first | assumption | wp_step))
    refine codeAny_mono (fill_list (P := P) (E := E) ns (by simp [hh]) hl hi hb (T := fun r s2 => r = .none ∧ ∃ h' tk, s2 = { s with heap := h', toks := tk } ∧ Filled w s.heap ns h') fun h' tk y => ⟨rfl, h', tk, rfl, y⟩) fun r2 s2 z2 => ?_
    match r2, z2 with
    | .error e, z2 => exact z2
    | .ok (.ret v), z2 =>
      obtain ⟨rfl, h', tk, rfl, y⟩ := z2
      repeat (any_goals (first | assumption | wp_step))
      exact q h' tk y
    | .ok .next, z2 => exact z2.elim
    | .ok .brk, z2 => exact z2.elim
    | .ok .cont, z2 => exact z2.elim
  | .ok .next, z => exact z.elim
  | .ok .brk, z => exact z.elim
  | .ok .cont, z => exact z.elim
end
section
variable {X : Cx}
def rSetL (K : PySem.W.Frag) (w : World) : List V → Hp → VK → Prop := fun vs H Q => ∃ (a : Addr) (ns : List Int), vs = [V.ref a] ∧ SqL K H a (ns.map V.int) ∧ ns.length ≤ 1000 ∧
  ∀ p c, H p = none → c ≤ ns.length → (ns.Nodup → c = ns.length) → Q (.ref p) (upd H p (SetO w p (fun j => decide (j ∈ ns)) c))
theorem setR_count {w : World} {h : Heap} {a : Addr} {ns : List Int} {c : Nat} (R : SetR w h a (fun j => decide (j ∈ ns)) c) (nd : ns.Nodup) : c = ns.length := by
  obtain ⟨o, es, ep, t, ho, hex, hd, g, nd2, hm, hb, hf, hn, hr, hl⟩ := R
  have e1 : (es.toList.map L2.keyOf).length = c := by rw [List.length_map, Array.length_toList]; exact hn
  have pm : (es.toList.map L2.keyOf).Perm ns := by
    refine (List.perm_ext_iff_of_nodup nd2 nd).mpr fun k => ?_
    rw [← hm k]
    simp
  rw [← e1, pm.length_eq]
theorem cr_setL (hc : X.calm = true) : CallR X (.type "set") (rSetL X.K X.w) := by
  intro pins s σ H vs us Q I r z
  obtain ⟨a, ns, rfl, hs, hz, q⟩ := z
  obtain ⟨its, rv, hl, _⟩ := I.list hs
  rw [Vals.ref1 r]
  refine call_setI ns (I.ok.hd hc) hl.isList rv.ints (by unfold scanBound; omega) fun h' tk y => ?_
  obtain ⟨⟨c, y1, y2⟩, y3⟩ := y
  exact ⟨.ref _, _, I.laid (t' := tk) y3 (Nat.le_refl _) (setO_new y2), rfl, q _ c (I.hok.fresh (Nat.le_refl _)) y1 (setR_count y2)⟩
theorem call_lenSet : CallR X (.builtin "len") (fun xs H Q => ∃ (a : Addr) (S : Int → Bool) (n : Nat), xs = [.ref a] ∧ H a = some (SetO X.w a S n) ∧ Q (.int n) H) := by
  intro pins s σ H vs us Q I r z
  obtain ⟨a, S, n, rfl, ha, q⟩ := z
  rw [Vals.ref1 r]
  obtain ⟨o, es, ep, t, ho, hex, hd, g, nd2, hm, hb, hf, hn, hr, hl⟩ := setO_get I ha
  subst hn
  exact call_len_set ho hex hd hf (by unfold scanBound at hb; omega) ⟨.int es.size, H, (I.tok _).tok _, ⟨_, rfl⟩, q⟩
end
end Wf
set_option Elab.async false
set_option linter.all false
set_option maxRecDepth 100000
set_option maxHeartbeats 4000000
namespace Wf
open PySem PySem.Spec PyProof.Rows L2
def keyD (ns : List Int) : PyData := .tuple [.int ns.sum, .tuple (ns.map .int)]
theorem readsAll_ints {h : Heap} : ∀ {us : List Value} {ns : List Int}, IntsAre us ns → ReadsAll h us (ns.map PyData.int) []
  | _, _, .nil => ReadsAll.nil
  | _, _, .cons n t r => ReadsAll.cons (as := []) (bs := []) (Reads.int n t) (readsAll_ints r)
section
variable {P : Program} {w : World} {K : PySem.W.Frag} {mg mb : Str → Option Value} {A : Around} {s : Shared}
theorem weight_pure {f t c : Addr} {fd : FuncData} {sv : Value} {cs : List Value} {ns : List Int} (F : FunD K "weight_of" "weight_of" (defArgs sWeightOf) (defBody sWeightOf) (defScope sWeightOf) [] [] f fd)
    (KX : K.In s.heap) (lim : s.heap.NoLimit) (gG : s.heap.Ns mainGlobals mg) (gB : s.heap.Ns builtinsNs mb) (g1 : mg "sum" = none) (g2 : mb "sum" = some (.builtin "sum"))
    (hh : A.handled = none) (hd : A.depth < recursionLimit) (ht : IsTup s.heap t #[.ref c, sv]) (hc : IsTup s.heap c cs.toArray) (hi : IntsAre cs ns) :
    wpAny (model P w) A (call (.ref f) [.ref t]) (PySem.W.KeyPure (keyD ns) s) (fun _ _ => False) s := by
  obtain ⟨oc, od, dV, kV, doc, pm, an, cdv, ct, osl, rfl, lk, hcd, dv0, _⟩ := F.ex
  rcases dv0 with ⟨_, rfl⟩ | ⟨e, _⟩
  case inr => exact absurd rfl e
  have hb : BindsTo s (PySem.W.fnOf "weight_of" "weight_of" (defArgs sWeightOf) (defBody sWeightOf) (defScope sWeightOf) .none kV doc pm an cdv ct) ⟨[.ref t], []⟩ [("run", .ref t)] := .of_eq rfl
  refine wpAny_call (Att.call_fn KX lim lk hcd hd hb rfl (fun s1 x => ?_) rfl rfl rfl)
  obtain ⟨h1, tk, rfl, hk⟩ := x.done
  have k1 : ∀ b o, s.heap.get? b = some o → h1.get? b = some o := hk
  have vr : h1.Ns (envOfC "weight_of" (defScope sWeightOf) s.heap.objs.size f cdv).locals _ := x.toInCall.ns
  have htT : s.heap.IsTuple t #[.ref c, sv] := ht
  have hcT : s.heap.IsTuple c cs.toArray := hc
  have run_ : ∀ {A' : Around} {E Q : Value → Shared → Prop} {h2 : Heap} {tk2 : Nat} {pos : Pos}, (∀ b o, h1.get? b = some o → h2.get? b = some o) → Q (.ref t) { s with heap := h2, toks := tk2 } →
      wpAny (model P w) A' (eval (.Name "run" pos) (envOfC "weight_of" (defScope sWeightOf) s.heap.objs.size f cdv)) Q E { s with heap := h2, toks := tk2 } := fun k q =>
    wpAny_Name (wpAny_loadName_local rfl rfl (vr.keeps k) rfl q)
  have first_ : ∀ {A' : Around} {E Q : Value → Shared → Prop} {h2 : Heap} {tk2 : Nat} {p1 p2 pos : Pos} {j : Nat}, (∀ b o, h1.get? b = some o → h2.get? b = some o) → (∀ tk3, Q (.ref c) { s with heap := h2, toks := tk3 }) →
      wpAny (model P w) A' (eval (.Subscript (.Name "run" p1) (.Constant (.int 0) j p2) pos) (envOfC "weight_of" (defScope sWeightOf) s.heap.objs.size f cdv)) Q E { s with heap := h2, toks := tk2 } := fun k q =>
    Subscript_ (run_ k (wpAny_Constant_int (subscriptTail_builtinR (x := .ref c) (htT.at fun o y => k _ _ (k1 _ _ y)).typeIs slot_tuple_getitem.lookup (PyProof.Rows.getItem_tuple (j := 0) (htT.at fun o y => k _ _ (k1 _ _ y)) (by decide) (by decide) rfl rfl ⟨rfl, q _⟩) rfl)))
  show wpAny _ _ (execs [.Return (some (.Tuple [.Call (.Name "sum" _) [.Subscript (.Name "run" _) (.Constant (.int 0) _ _) _] [] _, .Subscript (.Name "run" _) (.Constant (.int 0) _ _) _] _ _)) _] _) _ _ _
  refine wpAny_execs_cons (wpAny_Return_some (wpAny_Tuple_spliced (Calls.spliced_cons (wpAny_Call_Name_kw ?_))))
  refine Calls.Name_function_global rfl rfl (Calls.loadGlobal_builtin (gG.keeps k1) g1 (gB.keeps k1) g2 (PyProof.Rows.callWith_builtin1 (Calls.spliced_cons (first_ (fun _ _ y => y) fun tk3 => Calls.spliced_nil ?_))))
  refine sum_rawT hh (hcT.at fun o y => k1 _ _ y) hi fun h2 tk4 t4 k2 => Calls.spliced_cons (first_ k2 fun tk5 => Calls.spliced_nil ⟨by show 2 ≤ sizeLine; decide, ?_⟩)
  refine ⟨_, tk5, rfl, fun b o y => Heap.get?_push_of_some _ (k2 _ _ (k1 _ _ y)), ?_⟩
  have kk : ∀ b o, s.heap.get? b = some o → (h2.push { cls := .type "tuple", data := .seq (List.toArray [.int ns.sum t4, .ref c]) }).get? b = some o := fun b o y => Heap.get?_push_of_some _ (k2 _ _ (k1 _ _ y))
  obtain ⟨o2, c1, c2, m, c3⟩ := hc
  have inner : Reads (h2.push { cls := .type "tuple", data := .seq (List.toArray [.int ns.sum t4, .ref c]) }) (.ref c) (.tuple (ns.map .int)) [] := Reads.tuple (kk _ _ c1) c2 c3 (readsAll_ints hi)
  exact Reads.tuple (as := []) (Heap.get?_push_size _ rfl) rfl rfl (ReadsAll.cons (as := []) (bs := []) (Reads.int _ _) (ReadsAll.cons (as := []) (bs := []) inner ReadsAll.nil))
end
theorem vals_each : ∀ {bs : List (V × List Int)} {us : List Value}, Vals (bs.map (·.1)) us → PySem.W.EachIs (fun v b => RelV b.1 v) us bs
  | [], [], _ => .nil
  | [], _ :: _, h => nomatch h
  | _ :: _, [], h => nomatch h
  | _ :: _, _ :: _, .cons r t => .cons r (vals_each t)
theorem each_vals : ∀ {bs : List (V × List Int)} {us : List Value}, PySem.W.EachIs (fun v b => RelV b.1 v) us bs → Vals (bs.map (·.1)) us
  | _, _, .nil => .nil
  | _, _, .cons r t => .cons r (each_vals t)
def byKey (bs : List (V × List Int)) : List (V × List Int) := bs.mergeSort (PySem.W.dataLe false fun b => keyD b.2)
def rSortedBy (K : PySem.W.Frag) (f : Addr) : List V → List V → Hp → VK → Prop := fun vs zs H Q => ∃ (a : Addr) (bs : List (V × List Int)), vs = [.ref a] ∧ zs = [.ref f] ∧ SqL K H a (bs.map (·.1)) ∧
  (∀ b ∈ bs, ∃ t c sv, b.1 = .ref t ∧ SqT K H t [.ref c, sv] ∧ SqT K H c (b.2.map V.int)) ∧ ∀ p, H p = none → Q (.ref p) (upd H p (.lst ((byKey bs).map (·.1))))
section
variable {X : Cx} {k : Nat} {f : Addr} {fd : FuncData}
set_option maxHeartbeats 200000 in
theorem cr_sortedBy (F : FunD X.K "weight_of" "weight_of" (defArgs sWeightOf) (defBody sWeightOf) (defScope sWeightOf) [] [] f fd) (hc : X.calm = true) (hr : Room k X.A) (g1 : X.mg "sum" = none) :
    CallRK X (.builtin "sorted") [Str.ofString "key"] (rSortedBy X.K f) := by
  intro pins s σ H vs zs us ws Q I r rz z
  obtain ⟨a, bs, rfl, rfl, hs, hb, q⟩ := z
  rw [Vals.ref1 r, Vals.ref1 rz]
  obtain ⟨its, rv, hl, hz⟩ := I.list hs
  have lb : bs.length ≤ sizeLine := by
    rw [List.length_map] at hz
    exact hz
  obtain ⟨mb, b1, b2⟩ := I.mod.blt
  have hu := hr.units
  have e1 : ∀ ns : List Int, (keyD ns).depth ≤ 2 := fun ns => by
    unfold keyD
    simp only [PyData.depth, PyData.depthAll, PySem.W.depth_ints]
    decide
  show wpAny _ _ (call (.builtin "sorted") [.ref a] [(Str.ofString "key", .ref f)]) _ _ _
  refine PySem.W.sorted_key_data (b := false) (fun b : V × List Int => keyD b.2) hl.isList (vals_each rv) (PySem.W.AllAlike.of fun b b' => ?_) (PySem.W.Sortable.tuples fun b => ⟨_, _, rfl⟩) lb (fun b _ => ?_) (ksk_s1 _ _) (fun _ => ksk_l1 _ _) (fun _ => ksk_t1 _ _) (fun v b hv hbm h tk kp => ?_) fun out c h' tk kp hn hD ho he => ?_
  · simp [keyD, PySem.W.alike, PySem.W.alikeAll, PySem.W.alike_ints]
  · have := e1 b.2
    omega
  · obtain ⟨t, c, sv, x1, x2, x3⟩ := hb b hbm
    rw [x1] at hv
    obtain rfl : v = Value.ref t := hv
    obtain ⟨i1, r1, p1, _⟩ := I.tuple x2
    obtain ⟨i2, r2, p2, _⟩ := I.tuple x3
    cases r1 with
    | cons ra r1 =>
      cases r1 with
      | cons rb r1 =>
        cases r1
        cases ra
        rename_i u2
        have p1' : s.heap.IsTuple t #[Value.ref c, u2] := p1
        have p2' : s.heap.IsTuple c i2.toArray := p2
        have z1 : ({ s with heap := h, toks := tk } : Shared).heap.IsTuple t #[Value.ref c, u2] := p1'.at fun o y => kp _ _ y
        have z2 : ({ s with heap := h, toks := tk } : Shared).heap.IsTuple c i2.toArray := p2'.at fun o y => kp _ _ y
        have z3 : X.A.in1.in1.handled = none := I.ok.hd hc
        have z4 : X.A.in1.in1.depth < recursionLimit := hr.depth
        have z5 : mb "sum" = some (.builtin "sum") := (b2 "sum" (by decide)).trans boot_sum
        exact weight_pure (P := X.prog) (w := X.w) (A := X.A.in1.in1) (s := { s with heap := h, toks := tk }) (mg := X.mg) (mb := mb) F (PySem.W.Frag.In.keeps I.kIn kp) (I.nolimit.keeps kp) ((I.mod.glob.keeps I.bk).keeps kp) ((b1.keeps I.bk).keeps kp) g1 z5 z3 z4 z1 z2 r2.ints
  · have lz : ((byKey bs).map (·.1)).length ≤ sizeLine := by
      unfold byKey
      rw [List.length_map, List.length_mergeSort]
      exact lb
    have new : ObjOk X.prog X.w (upd H (s.heap.objs.size + 1) (.lst ((byKey bs).map (·.1)))) h' (s.heap.objs.size + 1) (.lst ((byKey bs).map (·.1))) := ⟨lz, out, c, each_vals he, hD⟩
    exact ⟨.ref _, _, I.laid (t' := tk) kp (Nat.le_succ _) new, rfl, q _ (I.hok.fresh (Nat.le_succ _))⟩
end
end Wf
set_option Elab.async false
set_option linter.all false
set_option maxRecDepth 100000
set_option maxHeartbeats 1000000
namespace Wf
open PySem PySem.Spec PyProof.Rows L2
section
variable {X : Cx}
def rRepr (K : PySem.W.Frag) : List V → Hp → VK → Prop := fun vs H Q => ∃ (a : Addr) (d : PyData), vs = [.ref a] ∧ Dp K H (.ref a) d ∧ d.showable = true ∧ d.hasDict = false ∧ d.depth ≤ 40 ∧ d.shown.length ≤ sizeLine ∧ Q (.str d.shown) H
theorem cr_repr (g : X.A.guards = some []) (hu : X.A.units + 64 < cLine) : CallR X (.builtin "repr") (rRepr X.K) := by
  intro pins s σ H vs us Q I r z
  obtain ⟨a, d, rfl, z1, z2, z3, z4, z5, q⟩ := z
  rw [Vals.ref1 r]
  obtain ⟨as, rd⟩ := Dp.reads I d (.ref a) (.ref a) z1 rfl
  exact repr_of_reads' rd z2 (PyData.noDict_hsm z3) g (by omega) (fun _ _ y => y) (fun h' u tk hk => ⟨.str d.shown, H, I.kept hk, ⟨_, rfl⟩, q⟩) z5
end
section
variable {P : Program} {w : World} {K : PySem.W.Frag} {mg : Str → Option Value} {base : Heap} {x qual : Str} {params : Arguments} {body : List Stmt} {scope : Scope} {f : Addr} {fd : FuncData} {N ps : List Str} {k : Nat}
theorem enter_at {A : Around} {outer : List Env} {s : Shared} {H : Hp} {args : Args} {us : List Value} {vs : List V} {Q : VK} {E : XK} {CX : CXT} (F : FunD K x qual params body scope [] [] f fd) (S : FnScope N ps scope) (hr : Room (k + 1) A)
    (e0 : Env0 P w K mg base A outer s H) (hb : BindsTo s fd args (ps.zip us)) (rv : Vals vs us) (hl : vs.length = ps.length)
    (hbody : ∀ cdv : Value, ∃ t, PSs (cxOf CX P w K mg base N qual scope f cdv A outer s H E) body t ∧ t { nx := fun _ H' => Q .non H', rt := Q } (start N vs) H) : codeAny (model P w) A (.call (.ref f) args) (CR CX outer P w H s Q E) s := by
  obtain ⟨oc, od, dV, kV, doc, pm, an, cdv, ct, osl, rfl, lk, hcd, _, _⟩ := F.ex
  obtain ⟨t, pt, rd⟩ := hbody cdv
  have inK : K.In s.heap := e0.mod.kin.keeps fun b o y => (e0.bs b o y).1
  have noL : s.heap.NoLimit := e0.mod.nolimit.keeps fun b o y => (e0.bs b o y).1
  have kinds : ((ps.zip us).all fun y => scope.names.lookup y.1 == some .local || scope.names.lookup y.1 == some .cell) = true := List.all_eq_true.mpr fun y hy => by
    rcases S.par y.1 (List.of_mem_zip (a := y.1) (b := y.2) hy).1 with z | z
    · rw [z]; rfl
    · rw [z]; rfl
  refine Att.call_fn inK noL lk hcd hr.depth hb kinds (fun s1 y => ?_) S.co S.gen S.kind
  have I := inv_start (CX := CX) (E := E) S hr.hd e0 hl rv y
  refine wpAny_mono (pt.run [] s1 _ H _ I rd) (fun fl s2 z => ?_) fun e s2 z => z
  have fin : ∀ {σ' : L2.St} {H' : Hp} {v : V} {u : Value}, Inv (cxOf CX P w K mg base N qual scope f cdv A outer s H E) [] σ' H' s2 → RelV v u → Q v H' → CE outer P w H s Q u s2 := fun {σ' H' v u} J z1 z2 => ⟨v, H', J.os, J.bare, J.base, J.hok, z1, z2⟩
  match fl, z with
  | .ret u, z =>
    obtain ⟨v, σ', H', J, z1, z2⟩ := z
    exact fin J z1 z2
  | .next, z =>
    obtain ⟨σ', H', J, z1⟩ := z
    exact fin (v := V.non) (u := Value.none) J rfl z1
  | .brk, z =>
    obtain ⟨_, _, _, z1⟩ := z
    exact z1.elim
  | .cont, z =>
    obtain ⟨_, _, _, z1⟩ := z
    exact z1.elim
end
def LawOk (P : Program) (w : World) (K : PySem.W.Frag) (mg : Str → Option Value) (fa : Addr) : Prop :=
  ∀ (base : Heap) (s : Shared) (H : Hp) (a : Addr) (ns : List Int), ns.length ≤ 63 → K.In base → base.Ns mainGlobals mg → SqL K H a (ns.map V.int) → Env0 P w K mg base callerA [] s H →
    codeAny (model P w) callerA (.call (.ref fa) ⟨[.ref a], []⟩) (CR CX0 [] P w H s (fun v _ => v = .bl true) E0) s
section
variable {P : Program} {w : World} {K : PySem.W.Frag} {mg mb : Str → Option Value} {fa a : Addr} {s1 : Shared} {vs : List Value} {ns : List Int}
theorem law_from (L : LawOk P w K mg fa) (KX : K.In s1.heap) (hns : s1.heap.Ns mainGlobals mg) (hb : s1.heap.Ns builtinsNs mb) (hbb : ∀ x : Str, x ≠ "__name__" → mb x = bootBuiltins x) (hlim : s1.heap.NoLimit) (hg : s1.gens = #[])
    (ha : s1.heap.get? a = some { cls := .type "list", data := .seq vs.toArray }) (hz : ns.length ≤ 63) {H : Hp} (hO : Only H) (hS : SqL K H a (ns.map V.int)) (hok : HOk P w H s1.heap) (hA : ∀ b, H b ≠ none → b = a) (hK : H a ≠ none → K.lookup a = none) :
    codeAny (model P w) callerA (.call (.ref fa) ⟨[.ref a], []⟩) (fun r s' => r = .ok (.ret (.bool true)) ∧ OldK s1.heap s'.heap ∧ s'.os = s1.os ∧ AllBare s'.gens) s1 := by
  have free : ∀ {b : Addr} {o : Obj} {es : Array DictEntry} {ep : Nat}, s1.heap.get? b = some o → o.data = .dict es ep → H b = none := fun {b o es ep} y d => by
    cases q : H b with
    | none => rfl
    | some u =>
      have eb : b = a := hA b (by rw [q]; exact Option.some_ne_none u)
      rw [eb, ha] at y
      rw [← Option.some.inj y] at d
      exact nomatch d
  have names : ∀ {b : Addr} {m : Str → Option Value}, s1.heap.Ns b m → (hidT s1.heap H).Ns b m := fun {b m} ⟨o, es, ep, y, d, z⟩ => ⟨o, es, ep, hidT_get y (free y d), d, z⟩
  have inB : K.In (hidT s1.heap H) := fun b o y => hidT_get (KX b o y) (by
    cases q : H b with
    | none => rfl
    | some u =>
      have ne : H b ≠ none := by rw [q]; exact Option.some_ne_none u
      have eb : b = a := hA b ne
      rw [eb] at y ne
      rw [hK ne] at y
      exact nomatch y)
  have md : Mod K mg (hidT s1.heap H) := ⟨inB, names hns, ⟨mb, names hb, hbb⟩, by
    obtain ⟨mc, z1, z2⟩ := hlim
    exact ⟨mc, names z1, z2⟩⟩
  have e0 : Env0 P w K mg (hidT s1.heap H) callerA [] s1 H := ⟨rfl, md, fun b o y => of_hidT y, Nat.le_of_eq (hidT_size _ _), trivial, fun b z => (nomatch (show b ∈ ([] : List Addr) from z)), hok, .of_eq hg⟩
  refine codeAny_mono (L _ s1 H a ns hz inB (names hns) hS e0) fun r s' z => ?_
  match r, z with
  | .error e, z => exact z.elim
  | .ok .next, z => exact z.elim
  | .ok .brk, z => exact z.elim
  | .ok .cont, z => exact z.elim
  | .ok (.ret u), z =>
    obtain ⟨v, H', os, bare, un, hok', rv, ev⟩ := z
    have ev2 : v = .bl true := ev
    rw [ev2] at rv
    obtain rfl : u = Value.bool true := rv
    refine ⟨rfl, OldK.of_keep fun b o y => ?_, os, bare⟩
    cases q : H b with
    | none => exact un.keep b o y q (fun z => nomatch (show b ∈ ([] : List Addr) from z)) (fun z => nomatch z)
    | some u =>
      rcases hO b with z | ⟨ob, xs, z⟩
      · rw [q] at z
        exact nomatch z
      · have z3 := (hok' b _ (un.frzs b ob _ z)).1
        rw [(hok b _ z).1] at y
        rw [← Option.some.inj y]
        exact z3
theorem law_end (L : LawOk P w K mg fa) (KX : K.In s1.heap) (hns : s1.heap.Ns mainGlobals mg) (hb : s1.heap.Ns builtinsNs mb) (hbb : ∀ x : Str, x ≠ "__name__" → mb x = bootBuiltins x) (hlim : s1.heap.NoLimit) (hg : s1.gens = #[])
    (ha : s1.heap.get? a = some { cls := .type "list", data := .seq vs.toArray }) (hi : IntsAre vs ns) (hz : ns.length ≤ 63) :
    codeAny (model P w) callerA (.call (.ref fa) ⟨[.ref a], []⟩) (fun r s' => r = .ok (.ret (.bool true)) ∧ OldK s1.heap s'.heap ∧ s'.os = s1.os ∧ AllBare s'.gens) s1 := by
  have rv := vals_ints hi
  have lz : ns.length ≤ sizeLine := Nat.le_trans hz (by decide)
  cases hk : K.lookup a with
  | some o =>
    have y := KX a o hk
    rw [ha] at y
    have eo := Option.some.inj y
    have hS : SqL K (fun _ => none) a (ns.map V.int) := .inr ⟨o, vs.toArray, _, hk, by rw [← eo], by rw [← eo], by rw [← eo], by rw [List.size_toArray, hi.length]; exact lz, rv⟩
    exact law_from L KX hns hb hbb hlim hg ha hz (fun _ => .inl rfl) hS (fun b u z => nomatch z) (fun b z => absurd rfl z) fun z => absurd rfl z
  | none =>
    let Hs : Hp := fun b => if b = a then some (.frz { cls := .type "list", data := .seq vs.toArray } (.lst (ns.map V.int))) else none
    have at_ : Hs a = some (.frz { cls := .type "list", data := .seq vs.toArray } (.lst (ns.map V.int))) := if_pos rfl
    have off : ∀ {b}, b ≠ a → Hs b = none := fun nb => if_neg nb
    have lz2 : (ns.map V.int).length ≤ sizeLine := by rw [List.length_map]; exact lz
    refine law_from L KX hns hb hbb hlim hg ha hz (H := Hs) (fun b => ?_) (.inl (.inr ⟨_, at_⟩)) (fun b u z => ?_) (fun b z => ?_) fun _ => hk
    · by_cases hba : b = a
      · exact .inr ⟨_, _, hba ▸ at_⟩
      · exact .inl (off hba)
    · by_cases hba : b = a
      · subst hba
        have z2 := at_.symm.trans z
        rw [← Option.some.inj z2]
        exact ⟨ha, lz2, vs, _, rv, ha⟩
      · exact nomatch (off hba).symm.trans z
    · by_cases hba : b = a
      · exact hba
      · exact absurd (off hba) z
end
end Wf
set_option Elab.async false
set_option linter.all false
set_option maxRecDepth 100000
set_option maxHeartbeats 4000000
namespace Wf
open PySem PySem.Spec PyProof.Rows L2
def ItzM (K : PySem.W.Frag) (a b : Addr) : It where
  go := fun i H => ∃ (xs ys : List V) (x y : V), (SqT K H a xs ∧ xs[i]? = some x) ∧ SqL K H b ys ∧ ys[i]? = some y
  yld := fun i H v H' => ∃ T x y, v = .ref T ∧ H T = none ∧ H' = upd H T (.tup [x, y]) ∧ (∀ xs, SqT K H a xs → xs[i]? = some x) ∧ ∀ ys, SqL K H b ys → ys[i]? = some y
  stop := fun i H => ∃ xs ys : List V, SqT K H a xs ∧ SqL K H b ys ∧ xs.length = i ∧ ys.length = i
theorem sep_of {z TI TO i1 i2 a b : Addr} (D : ZipApart z TI TO i1 i2 a b) : ZipSep2 z TI TO i1 i2 [i1, a] [i2, b] := by
  obtain ⟨q1, q2, q3, q4, q5, q6, q7, q8, q9, q10, q11, q12, q13, q14, q15, q16, q17, q18⟩ := D
  constructor <;> simp_all [Ne.symm, eq_comm]
theorem not_four {q z TI TO i1 i2 : Addr} (n : q ∉ [z, TI, TO, i1, i2]) : q ∉ [z, TO, i1, i2] := fun m => n (by
  simp only [List.mem_cons] at m ⊢
  exact m.imp id .inr)
def ZCells (z TI TO i1 i2 a b : Addr) (i : Nat) (h : Heap) : Prop := (IsZip h z TI TO .none ∧ IsTupOf2 h TI (.ref i1) (.ref i2) ∧ ∃ u v, IsTupOf2 h TO u v) ∧ h.IsTupleIter i1 a i ∧ h.IsListIter i2 b i
theorem ZCells.live {z TI TO i1 i2 a b : Addr} {i : Nat} {h : Heap} (c : ZCells z TI TO i1 i2 a b i h) : ∀ q ∈ [z, TI, TO, i1, i2], ∃ o, h.get? q = some o ∧ ∀ v, o.data ≠ .cell v := by
  obtain ⟨⟨c1, c2, _, _, c3⟩, ⟨o4, c4, _, d4⟩, ⟨o5, c5, _, d5⟩⟩ := c
  simp only [List.forall_mem_cons]
  exact ⟨⟨_, c1, nofun⟩, ⟨_, c2, nofun⟩, ⟨_, c3, nofun⟩, ⟨o4, c4, by rw [d4]; exact nofun⟩, ⟨o5, c5, by rw [d5]; exact nofun⟩, nofun⟩
theorem ZCells.stay {z TI TO i1 i2 a b : Addr} {i : Nat} {h h' : Heap} (c : ZCells z TI TO i1 i2 a b i h) (k : ∀ q ∈ [z, TI, TO, i1, i2], ∀ o, h.get? q = some o → h'.get? q = some o) : ZCells z TI TO i1 i2 a b i h' := by
  simp only [List.forall_mem_cons] at k
  obtain ⟨k1, k2, k3, k4, k5, _⟩ := k
  obtain ⟨⟨c1, c2, u, v, c3⟩, c4, c5⟩ := c
  exact ⟨⟨k1 _ c1, k2 _ c2, u, v, k3 _ c3⟩, c4.at fun o => k4 o, c5.at fun o => k5 o⟩
theorem turn_zipM {P : Program} {w : World} {K : PySem.W.Frag} {elts : List Expr} {kk : Nat} {tpos : Pos} {a b z TI TO i1 i2 : Addr} (D : ZipApart z TI TO i1 i2 a b) :
    Turn P w K (.Tuple elts kk tpos) (ItzM K a b) [z, TI, TO, i1, i2] z (ZCells z TI TO i1 i2 a b) where
  mem := List.mem_cons_self ..
  obj := fun _ _ c => c.live
  keep := fun _ _ _ c => c.stay
  item := by
    rintro X rfl rfl rfl calm i pins s σ H E I free ⟨⟨c1, c2, c3⟩, c4, c5⟩ ⟨xs, ys, x, y, ⟨ta, hx⟩, lb, hy⟩
    have calm' := I.ok.hd calm
    obtain ⟨us, ru, ht, _⟩ := I.tuple ta
    obtain ⟨vs, rv, hl, _⟩ := I.list lb
    obtain ⟨u, hu, relu⟩ := ru.get hx
    obtain ⟨v, hv, relv⟩ := rv.get hy
    have below : i < min us.toArray.size vs.toArray.size := by
      have b1 := (List.getElem?_eq_some_iff.mp hu).1
      have b2 := (List.getElem?_eq_some_iff.mp hv).1
      simp only [List.size_toArray]
      omega
    have W := WalksT.zipD2 (prog := X.prog) (w := X.w) (A := X.A) (sep_of D) (Draws.tuple (A := X.A.in1) calm' i1 a D.l1i1 us.toArray) (Draws.list (A := X.A.in1) calm' i2 b D.l2i2 vs.toArray)
    refine W.item i s _ _ below ⟨c1, c2, c3, ⟨c4, ht⟩, c5, hl.isList⟩ fun T pair h1 tk isP old isT mid keep1 => ⟨_, rfl, ?_⟩
    refine W.go elts kk tpos i T { s with heap := h1, toks := tk } _ _ mid fun h2 cells keep2 => ?_
    have nT : T ∉ [z, TO, i1, i2] := W.apart i T h1 mid
    obtain ⟨o, ho, hc, n, hd⟩ := isT
    have pairIs : pair = #[u, v] := by
      obtain ⟨u', v', e1, e2, rfl⟩ := isP
      have f1 : us[i]? = some u' := by simpa using e1
      have f2 : vs[i]? = some v' := by simpa using e2
      rw [hu] at f1
      rw [hv] at f2
      rw [Option.some.inj f1, Option.some.inj f2]
    have made : ObjOk X.prog X.w (upd H T (.tup [x, y])) h2 T (.tup [x, y]) :=
      ⟨by show 2 ≤ sizeLine; decide, [u, v], .cons relu (.cons relv .nil), o, keep2 T o nT ho, hc, n, by rw [hd, pairIs]⟩
    have I2 : Inv X pins σ (upd H T (.tup [x, y])) { s with heap := h2, toks := tk } :=
      I.turnedNew (t' := tk) (ch := [z, TI, TO, i1, i2]) (fun q o n e => keep2 q o (not_four n) (keep1 q o (not_four n) e)) free old made
    obtain ⟨d1, d2, d3, d4, d5⟩ := cells
    refine ⟨.ref T, _, I2, rfl, ⟨T, x, y, rfl, I.hok.fresh old, rfl, fun zs hz => ?_, fun zs hz => ?_⟩, ⟨⟨d1, d2, d3⟩, d4.1, d5.1⟩, fun q hq => ?_⟩
    · rw [I.tuple_inj hz ta]
      exact hx
    · rw [I.list_inj hz lb]
      exact hy
    · obtain ⟨oq, eq, _⟩ := ZCells.live ⟨⟨c1, c2, c3⟩, c4, c5⟩ q hq
      have ne : q ≠ T := fun e => by
        have := Heap.lt_size eq
        rw [e] at this
        exact absurd this (Nat.not_lt.mpr old)
      rw [upd_ne ne]
      exact (free q hq).1
  done := by
    rintro X rfl rfl rfl calm i pins s σ H E I free ⟨⟨c1, c2, c3⟩, c4, c5⟩ ⟨xs, ys, ta, lb, e1, e2⟩
    have calm' := I.ok.hd calm
    obtain ⟨us, ru, ht, _⟩ := I.tuple ta
    obtain ⟨vs, rv, hl, _⟩ := I.list lb
    have n1 := ru.length
    have n2 := rv.length
    have at_ : i = min us.toArray.size vs.toArray.size := by
      simp only [List.size_toArray]
      omega
    have W := WalksT.zipD2 (prog := X.prog) (w := X.w) (A := X.A) (sep_of D) (Draws.tuple (A := X.A.in1) calm' i1 a D.l1i1 us.toArray) (Draws.list (A := X.A.in1) calm' i2 b D.l2i2 vs.toArray)
    rw [at_] at c4 c5
    refine W.done s _ _ ⟨c1, c2, c3, ⟨c4, ht⟩, c5, hl.isList⟩ fun h' tk keep => ⟨rfl, ?_⟩
    exact I.turnedL (t' := tk) (ch := [z, TI, TO, i1, i2]) (fun q o n e => keep q o (not_four n) e) free
  self := fun _ _ _ _ _ c q => wpAny_pyIter_zip c.1.1 q
def iZipM (K : PySem.W.Frag) (ta : TA) : TI := fun σ H R => ta σ H fun vs H1 => ∃ a b xs ys, vs = [.ref a, .ref b] ∧ SqT K H1 a xs ∧ SqL K H1 b ys ∧ R (ItzM K a b) H1
theorem pi_zipM {X : Cx} {e e' : Expr} {ta : TA} {p pos tpos : Pos} {elts : List Expr} {kk : Nat} (hg : Gl X "zip") (hm : X.mg "zip" = none) (ha : PA X [e, e'] ta)
    (star : starEach [e, e'] X.env = (false, eval e X.env) :: starEach [e'] X.env := by rfl) (plain : (backTo pos (starEach [e'] X.env)).any (·.1) = false := by rfl) :
    PI X (.Tuple elts kk tpos) (.Call (.Name "zip" p) [e, e'] [] pos) (iZipM X.K ta) := by
  constructor
  intro pins s σ H R I h
  refine Call_ (ld_blt I hg hm boot_zip (callWith_type1 (thn (ha.run pos pins s σ H _ I h) fun us s1 ⟨vs, H1, I1, rel, q⟩ => ?_) star plain))
  obtain ⟨a, b, xs, ys, rfl, ta', lb, q⟩ := q
  obtain ⟨u, v, rfl, ru, rv⟩ := vals2 rel
  cases ru
  cases rv
  obtain ⟨ts, _, ht, _⟩ := I1.tuple ta'
  obtain ⟨ls, _, hl, _⟩ := I1.list lb
  refine zip_begins2 (begins_tuple a ts.toArray) (begins_list b ls.toArray) ht hl.isList fun h' c1 c2 c3 c4 c5 _ keep => wpAny_pyIter_zip c1 ?_
  refine ⟨_, [_, _, _, _, _], _, _, H1, rfl, I1.kept (t' := s1.toks) keep, turn_zipM (PySem.W.ktu_apart s1.heap.objs.size a b ht.lt hl.lt), ⟨⟨c1, c2, _, _, c3⟩, ⟨_, c4, rfl, rfl⟩, ⟨_, c5, rfl, rfl⟩⟩, fun q hq => ?_, q⟩
  have new : s1.heap.objs.size ≤ q := by
    simp only [List.mem_cons, List.not_mem_nil, or_false] at hq
    rcases hq with rfl | rfl | rfl | rfl | rfl <;> omega
  exact I1.fpOk new (I1.hok.fresh new)
theorem walk_zipM {K : PySem.W.Frag} {a b : Addr} {xs ys : List V} {n : Nat} (h1 : xs.length = n) (h2 : ys.length = n) : Walk (ItzM K a b) n (fun H => SqT K H a xs ∧ SqL K H b ys) (YPair (fun i => xs[i]?) (fun i => ys[i]?)) where
  goes := fun i _ lt q => ⟨xs, ys, xs[i], ys[i], ⟨q.1, List.getElem?_eq_getElem (by omega)⟩, q.2, List.getElem?_eq_getElem (by omega)⟩
  stops := fun _ q => ⟨xs, ys, q.1, q.2, h1, h2⟩
  yields := by
    rintro i H v H' _ q ⟨T, x, y, e, n, u, f, g⟩
    exact ⟨T, x, y, e, n, u, f xs q.1, g ys q.2⟩
end Wf
set_option Elab.async false
set_option linter.all false
set_option maxRecDepth 100000
set_option maxHeartbeats 1000000
namespace Wf
open PySem PySem.Spec PyProof.Rows L2
inductive Dt where
  | int (i : Int)
  | str (x : Str)
  | tup (l : List Dt)
mutual
def Dt.toP : Dt → PyData
  | .int i => .int i
  | .str x => .str x
  | .tup l => .tuple (Dt.toPs l)
def Dt.toPs : List Dt → List PyData
  | [] => []
  | d :: l => d.toP :: Dt.toPs l
end
theorem toPs_eq : ∀ l : List Dt, Dt.toPs l = l.map Dt.toP
  | [] => rfl
  | d :: l => by rw [Dt.toPs, toPs_eq l, List.map_cons]
mutual
def Dt.beq : Dt → Dt → Bool
  | .int i, .int j => i == j
  | .str x, .str y => x == y
  | .tup l, .tup m => Dt.beqs l m
  | .int _, .str _ | .int _, .tup _ | .str _, .int _ | .str _, .tup _ | .tup _, .int _ | .tup _, .str _ => false
def Dt.beqs : List Dt → List Dt → Bool
  | [], [] => true
  | x :: l, y :: m => x.beq y && Dt.beqs l m
  | [], _ :: _ => false
  | _ :: _, [] => false
end
mutual
theorem Dt.beq_iff : ∀ d e : Dt, d.beq e = true ↔ d = e
  | .int i, .int j => by simp [Dt.beq]
  | .str x, .str y => by simp [Dt.beq]
  | .tup l, .tup m => by simp [Dt.beq, Dt.beqs_iff l m]
  | .int _, .str _ => by simp [Dt.beq]
  | .int _, .tup _ => by simp [Dt.beq]
  | .str _, .int _ => by simp [Dt.beq]
  | .str _, .tup _ => by simp [Dt.beq]
  | .tup _, .int _ => by simp [Dt.beq]
  | .tup _, .str _ => by simp [Dt.beq]
theorem Dt.beqs_iff : ∀ l m : List Dt, Dt.beqs l m = true ↔ l = m
  | [], [] => by simp [Dt.beqs]
  | x :: l, y :: m => by simp [Dt.beqs, Dt.beq_iff x y, Dt.beqs_iff l m]
  | [], _ :: _ => by simp [Dt.beqs]
  | _ :: _, [] => by simp [Dt.beqs]
end
instance : DecidableEq Dt := fun d e => decidable_of_iff _ (Dt.beq_iff d e)
mutual
theorem eqv_toP : ∀ d e : Dt, PyData.eqv d.toP e.toP = d.beq e
  | .int i, .int j => by simp [Dt.toP, PyData.eqv, Dt.beq]
  | .str x, .str y => by simp [Dt.toP, PyData.eqv, Dt.beq]
  | .tup l, .tup m => by simp [Dt.toP, PyData.eqv, Dt.beq, eqv_toPs l m]
  | .int _, .str _ => by simp [Dt.toP, PyData.eqv, Dt.beq]
  | .int _, .tup _ => by simp [Dt.toP, PyData.eqv, Dt.beq]
  | .str _, .int _ => by simp [Dt.toP, PyData.eqv, Dt.beq]
  | .str _, .tup _ => by simp [Dt.toP, PyData.eqv, Dt.beq]
  | .tup _, .int _ => by simp [Dt.toP, PyData.eqv, Dt.beq]
  | .tup _, .str _ => by simp [Dt.toP, PyData.eqv, Dt.beq]
theorem eqv_toPs : ∀ l m : List Dt, PyData.eqvAll (Dt.toPs l) (Dt.toPs m) = Dt.beqs l m
  | [], [] => by simp [Dt.toPs, PyData.eqvAll, Dt.beqs]
  | x :: l, y :: m => by simp [Dt.toPs, PyData.eqvAll, Dt.beqs, eqv_toP x y, eqv_toPs l m]
  | [], _ :: _ => by simp [Dt.toPs, PyData.eqvAll, Dt.beqs]
  | _ :: _, [] => by simp [Dt.toPs, PyData.eqvAll, Dt.beqs]
end
theorem eqv_dec (d e : Dt) : PyData.eqv d.toP e.toP = decide (d = e) := by
  rw [eqv_toP]
  by_cases h : d = e
  · rw [decide_eq_true h]
    exact (Dt.beq_iff d e).mpr h
  · rw [decide_eq_false h]
    exact Bool.eq_false_iff.mpr fun z => h ((Dt.beq_iff d e).mp z)
abbrev Dt.fit (d : Dt) : Prop := SeqAt.shaped d.toP = true
mutual
inductive Is (K : PySem.W.Frag) (H : Hp) : V → Dt → Prop
  | int (i : Int) : Is K H (.int i) (.int i)
  | str (x : Str) : Is K H (.str x) (.str x)
  | tup {a : Addr} {xs : List V} {l : List Dt} : SqT K H a xs → IsAll K H xs l → Is K H (.ref a) (.tup l)
inductive IsAll (K : PySem.W.Frag) (H : Hp) : List V → List Dt → Prop
  | nil : IsAll K H [] []
  | cons {v : V} {vs : List V} {d : Dt} {l : List Dt} : Is K H v d → IsAll K H vs l → IsAll K H (v :: vs) (d :: l)
end
def Up (K : PySem.W.Frag) (H H' : Hp) : Prop := ∀ a xs, SqT K H a xs → SqT K H' a xs
theorem Up.refl {K : PySem.W.Frag} {H : Hp} : Up K H H := fun _ _ z => z
theorem Up.trans {K : PySem.W.Frag} {H H1 H2 : Hp} (a : Up K H H1) (b : Up K H1 H2) : Up K H H2 := fun x xs z => b x xs (a x xs z)
theorem Up.of {K : PySem.W.Frag} {H H' : Hp} (h : ∀ b o, H b = some o → H' b = some o) : Up K H H' := fun a xs z => by
  rcases z with (z | ⟨o, z⟩) | z
  · exact .inl (.inl (h _ _ z))
  · exact .inl (.inr ⟨o, h _ _ z⟩)
  · exact .inr z
theorem Up.new {K : PySem.W.Frag} {H : Hp} {p : Addr} {o : HO} (h : H p = none) : Up K H (upd H p o) := .of fun b u z => by
  rw [upd_ne (ne_of_none z h)]
  exact z
def NoTup : Option HO → Prop
  | some (.tup _) => False
  | some (.frz _ _) => False
  | _ => True
theorem Up.put {K : PySem.W.Frag} {H : Hp} {p : Addr} {o : HO} (h : NoTup (H p)) : Up K H (upd H p o) := fun a xs z => by
  rcases z with (z | ⟨u, z⟩) | z
  · exact .inl (.inl (by rw [upd_ne (fun e => by rw [e] at z; rw [z] at h; exact h)]; exact z))
  · exact .inl (.inr ⟨u, by rw [upd_ne (fun e => by rw [e] at z; rw [z] at h; exact h)]; exact z⟩)
  · exact .inr z
theorem Up.lst {K : PySem.W.Frag} {H : Hp} {p : Addr} {xs : List V} {o : HO} (h : H p = some (.lst xs)) : Up K H (upd H p o) := .put (by rw [h]; trivial)
theorem Up.dk {K : PySem.W.Frag} {H : Hp} {p : Addr} {xs : List (L2.Key × V)} {o : HO} (h : H p = some (.dK xs)) : Up K H (upd H p o) := .put (by rw [h]; trivial)
theorem Up.sm {K : PySem.W.Frag} {H H' : Hp} (h : L2.Same H H') : Up K H H' := .of h
section
variable {K : PySem.W.Frag} {H H' : Hp}
mutual
theorem Is.up (u : Up K H H') : ∀ {v : V} {d : Dt}, Is K H v d → Is K H' v d
  | _, _, .int i => .int i
  | _, _, .str x => .str x
  | _, _, .tup h t => .tup (u _ _ h) (IsAll.up u t)
theorem IsAll.up (u : Up K H H') : ∀ {vs : List V} {l : List Dt}, IsAll K H vs l → IsAll K H' vs l
  | _, _, .nil => .nil
  | _, _, .cons h t => .cons (Is.up u h) (IsAll.up u t)
end
mutual
theorem Is.dp : ∀ {v : V} {d : Dt}, Is K H v d → Dp K H v d.toP
  | _, _, .int i => .int i
  | _, _, .str x => .str x
  | _, _, .tup h t => .tup h (IsAll.dp t)
theorem IsAll.dp : ∀ {vs : List V} {l : List Dt}, IsAll K H vs l → DpAll K H vs (Dt.toPs l)
  | _, _, .nil => .nil
  | _, _, .cons h t => .cons (Is.dp h) (IsAll.dp t)
end
theorem IsAll.len : ∀ {vs : List V} {l : List Dt}, IsAll K H vs l → vs.length = l.length
  | _, _, .nil => rfl
  | _, _, .cons _ t => congrArg Nat.succ (IsAll.len t)
theorem IsAll.get : ∀ {vs : List V} {l : List Dt} {i : Nat} {d : Dt}, IsAll K H vs l → l[i]? = some d → ∃ v, vs[i]? = some v ∧ Is K H v d
  | _, _, _, _, .nil, h => by simp at h
  | _, _, 0, _, .cons r _, h => by
    simp only [List.getElem?_cons_zero, Option.some.injEq] at h
    exact ⟨_, rfl, h ▸ r⟩
  | _, _, i + 1, _, .cons _ t, h => IsAll.get (i := i) t (by simpa using h)
theorem IsAll.at_ : ∀ {vs : List V} {l : List Dt} {i : Nat} {v : V}, IsAll K H vs l → vs[i]? = some v → ∃ d, l[i]? = some d ∧ Is K H v d
  | _, _, _, _, .nil, h => by simp at h
  | _, _, 0, _, .cons r _, h => by
    simp only [List.getElem?_cons_zero, Option.some.injEq] at h
    exact ⟨_, rfl, h ▸ r⟩
  | _, _, i + 1, _, .cons _ t, h => IsAll.at_ (i := i) t (by simpa using h)
theorem IsAll.append : ∀ {vs ws : List V} {l m : List Dt}, IsAll K H vs l → IsAll K H ws m → IsAll K H (vs ++ ws) (l ++ m)
  | _, _, _, _, .nil, s => s
  | _, _, _, _, .cons r t, s => .cons r (IsAll.append t s)
theorem IsAll.drop : ∀ {vs : List V} {l : List Dt} (n : Nat), IsAll K H vs l → IsAll K H (vs.drop n) (l.drop n)
  | _, _, 0, r => r
  | _, _, _ + 1, .nil => .nil
  | _, _, n + 1, .cons _ t => IsAll.drop n t
theorem IsAll.take : ∀ {vs : List V} {l : List Dt} (n : Nat), IsAll K H vs l → IsAll K H (vs.take n) (l.take n)
  | _, _, 0, _ => .nil
  | _, _, _ + 1, .nil => .nil
  | _, _, n + 1, .cons r t => .cons r (IsAll.take n t)
theorem IsAll.one {v : V} {d : Dt} (h : Is K H v d) : IsAll K H [v] [d] := .cons h .nil
theorem IsAll.ints : ∀ ns : List Int, IsAll K H (ns.map V.int) (ns.map Dt.int)
  | [] => .nil
  | n :: ns => .cons (.int n) (IsAll.ints ns)
theorem IsAll.ints_eq : ∀ {vs : List V} {ns : List Int}, IsAll K H vs (ns.map Dt.int) → vs = ns.map V.int
  | _, [], h => by cases h; rfl
  | _, n :: ns, h => by
    cases h with
    | cons r t =>
      cases r
      rw [IsAll.ints_eq t, List.map_cons]
theorem Is.tupD {v : V} {l : List Dt} (h : Is K H v (.tup l)) : ∃ a xs, v = .ref a ∧ SqT K H a xs ∧ IsAll K H xs l := by
  cases h with
  | tup h t => exact ⟨_, _, rfl, h, t⟩
theorem Is.intD {v : V} {i : Int} (h : Is K H v (.int i)) : v = .int i := by cases h; rfl
theorem Is.strD {v : V} {x : Str} (h : Is K H v (.str x)) : v = .str x := by cases h; rfl
theorem Is.new {p : Addr} {xs : List V} {l : List Dt} (h : H p = none) (t : IsAll K H xs l) : Is K (upd H p (.tup xs)) (.ref p) (.tup l) := .tup (SqT.of upd_same) (t.up (.new h))
theorem toP_tup (l : List Dt) : (Dt.tup l).toP = .tuple (l.map Dt.toP) := by rw [Dt.toP, toPs_eq]
end
section
variable {X : Cx}
def rEqT (K : PySem.W.Frag) : R2 := fun x y H Q => ∃ d e : Dt, Is K H x d ∧ Is K H y e ∧ d.fit ∧ e.fit ∧ Q (.bl (decide (d = e))) H
def rNeT (K : PySem.W.Frag) : R2 := fun x y H Q => ∃ d e : Dt, Is K H x d ∧ Is K H y e ∧ d.fit ∧ e.fit ∧ Q (.bl (!decide (d = e))) H
theorem op_eqT (hu : X.A.units + 64 < cLine) : OpR X (compareOp .Eq) (rEqT X.K) := fun pins s σ H x y v u Q I rx ry z => by
  obtain ⟨d, e, h1, h2, h3, h4, q⟩ := z
  exact op_eqD hu pins s σ H x y v u Q I rx ry ⟨d.toP, e.toP, h1.dp, h2.dp, h3, h4, by rw [eqv_dec]; exact q⟩
theorem op_neT (hu : X.A.units + 64 < cLine) : OpR X (compareOp .NotEq) (rNeT X.K) := fun pins s σ H x y v u Q I rx ry z => by
  obtain ⟨d, e, h1, h2, h3, h4, q⟩ := z
  exact op_neD hu pins s σ H x y v u Q I rx ry ⟨d.toP, e.toP, h1.dp, h2.dp, h3, h4, by rw [eqv_dec]; exact q⟩
def rNeN (K : PySem.W.Frag) : R2 := fun x y H Q => ∃ (a b : Addr) (xs : List V) (ds : List PyData), x = .ref a ∧ y = .ref b ∧ SqL K H a xs ∧ SqL K H b [] ∧ DpAll K H xs ds ∧ SeqAt.shaped (.list ds) = true ∧ Q (.bl (!xs.isEmpty)) H
def rEqN (K : PySem.W.Frag) : R2 := fun x y H Q => ∃ (a b : Addr) (xs : List V) (ds : List PyData), x = .ref a ∧ y = .ref b ∧ SqL K H a xs ∧ SqL K H b [] ∧ DpAll K H xs ds ∧ SeqAt.shaped (.list ds) = true ∧ Q (.bl xs.isEmpty) H
theorem eqv_nil {K : PySem.W.Frag} {H : Hp} {xs : List V} {ds : List PyData} (h : DpAll K H xs ds) : PyData.eqv (.list ds) (.list []) = xs.isEmpty := by
  cases h with
  | nil => simp [PyData.eqv, PyData.eqvAll]
  | cons _ _ => simp [PyData.eqv, PyData.eqvAll]
theorem shaped_nil : SeqAt.shaped (.list []) = true := by
  unfold SeqAt.shaped
  simp [PyData.canLay0, PyData.canLayAll0, PyData.depth, PyData.depthAll]
theorem op_neN (hu : X.A.units + 64 < cLine) : OpR X (compareOp .NotEq) (rNeN X.K) := fun pins s σ H x y v u Q I rx ry z => by
  obtain ⟨a, b, xs, ds, rfl, rfl, h1, h2, h3, h4, q⟩ := z
  exact op_neD hu pins s σ H _ _ v u Q I rx ry ⟨.list ds, .list [], .lst h1 h3, .lst h2 .nil, h4, shaped_nil, by rw [eqv_nil h3]; exact q⟩
theorem op_eqN (hu : X.A.units + 64 < cLine) : OpR X (compareOp .Eq) (rEqN X.K) := fun pins s σ H x y v u Q I rx ry z => by
  obtain ⟨a, b, xs, ds, rfl, rfl, h1, h2, h3, h4, q⟩ := z
  exact op_eqD hu pins s σ H _ _ v u Q I rx ry ⟨.list ds, .list [], .lst h1 h3, .lst h2 .nil, h4, shaped_nil, by rw [eqv_nil h3]; exact q⟩
end
end Wf
set_option Elab.async false
set_option linter.all false
set_option maxRecDepth 100000
set_option maxHeartbeats 1000000
namespace Wf
open PySem PySem.Spec PyProof.Rows L2
structure Tx (w : World) (K : PySem.W.Frag) (mg : Str → Option Value) : Prop where
  says : SaysY w K
  heap : ∃ h : Heap, K.In h ∧ h.Ns mainGlobals mg
def fdOf (K : PySem.W.Frag) (p : Str × Option Str) : FuncData := match K.lookup (He.fAd K p) with
  | some ⟨_, _, .func fd, _⟩ => fd
  | _ => default
section
variable {P : Program} {w : World} {K : PySem.W.Frag} {mg : Str → Option Value} {base : Heap}
theorem Tx.t (T : Tx w K mg) : He.SaysT fas fns tabs w K := congrArg (fun z : AlY => z.1) T.says
theorem Tx.ex (T : Tx w K mg) : exB K = true := congrArg (fun z : AlY => z.2) T.says
theorem Tx.glo (T : Tx w K mg) {x : Str} (i : Nat) (h : fas[i]? = some (.glo x)) : mg x = some (.ref (He.ga K x)) := by
  obtain ⟨h0, X, G⟩ := T.heap
  exact He.glo_ok X G (T.t.d.fact i h)
theorem Tx.free (T : Tx w K mg) {x : Str} (i : Nat) (h : fas[i]? = some (.free x)) : mg x = none := by
  obtain ⟨h0, X, G⟩ := T.heap
  exact He.free_ok X G (T.t.d.fact i h)
theorem Tx.int (T : Tx w K mg) {x : Str} {j : Int} (i : Nat) (h : fas[i]? = some (.int x j)) : ∃ u, mg x = some u ∧ RelV (.int j) u := by
  obtain ⟨h0, X, G⟩ := T.heap
  obtain ⟨t, e⟩ := He.int_ok X G (T.t.d.fact i h)
  exact ⟨_, e, ⟨t, rfl⟩⟩
theorem Tx.str (T : Tx w K mg) {x z : Str} (i : Nat) (h : fas[i]? = some (.str x z)) : ∃ u, mg x = some u ∧ RelV (.str z) u := by
  obtain ⟨h0, X, G⟩ := T.heap
  obtain ⟨t, e⟩ := He.str_ok X G (T.t.d.fact i h)
  exact ⟨_, e, ⟨t, rfl⟩⟩
theorem Tx.glv (T : Tx w K mg) {x : Str} (i : Nat) (h : fas[i]? = some (.glo x)) : ∃ u, mg x = some u ∧ RelV (.ref (He.ga K x)) u := ⟨_, T.glo i h, rfl⟩
theorem Tx.fn (T : Tx w K mg) {d : He.DefD} (i : Nat) (h : fns[i]? = some d) (h1 : d.dfl = []) (h2 : d.kwd = []) : FunD K d.name d.qual d.params d.body d.scope [] [] (He.fAd K d.at_) (fdOf K d.at_) := by
  obtain ⟨fd, F⟩ := T.t.d.def_ i h
  have e1 : d.dvs K = [] := by unfold He.DefD.dvs; rw [h1]; rfl
  have e2 : d.kws K = [] := by unfold He.DefD.kws; rw [h2]; rfl
  rw [e1, e2] at F
  have e : fdOf K d.at_ = fd := by
    obtain ⟨oc, od, dV, kV, doc, pm, an, cdv, ct, osl, _, lk, _⟩ := F.ex
    unfold fdOf
    rw [lk]
  rw [e]
  exact F
structure Cal (P : Program) (w : World) (K : PySem.W.Frag) (mg : Str → Option Value) (base : Heap) (k : Nat) (x : Str) (sp : Sp) : Prop where
  ex : ∃ (f : Addr) (fd : FuncData) (ps : List Str), FnOk P w K mg base CX0 k f fd ps sp ∧ mg x = some (.ref f) ∧ PySem.W.keepIn K (.ref f) = true ∧ Binds K fd ps []
structure Met (P : Program) (w : World) (K : PySem.W.Frag) (mg : Str → Option Value) (base : Heap) (k : Nat) (C : Addr) (m : Str) (sp : Sp) : Prop where
  ex : ∃ (f : Addr) (fd : FuncData) (ps : List Str), FnOk P w K mg base CX0 k f fd ps sp ∧ Cls K C ∧ Meth K C m f ∧ Binds K fd ps []
theorem pe_c {X : Cx} {x : Str} {sp : Sp} {k j : Nat} {e : Expr} {es : List Expr} {t : TA} {p pos : Pos} (c : Cal X.prog X.w X.K X.mg X.base k x sp) (hr : Room j X.A) (hk : k ≤ j) (hg : Gl X x) (ha : PA X (e :: es) t)
    (hdb : (x == ("__debug__" : Str)) = false := by decide) (he : starEach (e :: es) X.env = (false, eval e X.env) :: starEach es X.env := by rfl) (hpl : (backTo pos (starEach es X.env)).any (·.1) = false := by rfl) :
    PE X (.Call (.Name x p) (e :: es) [] pos) (tCall sp [] E0 t) := by
  obtain ⟨f, fd, ps, F, g, kp, b⟩ := c.ex
  exact pe_call F (hr.mono hk) hg g kp b .nil pass0 ha hdb he hpl
theorem pe_mt {X : Cx} {C : Addr} {m : Str} {sp : Sp} {k j : Nat} {o e : Expr} {es : List Expr} {ta : TE} {t : TA} {apos pos : Pos} {pl : Sem Bool} (c : Met X.prog X.w X.K X.mg X.base k C m sp) (hr : Room j X.A) (hk : k ≤ j) (ho : PE X o ta) (ha : PA X (e :: es) t)
    (hst : starEach (e :: es) X.env = (false, eval e X.env) :: starEach es X.env := by rfl) (hpl : (backTo pos (starEach es X.env)).any (·.1) = false := by rfl)
    (ht : eval (.Call (.Attribute o m apos) (e :: es) [] pos) X.env = (do
        let ov ← eval o X.env
        standAt apos.atName
        let (g, first) ← holding [ov] (getMethod ov m pl)
        callWith pos g first (backTo pos (starEach (e :: es) X.env)) (backToKw pos (keywordEach [] X.env))) := by rfl) :
    PE X (.Call (.Attribute o m apos) (e :: es) [] pos) (tMeth C m sp [] E0 ta t) := by
  obtain ⟨f, fd, ps, F, hc, hm, b⟩ := c.ex
  exact pe_meth (pl := pl) ho hc hm F (hr.mono hk) b .nil pass0 ha hst hpl ht
theorem Tx.cal {x : Str} {st : Stmt} {f : Addr} {fd : FuncData} {N ps : List Str} {k : Nat} {sp : Sp} (F : FunD K x x (defArgs st) (defBody st) (defScope st) [] [] f fd) (g : mg x = some (.ref f)) (b : Binds K fd ps []) (S : FnScope N ps (defScope st)) (len : ∀ vs H Q E, sp vs H Q E → vs.length = ps.length)
    (hbody : ∀ (cdv : Value) (A : Around) (outer : List Env) (s : Shared) (H : Hp) (vs : List V) (Q : VK) (E : XK), Room k (A.deeper (envOfC x (defScope st) s.heap.objs.size f cdv)) → sp vs H Q E →
      ∃ t, PSs (cxOf CX0 P w K mg base N x (defScope st) f cdv A outer s H E).nox (defBody st) t ∧ t { nx := fun _ H' => Q .non H', rt := Q } (start N vs) H) : Cal P w K mg base (k + 1) x sp :=
  ⟨f, fd, ps, F.ok S len fun cdv A outer s H vs Q E hr hsp => by
    obtain ⟨t, z1, z2⟩ := hbody cdv A outer s H vs Q E hr hsp
    exact ⟨t, z1.nox, z2⟩, g, F.kp, b⟩
theorem Tx.met {m qual : Str} {C : Addr} {st : Stmt} {f : Addr} {fd : FuncData} {N ps : List Str} {k : Nat} {sp : Sp} (c : Cls K C) (me : Meth K C m f) (F : FunD K m qual (defArgs st) (defBody st) (defScope st) [] [] f fd) (b : Binds K fd ps []) (S : FnScope N ps (defScope st)) (len : ∀ vs H Q E, sp vs H Q E → vs.length = ps.length)
    (hbody : ∀ (cdv : Value) (A : Around) (outer : List Env) (s : Shared) (H : Hp) (vs : List V) (Q : VK) (E : XK), Room k (A.deeper (envOfC qual (defScope st) s.heap.objs.size f cdv)) → sp vs H Q E →
      ∃ t, PSs (cxOf CX0 P w K mg base N qual (defScope st) f cdv A outer s H E).nox (defBody st) t ∧ t { nx := fun _ H' => Q .non H', rt := Q } (start N vs) H) : Met P w K mg base (k + 1) C m sp :=
  ⟨f, fd, ps, F.ok S len fun cdv A outer s H vs Q E hr hsp => by
    obtain ⟨t, z1, z2⟩ := hbody cdv A outer s H vs Q E hr hsp
    exact ⟨t, z1.nox, z2⟩, c, me, b⟩
theorem Cal.up {k j : Nat} {x : Str} {sp : Sp} (c : Cal P w K mg base k x sp) (h : k ≤ j) : Cal P w K mg base j x sp := by
  obtain ⟨f, fd, ps, F, z⟩ := c.ex
  exact ⟨f, fd, ps, F.mono h, z⟩
theorem Met.up {k j : Nat} {C : Addr} {x : Str} {sp : Sp} (c : Met P w K mg base k C x sp) (h : k ≤ j) : Met P w K mg base j C x sp := by
  obtain ⟨f, fd, ps, F, z⟩ := c.ex
  exact ⟨f, fd, ps, F.mono h, z⟩
theorem Cal.no {x : Str} {f : Addr} {fd : FuncData} {ps : List Str} {k : Nat} {sp : Sp} (g : mg x = some (.ref f)) (kp : PySem.W.keepIn K (.ref f) = true) (b : Binds K fd ps []) (no : ∀ vs H Q E, ¬ sp vs H Q E) : Cal P w K mg base k x sp :=
  ⟨f, fd, ps, ⟨fun vs H Q E z => absurd z (no vs H Q E), fun A outer s H args us vs Q E _ _ _ _ z => absurd z (no vs H Q E)⟩, g, kp, b⟩
theorem Met.no {m : Str} {C f : Addr} {fd : FuncData} {ps : List Str} {k : Nat} {sp : Sp} (c : Cls K C) (me : Meth K C m f) (b : Binds K fd ps []) (no : ∀ vs H Q E, ¬ sp vs H Q E) : Met P w K mg base k C m sp :=
  ⟨f, fd, ps, ⟨fun vs H Q E z => absurd z (no vs H Q E), fun A outer s H args us vs Q E _ _ _ _ z => absurd z (no vs H Q E)⟩, c, me, b⟩
theorem Tx.g_is_whole (T : Tx w K mg) : mg "is_whole" = some (.ref (He.ga K "is_whole")) := T.glo 0 rfl
theorem Tx.f_is_whole (T : Tx w K mg) : FunD K "is_whole" "is_whole" (defArgs sIsWhole) (defBody sIsWhole) (defScope sIsWhole) [] [] (He.ga K "is_whole") (fdOf K ("is_whole", none)) := T.fn (d := dIsWhole) 0 rfl rfl rfl
theorem Tx.b_is_whole (T : Tx w K mg) : Binds K (fdOf K ("is_whole", none)) ["thing"] [] := T.f_is_whole.bindsN fun _ _ _ _ _ _ us hl => match us, hl with | [_], _ => rfl
theorem Tx.g_is_among (T : Tx w K mg) : mg "is_among" = some (.ref (He.ga K "is_among")) := T.glo 1 rfl
theorem Tx.f_is_among (T : Tx w K mg) : FunD K "is_among" "is_among" (defArgs sIsAmong) (defBody sIsAmong) (defScope sIsAmong) [] [] (He.ga K "is_among") (fdOf K ("is_among", none)) := T.fn (d := dIsAmong) 1 rfl rfl rfl
theorem Tx.b_is_among (T : Tx w K mg) : Binds K (fdOf K ("is_among", none)) ["thing", "least", "most"] [] := T.f_is_among.bindsN fun _ _ _ _ _ _ us hl => match us, hl with | [_, _, _], _ => rfl
theorem Tx.g_is_leaf (T : Tx w K mg) : mg "is_leaf" = some (.ref (He.ga K "is_leaf")) := T.glo 2 rfl
theorem Tx.f_is_leaf (T : Tx w K mg) : FunD K "is_leaf" "is_leaf" (defArgs sIsLeaf) (defBody sIsLeaf) (defScope sIsLeaf) [] [] (He.ga K "is_leaf") (fdOf K ("is_leaf", none)) := T.fn (d := dIsLeaf) 2 rfl rfl rfl
theorem Tx.b_is_leaf (T : Tx w K mg) : Binds K (fdOf K ("is_leaf", none)) ["thing"] [] := T.f_is_leaf.bindsN fun _ _ _ _ _ _ us hl => match us, hl with | [_], _ => rfl
theorem Tx.g_size_within (T : Tx w K mg) : mg "size_within" = some (.ref (He.ga K "size_within")) := T.glo 3 rfl
theorem Tx.f_size_within (T : Tx w K mg) : FunD K "size_within" "size_within" (defArgs sSizeWithin) (defBody sSizeWithin) (defScope sSizeWithin) [] [] (He.ga K "size_within") (fdOf K ("size_within", none)) := T.fn (d := dSizeWithin) 3 rfl rfl rfl
theorem Tx.b_size_within (T : Tx w K mg) : Binds K (fdOf K ("size_within", none)) ["thing", "deep"] [] := T.f_size_within.bindsN fun _ _ _ _ _ _ us hl => match us, hl with | [_, _], _ => rfl
theorem Tx.g_is_worth (T : Tx w K mg) : mg "is_worth" = some (.ref (He.ga K "is_worth")) := T.glo 4 rfl
theorem Tx.f_is_worth (T : Tx w K mg) : FunD K "is_worth" "is_worth" (defArgs sIsWorth) (defBody sIsWorth) (defScope sIsWorth) [] [] (He.ga K "is_worth") (fdOf K ("is_worth", none)) := T.fn (d := dIsWorth) 4 rfl rfl rfl
theorem Tx.b_is_worth (T : Tx w K mg) : Binds K (fdOf K ("is_worth", none)) ["thing"] [] := T.f_is_worth.bindsN fun _ _ _ _ _ _ us hl => match us, hl with | [_], _ => rfl
theorem Tx.g_is_thing (T : Tx w K mg) : mg "is_thing" = some (.ref (He.ga K "is_thing")) := T.glo 5 rfl
theorem Tx.f_is_thing (T : Tx w K mg) : FunD K "is_thing" "is_thing" (defArgs sIsThing) (defBody sIsThing) (defScope sIsThing) [] [] (He.ga K "is_thing") (fdOf K ("is_thing", none)) := T.fn (d := dIsThing) 5 rfl rfl rfl
theorem Tx.b_is_thing (T : Tx w K mg) : Binds K (fdOf K ("is_thing", none)) ["thing"] [] := T.f_is_thing.bindsN fun _ _ _ _ _ _ us hl => match us, hl with | [_], _ => rfl
theorem Tx.g_need_thing (T : Tx w K mg) : mg "need_thing" = some (.ref (He.ga K "need_thing")) := T.glo 6 rfl
theorem Tx.f_need_thing (T : Tx w K mg) : FunD K "need_thing" "need_thing" (defArgs sNeedThing) (defBody sNeedThing) (defScope sNeedThing) [] [] (He.ga K "need_thing") (fdOf K ("need_thing", none)) := T.fn (d := dNeedThing) 6 rfl rfl rfl
theorem Tx.b_need_thing (T : Tx w K mg) : Binds K (fdOf K ("need_thing", none)) ["thing"] [] := T.f_need_thing.bindsN fun _ _ _ _ _ _ us hl => match us, hl with | [_], _ => rfl
theorem Tx.g_goes_on (T : Tx w K mg) : mg "goes_on" = some (.ref (He.ga K "goes_on")) := T.glo 7 rfl
theorem Tx.f_goes_on (T : Tx w K mg) : FunD K "goes_on" "goes_on" (defArgs sGoesOn) (defBody sGoesOn) (defScope sGoesOn) [] [] (He.ga K "goes_on") (fdOf K ("goes_on", none)) := T.fn (d := dGoesOn) 7 rfl rfl rfl
theorem Tx.b_goes_on (T : Tx w K mg) : Binds K (fdOf K ("goes_on", none)) ["thing"] [] := T.f_goes_on.bindsN fun _ _ _ _ _ _ us hl => match us, hl with | [_], _ => rfl
theorem Tx.g_lean (T : Tx w K mg) : mg "lean" = some (.ref (He.ga K "lean")) := T.glo 8 rfl
theorem Tx.f_lean (T : Tx w K mg) : FunD K "lean" "lean" (defArgs sLean) (defBody sLean) (defScope sLean) [] [] (He.ga K "lean") (fdOf K ("lean", none)) := T.fn (d := dLean) 8 rfl rfl rfl
theorem Tx.b_lean (T : Tx w K mg) : Binds K (fdOf K ("lean", none)) ["thing"] [] := T.f_lean.bindsN fun _ _ _ _ _ _ us hl => match us, hl with | [_], _ => rfl
theorem Tx.g_at_place (T : Tx w K mg) : mg "at_place" = some (.ref (He.ga K "at_place")) := T.glo 9 rfl
theorem Tx.f_at_place (T : Tx w K mg) : FunD K "at_place" "at_place" (defArgs sAtPlace) (defBody sAtPlace) (defScope sAtPlace) [] [] (He.ga K "at_place") (fdOf K ("at_place", none)) := T.fn (d := dAtPlace) 9 rfl rfl rfl
theorem Tx.b_at_place (T : Tx w K mg) : Binds K (fdOf K ("at_place", none)) ["row", "number"] [] := T.f_at_place.bindsN fun _ _ _ _ _ _ us hl => match us, hl with | [_, _], _ => rfl
theorem Tx.g_ahead_of (T : Tx w K mg) : mg "ahead_of" = some (.ref (He.ga K "ahead_of")) := T.glo 10 rfl
theorem Tx.f_ahead_of (T : Tx w K mg) : FunD K "ahead_of" "ahead_of" (defArgs sAheadOf) (defBody sAheadOf) (defScope sAheadOf) [] [] (He.ga K "ahead_of") (fdOf K ("ahead_of", none)) := T.fn (d := dAheadOf) 10 rfl rfl rfl
theorem Tx.b_ahead_of (T : Tx w K mg) : Binds K (fdOf K ("ahead_of", none)) ["row", "many"] [] := T.f_ahead_of.bindsN fun _ _ _ _ _ _ us hl => match us, hl with | [_, _], _ => rfl
theorem Tx.g_behind (T : Tx w K mg) : mg "behind" = some (.ref (He.ga K "behind")) := T.glo 11 rfl
theorem Tx.f_behind (T : Tx w K mg) : FunD K "behind" "behind" (defArgs sBehind) (defBody sBehind) (defScope sBehind) [] [] (He.ga K "behind") (fdOf K ("behind", none)) := T.fn (d := dBehind) 11 rfl rfl rfl
theorem Tx.b_behind (T : Tx w K mg) : Binds K (fdOf K ("behind", none)) ["row", "many"] [] := T.f_behind.bindsN fun _ _ _ _ _ _ us hl => match us, hl with | [_, _], _ => rfl
theorem Tx.g_rises (T : Tx w K mg) : mg "rises" = some (.ref (He.ga K "rises")) := T.glo 12 rfl
theorem Tx.f_rises (T : Tx w K mg) : FunD K "rises" "rises" (defArgs sRises) (defBody sRises) (defScope sRises) [] [] (He.ga K "rises") (fdOf K ("rises", none)) := T.fn (d := dRises) 12 rfl rfl rfl
theorem Tx.b_rises (T : Tx w K mg) : Binds K (fdOf K ("rises", none)) ["things"] [] := T.f_rises.bindsN fun _ _ _ _ _ _ us hl => match us, hl with | [_], _ => rfl
theorem Tx.g_is_class (T : Tx w K mg) : mg "is_class" = some (.ref (He.ga K "is_class")) := T.glo 13 rfl
theorem Tx.f_is_class (T : Tx w K mg) : FunD K "is_class" "is_class" (defArgs sIsClass) (defBody sIsClass) (defScope sIsClass) [] [] (He.ga K "is_class") (fdOf K ("is_class", none)) := T.fn (d := dIsClass) 13 rfl rfl rfl
theorem Tx.b_is_class (T : Tx w K mg) : Binds K (fdOf K ("is_class", none)) ["thing"] [] := T.f_is_class.bindsN fun _ _ _ _ _ _ us hl => match us, hl with | [_], _ => rfl
theorem Tx.g_is_kind (T : Tx w K mg) : mg "is_kind" = some (.ref (He.ga K "is_kind")) := T.glo 14 rfl
theorem Tx.f_is_kind (T : Tx w K mg) : FunD K "is_kind" "is_kind" (defArgs sIsKind) (defBody sIsKind) (defScope sIsKind) [] [] (He.ga K "is_kind") (fdOf K ("is_kind", none)) := T.fn (d := dIsKind) 14 rfl rfl rfl
theorem Tx.b_is_kind (T : Tx w K mg) : Binds K (fdOf K ("is_kind", none)) ["thing"] [] := T.f_is_kind.bindsN fun _ _ _ _ _ _ us hl => match us, hl with | [_], _ => rfl
theorem Tx.g_need_kind (T : Tx w K mg) : mg "need_kind" = some (.ref (He.ga K "need_kind")) := T.glo 15 rfl
theorem Tx.f_need_kind (T : Tx w K mg) : FunD K "need_kind" "need_kind" (defArgs sNeedKind) (defBody sNeedKind) (defScope sNeedKind) [] [] (He.ga K "need_kind") (fdOf K ("need_kind", none)) := T.fn (d := dNeedKind) 15 rfl rfl rfl
theorem Tx.b_need_kind (T : Tx w K mg) : Binds K (fdOf K ("need_kind", none)) ["thing"] [] := T.f_need_kind.bindsN fun _ _ _ _ _ _ us hl => match us, hl with | [_], _ => rfl
theorem Tx.g_canon_of (T : Tx w K mg) : mg "canon_of" = some (.ref (He.ga K "canon_of")) := T.glo 16 rfl
theorem Tx.f_canon_of (T : Tx w K mg) : FunD K "canon_of" "canon_of" (defArgs sCanonOf) (defBody sCanonOf) (defScope sCanonOf) [] [] (He.ga K "canon_of") (fdOf K ("canon_of", none)) := T.fn (d := dCanonOf) 16 rfl rfl rfl
theorem Tx.b_canon_of (T : Tx w K mg) : Binds K (fdOf K ("canon_of", none)) ["kind", "worth"] [] := T.f_canon_of.bindsN fun _ _ _ _ _ _ us hl => match us, hl with | [_, _], _ => rfl
theorem Tx.g_are_like (T : Tx w K mg) : mg "are_like" = some (.ref (He.ga K "are_like")) := T.glo 17 rfl
theorem Tx.f_are_like (T : Tx w K mg) : FunD K "are_like" "are_like" (defArgs sAreLike) (defBody sAreLike) (defScope sAreLike) [] [] (He.ga K "are_like") (fdOf K ("are_like", none)) := T.fn (d := dAreLike) 17 rfl rfl rfl
theorem Tx.b_are_like (T : Tx w K mg) : Binds K (fdOf K ("are_like", none)) ["kind", "one", "other"] [] := T.f_are_like.bindsN fun _ _ _ _ _ _ us hl => match us, hl with | [_, _, _], _ => rfl
theorem Tx.g_are_items (T : Tx w K mg) : mg "are_items" = some (.ref (He.ga K "are_items")) := T.glo 18 rfl
theorem Tx.f_are_items (T : Tx w K mg) : FunD K "are_items" "are_items" (defArgs sAreItems) (defBody sAreItems) (defScope sAreItems) [] [] (He.ga K "are_items") (fdOf K ("are_items", none)) := T.fn (d := dAreItems) 18 rfl rfl rfl
theorem Tx.b_are_items (T : Tx w K mg) : Binds K (fdOf K ("are_items", none)) ["word", "thing"] [] := T.f_are_items.bindsN fun _ _ _ _ _ _ us hl => match us, hl with | [_, _], _ => rfl
theorem Tx.g_has_form (T : Tx w K mg) : mg "has_form" = some (.ref (He.ga K "has_form")) := T.glo 19 rfl
theorem Tx.f_has_form (T : Tx w K mg) : FunD K "has_form" "has_form" (defArgs sHasForm) (defBody sHasForm) (defScope sHasForm) [] [] (He.ga K "has_form") (fdOf K ("has_form", none)) := T.fn (d := dHasForm) 19 rfl rfl rfl
theorem Tx.b_has_form (T : Tx w K mg) : Binds K (fdOf K ("has_form", none)) ["thing"] [] := T.f_has_form.bindsN fun _ _ _ _ _ _ us hl => match us, hl with | [_], _ => rfl
theorem Tx.g_within (T : Tx w K mg) : mg "within" = some (.ref (He.ga K "within")) := T.glo 20 rfl
theorem Tx.f_within (T : Tx w K mg) : FunD K "within" "within" (defArgs sWithin) (defBody sWithin) (defScope sWithin) [] [] (He.ga K "within") (fdOf K ("within", none)) := T.fn (d := dWithin) 20 rfl rfl rfl
theorem Tx.b_within (T : Tx w K mg) : Binds K (fdOf K ("within", none)) ["pattern"] [] := T.f_within.bindsN fun _ _ _ _ _ _ us hl => match us, hl with | [_], _ => rfl
theorem Tx.g_parts_within (T : Tx w K mg) : mg "parts_within" = some (.ref (He.ga K "parts_within")) := T.glo 21 rfl
theorem Tx.f_parts_within (T : Tx w K mg) : FunD K "parts_within" "parts_within" (defArgs sPartsWithin) (defBody sPartsWithin) (defScope sPartsWithin) [] [] (He.ga K "parts_within") (fdOf K ("parts_within", none)) := T.fn (d := dPartsWithin) 21 rfl rfl rfl
theorem Tx.b_parts_within (T : Tx w K mg) : Binds K (fdOf K ("parts_within", none)) ["thing", "deep"] [] := T.f_parts_within.bindsN fun _ _ _ _ _ _ us hl => match us, hl with | [_, _], _ => rfl
theorem Tx.g_is_pattern (T : Tx w K mg) : mg "is_pattern" = some (.ref (He.ga K "is_pattern")) := T.glo 22 rfl
theorem Tx.f_is_pattern (T : Tx w K mg) : FunD K "is_pattern" "is_pattern" (defArgs sIsPattern) (defBody sIsPattern) (defScope sIsPattern) [] [] (He.ga K "is_pattern") (fdOf K ("is_pattern", none)) := T.fn (d := dIsPattern) 22 rfl rfl rfl
theorem Tx.b_is_pattern (T : Tx w K mg) : Binds K (fdOf K ("is_pattern", none)) ["thing"] [] := T.f_is_pattern.bindsN fun _ _ _ _ _ _ us hl => match us, hl with | [_], _ => rfl
theorem Tx.g_need_form (T : Tx w K mg) : mg "need_form" = some (.ref (He.ga K "need_form")) := T.glo 23 rfl
theorem Tx.f_need_form (T : Tx w K mg) : FunD K "need_form" "need_form" (defArgs sNeedForm) (defBody sNeedForm) (defScope sNeedForm) [] [] (He.ga K "need_form") (fdOf K ("need_form", none)) := T.fn (d := dNeedForm) 23 rfl rfl rfl
theorem Tx.b_need_form (T : Tx w K mg) : Binds K (fdOf K ("need_form", none)) ["thing"] [] := T.f_need_form.bindsN fun _ _ _ _ _ _ us hl => match us, hl with | [_], _ => rfl
theorem Tx.g_all_parts (T : Tx w K mg) : mg "all_parts" = some (.ref (He.ga K "all_parts")) := T.glo 24 rfl
theorem Tx.f_all_parts (T : Tx w K mg) : FunD K "all_parts" "all_parts" (defArgs sAllParts) (defBody sAllParts) (defScope sAllParts) [] [] (He.ga K "all_parts") (fdOf K ("all_parts", none)) := T.fn (d := dAllParts) 24 rfl rfl rfl
theorem Tx.b_all_parts (T : Tx w K mg) : Binds K (fdOf K ("all_parts", none)) ["pattern"] [] := T.f_all_parts.bindsN fun _ _ _ _ _ _ us hl => match us, hl with | [_], _ => rfl
theorem Tx.g_told_by (T : Tx w K mg) : mg "told_by" = some (.ref (He.ga K "told_by")) := T.glo 25 rfl
theorem Tx.f_told_by (T : Tx w K mg) : FunD K "told_by" "told_by" (defArgs sToldBy) (defBody sToldBy) (defScope sToldBy) [] [] (He.ga K "told_by") (fdOf K ("told_by", none)) := T.fn (d := dToldBy) 25 rfl rfl rfl
theorem Tx.b_told_by (T : Tx w K mg) : Binds K (fdOf K ("told_by", none)) ["pattern", "word"] [] := T.f_told_by.bindsN fun _ _ _ _ _ _ us hl => match us, hl with | [_, _], _ => rfl
theorem Tx.g_all_uses (T : Tx w K mg) : mg "all_uses" = some (.ref (He.ga K "all_uses")) := T.glo 26 rfl
theorem Tx.f_all_uses (T : Tx w K mg) : FunD K "all_uses" "all_uses" (defArgs sAllUses) (defBody sAllUses) (defScope sAllUses) [] [] (He.ga K "all_uses") (fdOf K ("all_uses", none)) := T.fn (d := dAllUses) 26 rfl rfl rfl
theorem Tx.b_all_uses (T : Tx w K mg) : Binds K (fdOf K ("all_uses", none)) ["pattern"] [] := T.f_all_uses.bindsN fun _ _ _ _ _ _ us hl => match us, hl with | [_], _ => rfl
theorem Tx.g_uses_fit (T : Tx w K mg) : mg "uses_fit" = some (.ref (He.ga K "uses_fit")) := T.glo 27 rfl
theorem Tx.f_uses_fit (T : Tx w K mg) : FunD K "uses_fit" "uses_fit" (defArgs sUsesFit) (defBody sUsesFit) (defScope sUsesFit) [] [] (He.ga K "uses_fit") (fdOf K ("uses_fit", none)) := T.fn (d := dUsesFit) 27 rfl rfl rfl
theorem Tx.b_uses_fit (T : Tx w K mg) : Binds K (fdOf K ("uses_fit", none)) ["book", "pattern"] [] := T.f_uses_fit.bindsN fun _ _ _ _ _ _ us hl => match us, hl with | [_, _], _ => rfl
theorem Tx.g_first_bad (T : Tx w K mg) : mg "first_bad" = some (.ref (He.ga K "first_bad")) := T.glo 28 rfl
theorem Tx.f_first_bad (T : Tx w K mg) : FunD K "first_bad" "first_bad" (defArgs sFirstBad) (defBody sFirstBad) (defScope sFirstBad) [] [] (He.ga K "first_bad") (fdOf K ("first_bad", none)) := T.fn (d := dFirstBad) 28 rfl rfl rfl
theorem Tx.b_first_bad (T : Tx w K mg) : Binds K (fdOf K ("first_bad", none)) ["thing"] [] := T.f_first_bad.bindsN fun _ _ _ _ _ _ us hl => match us, hl with | [_], _ => rfl
theorem Tx.g_need_book (T : Tx w K mg) : mg "need_book" = some (.ref (He.ga K "need_book")) := T.glo 29 rfl
theorem Tx.f_need_book (T : Tx w K mg) : FunD K "need_book" "need_book" (defArgs sNeedBook) (defBody sNeedBook) (defScope sNeedBook) [] [] (He.ga K "need_book") (fdOf K ("need_book", none)) := T.fn (d := dNeedBook) 29 rfl rfl rfl
theorem Tx.b_need_book (T : Tx w K mg) : Binds K (fdOf K ("need_book", none)) ["thing"] [] := T.f_need_book.bindsN fun _ _ _ _ _ _ us hl => match us, hl with | [_], _ => rfl
theorem Tx.g_need_pattern (T : Tx w K mg) : mg "need_pattern" = some (.ref (He.ga K "need_pattern")) := T.glo 30 rfl
theorem Tx.f_need_pattern (T : Tx w K mg) : FunD K "need_pattern" "need_pattern" (defArgs sNeedPattern) (defBody sNeedPattern) (defScope sNeedPattern) [] [] (He.ga K "need_pattern") (fdOf K ("need_pattern", none)) := T.fn (d := dNeedPattern) 30 rfl rfl rfl
theorem Tx.b_need_pattern (T : Tx w K mg) : Binds K (fdOf K ("need_pattern", none)) ["book", "thing"] [] := T.f_need_pattern.bindsN fun _ _ _ _ _ _ us hl => match us, hl with | [_, _], _ => rfl
theorem Tx.g_is_stand (T : Tx w K mg) : mg "is_stand" = some (.ref (He.ga K "is_stand")) := T.glo 31 rfl
theorem Tx.f_is_stand (T : Tx w K mg) : FunD K "is_stand" "is_stand" (defArgs sIsStand) (defBody sIsStand) (defScope sIsStand) [] [] (He.ga K "is_stand") (fdOf K ("is_stand", none)) := T.fn (d := dIsStand) 31 rfl rfl rfl
theorem Tx.b_is_stand (T : Tx w K mg) : Binds K (fdOf K ("is_stand", none)) ["thing"] [] := T.f_is_stand.bindsN fun _ _ _ _ _ _ us hl => match us, hl with | [_], _ => rfl
theorem Tx.g_weight_of (T : Tx w K mg) : mg "weight_of" = some (.ref (He.ga K "weight_of")) := T.glo 32 rfl
theorem Tx.f_weight_of (T : Tx w K mg) : FunD K "weight_of" "weight_of" (defArgs sWeightOf) (defBody sWeightOf) (defScope sWeightOf) [] [] (He.ga K "weight_of") (fdOf K ("weight_of", none)) := T.fn (d := dWeightOf) 32 rfl rfl rfl
theorem Tx.b_weight_of (T : Tx w K mg) : Binds K (fdOf K ("weight_of", none)) ["run"] [] := T.f_weight_of.bindsN fun _ _ _ _ _ _ us hl => match us, hl with | [_], _ => rfl
theorem Tx.g_left_in (T : Tx w K mg) : mg "left_in" = some (.ref (He.ga K "left_in")) := T.glo 33 rfl
theorem Tx.f_left_in (T : Tx w K mg) : FunD K "left_in" "left_in" (defArgs sLeftIn) (defBody sLeftIn) (defScope sLeftIn) [] [] (He.ga K "left_in") (fdOf K ("left_in", none)) := T.fn (d := dLeftIn) 33 rfl rfl rfl
theorem Tx.b_left_in (T : Tx w K mg) : Binds K (fdOf K ("left_in", none)) ["row"] [] := T.f_left_in.bindsN fun _ _ _ _ _ _ us hl => match us, hl with | [_], _ => rfl
theorem Tx.g_put_behind (T : Tx w K mg) : mg "put_behind" = some (.ref (He.ga K "put_behind")) := T.glo 34 rfl
theorem Tx.f_put_behind (T : Tx w K mg) : FunD K "put_behind" "put_behind" (defArgs sPutBehind) (defBody sPutBehind) (defScope sPutBehind) [] [] (He.ga K "put_behind") (fdOf K ("put_behind", none)) := T.fn (d := dPutBehind) 34 rfl rfl rfl
theorem Tx.b_put_behind (T : Tx w K mg) : Binds K (fdOf K ("put_behind", none)) ["choices", "runs"] [] := T.f_put_behind.bindsN fun _ _ _ _ _ _ us hl => match us, hl with | [_, _], _ => rfl
theorem Tx.g_need_asked (T : Tx w K mg) : mg "need_asked" = some (.ref (He.ga K "need_asked")) := T.glo 35 rfl
theorem Tx.f_need_asked (T : Tx w K mg) : FunD K "need_asked" "need_asked" (defArgs sNeedAsked) (defBody sNeedAsked) (defScope sNeedAsked) [] [] (He.ga K "need_asked") (fdOf K ("need_asked", none)) := T.fn (d := dNeedAsked) 35 rfl rfl rfl
theorem Tx.b_need_asked (T : Tx w K mg) : Binds K (fdOf K ("need_asked", none)) ["book", "kind", "pattern", "thing"] [] := T.f_need_asked.bindsN fun _ _ _ _ _ _ us hl => match us, hl with | [_, _, _, _], _ => rfl
theorem Tx.g_need_book_and_kind (T : Tx w K mg) : mg "need_book_and_kind" = some (.ref (He.ga K "need_book_and_kind")) := T.glo 36 rfl
theorem Tx.f_need_book_and_kind (T : Tx w K mg) : FunD K "need_book_and_kind" "need_book_and_kind" (defArgs sNeedBookAndKind) (defBody sNeedBookAndKind) (defScope sNeedBookAndKind) [] [] (He.ga K "need_book_and_kind") (fdOf K ("need_book_and_kind", none)) := T.fn (d := dNeedBookAndKind) 36 rfl rfl rfl
theorem Tx.b_need_book_and_kind (T : Tx w K mg) : Binds K (fdOf K ("need_book_and_kind", none)) ["book", "kind"] [] := T.f_need_book_and_kind.bindsN fun _ _ _ _ _ _ us hl => match us, hl with | [_, _], _ => rfl
theorem Tx.g_need_room (T : Tx w K mg) : mg "need_room" = some (.ref (He.ga K "need_room")) := T.glo 37 rfl
theorem Tx.f_need_room (T : Tx w K mg) : FunD K "need_room" "need_room" (defArgs sNeedRoom) (defBody sNeedRoom) (defScope sNeedRoom) [] [] (He.ga K "need_room") (fdOf K ("need_room", none)) := T.fn (d := dNeedRoom) 37 rfl rfl rfl
theorem Tx.b_need_room (T : Tx w K mg) : Binds K (fdOf K ("need_room", none)) ["thing"] [] := T.f_need_room.bindsN fun _ _ _ _ _ _ us hl => match us, hl with | [_], _ => rfl
theorem Tx.g_runs (T : Tx w K mg) : mg "runs" = some (.ref (He.ga K "runs")) := T.glo 38 rfl
theorem Tx.f_runs (T : Tx w K mg) : FunD K "runs" "runs" (defArgs sRuns) (defBody sRuns) (defScope sRuns) [] [] (He.ga K "runs") (fdOf K ("runs", none)) := T.fn (d := dRuns) 38 rfl rfl rfl
theorem Tx.b_runs (T : Tx w K mg) : Binds K (fdOf K ("runs", none)) ["book", "kind", "pattern", "thing", "stand", "room"] [] := T.f_runs.bindsN fun _ _ _ _ _ _ us hl => match us, hl with | [_, _, _, _, _, _], _ => rfl
theorem Tx.g_is_plain_item (T : Tx w K mg) : mg "is_plain_item" = some (.ref (He.ga K "is_plain_item")) := T.glo 39 rfl
theorem Tx.f_is_plain_item (T : Tx w K mg) : FunD K "is_plain_item" "is_plain_item" (defArgs sIsPlainItem) (defBody sIsPlainItem) (defScope sIsPlainItem) [] [] (He.ga K "is_plain_item") (fdOf K ("is_plain_item", none)) := T.fn (d := dIsPlainItem) 39 rfl rfl rfl
theorem Tx.b_is_plain_item (T : Tx w K mg) : Binds K (fdOf K ("is_plain_item", none)) ["item"] [] := T.f_is_plain_item.bindsN fun _ _ _ _ _ _ us hl => match us, hl with | [_], _ => rfl
theorem Tx.g_inner_of (T : Tx w K mg) : mg "inner_of" = some (.ref (He.ga K "inner_of")) := T.glo 40 rfl
theorem Tx.f_inner_of (T : Tx w K mg) : FunD K "inner_of" "inner_of" (defArgs sInnerOf) (defBody sInnerOf) (defScope sInnerOf) [] [] (He.ga K "inner_of") (fdOf K ("inner_of", none)) := T.fn (d := dInnerOf) 40 rfl rfl rfl
theorem Tx.b_inner_of (T : Tx w K mg) : Binds K (fdOf K ("inner_of", none)) ["pattern"] [] := T.f_inner_of.bindsN fun _ _ _ _ _ _ us hl => match us, hl with | [_], _ => rfl
theorem Tx.g_is_plain (T : Tx w K mg) : mg "is_plain" = some (.ref (He.ga K "is_plain")) := T.glo 41 rfl
theorem Tx.f_is_plain (T : Tx w K mg) : FunD K "is_plain" "is_plain" (defArgs sIsPlain) (defBody sIsPlain) (defScope sIsPlain) [] [] (He.ga K "is_plain") (fdOf K ("is_plain", none)) := T.fn (d := dIsPlain) 41 rfl rfl rfl
theorem Tx.b_is_plain (T : Tx w K mg) : Binds K (fdOf K ("is_plain", none)) ["pattern"] [] := T.f_is_plain.bindsN fun _ _ _ _ _ _ us hl => match us, hl with | [_], _ => rfl
theorem Tx.g_need_plain (T : Tx w K mg) : mg "need_plain" = some (.ref (He.ga K "need_plain")) := T.glo 42 rfl
theorem Tx.f_need_plain (T : Tx w K mg) : FunD K "need_plain" "need_plain" (defArgs sNeedPlain) (defBody sNeedPlain) (defScope sNeedPlain) [] [] (He.ga K "need_plain") (fdOf K ("need_plain", none)) := T.fn (d := dNeedPlain) 42 rfl rfl rfl
theorem Tx.b_need_plain (T : Tx w K mg) : Binds K (fdOf K ("need_plain", none)) ["pattern"] [] := T.f_need_plain.bindsN fun _ _ _ _ _ _ us hl => match us, hl with | [_], _ => rfl
theorem Tx.g_need_by_rows (T : Tx w K mg) : mg "need_by_rows" = some (.ref (He.ga K "need_by_rows")) := T.glo 43 rfl
theorem Tx.f_need_by_rows (T : Tx w K mg) : FunD K "need_by_rows" "need_by_rows" (defArgs sNeedByRows) (defBody sNeedByRows) (defScope sNeedByRows) [] [] (He.ga K "need_by_rows") (fdOf K ("need_by_rows", none)) := T.fn (d := dNeedByRows) 43 rfl rfl rfl
theorem Tx.b_need_by_rows (T : Tx w K mg) : Binds K (fdOf K ("need_by_rows", none)) ["kind"] [] := T.f_need_by_rows.bindsN fun _ _ _ _ _ _ us hl => match us, hl with | [_], _ => rfl
theorem Tx.g_is_wide (T : Tx w K mg) : mg "is_wide" = some (.ref (He.ga K "is_wide")) := T.glo 44 rfl
theorem Tx.f_is_wide (T : Tx w K mg) : FunD K "is_wide" "is_wide" (defArgs sIsWide) (defBody sIsWide) (defScope sIsWide) [] [] (He.ga K "is_wide") (fdOf K ("is_wide", none)) := T.fn (d := dIsWide) 44 rfl rfl rfl
theorem Tx.b_is_wide (T : Tx w K mg) : Binds K (fdOf K ("is_wide", none)) ["thing"] [] := T.f_is_wide.bindsN fun _ _ _ _ _ _ us hl => match us, hl with | [_], _ => rfl
theorem Tx.g_need_wide (T : Tx w K mg) : mg "need_wide" = some (.ref (He.ga K "need_wide")) := T.glo 45 rfl
theorem Tx.f_need_wide (T : Tx w K mg) : FunD K "need_wide" "need_wide" (defArgs sNeedWide) (defBody sNeedWide) (defScope sNeedWide) [] [] (He.ga K "need_wide") (fdOf K ("need_wide", none)) := T.fn (d := dNeedWide) 45 rfl rfl rfl
theorem Tx.b_need_wide (T : Tx w K mg) : Binds K (fdOf K ("need_wide", none)) ["thing"] [] := T.f_need_wide.bindsN fun _ _ _ _ _ _ us hl => match us, hl with | [_], _ => rfl
theorem Tx.g_add_pieces (T : Tx w K mg) : mg "add_pieces" = some (.ref (He.ga K "add_pieces")) := T.glo 46 rfl
theorem Tx.f_add_pieces (T : Tx w K mg) : FunD K "add_pieces" "add_pieces" (defArgs sAddPieces) (defBody sAddPieces) (defScope sAddPieces) [] [] (He.ga K "add_pieces") (fdOf K ("add_pieces", none)) := T.fn (d := dAddPieces) 46 rfl rfl rfl
theorem Tx.b_add_pieces (T : Tx w K mg) : Binds K (fdOf K ("add_pieces", none)) ["found", "pattern"] [] := T.f_add_pieces.bindsN fun _ _ _ _ _ _ us hl => match us, hl with | [_, _], _ => rfl
theorem Tx.g_pieces_by (T : Tx w K mg) : mg "pieces_by" = some (.ref (He.ga K "pieces_by")) := T.glo 47 rfl
theorem Tx.f_pieces_by (T : Tx w K mg) : FunD K "pieces_by" "pieces_by" (defArgs sPiecesBy) (defBody sPiecesBy) (defScope sPiecesBy) [] [] (He.ga K "pieces_by") (fdOf K ("pieces_by", none)) := T.fn (d := dPiecesBy) 47 rfl rfl rfl
theorem Tx.b_pieces_by (T : Tx w K mg) : Binds K (fdOf K ("pieces_by", none)) ["patterns"] [] := T.f_pieces_by.bindsN fun _ _ _ _ _ _ us hl => match us, hl with | [_], _ => rfl
theorem Tx.g_is_by_reading (T : Tx w K mg) : mg "is_by_reading" = some (.ref (He.ga K "is_by_reading")) := T.glo 48 rfl
theorem Tx.f_is_by_reading (T : Tx w K mg) : FunD K "is_by_reading" "is_by_reading" (defArgs sIsByReading) (defBody sIsByReading) (defScope sIsByReading) [] [] (He.ga K "is_by_reading") (fdOf K ("is_by_reading", none)) := T.fn (d := dIsByReading) 48 rfl rfl rfl
theorem Tx.b_is_by_reading (T : Tx w K mg) : Binds K (fdOf K ("is_by_reading", none)) ["pattern"] [] := T.f_is_by_reading.bindsN fun _ _ _ _ _ _ us hl => match us, hl with | [_], _ => rfl
theorem Tx.g_items_of (T : Tx w K mg) : mg "items_of" = some (.ref (He.ga K "items_of")) := T.glo 49 rfl
theorem Tx.f_items_of (T : Tx w K mg) : FunD K "items_of" "items_of" (defArgs sItemsOf) (defBody sItemsOf) (defScope sItemsOf) [] [] (He.ga K "items_of") (fdOf K ("items_of", none)) := T.fn (d := dItemsOf) 49 rfl rfl rfl
theorem Tx.b_items_of (T : Tx w K mg) : Binds K (fdOf K ("items_of", none)) ["pieces", "number"] [] := T.f_items_of.bindsN fun _ _ _ _ _ _ us hl => match us, hl with | [_, _], _ => rfl
theorem Tx.g_gone_on (T : Tx w K mg) : mg "gone_on" = some (.ref (He.ga K "gone_on")) := T.glo 50 rfl
theorem Tx.f_gone_on (T : Tx w K mg) : FunD K "gone_on" "gone_on" (defArgs sGoneOn) (defBody sGoneOn) (defScope sGoneOn) [] [] (He.ga K "gone_on") (fdOf K ("gone_on", none)) := T.fn (d := dGoneOn) 50 rfl rfl rfl
theorem Tx.b_gone_on (T : Tx w K mg) : Binds K (fdOf K ("gone_on", none)) ["items", "spots"] [] := T.f_gone_on.bindsN fun _ _ _ _ _ _ us hl => match us, hl with | [_, _], _ => rfl
theorem Tx.g_begun (T : Tx w K mg) : mg "begun" = some (.ref (He.ga K "begun")) := T.glo 51 rfl
theorem Tx.f_begun (T : Tx w K mg) : FunD K "begun" "begun" (defArgs sBegun) (defBody sBegun) (defScope sBegun) [] [] (He.ga K "begun") (fdOf K ("begun", none)) := T.fn (d := dBegun) 51 rfl rfl rfl
theorem Tx.b_begun (T : Tx w K mg) : Binds K (fdOf K ("begun", none)) ["pieces"] [] := T.f_begun.bindsN fun _ _ _ _ _ _ us hl => match us, hl with | [_], _ => rfl
theorem Tx.g_spots_behind (T : Tx w K mg) : mg "spots_behind" = some (.ref (He.ga K "spots_behind")) := T.glo 52 rfl
theorem Tx.f_spots_behind (T : Tx w K mg) : FunD K "spots_behind" "spots_behind" (defArgs sSpotsBehind) (defBody sSpotsBehind) (defScope sSpotsBehind) [] [] (He.ga K "spots_behind") (fdOf K ("spots_behind", none)) := T.fn (d := dSpotsBehind) 52 rfl rfl rfl
theorem Tx.b_spots_behind (T : Tx w K mg) : Binds K (fdOf K ("spots_behind", none)) ["items", "spots", "told"] [] := T.f_spots_behind.bindsN fun _ _ _ _ _ _ us hl => match us, hl with | [_, _, _], _ => rfl
theorem Tx.g_read_on (T : Tx w K mg) : mg "read_on" = some (.ref (He.ga K "read_on")) := T.glo 53 rfl
theorem Tx.f_read_on (T : Tx w K mg) : FunD K "read_on" "read_on" (defArgs sReadOn) (defBody sReadOn) (defScope sReadOn) [] [] (He.ga K "read_on") (fdOf K ("read_on", none)) := T.fn (d := dReadOn) 53 rfl rfl rfl
theorem Tx.b_read_on (T : Tx w K mg) : Binds K (fdOf K ("read_on", none)) ["pieces", "reading", "told"] [] := T.f_read_on.bindsN fun _ _ _ _ _ _ us hl => match us, hl with | [_, _, _], _ => rfl
theorem Tx.g_put_together (T : Tx w K mg) : mg "put_together" = some (.ref (He.ga K "put_together")) := T.glo 54 rfl
theorem Tx.f_put_together (T : Tx w K mg) : FunD K "put_together" "put_together" (defArgs sPutTogether) (defBody sPutTogether) (defScope sPutTogether) [] [] (He.ga K "put_together") (fdOf K ("put_together", none)) := T.fn (d := dPutTogether) 54 rfl rfl rfl
theorem Tx.b_put_together (T : Tx w K mg) : Binds K (fdOf K ("put_together", none)) ["pieces", "told"] [] := T.f_put_together.bindsN fun _ _ _ _ _ _ us hl => match us, hl with | [_, _], _ => rfl
theorem Tx.g_like_leaves (T : Tx w K mg) : mg "like_leaves" = some (.ref (He.ga K "like_leaves")) := T.glo 55 rfl
theorem Tx.f_like_leaves (T : Tx w K mg) : FunD K "like_leaves" "like_leaves" (defArgs sLikeLeaves) (defBody sLikeLeaves) (defScope sLikeLeaves) [] [] (He.ga K "like_leaves") (fdOf K ("like_leaves", none)) := T.fn (d := dLikeLeaves) 55 rfl rfl rfl
theorem Tx.b_like_leaves (T : Tx w K mg) : Binds K (fdOf K ("like_leaves", none)) ["kind", "one", "other"] [] := T.f_like_leaves.bindsN fun _ _ _ _ _ _ us hl => match us, hl with | [_, _, _], _ => rfl
theorem Tx.g_leaf_told (T : Tx w K mg) : mg "leaf_told" = some (.ref (He.ga K "leaf_told")) := T.glo 56 rfl
theorem Tx.f_leaf_told (T : Tx w K mg) : FunD K "leaf_told" "leaf_told" (defArgs sLeafTold) (defBody sLeafTold) (defScope sLeafTold) [] [] (He.ga K "leaf_told") (fdOf K ("leaf_told", none)) := T.fn (d := dLeafTold) 56 rfl rfl rfl
theorem Tx.b_leaf_told (T : Tx w K mg) : Binds K (fdOf K ("leaf_told", none)) ["kind", "pieces", "leaf"] [] := T.f_leaf_told.bindsN fun _ _ _ _ _ _ us hl => match us, hl with | [_, _, _], _ => rfl
theorem Tx.g_row_told (T : Tx w K mg) : mg "row_told" = some (.ref (He.ga K "row_told")) := T.glo 57 rfl
theorem Tx.f_row_told (T : Tx w K mg) : FunD K "row_told" "row_told" (defArgs sRowTold) (defBody sRowTold) (defScope sRowTold) [] [] (He.ga K "row_told") (fdOf K ("row_told", none)) := T.fn (d := dRowTold) 57 rfl rfl rfl
theorem Tx.b_row_told (T : Tx w K mg) : Binds K (fdOf K ("row_told", none)) ["pieces", "reading"] [] := T.f_row_told.bindsN fun _ _ _ _ _ _ us hl => match us, hl with | [_, _], _ => rfl
theorem Tx.g_told_of (T : Tx w K mg) : mg "told_of" = some (.ref (He.ga K "told_of")) := T.glo 58 rfl
theorem Tx.f_told_of (T : Tx w K mg) : FunD K "told_of" "told_of" (defArgs sToldOf) (defBody sToldOf) (defScope sToldOf) [] [] (He.ga K "told_of") (fdOf K ("told_of", none)) := T.fn (d := dToldOf) 58 rfl rfl rfl
theorem Tx.b_told_of (T : Tx w K mg) : Binds K (fdOf K ("told_of", none)) ["kind", "pieces", "worth"] [] := T.f_told_of.bindsN fun _ _ _ _ _ _ us hl => match us, hl with | [_, _, _], _ => rfl
theorem Tx.g_matches (T : Tx w K mg) : mg "matches" = some (.ref (He.ga K "matches")) := T.glo 59 rfl
theorem Tx.f_matches (T : Tx w K mg) : FunD K "matches" "matches" (defArgs sMatches) (defBody sMatches) (defScope sMatches) [] [] (He.ga K "matches") (fdOf K ("matches", none)) := T.fn (d := dMatches) 59 rfl rfl rfl
theorem Tx.b_matches (T : Tx w K mg) : Binds K (fdOf K ("matches", none)) ["kind", "pattern", "worth"] [] := T.f_matches.bindsN fun _ _ _ _ _ _ us hl => match us, hl with | [_, _, _], _ => rfl
theorem Tx.g_law_mixed (T : Tx w K mg) : mg "_law_mixed" = some (.ref (He.ga K "_law_mixed")) := T.glo 60 rfl
theorem Tx.f_law_mixed (T : Tx w K mg) : FunD K "_law_mixed" "_law_mixed" (defArgs sLawMixed) (defBody sLawMixed) (defScope sLawMixed) [] [] (He.ga K "_law_mixed") (fdOf K ("_law_mixed", none)) := T.fn (d := dLawMixed) 60 rfl rfl rfl
theorem Tx.b_law_mixed (T : Tx w K mg) : Binds K (fdOf K ("_law_mixed", none)) ["_law_cell", "_law_k"] [] := T.f_law_mixed.bindsN fun _ _ _ _ _ _ us hl => match us, hl with | [_, _], _ => rfl
theorem Tx.g_law_folded (T : Tx w K mg) : mg "_law_folded" = some (.ref (He.ga K "_law_folded")) := T.glo 61 rfl
theorem Tx.f_law_folded (T : Tx w K mg) : FunD K "_law_folded" "_law_folded" (defArgs sLawFolded) (defBody sLawFolded) (defScope sLawFolded) [] [] (He.ga K "_law_folded") (fdOf K ("_law_folded", none)) := T.fn (d := dLawFolded) 61 rfl rfl rfl
theorem Tx.b_law_folded (T : Tx w K mg) : Binds K (fdOf K ("_law_folded", none)) ["_law_script"] [] := T.f_law_folded.bindsN fun _ _ _ _ _ _ us hl => match us, hl with | [_], _ => rfl
theorem Tx.g_law_draw (T : Tx w K mg) : mg "_law_draw" = some (.ref (He.ga K "_law_draw")) := T.glo 62 rfl
theorem Tx.f_law_draw (T : Tx w K mg) : FunD K "_law_draw" "_law_draw" (defArgs sLawDraw) (defBody sLawDraw) (defScope sLawDraw) [] [] (He.ga K "_law_draw") (fdOf K ("_law_draw", none)) := T.fn (d := dLawDraw) 62 rfl rfl rfl
theorem Tx.b_law_draw (T : Tx w K mg) : Binds K (fdOf K ("_law_draw", none)) ["_law_m", "_law_many"] [] := T.f_law_draw.bindsN fun _ _ _ _ _ _ us hl => match us, hl with | [_, _], _ => rfl
theorem Tx.g_law_begun (T : Tx w K mg) : mg "_law_begun" = some (.ref (He.ga K "_law_begun")) := T.glo 63 rfl
theorem Tx.f_law_begun (T : Tx w K mg) : FunD K "_law_begun" "_law_begun" (defArgs sLawBegun) (defBody sLawBegun) (defScope sLawBegun) [] [] (He.ga K "_law_begun") (fdOf K ("_law_begun", none)) := T.fn (d := dLawBegun) 63 rfl rfl rfl
theorem Tx.b_law_begun (T : Tx w K mg) : Binds K (fdOf K ("_law_begun", none)) ["_law_script"] [] := T.f_law_begun.bindsN fun _ _ _ _ _ _ us hl => match us, hl with | [_], _ => rfl
theorem Tx.g_law_leaf (T : Tx w K mg) : mg "_law_leaf" = some (.ref (He.ga K "_law_leaf")) := T.glo 64 rfl
theorem Tx.f_law_leaf (T : Tx w K mg) : FunD K "_law_leaf" "_law_leaf" (defArgs sLawLeaf) (defBody sLawLeaf) (defScope sLawLeaf) [] [] (He.ga K "_law_leaf") (fdOf K ("_law_leaf", none)) := T.fn (d := dLawLeaf) 64 rfl rfl rfl
theorem Tx.b_law_leaf (T : Tx w K mg) : Binds K (fdOf K ("_law_leaf", none)) ["_law_m"] [] := T.f_law_leaf.bindsN fun _ _ _ _ _ _ us hl => match us, hl with | [_], _ => rfl
theorem Tx.g_law_worth (T : Tx w K mg) : mg "_law_worth" = some (.ref (He.ga K "_law_worth")) := T.glo 65 rfl
theorem Tx.f_law_worth (T : Tx w K mg) : FunD K "_law_worth" "_law_worth" (defArgs sLawWorth) (defBody sLawWorth) (defScope sLawWorth) [] [] (He.ga K "_law_worth") (fdOf K ("_law_worth", none)) := T.fn (d := dLawWorth) 65 rfl rfl rfl
theorem Tx.b_law_worth (T : Tx w K mg) : Binds K (fdOf K ("_law_worth", none)) ["_law_m", "_law_deep", "_law_room"] [] := T.f_law_worth.bindsN fun _ _ _ _ _ _ us hl => match us, hl with | [_, _, _], _ => rfl
theorem Tx.g_law_kind (T : Tx w K mg) : mg "_law_kind" = some (.ref (He.ga K "_law_kind")) := T.glo 66 rfl
theorem Tx.f_law_kind (T : Tx w K mg) : FunD K "_law_kind" "_law_kind" (defArgs sLawKind) (defBody sLawKind) (defScope sLawKind) [] [] (He.ga K "_law_kind") (fdOf K ("_law_kind", none)) := T.fn (d := dLawKind) 66 rfl rfl rfl
theorem Tx.b_law_kind (T : Tx w K mg) : Binds K (fdOf K ("_law_kind", none)) ["_law_m"] [] := T.f_law_kind.bindsN fun _ _ _ _ _ _ us hl => match us, hl with | [_], _ => rfl
theorem Tx.g_law_kind_by_rows (T : Tx w K mg) : mg "_law_kind_by_rows" = some (.ref (He.ga K "_law_kind_by_rows")) := T.glo 67 rfl
theorem Tx.f_law_kind_by_rows (T : Tx w K mg) : FunD K "_law_kind_by_rows" "_law_kind_by_rows" (defArgs sLawKindByRows) (defBody sLawKindByRows) (defScope sLawKindByRows) [] [] (He.ga K "_law_kind_by_rows") (fdOf K ("_law_kind_by_rows", none)) := T.fn (d := dLawKindByRows) 67 rfl rfl rfl
theorem Tx.b_law_kind_by_rows (T : Tx w K mg) : Binds K (fdOf K ("_law_kind_by_rows", none)) ["_law_m"] [] := T.f_law_kind_by_rows.bindsN fun _ _ _ _ _ _ us hl => match us, hl with | [_], _ => rfl
theorem Tx.g_law_plain (T : Tx w K mg) : mg "_law_plain" = some (.ref (He.ga K "_law_plain")) := T.glo 68 rfl
theorem Tx.f_law_plain (T : Tx w K mg) : FunD K "_law_plain" "_law_plain" (defArgs sLawPlain) (defBody sLawPlain) (defScope sLawPlain) [] [] (He.ga K "_law_plain") (fdOf K ("_law_plain", none)) := T.fn (d := dLawPlain) 68 rfl rfl rfl
theorem Tx.b_law_plain (T : Tx w K mg) : Binds K (fdOf K ("_law_plain", none)) ["_law_m", "_law_deep", "_law_room"] [] := T.f_law_plain.bindsN fun _ _ _ _ _ _ us hl => match us, hl with | [_, _, _], _ => rfl
theorem Tx.g_law_depth (T : Tx w K mg) : mg "_law_depth" = some (.ref (He.ga K "_law_depth")) := T.glo 69 rfl
theorem Tx.f_law_depth (T : Tx w K mg) : FunD K "_law_depth" "_law_depth" (defArgs sLawDepth) (defBody sLawDepth) (defScope sLawDepth) [] [] (He.ga K "_law_depth") (fdOf K ("_law_depth", none)) := T.fn (d := dLawDepth) 69 rfl rfl rfl
theorem Tx.b_law_depth (T : Tx w K mg) : Binds K (fdOf K ("_law_depth", none)) ["_law_pattern"] [] := T.f_law_depth.bindsN fun _ _ _ _ _ _ us hl => match us, hl with | [_], _ => rfl
theorem Tx.g_law_plain_in (T : Tx w K mg) : mg "_law_plain_in" = some (.ref (He.ga K "_law_plain_in")) := T.glo 70 rfl
theorem Tx.f_law_plain_in (T : Tx w K mg) : FunD K "_law_plain_in" "_law_plain_in" (defArgs sLawPlainIn) (defBody sLawPlainIn) (defScope sLawPlainIn) [] [] (He.ga K "_law_plain_in") (fdOf K ("_law_plain_in", none)) := T.fn (d := dLawPlainIn) 70 rfl rfl rfl
theorem Tx.b_law_plain_in (T : Tx w K mg) : Binds K (fdOf K ("_law_plain_in", none)) ["_law_m", "_law_deep", "_law_room"] [] := T.f_law_plain_in.bindsN fun _ _ _ _ _ _ us hl => match us, hl with | [_, _, _], _ => rfl
theorem Tx.g_law_plain_item (T : Tx w K mg) : mg "_law_plain_item" = some (.ref (He.ga K "_law_plain_item")) := T.glo 71 rfl
theorem Tx.f_law_plain_item (T : Tx w K mg) : FunD K "_law_plain_item" "_law_plain_item" (defArgs sLawPlainItem) (defBody sLawPlainItem) (defScope sLawPlainItem) [] [] (He.ga K "_law_plain_item") (fdOf K ("_law_plain_item", none)) := T.fn (d := dLawPlainItem) 71 rfl rfl rfl
theorem Tx.b_law_plain_item (T : Tx w K mg) : Binds K (fdOf K ("_law_plain_item", none)) ["_law_m", "_law_deep", "_law_room"] [] := T.f_law_plain_item.bindsN fun _ _ _ _ _ _ us hl => match us, hl with | [_, _, _], _ => rfl
theorem Tx.g_law_like (T : Tx w K mg) : mg "_law_like" = some (.ref (He.ga K "_law_like")) := T.glo 72 rfl
theorem Tx.f_law_like (T : Tx w K mg) : FunD K "_law_like" "_law_like" (defArgs sLawLike) (defBody sLawLike) (defScope sLawLike) [] [] (He.ga K "_law_like") (fdOf K ("_law_like", none)) := T.fn (d := dLawLike) 72 rfl rfl rfl
theorem Tx.b_law_like (T : Tx w K mg) : Binds K (fdOf K ("_law_like", none)) ["_law_kind_here", "_law_one", "_law_other"] [] := T.f_law_like.bindsN fun _ _ _ _ _ _ us hl => match us, hl with | [_, _, _], _ => rfl
theorem Tx.g_law_matched (T : Tx w K mg) : mg "_law_matched" = some (.ref (He.ga K "_law_matched")) := T.glo 73 rfl
theorem Tx.f_law_matched (T : Tx w K mg) : FunD K "_law_matched" "_law_matched" (defArgs sLawMatched) (defBody sLawMatched) (defScope sLawMatched) [] [] (He.ga K "_law_matched") (fdOf K ("_law_matched", none)) := T.fn (d := dLawMatched) 73 rfl rfl rfl
theorem Tx.b_law_matched (T : Tx w K mg) : Binds K (fdOf K ("_law_matched", none)) ["_law_kind_here", "_law_pattern", "_law_worth_here"] [] := T.f_law_matched.bindsN fun _ _ _ _ _ _ us hl => match us, hl with | [_, _, _], _ => rfl
theorem Tx.g_law_pieces (T : Tx w K mg) : mg "_law_pieces" = some (.ref (He.ga K "_law_pieces")) := T.glo 74 rfl
theorem Tx.f_law_pieces (T : Tx w K mg) : FunD K "_law_pieces" "_law_pieces" (defArgs sLawPieces) (defBody sLawPieces) (defScope sLawPieces) [] [] (He.ga K "_law_pieces") (fdOf K ("_law_pieces", none)) := T.fn (d := dLawPieces) 74 rfl rfl rfl
theorem Tx.b_law_pieces (T : Tx w K mg) : Binds K (fdOf K ("_law_pieces", none)) ["_law_pattern"] [] := T.f_law_pieces.bindsN fun _ _ _ _ _ _ us hl => match us, hl with | [_], _ => rfl
theorem Tx.g_law_no_nots (T : Tx w K mg) : mg "_law_no_nots" = some (.ref (He.ga K "_law_no_nots")) := T.glo 75 rfl
theorem Tx.f_law_no_nots (T : Tx w K mg) : FunD K "_law_no_nots" "_law_no_nots" (defArgs sLawNoNots) (defBody sLawNoNots) (defScope sLawNoNots) [] [] (He.ga K "_law_no_nots") (fdOf K ("_law_no_nots", none)) := T.fn (d := dLawNoNots) 75 rfl rfl rfl
theorem Tx.b_law_no_nots (T : Tx w K mg) : Binds K (fdOf K ("_law_no_nots", none)) ["_law_pattern"] [] := T.f_law_no_nots.bindsN fun _ _ _ _ _ _ us hl => match us, hl with | [_], _ => rfl
theorem Tx.g_law_sum (T : Tx w K mg) : mg "_law_sum" = some (.ref (He.ga K "_law_sum")) := T.glo 76 rfl
theorem Tx.f_law_sum (T : Tx w K mg) : FunD K "_law_sum" "_law_sum" (defArgs sLawSum) (defBody sLawSum) (defScope sLawSum) [] [] (He.ga K "_law_sum") (fdOf K ("_law_sum", none)) := T.fn (d := dLawSum) 76 rfl rfl rfl
theorem Tx.b_law_sum (T : Tx w K mg) : Binds K (fdOf K ("_law_sum", none)) ["_law_weights"] [] := T.f_law_sum.bindsN fun _ _ _ _ _ _ us hl => match us, hl with | [_], _ => rfl
theorem Tx.g_law_least (T : Tx w K mg) : mg "_law_least" = some (.ref (He.ga K "_law_least")) := T.glo 77 rfl
theorem Tx.f_law_least (T : Tx w K mg) : FunD K "_law_least" "_law_least" (defArgs sLawLeast) (defBody sLawLeast) (defScope sLawLeast) [] [] (He.ga K "_law_least") (fdOf K ("_law_least", none)) := T.fn (d := dLawLeast) 77 rfl rfl rfl
theorem Tx.b_law_least (T : Tx w K mg) : Binds K (fdOf K ("_law_least", none)) ["_law_weights"] [] := T.f_law_least.bindsN fun _ _ _ _ _ _ us hl => match us, hl with | [_], _ => rfl
theorem Tx.g_law_weight (T : Tx w K mg) : mg "_law_weight" = some (.ref (He.ga K "_law_weight")) := T.glo 78 rfl
theorem Tx.f_law_weight (T : Tx w K mg) : FunD K "_law_weight" "_law_weight" (defArgs sLawWeight) (defBody sLawWeight) (defScope sLawWeight) [] [] (He.ga K "_law_weight") (fdOf K ("_law_weight", none)) := T.fn (d := dLawWeight) 78 rfl rfl rfl
theorem Tx.b_law_weight (T : Tx w K mg) : Binds K (fdOf K ("_law_weight", none)) ["_law_kind_here", "_law_pattern", "_law_worth_here"] [] := T.f_law_weight.bindsN fun _ _ _ _ _ _ us hl => match us, hl with | [_, _, _], _ => rfl
theorem Tx.g_law_row_weight (T : Tx w K mg) : mg "_law_row_weight" = some (.ref (He.ga K "_law_row_weight")) := T.glo 79 rfl
theorem Tx.f_law_row_weight (T : Tx w K mg) : FunD K "_law_row_weight" "_law_row_weight" (defArgs sLawRowWeight) (defBody sLawRowWeight) (defScope sLawRowWeight) [] [] (He.ga K "_law_row_weight") (fdOf K ("_law_row_weight", none)) := T.fn (d := dLawRowWeight) 79 rfl rfl rfl
theorem Tx.b_law_row_weight (T : Tx w K mg) : Binds K (fdOf K ("_law_row_weight", none)) ["_law_kind_here", "_law_items", "_law_things"] [] := T.f_law_row_weight.bindsN fun _ _ _ _ _ _ us hl => match us, hl with | [_, _, _], _ => rfl
theorem Tx.g_law_runs (T : Tx w K mg) : mg "_law_runs" = some (.ref (He.ga K "_law_runs")) := T.glo 80 rfl
theorem Tx.f_law_runs (T : Tx w K mg) : FunD K "_law_runs" "_law_runs" (defArgs sLawRuns) (defBody sLawRuns) (defScope sLawRuns) [] [] (He.ga K "_law_runs") (fdOf K ("_law_runs", none)) := T.fn (d := dLawRuns) 80 rfl rfl rfl
theorem Tx.b_law_runs (T : Tx w K mg) : Binds K (fdOf K ("_law_runs", none)) ["_law_kind_here", "_law_pattern", "_law_worth_here", "_law_room"] [] := T.f_law_runs.bindsN fun _ _ _ _ _ _ us hl => match us, hl with | [_, _, _, _], _ => rfl
theorem Tx.g_law0 (T : Tx w K mg) : mg "law" = some (.ref (He.ga K "law")) := T.glo 81 rfl
theorem Tx.f_law0 (T : Tx w K mg) : FunD K "law" "law" (defArgs sLaw0) (defBody sLaw0) (defScope sLaw0) [] [] (He.ga K "law") (fdOf K ("law", none)) := T.fn (d := dLaw0) 81 rfl rfl rfl
theorem Tx.b_law0 (T : Tx w K mg) : Binds K (fdOf K ("law", none)) ["_law_script"] [] := T.f_law0.bindsN fun _ _ _ _ _ _ us hl => match us, hl with | [_], _ => rfl
theorem Tx.f_Trinit (T : Tx w K mg) : FunD K "__init__" "Trying.__init__" (defArgs sTrInit) (defBody sTrInit) (defScope sTrInit) [] [] (He.ma K (He.ga K "Trying") "__init__") (fdOf K ("Trying", some "__init__")) := T.fn (d := dTrInit) 82 rfl rfl rfl
theorem Tx.b_Trinit (T : Tx w K mg) : Binds K (fdOf K ("Trying", some "__init__")) ["self", "book", "kind"] [] := T.f_Trinit.bindsN fun _ _ _ _ _ _ us hl => match us, hl with | [_, _, _], _ => rfl
theorem Tx.f_Tralike (T : Tx w K mg) : FunD K "alike" "Trying.alike" (defArgs sTrAlike) (defBody sTrAlike) (defScope sTrAlike) [] [] (He.ma K (He.ga K "Trying") "alike") (fdOf K ("Trying", some "alike")) := T.fn (d := dTrAlike) 83 rfl rfl rfl
theorem Tx.b_Tralike (T : Tx w K mg) : Binds K (fdOf K ("Trying", some "alike")) ["self", "one", "other"] [] := T.f_Tralike.bindsN fun _ _ _ _ _ _ us hl => match us, hl with | [_, _, _], _ => rfl
theorem Tx.m_alike (T : Tx w K mg) : Meth K (He.ga K "Trying") "alike" (He.ma K (He.ga K "Trying") "alike") := He.meth_ok (T.t.d.fact 131 rfl)
theorem Tx.f_Trfound (T : Tx w K mg) : FunD K "found" "Trying.found" (defArgs sTrFound) (defBody sTrFound) (defScope sTrFound) [] [] (He.ma K (He.ga K "Trying") "found") (fdOf K ("Trying", some "found")) := T.fn (d := dTrFound) 84 rfl rfl rfl
theorem Tx.b_Trfound (T : Tx w K mg) : Binds K (fdOf K ("Trying", some "found")) ["self", "pattern", "thing", "stand", "room"] [] := T.f_Trfound.bindsN fun _ _ _ _ _ _ us hl => match us, hl with | [_, _, _, _, _], _ => rfl
theorem Tx.m_found (T : Tx w K mg) : Meth K (He.ga K "Trying") "found" (He.ma K (He.ga K "Trying") "found") := He.meth_ok (T.t.d.fact 132 rfl)
theorem Tx.f_Trby_worth (T : Tx w K mg) : FunD K "by_worth" "Trying.by_worth" (defArgs sTrByWorth) (defBody sTrByWorth) (defScope sTrByWorth) [] [] (He.ma K (He.ga K "Trying") "by_worth") (fdOf K ("Trying", some "by_worth")) := T.fn (d := dTrByWorth) 85 rfl rfl rfl
theorem Tx.b_Trby_worth (T : Tx w K mg) : Binds K (fdOf K ("Trying", some "by_worth")) ["self", "pattern", "thing", "stand"] [] := T.f_Trby_worth.bindsN fun _ _ _ _ _ _ us hl => match us, hl with | [_, _, _, _], _ => rfl
theorem Tx.m_by_worth (T : Tx w K mg) : Meth K (He.ga K "Trying") "by_worth" (He.ma K (He.ga K "Trying") "by_worth") := He.meth_ok (T.t.d.fact 133 rfl)
theorem Tx.f_Trby_two (T : Tx w K mg) : FunD K "by_two" "Trying.by_two" (defArgs sTrByTwo) (defBody sTrByTwo) (defScope sTrByTwo) [] [] (He.ma K (He.ga K "Trying") "by_two") (fdOf K ("Trying", some "by_two")) := T.fn (d := dTrByTwo) 86 rfl rfl rfl
theorem Tx.b_Trby_two (T : Tx w K mg) : Binds K (fdOf K ("Trying", some "by_two")) ["self", "pattern", "thing", "stand", "room"] [] := T.f_Trby_two.bindsN fun _ _ _ _ _ _ us hl => match us, hl with | [_, _, _, _, _], _ => rfl
theorem Tx.m_by_two (T : Tx w K mg) : Meth K (He.ga K "Trying") "by_two" (He.ma K (He.ga K "Trying") "by_two") := He.meth_ok (T.t.d.fact 134 rfl)
theorem Tx.f_Trby_looking (T : Tx w K mg) : FunD K "by_looking" "Trying.by_looking" (defArgs sTrByLooking) (defBody sTrByLooking) (defScope sTrByLooking) [] [] (He.ma K (He.ga K "Trying") "by_looking") (fdOf K ("Trying", some "by_looking")) := T.fn (d := dTrByLooking) 87 rfl rfl rfl
theorem Tx.b_Trby_looking (T : Tx w K mg) : Binds K (fdOf K ("Trying", some "by_looking")) ["self", "pattern", "thing", "stand", "room"] [] := T.f_Trby_looking.bindsN fun _ _ _ _ _ _ us hl => match us, hl with | [_, _, _, _, _], _ => rfl
theorem Tx.m_by_looking (T : Tx w K mg) : Meth K (He.ga K "Trying") "by_looking" (He.ma K (He.ga K "Trying") "by_looking") := He.meth_ok (T.t.d.fact 135 rfl)
theorem Tx.f_Trchosen (T : Tx w K mg) : FunD K "chosen" "Trying.chosen" (defArgs sTrChosen) (defBody sTrChosen) (defScope sTrChosen) [] [] (He.ma K (He.ga K "Trying") "chosen") (fdOf K ("Trying", some "chosen")) := T.fn (d := dTrChosen) 88 rfl rfl rfl
theorem Tx.b_Trchosen (T : Tx w K mg) : Binds K (fdOf K ("Trying", some "chosen")) ["self", "choice", "pattern", "thing", "stand", "room"] [] := T.f_Trchosen.bindsN fun _ _ _ _ _ _ us hl => match us, hl with | [_, _, _, _, _, _], _ => rfl
theorem Tx.m_chosen (T : Tx w K mg) : Meth K (He.ga K "Trying") "chosen" (He.ma K (He.ga K "Trying") "chosen") := He.meth_ok (T.t.d.fact 136 rfl)
theorem Tx.f_Trby_all (T : Tx w K mg) : FunD K "by_all" "Trying.by_all" (defArgs sTrByAll) (defBody sTrByAll) (defScope sTrByAll) [] [] (He.ma K (He.ga K "Trying") "by_all") (fdOf K ("Trying", some "by_all")) := T.fn (d := dTrByAll) 89 rfl rfl rfl
theorem Tx.b_Trby_all (T : Tx w K mg) : Binds K (fdOf K ("Trying", some "by_all")) ["self", "pattern", "row", "stand", "room"] [] := T.f_Trby_all.bindsN fun _ _ _ _ _ _ us hl => match us, hl with | [_, _, _, _, _], _ => rfl
theorem Tx.m_by_all (T : Tx w K mg) : Meth K (He.ga K "Trying") "by_all" (He.ma K (He.ga K "Trying") "by_all") := He.meth_ok (T.t.d.fact 137 rfl)
theorem Tx.f_Trby_row (T : Tx w K mg) : FunD K "by_row" "Trying.by_row" (defArgs sTrByRow) (defBody sTrByRow) (defScope sTrByRow) [] [] (He.ma K (He.ga K "Trying") "by_row") (fdOf K ("Trying", some "by_row")) := T.fn (d := dTrByRow) 90 rfl rfl rfl
theorem Tx.b_Trby_row (T : Tx w K mg) : Binds K (fdOf K ("Trying", some "by_row")) ["self", "items", "row", "stand", "room"] [] := T.f_Trby_row.bindsN fun _ _ _ _ _ _ us hl => match us, hl with | [_, _, _, _, _], _ => rfl
theorem Tx.m_by_row (T : Tx w K mg) : Meth K (He.ga K "Trying") "by_row" (He.ma K (He.ga K "Trying") "by_row") := He.meth_ok (T.t.d.fact 138 rfl)
theorem Tx.f_Trcut (T : Tx w K mg) : FunD K "cut" "Trying.cut" (defArgs sTrCut) (defBody sTrCut) (defScope sTrCut) [] [] (He.ma K (He.ga K "Trying") "cut") (fdOf K ("Trying", some "cut")) := T.fn (d := dTrCut) 91 rfl rfl rfl
theorem Tx.b_Trcut (T : Tx w K mg) : Binds K (fdOf K ("Trying", some "cut")) ["self", "pattern", "items", "parts", "stand", "room"] [] := T.f_Trcut.bindsN fun _ _ _ _ _ _ us hl => match us, hl with | [_, _, _, _, _, _], _ => rfl
theorem Tx.m_cut (T : Tx w K mg) : Meth K (He.ga K "Trying") "cut" (He.ma K (He.ga K "Trying") "cut") := He.meth_ok (T.t.d.fact 139 rfl)
theorem Tx.z_isinstance (T : Tx w K mg) : mg "isinstance" = none := T.free 82 rfl
theorem Tx.z_int (T : Tx w K mg) : mg "int" = none := T.free 83 rfl
theorem Tx.z_bool (T : Tx w K mg) : mg "bool" = none := T.free 84 rfl
theorem Tx.z_len (T : Tx w K mg) : mg "len" = none := T.free 85 rfl
theorem Tx.z_all (T : Tx w K mg) : mg "all" = none := T.free 86 rfl
theorem Tx.z_any (T : Tx w K mg) : mg "any" = none := T.free 87 rfl
theorem Tx.z_tuple (T : Tx w K mg) : mg "tuple" = none := T.free 88 rfl
theorem Tx.z_list (T : Tx w K mg) : mg "list" = none := T.free 89 rfl
theorem Tx.z_zip (T : Tx w K mg) : mg "zip" = none := T.free 90 rfl
theorem Tx.z_set (T : Tx w K mg) : mg "set" = none := T.free 91 rfl
theorem Tx.z_sorted (T : Tx w K mg) : mg "sorted" = none := T.free 92 rfl
theorem Tx.z_enumerate (T : Tx w K mg) : mg "enumerate" = none := T.free 93 rfl
theorem Tx.z_range (T : Tx w K mg) : mg "range" = none := T.free 94 rfl
theorem Tx.z_sum (T : Tx w K mg) : mg "sum" = none := T.free 95 rfl
theorem Tx.z_max (T : Tx w K mg) : mg "max" = none := T.free 96 rfl
theorem Tx.z_min (T : Tx w K mg) : mg "min" = none := T.free 97 rfl
theorem Tx.z_str (T : Tx w K mg) : mg "str" = none := T.free 98 rfl
theorem Tx.z_dict (T : Tx w K mg) : mg "dict" = none := T.free 99 rfl
theorem Tx.z_repr (T : Tx w K mg) : mg "repr" = none := T.free 100 rfl
theorem Tx.i_MOST_LETTERS (T : Tx w K mg) : ∃ u, mg "MOST_LETTERS" = some u ∧ RelV (.int 6) u := T.int 101 rfl
theorem Tx.i_MOST_LEAF_words (T : Tx w K mg) : ∃ u, mg "MOST_LEAF_words" = some u ∧ RelV (.int 99) u := T.int 102 rfl
theorem Tx.i_MOST_THINGS (T : Tx w K mg) : ∃ u, mg "MOST_THINGS" = some u ∧ RelV (.int 10) u := T.int 103 rfl
theorem Tx.i_MOST_SIZE_worths (T : Tx w K mg) : ∃ u, mg "MOST_SIZE_worths" = some u ∧ RelV (.int 60) u := T.int 104 rfl
theorem Tx.i_MOST_DEEP_worths (T : Tx w K mg) : ∃ u, mg "MOST_DEEP_worths" = some u ∧ RelV (.int 6) u := T.int 105 rfl
theorem Tx.i_MOST_STEM (T : Tx w K mg) : ∃ u, mg "MOST_STEM" = some u ∧ RelV (.int 60) u := T.int 106 rfl
theorem Tx.i_MOST_SMALL (T : Tx w K mg) : ∃ u, mg "MOST_SMALL" = some u ∧ RelV (.int 5) u := T.int 107 rfl
theorem Tx.i_MOST_CLASSES (T : Tx w K mg) : ∃ u, mg "MOST_CLASSES" = some u ∧ RelV (.int 5) u := T.int 108 rfl
theorem Tx.i_MOST_LEAVES (T : Tx w K mg) : ∃ u, mg "MOST_LEAVES" = some u ∧ RelV (.int 10) u := T.int 109 rfl
theorem Tx.i_MOST_PARTS (T : Tx w K mg) : ∃ u, mg "MOST_PARTS" = some u ∧ RelV (.int 40) u := T.int 110 rfl
theorem Tx.i_MOST_DEEP_patterns (T : Tx w K mg) : ∃ u, mg "MOST_DEEP_patterns" = some u ∧ RelV (.int 10) u := T.int 111 rfl
theorem Tx.i_MOST_ARGS (T : Tx w K mg) : ∃ u, mg "MOST_ARGS" = some u ∧ RelV (.int 2) u := T.int 112 rfl
theorem Tx.i_MOST_RULES (T : Tx w K mg) : ∃ u, mg "MOST_RULES" = some u ∧ RelV (.int 4) u := T.int 113 rfl
theorem Tx.i_MOST_ROOM (T : Tx w K mg) : ∃ u, mg "MOST_ROOM" = some u ∧ RelV (.int 8) u := T.int 114 rfl
theorem Tx.i_MOST_RUNS (T : Tx w K mg) : ∃ u, mg "MOST_RUNS" = some u ∧ RelV (.int 2000) u := T.int 115 rfl
theorem Tx.i_MOST_LEAF_plain (T : Tx w K mg) : ∃ u, mg "MOST_LEAF_plain" = some u ∧ RelV (.int 99) u := T.int 116 rfl
theorem Tx.i_MOST_SIZE_plain (T : Tx w K mg) : ∃ u, mg "MOST_SIZE_plain" = some u ∧ RelV (.int 3000) u := T.int 117 rfl
theorem Tx.i_MOST_DEEP_plain (T : Tx w K mg) : ∃ u, mg "MOST_DEEP_plain" = some u ∧ RelV (.int 300) u := T.int 118 rfl
theorem Tx.s_ENDLESS (T : Tx w K mg) : ∃ u, mg "ENDLESS" = some u ∧ RelV (.str "endless") u := T.str 119 rfl
theorem Tx.v_HOWS (T : Tx w K mg) : ∃ u, mg "HOWS" = some u ∧ RelV (.ref (He.ga K "HOWS")) u := T.glv 120 rfl
theorem Tx.v_PAIRS (T : Tx w K mg) : ∃ u, mg "PAIRS" = some u ∧ RelV (.ref (He.ga K "PAIRS")) u := T.glv 121 rfl
theorem Tx.v_LONE (T : Tx w K mg) : ∃ u, mg "LONE" = some u ∧ RelV (.ref (He.ga K "LONE")) u := T.glv 122 rfl
theorem Tx.v_ANY (T : Tx w K mg) : ∃ u, mg "ANY" = some u ∧ RelV (.ref (He.ga K "ANY")) u := T.glv 123 rfl
theorem Tx.v_MOST_ITEMS (T : Tx w K mg) : ∃ u, mg "MOST_ITEMS" = some u ∧ RelV (.ref (He.ga K "MOST_ITEMS")) u := T.glv 124 rfl
theorem Tx.v_Trying (T : Tx w K mg) : ∃ u, mg "Trying" = some u ∧ RelV (.ref (He.ga K "Trying")) u := T.glv 125 rfl
theorem Tx.v_TooMany (T : Tx w K mg) : ∃ u, mg "TooMany" = some u ∧ RelV (.ref (He.ga K "TooMany")) u := T.glv 126 rfl
theorem Tx.cls (T : Tx w K mg) : Cls K (He.ga K "Trying") := He.cls_ok (T.t.d.fact 127 rfl)
theorem Tx.mkr (T : Tx w K mg) : Mk K (He.ga K "Trying") (He.ma K (He.ga K "Trying") "__init__") := He.mkr_ok (T.t.d.fact 128 rfl)
theorem Tx.na_rules (T : Tx w K mg) : NoAttr K (He.ga K "Trying") "rules" := He.noat_ok (T.t.d.fact 129 rfl)
theorem Tx.na_kind (T : Tx w K mg) : NoAttr K (He.ga K "Trying") "kind" := He.noat_ok (T.t.d.fact 130 rfl)
theorem Tx.exc (T : Tx w K mg) : PySem.W.excIn K (He.ga K "TooMany") He.veBase "ValueError.__new__" = true ∧ PySem.W.keepIn K (.ref (He.ga K "TooMany")) = true ∧ PySem.W.subIn K (.ref (He.ga K "TooMany")) (.type "BaseException") = some true ∧ PySem.W.typeIn K (.ref (He.ga K "TooMany")) = some (.type "type") := He.exc_ok (T.t.d.fact 140 rfl)
theorem Tx.exm (T : Tx w K mg) : PySem.W.exmOne K (.ref (He.ga K "TooMany")) (.ref (He.ga K "TooMany")) = some true := He.exm_ok (T.t.d.fact 141 rfl)
theorem bandL {a b : Bool} (h : (a && b) = true) : a = true := (Bool.and_eq_true_iff.mp h).1
theorem bandR {a b : Bool} (h : (a && b) = true) : b = true := (Bool.and_eq_true_iff.mp h).2
theorem Tx.t_HOWS (T : Tx w K mg) (H : Hp) : SqT K H (He.ga K "HOWS") [.str "rows", .str "lots", .str "turned"] := He.tupB_ok (K := K) (x := "HOWS") (vs := [.str "rows", .str "lots", .str "turned"]) (bandL (bandL (bandL (bandL (bandL (bandL (bandL (bandL (bandL (bandL (bandL (bandL (bandL (bandL (bandL T.ex))))))))))))))) H
theorem Tx.t_PAIRS (T : Tx w K mg) (H : Hp) : SqT K H (He.ga K "PAIRS") [.str "both", .str "either"] := He.tupB_ok (K := K) (x := "PAIRS") (vs := [.str "both", .str "either"]) (bandR (bandL (bandL (bandL (bandL (bandL (bandL (bandL (bandL (bandL (bandL (bandL (bandL (bandL (bandL T.ex))))))))))))))) H
theorem Tx.t_LONE (T : Tx w K mg) (H : Hp) : SqT K H (He.ga K "LONE") [.str "not", .str "first", .str "turned", .str "all"] := He.tupB_ok (K := K) (x := "LONE") (vs := [.str "not", .str "first", .str "turned", .str "all"]) (bandR (bandL (bandL (bandL (bandL (bandL (bandL (bandL (bandL (bandL (bandL (bandL (bandL (bandL T.ex)))))))))))))) H
theorem Tx.t_ANY (T : Tx w K mg) (H : Hp) : SqT K H (He.ga K "ANY") [.str "any"] := He.tupB_ok (K := K) (x := "ANY") (vs := [.str "any"]) (bandR (bandL (bandL (bandL (bandL (bandL (bandL (bandL (bandL (bandL (bandL (bandL (bandL T.ex))))))))))))) H
theorem Tx.mi_any (T : Tx w K mg) : PySem.W.nsIn K (He.ga K "MOST_ITEMS") "any" = some none := He.eqO_ok (bandR (bandL (bandL (bandL (bandL (bandL (bandL (bandL (bandL (bandL (bandL (bandL T.ex))))))))))))
theorem Tx.mi_is (T : Tx w K mg) : PySem.W.nsIn K (He.ga K "MOST_ITEMS") "is" = some none := He.eqO_ok (bandR (bandL (bandL (bandL (bandL (bandL (bandL (bandL (bandL (bandL (bandL T.ex)))))))))))
theorem Tx.mi_name (T : Tx w K mg) : PySem.W.nsIn K (He.ga K "MOST_ITEMS") "name" = some none := He.eqO_ok (bandR (bandL (bandL (bandL (bandL (bandL (bandL (bandL (bandL (bandL T.ex))))))))))
theorem Tx.mi_both (T : Tx w K mg) : PySem.W.nsIn K (He.ga K "MOST_ITEMS") "both" = some none := He.eqO_ok (bandR (bandL (bandL (bandL (bandL (bandL (bandL (bandL (bandL T.ex)))))))))
theorem Tx.mi_either (T : Tx w K mg) : PySem.W.nsIn K (He.ga K "MOST_ITEMS") "either" = some none := He.eqO_ok (bandR (bandL (bandL (bandL (bandL (bandL (bandL (bandL T.ex))))))))
theorem Tx.mi_not (T : Tx w K mg) : PySem.W.nsIn K (He.ga K "MOST_ITEMS") "not" = some none := He.eqO_ok (bandR (bandL (bandL (bandL (bandL (bandL (bandL T.ex)))))))
theorem Tx.mi_first (T : Tx w K mg) : PySem.W.nsIn K (He.ga K "MOST_ITEMS") "first" = some none := He.eqO_ok (bandR (bandL (bandL (bandL (bandL (bandL T.ex))))))
theorem Tx.mi_turned (T : Tx w K mg) : PySem.W.nsIn K (He.ga K "MOST_ITEMS") "turned" = some none := He.eqO_ok (bandR (bandL (bandL (bandL (bandL T.ex)))))
theorem Tx.mi_all (T : Tx w K mg) : PySem.W.nsIn K (He.ga K "MOST_ITEMS") "all" = some none := He.eqO_ok (bandR (bandL (bandL (bandL T.ex))))
theorem Tx.mi_use (T : Tx w K mg) : PySem.W.nsIn K (He.ga K "MOST_ITEMS") "use" = some none := He.eqO_ok (bandR (bandL (bandL T.ex)))
theorem Tx.mi_hole (T : Tx w K mg) : PySem.W.nsIn K (He.ga K "MOST_ITEMS") "hole" = some none := He.eqO_ok (bandR (bandL T.ex))
theorem Tx.mi_row (T : Tx w K mg) : ∃ u, PySem.W.nsIn K (He.ga K "MOST_ITEMS") "row" = some (some u) ∧ RelV (.int 6) u := He.valsB_ok (q := ("row", .int 6)) (bandR T.ex) (by simp)
theorem Tx.mi_tab (T : Tx w K mg) : ∃ es n, KDict K w (He.ga K "MOST_ITEMS") es n := T.t.tab 0 rfl
end
end Wf
set_option Elab.async false
set_option linter.all false
set_option maxRecDepth 100000
set_option maxHeartbeats 400000
namespace Wf
open PySem PySem.Spec PyProof.Rows L2
section
variable {K : PySem.W.Frag} {H H' H1 : Hp}
theorem iY {b : Bool} {A B : Prop} (e : b = true) (h : A) : if b = true then A else B := by
  rw [if_pos e]
  exact h
theorem iN {b : Bool} {A B : Prop} (e : b = false) (h : B) : if b = true then A else B := by
  rw [if_neg (by rw [e]; exact Bool.false_ne_true)]
  exact h
theorem iD {b : Bool} {A B : Prop} (h1 : b = true → A) (h2 : b = false → B) : if b = true then A else B := by
  cases b with
  | true => exact iY rfl (h1 rfl)
  | false => exact iN rfl (h2 rfl)
theorem qB {Q : VK} {H : Hp} {b c : Bool} (e : b = c) (h : Q (.bl c) H) : Q (.bl b) H := e ▸ h
theorem qI {Q : VK} {H : Hp} {b c : Int} (e : b = c) (h : Q (.int c) H) : Q (.int b) H := e ▸ h
theorem line_is : sizeLine = 16777216 := by decide +kernel
theorem line1 : 1 ≤ sizeLine := by decide +kernel
theorem line2 : 2 ≤ sizeLine := by decide +kernel
theorem line3 : 3 ≤ sizeLine := by decide +kernel
theorem lt_line {n : Nat} (h : n < 16777216) : n < sizeLine := by rw [line_is]; exact h
theorem le_line {n : Nat} (h : n ≤ 16777216) : n ≤ sizeLine := by rw [line_is]; exact h
theorem genH {F : Hp → Prop} {H : Hp} (P : Hp → Prop) (hP : P H) (h : ∀ H', P H' → F H') : F H := h H hP
theorem Sm.new {p : Addr} {o : HO} (n : H p = none) : Same H (upd H p o) := fun b u z => by
  rw [upd_ne (ne_of_none z n)]
  exact z
theorem Sm.put {p : Addr} {o : HO} (e : Same H H1) (n : H p = none) : Same H (upd H1 p o) := fun b u z => by
  rw [upd_ne (ne_of_none z n)]
  exact e b u z
theorem Is.sm {v : V} {d : Dt} (e : Same H H') (h : Is K H v d) : Is K H' v d := h.up (.sm e)
theorem IsAll.sm {v : List V} {d : List Dt} (e : Same H H') (h : IsAll K H v d) : IsAll K H' v d := h.up (.sm e)
theorem sq_up {a : Addr} {xs : List V} (e : Same H H') (h : SqT K H a xs) : SqT K H' a xs := Up.sm e a xs h
def cutD (l : List Dt) (lo hi : Option Int) : List Dt := (l.drop (HT.sIx l.length 0 lo)).take (HT.sIx l.length l.length hi - HT.sIx l.length 0 lo)
theorem IsAll.cut {vs : List V} {l : List Dt} (h : IsAll K H vs l) (lo hi : Option Int) : IsAll K H (cutV vs lo hi) (cutD l lo hi) := by
  unfold cutV cutD
  rw [h.len]
  exact (h.drop _).take _
theorem cutD_drop (l : List Dt) (n : Nat) : cutD l (some (n : Int)) none = l.drop n := by
  unfold cutD
  rw [HT.sIx_nat, HT.sIx_none]
  have : (l.drop (min n l.length)).length = l.length - min n l.length := List.length_drop
  rw [List.take_of_length_le (by omega)]
  by_cases h : n ≤ l.length
  · rw [Nat.min_eq_left h]
  · rw [Nat.min_eq_right (by omega), List.drop_length, List.drop_eq_nil_of_le (by omega)]
theorem cutD_take (l : List Dt) (n : Nat) : cutD l none (some (n : Int)) = l.take n := by
  unfold cutD
  rw [HT.sIx_nat, HT.sIx_none, List.drop_zero, Nat.sub_zero]
  by_cases h : n ≤ l.length
  · rw [Nat.min_eq_left h]
  · rw [Nat.min_eq_right (by omega), List.take_length, List.take_of_length_le (by omega)]
def Dt.tyN : Dt → String
  | .int _ => "int"
  | .str _ => "str"
  | .tup _ => "tuple"
theorem Is.ty {v : V} {d : Dt} (h : Is K H v d) : TyX K H v (.type d.tyN) := by
  cases h with
  | int i => exact .base (.int i)
  | str x => exact .base (.str x)
  | tup s t =>
    rcases s with (z | ⟨o, z⟩) | ⟨o, its, n, z, c, _⟩
    · exact .base (.tup z)
    · exact .fTuple z
    · exact .kTuple z c
def Dt.isT (d : Dt) (T : String) : Bool := d.tyN == T
theorem kitB_isT (d : Dt) {T : String} (h : T = "int" ∨ T = "bool" ∨ T = "str" ∨ T = "tuple") : kitB d.tyN T = some (d.isT T) := by
  rcases h with rfl | rfl | rfl | rfl <;> cases d
  · exact (by decide +kernel : kitB "int" "int" = some ("int" == "int"))
  · exact (by decide +kernel : kitB "str" "int" = some ("str" == "int"))
  · exact (by decide +kernel : kitB "tuple" "int" = some ("tuple" == "int"))
  · exact (by decide +kernel : kitB "int" "bool" = some ("int" == "bool"))
  · exact (by decide +kernel : kitB "str" "bool" = some ("str" == "bool"))
  · exact (by decide +kernel : kitB "tuple" "bool" = some ("tuple" == "bool"))
  · exact (by decide +kernel : kitB "int" "str" = some ("int" == "str"))
  · exact (by decide +kernel : kitB "str" "str" = some ("str" == "str"))
  · exact (by decide +kernel : kitB "tuple" "str" = some ("tuple" == "str"))
  · exact (by decide +kernel : kitB "int" "tuple" = some ("int" == "tuple"))
  · exact (by decide +kernel : kitB "str" "tuple" = some ("str" == "tuple"))
  · exact (by decide +kernel : kitB "tuple" "tuple" = some ("tuple" == "tuple"))
theorem isT_tup (l : List Dt) : (Dt.tup l).isT "tuple" = true := by simp [Dt.isT, Dt.tyN]
theorem isT_int (i : Int) : (Dt.int i).isT "tuple" = false := by simp [Dt.isT, Dt.tyN]
theorem isT_str (x : Str) : (Dt.str x).isT "tuple" = false := by simp [Dt.isT, Dt.tyN]
theorem isI_tup (l : List Dt) : (Dt.tup l).isT "int" = false := by simp [Dt.isT, Dt.tyN]
theorem isI_int (i : Int) : (Dt.int i).isT "int" = true := by simp [Dt.isT, Dt.tyN]
theorem isI_str (x : Str) : (Dt.str x).isT "int" = false := by simp [Dt.isT, Dt.tyN]
theorem isS_tup (l : List Dt) : (Dt.tup l).isT "str" = false := by simp [Dt.isT, Dt.tyN]
theorem isS_int (i : Int) : (Dt.int i).isT "str" = false := by simp [Dt.isT, Dt.tyN]
theorem isS_str (x : Str) : (Dt.str x).isT "str" = true := by simp [Dt.isT, Dt.tyN]
theorem isB (d : Dt) : d.isT "bool" = false := by
  cases d
  · exact (by decide +kernel : ("int" == "bool") = false)
  · exact (by decide +kernel : ("str" == "bool") = false)
  · exact (by decide +kernel : ("tuple" == "bool") = false)
end
section
variable {X : Cx}
def rIsD (K : PySem.W.Frag) (T : String) : List V → Hp → VK → Prop := fun xs H Q => ∃ (x : V) (d : Dt), xs = [x, .ty T] ∧ Is K H x d ∧ Q (.bl (d.isT T)) H
theorem cr_isD {T : String} (h : T = "int" ∨ T = "bool" ∨ T = "str" ∨ T = "tuple") : CallR X (.builtin "isinstance") (rIsD X.K T) := fun pins s σ H xs us Q I r z => by
  obtain ⟨x, d, rfl, hd, q⟩ := z
  exact call_isi pins s σ H _ us Q I r ⟨x, .ty T, _, _, _, rfl, .ty T, hd.ty, kit_ty (kitB_isT d h), q⟩
def rIxD (K : PySem.W.Frag) : R2 := fun x y H Q => ∃ l j d, Is K H x (.tup l) ∧ y = .int (j : Nat) ∧ l[j]? = some d ∧ ∀ v, Is K H v d → Q v H
theorem atI_nat0 {xs : List V} {j : Nat} {v : V} (h : xs[j]? = some v) : atI xs (j : Int) = some v := by
  exact atI_nat h
theorem ix_D : IxR X (rIxD X.K) := fun value slice pins s σ H x y v u Q I rx ry h hs => by
  obtain ⟨l, j, d, hx, rfl, hl, q⟩ := h
  obtain ⟨a, xs, rfl, ht, hi⟩ := hx.tupD
  obtain ⟨w, hw, iw⟩ := hi.get hl
  exact ix_tup value slice pins s σ H _ _ v u Q I rx ry ⟨a, xs, _, w, rfl, rfl, ht, atI_nat0 hw, q w iw⟩ hs
def rSlD (K : PySem.W.Frag) : V → Option Int → Option Int → Hp → VK → Prop := fun x lo hi H Q => ∃ l, Is K H x (.tup l) ∧ ∀ v H', Same H H' → Is K H' v (.tup (cutD l lo hi)) → Q v H'
theorem sl_D : SlR X (rSlD X.K) := fun pins s σ H x v vl vu lo hi sl Q I rx hs pl pu h => by
  obtain ⟨l, hx, q⟩ := h
  obtain ⟨a, xs, rfl, ht, hi'⟩ := hx.tupD
  refine sl_tupA pins s σ H _ v vl vu lo hi sl Q I rx hs pl pu ⟨a, xs, rfl, ht, fun e => q _ H (.refl H) ?_, fun _ p n => q _ _ (Sm.new n) (Is.new n (hi'.cut lo hi))⟩
  have c := hi'.cut lo hi
  have e2 : cutV xs lo hi = xs := by
    unfold cutV
    rw [e.1, e.2, List.drop_zero, Nat.sub_zero, List.take_length]
  rw [e2] at c
  exact .tup ht c
def rCatD (K : PySem.W.Frag) : R2 := fun x y H Q => ∃ l m, Is K H x (.tup l) ∧ Is K H y (.tup m) ∧ l.length + m.length ≤ sizeLine ∧ ∀ v H', Same H H' → Is K H' v (.tup (l ++ m)) → Q v H'
theorem op_catD : OpR X (binaryOp .Add) (rCatD X.K) := fun pins s σ H x y v u Q I rx ry h => by
  obtain ⟨l, m, hx, hy, hz, q⟩ := h
  obtain ⟨a, xs, rfl, ht, hi⟩ := hx.tupD
  obtain ⟨b, ys, rfl, ht2, hi2⟩ := hy.tupD
  refine op_catA pins s σ H _ _ v u Q I rx ry ⟨a, b, xs, ys, rfl, rfl, ht, ht2, by rw [hi.len, hi2.len]; exact hz, fun e => q _ H (.refl H) ?_, fun _ e => q _ H (.refl H) ?_, fun _ _ p n => q _ _ (Sm.new n) (Is.new n (hi.append hi2))⟩
  · subst e
    cases hi
    exact hy
  · subst e
    cases hi2
    rw [List.append_nil]
    exact hx
def rLenD (K : PySem.W.Frag) : List V → Hp → VK → Prop := fun vs H Q => ∃ x l, vs = [x] ∧ Is K H x (.tup l) ∧ Q (.int (l.length : Nat)) H
theorem cr_lenD : CallR X (.builtin "len") (rLenD X.K) := fun pins s σ H xs us Q I r z => by
  obtain ⟨x, l, rfl, hd, q⟩ := z
  obtain ⟨a, ys, rfl, ht, hi⟩ := hd.tupD
  exact call_len_seq pins s σ H _ us Q I r ⟨a, ys, rfl, .inr ht, by rw [hi.len]; exact q⟩
def Dt.flat : Dt → Bool
  | .tup _ => false
  | _ => true
def rInT (K : PySem.W.Frag) : R2 := fun x y H Q => ∃ d l, Is K H x d ∧ Is K H y (.tup l) ∧ d.flat = true ∧ l.all Dt.flat = true ∧ Q (.bl (decide (d ∈ l))) H
def rNinT (K : PySem.W.Frag) : R2 := fun x y H Q => ∃ d l, Is K H x d ∧ Is K H y (.tup l) ∧ d.flat = true ∧ l.all Dt.flat = true ∧ Q (.bl (!decide (d ∈ l))) H
theorem Is.flat {K : PySem.W.Frag} {H : Hp} {v : V} {d : Dt} (h : Is K H v d) : flatV v = d.flat := by cases h <;> rfl
theorem IsAll.flat {K : PySem.W.Frag} {H : Hp} : ∀ {vs : List V} {l : List Dt}, IsAll K H vs l → vs.all flatV = l.all Dt.flat
  | _, _, .nil => rfl
  | _, _, .cons h t => by rw [List.all_cons, List.all_cons, h.flat, t.flat]
theorem eqV_flat {K : PySem.W.Frag} {H : Hp} {v w : V} {d e : Dt} (h : Is K H v d) (k : Is K H w e) (fd : d.flat = true) (fe : e.flat = true) : eqV v w = decide (d = e) := by
  cases h with
  | int i =>
    cases k with
    | int j =>
      show (i == j) = decide (Dt.int i = Dt.int j)
      by_cases z : i = j
      · subst z
        rw [decide_eq_true rfl, beq_self_eq_true]
      · rw [decide_eq_false (fun q => z (Dt.int.inj q))]
        exact beq_false_of_ne z
    | str y => rw [decide_eq_false (fun q => by cases q)]; rfl
    | tup _ _ => cases fe
  | str x =>
    cases k with
    | int j => rw [decide_eq_false (fun q => by cases q)]; rfl
    | str y =>
      show (x == y) = decide (Dt.str x = Dt.str y)
      by_cases z : x = y
      · subst z
        rw [decide_eq_true rfl, beq_self_eq_true]
      · rw [decide_eq_false (fun q => z (Dt.str.inj q))]
        exact beq_false_of_ne z
    | tup _ _ => cases fe
  | tup _ _ => cases fd
theorem inV_flat {K : PySem.W.Frag} {H : Hp} {v : V} {d : Dt} (h : Is K H v d) (fd : d.flat = true) : ∀ {xs : List V} {l : List Dt}, IsAll K H xs l → l.all Dt.flat = true → inV v xs = decide (d ∈ l)
  | _, _, .nil, _ => by simp [inV]
  | _, _, .cons (d := e) (l := l) k t, fl => by
    rw [List.all_cons, Bool.and_eq_true] at fl
    have ih := inV_flat h fd t fl.2
    unfold inV at ih ⊢
    rw [List.any_cons, ih, eqV_flat k h fl.1 fd]
    by_cases z : d = e
    · subst z
      simp
    · have z2 : ¬ e = d := fun q => z q.symm
      simp [z, z2]
theorem op_inT : OpR X (compareOp .In) (rInT X.K) := fun pins s σ H x y v u Q I rx ry h => by
  obtain ⟨d, l, hx, hy, fd, fl, q⟩ := h
  obtain ⟨a, xs, rfl, ht, hi⟩ := hy.tupD
  refine op_in_seq pins s σ H _ _ v u Q I rx ry ⟨a, xs, rfl, .inr ht, hx.flat.trans fd, hi.flat.trans fl, ?_⟩
  rw [inV_flat hx fd hi fl]
  exact q
theorem op_notInT : OpR X (compareOp .NotIn) (rNinT X.K) := fun pins s σ H x y v u Q I rx ry h => by
  obtain ⟨d, l, hx, hy, fd, fl, q⟩ := h
  obtain ⟨a, xs, rfl, ht, hi⟩ := hy.tupD
  refine op_notIn_seq pins s σ H _ _ v u Q I rx ry ⟨a, xs, rfl, .inr ht, hx.flat.trans fd, hi.flat.trans fl, ?_⟩
  rw [inV_flat hx fd hi fl]
  exact q
theorem pe_gv {x : Str} {v : V} {pos : Pos} (hg : Gl X x) (h : ∃ u, X.mg x = some u ∧ RelV v u) (hd : (x == ("__debug__" : Str)) = false := by decide) : PE X (.Name x pos) (tC v) := by
  obtain ⟨u, h1, h2⟩ := h
  exact pe_glob hg h1 h2 hd
end
section
variable {w : World} {K : PySem.W.Frag} {mg : Str → Option Value}
theorem Tx.d_PAIRS (T : Tx w K mg) (H : Hp) : Is K H (.ref (He.ga K "PAIRS")) (.tup [.str "both", .str "either"]) := .tup (T.t_PAIRS H) (.cons (.str _) (.cons (.str _) .nil))
theorem Tx.d_HOWS (T : Tx w K mg) (H : Hp) : Is K H (.ref (He.ga K "HOWS")) (.tup [.str "rows", .str "lots", .str "turned"]) := .tup (T.t_HOWS H) (.cons (.str _) (.cons (.str _) (.cons (.str _) .nil)))
theorem Tx.d_LONE (T : Tx w K mg) (H : Hp) : Is K H (.ref (He.ga K "LONE")) (.tup [.str "not", .str "first", .str "turned", .str "all"]) := .tup (T.t_LONE H) (.cons (.str _) (.cons (.str _) (.cons (.str _) (.cons (.str _) .nil))))
theorem Tx.d_ANY (T : Tx w K mg) (H : Hp) : Is K H (.ref (He.ga K "ANY")) (.tup [.str "any"]) := .tup (T.t_ANY H) (.cons (.str _) .nil)
end
section
variable {K : PySem.W.Frag} {J : It} {G : Hp → Prop} {xs : List V} {l : List Dt}
theorem for_D (w : Walk J xs.length G (YAt xs)) {g : TG} {tb : TS} {D : Ends} {σ : L2.St} {H H0 : Hp} (il : IsAll K H0 xs l) (Pv : Nat → L2.St → Hp → Prop) (h0 : Pv 0 σ H) (hG : ∀ i σ H, Pv i σ H → G H ∧ Up K H0 H)
    (hs : ∀ i x d σ H, l[i]? = some d → Is K H x d → Pv i σ H → g x σ H fun σ2 H2 => tb { D with nx := Pv (i + 1), ct := Pv (i + 1), bk := D.nx } σ2 H2) (hd : ∀ σ H, Pv l.length σ H → D.nx σ H) :
    ∃ W : Nat → Nat → L2.St → Hp → Prop, (∃ m, W 0 m σ H) ∧ ∀ i m σ H, W i m σ H →
      (J.stop i H ∧ D.nx σ H) ∨ (J.go i H ∧ ∃ N : L2.St → Hp → Prop, (∀ σ' H', N σ' H' → ∃ m', m' < m ∧ W (i + 1) m' σ' H') ∧ ∀ x H', J.yld i H x H' → g x σ H' fun σ2 H2 => tb { D with nx := N, ct := N, bk := D.nx } σ2 H2) := by
  refine for_it w Pv h0 (fun i σ H _ p => (hG i σ H p).1) (fun i x σ H1 H2 hi p y => ?_) (fun σ H p => hd σ H (by rw [← il.len]; exact p))
  obtain ⟨rfl, hx⟩ := y
  obtain ⟨d, h1, h2⟩ := il.at_ hx
  exact hs i x d σ _ h1 (h2.up (hG i σ _ p).2) p
def LcP (H1 : Hp) (D : Addr) (F : Nat → Hp → List V → Prop) (i : Nat) (H : Hp) : Prop := Same H1 H ∧ ∃ acc, H D = some (.lst acc) ∧ F i H acc
def LcN (H1 : Hp) (D : Addr) (F : Nat → Hp → List V → Prop) (i : Nat) (y : V) (H4 : Hp) : Prop := ∃ acc, H4 D = some (.lst acc) ∧ acc.length < sizeLine ∧ LcP H1 D F i (upd H4 D (.lst (acc ++ [y])))
theorem lcn {H1 H H4 : Hp} {D : Addr} {F : Nat → Hp → List V → Prop} {i : Nat} {y : V} {acc : List V} (nD : H1 D = none) (s1 : Same H1 H) (hD : H D = some (.lst acc)) (s2 : Same H H4) (hl : acc.length < sizeLine) (f : F i (upd H4 D (.lst (acc ++ [y]))) (acc ++ [y])) : LcN H1 D F i y H4 :=
  ⟨acc, s2 _ _ hD, hl, Sm.put (s1.trans s2) nD, _, upd_same, f⟩
theorem lc_W {n : Nat} {Y : Nat → Hp → V → Hp → Prop} (w : Walk J n G Y) {g : TG} {tt : TT} {te : TE} {vs : List Nat} {σ : L2.St} {H1 : Hp} {D : Addr} {Qd : Hp → Prop} (nD : H1 D = none) (F : Nat → Hp → List V → Prop) (F0 : F 0 (upd H1 D (.lst [])) [])
    (hG : ∀ H, Same H1 H → G H) (hs : ∀ i x H H' acc, i < n → Same H1 H → H D = some (.lst acc) → Y i H x H' → F i H acc → g x (wipe σ vs) H' fun σ2 H2 => wipe σ2 vs = wipe σ vs ∧ tt σ2 H2 fun b H3 =>
      if b = true then te σ2 H3 fun y H4 => LcN H1 D F (i + 1) y H4 else LcP H1 D F (i + 1) H3) (hd : ∀ H acc, Same H1 H → H D = some (.lst acc) → F n H acc → Qd H) :
    ∃ W : Nat → Nat → Hp → Prop, (∃ m, W 0 m (upd H1 D (.lst []))) ∧ ∀ i m H, W i m H →
      (J.stop i H ∧ Qd H) ∨ (J.go i H ∧ ∃ Nx : Hp → Prop, (∀ H', Nx H' → ∃ m', m' < m ∧ W (i + 1) m' H') ∧ ∀ x H', J.yld i H x H' → g x (wipe σ vs) H' fun σ2 H2 => wipe σ2 vs = wipe σ vs ∧ tt σ2 H2 fun b H3 =>
        if b = true then te σ2 H3 fun y H4 => ∃ acc, H4 D = some (.lst acc) ∧ acc.length < sizeLine ∧ Nx (upd H4 D (.lst (acc ++ [y]))) else Nx H3) :=
  lc_it w (LcP H1 D F) ⟨Sm.new nD, [], upd_same, F0⟩ (fun i H _ p => hG H p.1) (fun i x H H' hi p y => by
    obtain ⟨s1, acc, hD, f⟩ := p
    exact hs i x H H' acc hi s1 hD y f) (fun H p => by
    obtain ⟨s1, acc, hD, f⟩ := p
    exact hd H acc s1 hD f)
theorem lc_D (w : Walk J xs.length G (YAt xs)) {g : TG} {tt : TT} {te : TE} {vs : List Nat} {σ : L2.St} {H1 : Hp} {D : Addr} {Qd : Hp → Prop} (il : IsAll K H1 xs l) (nD : H1 D = none) (F : Nat → Hp → List V → Prop) (F0 : F 0 (upd H1 D (.lst [])) [])
    (hG : ∀ H, Same H1 H → G H) (hs : ∀ i x d H acc, l[i]? = some d → Same H1 H → H D = some (.lst acc) → Is K H x d → F i H acc → g x (wipe σ vs) H fun σ2 H2 => wipe σ2 vs = wipe σ vs ∧ tt σ2 H2 fun b H3 =>
      if b = true then te σ2 H3 fun y H4 => LcN H1 D F (i + 1) y H4 else LcP H1 D F (i + 1) H3) (hd : ∀ H acc, Same H1 H → H D = some (.lst acc) → F l.length H acc → Qd H) :
    ∃ W : Nat → Nat → Hp → Prop, (∃ m, W 0 m (upd H1 D (.lst []))) ∧ ∀ i m H, W i m H →
      (J.stop i H ∧ Qd H) ∨ (J.go i H ∧ ∃ Nx : Hp → Prop, (∀ H', Nx H' → ∃ m', m' < m ∧ W (i + 1) m' H') ∧ ∀ x H', J.yld i H x H' → g x (wipe σ vs) H' fun σ2 H2 => wipe σ2 vs = wipe σ vs ∧ tt σ2 H2 fun b H3 =>
        if b = true then te σ2 H3 fun y H4 => ∃ acc, H4 D = some (.lst acc) ∧ acc.length < sizeLine ∧ Nx (upd H4 D (.lst (acc ++ [y]))) else Nx H3) :=
  lc_W w nD F F0 hG (fun i x H H' acc hi s1 hD y f => by
    obtain ⟨rfl, hx⟩ := y
    obtain ⟨d, h1, h2⟩ := il.at_ hx
    exact hs i x d _ acc h1 s1 hD (h2.sm s1) f) (fun H acc s1 hD f => hd H acc s1 hD (by rw [← il.len]; exact f))
end
theorem opOr {X : Cx} {f : Value → Value → Sem Value} {r r' : R2} (h : OpR X f r) (h' : OpR X f r') : OpR X f (fun x y H Q => r x y H Q ∨ r' x y H Q) := fun pins s σ H x y v u Q I rx ry z => by
  rcases z with z | z
  · exact h pins s σ H x y v u Q I rx ry z
  · exact h' pins s σ H x y v u Q I rx ry z
theorem ixOr {X : Cx} {r r' : R2} (h : IxR X r) (h' : IxR X r') : IxR X (fun x y H Q => r x y H Q ∨ r' x y H Q) := h.or h'
theorem walk_zipT {K : PySem.W.Frag} {a b : Addr} {xs ys : List V} {n : Nat} (hn : n = min xs.length ys.length) : Walk (RZ.ItzT K a b) n (fun H => SqT K H a xs ∧ SqT K H b ys) (YPair (fun i => xs[i]?) (fun i => ys[i]?)) := by
  subst hn
  refine ⟨fun i _ hi q => ?_, fun _ q => ⟨xs, ys, q.1, q.2, by omega⟩, fun i H v H' _ q y => ?_⟩
  · have h1 : i < xs.length := by omega
    have h2 : i < ys.length := by omega
    exact ⟨xs, ys, xs[i], ys[i], q.1, q.2, by simp [h1], by simp [h2]⟩
  · obtain ⟨T, x, z, h1, h2, h3, h4, h5⟩ := y
    exact ⟨T, x, z, h1, h2, h3, h4 xs q.1, h5 ys q.2⟩
section
variable {X : Cx} (K : PySem.W.Frag)
theorem inT (e : X.K = K := by rfl) : OpR X (compareOp .In) (rInT K) := e ▸ op_inT
theorem notInT (e : X.K = K := by rfl) : OpR X (compareOp .NotIn) (rNinT K) := e ▸ op_notInT
theorem inS (e : X.K = K := by rfl) : OpR X (compareOp .In) (rIn K false) := e ▸ op_in_seq
theorem notInS (e : X.K = K := by rfl) : OpR X (compareOp .NotIn) (rIn K true) := e ▸ op_notIn_seq
theorem eqT (hu : X.A.units + 64 < cLine) (e : X.K = K := by rfl) : OpR X (compareOp .Eq) (rEqT K) := e ▸ op_eqT hu
theorem neT (hu : X.A.units + 64 < cLine) (e : X.K = K := by rfl) : OpR X (compareOp .NotEq) (rNeT K) := e ▸ op_neT hu
theorem eqN (hu : X.A.units + 64 < cLine) (e : X.K = K := by rfl) : OpR X (compareOp .Eq) (rEqN K) := e ▸ op_eqN hu
theorem neN (hu : X.A.units + 64 < cLine) (e : X.K = K := by rfl) : OpR X (compareOp .NotEq) (rNeN K) := e ▸ op_neN hu
theorem ltT (hu : X.A.units + 64 < cLine) (e : X.K = K := by rfl) : OpR X (compareOp .Lt) (rLtT K) := e ▸ op_ltT (Nat.lt_of_le_of_lt (Nat.le_add_right _ 64) hu)
theorem ixD (e : X.K = K := by rfl) : IxR X (rIxD K) := e ▸ ix_D
theorem ixL (e : X.K = K := by rfl) : IxR X (rIxL K) := e ▸ ix_list
theorem slD (e : X.K = K := by rfl) : SlR X (rSlD K) := e ▸ sl_D
theorem catD (e : X.K = K := by rfl) : OpR X (binaryOp .Add) (rCatD K) := e ▸ op_catD
theorem lenD (e : X.K = K := by rfl) : CallR X (.builtin "len") (rLenD K) := e ▸ cr_lenD
theorem isD (T : String) (h : T = "int" ∨ T = "bool" ∨ T = "str" ∨ T = "tuple") (e : X.K = K := by rfl) : CallR X (.builtin "isinstance") (rIsD K T) := e ▸ cr_isD h
theorem pgTup {es : List Expr} {k : Nat} {t : TGs} {n : Nat} {pos : Pos} (hc : X.calm = true) (h : PGs X es t) (hn : (assignEach es X.env).length = n := by rfl) (hst : (assignEach es X.env).findIdx? (·.1) = none := by rfl) (e : X.K = K := by rfl) : PG X (.Tuple es k pos) (gTup K n t) := e ▸ pg_tup hc h hn hst
end
theorem ix_kd {X : Cx} {d : Addr} {es : Array DictEntry} {n : Nat} (D : KDict X.K X.w d es n) : IxR X (fun x y H Q => ∃ (z : Str) (u0 : Value) (v0 : V), x = .ref d ∧ y = .str z ∧ PySem.W.nsIn X.K d z = some (some u0) ∧ RelV v0 u0 ∧ Q v0 H) := by
  intro value slice pins s σ H x y v u Q I rx ry h hs
  obtain ⟨z, u0, v0, rfl, rfl, e, r, q⟩ := h
  cases rx
  obtain ⟨t, rfl⟩ := ry
  exact subscriptTail_builtinR (x := u0) (kd_type D I) slot_dict_getitem.lookup
    (wpAny_getItem_of (PySem.strKind_is X.prog X.w z t) (PySem.W.mapOf_K (prog := X.prog) I.kIn D.at_ D.lit) (PySem.W.find_K D.at_ e) ⟨rfl, v0, H, I.tok _, r, q⟩) hs
end Wf
set_option Elab.async false
set_option linter.all false
set_option maxRecDepth 100000
set_option maxHeartbeats 400000
namespace Wf
open PySem PySem.Spec PyProof.Rows L2
mutual
def Dt.dep : Dt → Nat
  | .int _ => 0
  | .str _ => 0
  | .tup l => Dt.deps l + 1
def Dt.deps : List Dt → Nat
  | [] => 0
  | d :: l => max d.dep (Dt.deps l)
end
mutual
def Dt.sz : Dt → Nat
  | .int _ => 1
  | .str _ => 1
  | .tup l => 1 + Dt.szs l
def Dt.szs : List Dt → Nat
  | [] => 0
  | d :: l => d.sz + Dt.szs l
end
mutual
def Dt.thg : Dt → Bool
  | .int i => decide (0 ≤ i) && decide (i ≤ 99)
  | .str _ => false
  | .tup l => Dt.thgs l
def Dt.thgs : List Dt → Bool
  | [] => true
  | d :: l => d.thg && Dt.thgs l
end
mutual
def Dt.sok : Dt → Bool
  | .int _ => true
  | .str x => PyData.strOk x
  | .tup l => Dt.soks l
def Dt.soks : List Dt → Bool
  | [] => true
  | d :: l => d.sok && Dt.soks l
end
mutual
theorem Dt.lay : ∀ d : Dt, d.toP.canLay0 = d.sok
  | .int _ => by simp [Dt.toP, PyData.canLay0, Dt.sok]
  | .str x => by simp [Dt.toP, PyData.canLay0, Dt.sok]
  | .tup l => by simp [Dt.toP, PyData.canLay0, Dt.sok, Dt.lays l]
theorem Dt.lays : ∀ l : List Dt, PyData.canLayAll0 (Dt.toPs l) = Dt.soks l
  | [] => by simp [Dt.toPs, PyData.canLayAll0, Dt.soks]
  | d :: l => by simp [Dt.toPs, PyData.canLayAll0, Dt.soks, Dt.lay d, Dt.lays l]
end
mutual
theorem Dt.depP : ∀ d : Dt, d.toP.depth = d.dep
  | .int _ => by simp [Dt.toP, PyData.depth, Dt.dep]
  | .str x => by simp [Dt.toP, PyData.depth, Dt.dep]
  | .tup l => by simp [Dt.toP, PyData.depth, Dt.dep, Dt.depPs l]
theorem Dt.depPs : ∀ l : List Dt, PyData.depthAll (Dt.toPs l) = Dt.deps l
  | [] => by simp [Dt.toPs, PyData.depthAll, Dt.deps]
  | d :: l => by simp [Dt.toPs, PyData.depthAll, Dt.deps, Dt.depP d, Dt.depPs l]
end
theorem Dt.fit_of {d : Dt} (h : d.sok = true) (k : d.dep ≤ 64) : d.fit := by
  show SeqAt.shaped d.toP = true
  unfold SeqAt.shaped
  rw [Dt.lay, Dt.depP, h, decide_eq_true k]
  rfl
mutual
theorem Dt.sok_thg : ∀ d : Dt, d.thg = true → d.sok = true
  | .int _, _ => by simp [Dt.sok]
  | .str _, h => by simp [Dt.thg] at h
  | .tup l, h => by
    simp only [Dt.thg] at h
    simp only [Dt.sok]
    exact Dt.soks_thgs l h
theorem Dt.soks_thgs : ∀ l : List Dt, Dt.thgs l = true → Dt.soks l = true
  | [], _ => by simp [Dt.soks]
  | d :: l, h => by
    simp only [Dt.thgs, Bool.and_eq_true] at h
    simp only [Dt.soks, Bool.and_eq_true]
    exact ⟨Dt.sok_thg d h.1, Dt.soks_thgs l h.2⟩
end
theorem Dt.thgs_iff (l : List Dt) : Dt.thgs l = true ↔ ∀ d ∈ l, d.thg = true := by
  induction l with
  | nil => simp [Dt.thgs]
  | cons d l ih => simp [Dt.thgs, ih]
theorem Dt.soks_iff (l : List Dt) : Dt.soks l = true ↔ ∀ d ∈ l, d.sok = true := by
  induction l with
  | nil => simp [Dt.soks]
  | cons d l ih => simp [Dt.soks, ih]
theorem Dt.deps_le (l : List Dt) (n : Nat) : Dt.deps l ≤ n ↔ ∀ d ∈ l, d.dep ≤ n := by
  induction l with
  | nil => simp [Dt.deps]
  | cons d l ih => simp [Dt.deps, Nat.max_le, ih]
theorem Dt.szs_len : ∀ l : List Dt, l.length ≤ Dt.szs l
  | [] => Nat.zero_le _
  | d :: l => by
    have := Dt.szs_len l
    have h : 1 ≤ d.sz := by cases d <;> simp [Dt.sz] <;> omega
    simp only [List.length_cons, Dt.szs]
    omega
theorem Dt.sz_mem : ∀ {l : List Dt} {d : Dt}, d ∈ l → d.sz ≤ Dt.szs l
  | [], _, h => by cases h
  | e :: l, d, h => by
    simp only [Dt.szs]
    rcases List.mem_cons.mp h with rfl | h
    · omega
    · have := Dt.sz_mem h
      omega
theorem Dt.szs_append (l m : List Dt) : Dt.szs (l ++ m) = Dt.szs l + Dt.szs m := by
  induction l with
  | nil => simp [Dt.szs]
  | cons d l ih => simp [Dt.szs, ih]; omega
theorem Dt.sz_pos (d : Dt) : 1 ≤ d.sz := by cases d <;> simp [Dt.sz]
mutual
theorem Dt.dep_lt : ∀ d : Dt, d.dep < d.sz + 0 ∨ d.dep + 1 ≤ d.sz + 1
  | .int _ => .inr (by simp [Dt.dep, Dt.sz])
  | .str _ => .inr (by simp [Dt.dep, Dt.sz])
  | .tup l => .inr (by have := Dt.deps_lt l; simp only [Dt.dep, Dt.sz]; omega)
theorem Dt.deps_lt : ∀ l : List Dt, Dt.deps l ≤ Dt.szs l
  | [] => by simp [Dt.deps]
  | d :: l => by
    have h1 := Dt.dep_lt d
    have h2 := Dt.deps_lt l
    simp only [Dt.deps, Dt.szs]
    omega
end
theorem Dt.dep_le (d : Dt) : d.dep ≤ d.sz := by have := Dt.dep_lt d; omega
structure Dt.good (d : Dt) : Prop where
  thg : d.thg = true
  dep : d.dep ≤ 5
  sz : d.sz ≤ 10
theorem Dt.good.fit {d : Dt} (h : d.good) : d.fit := Dt.fit_of (Dt.sok_thg d h.thg) (by have := h.dep; omega)
theorem Dt.good.mem {d : Dt} {l : List Dt} (h : (Dt.tup l).good) (m : d ∈ l) : d.good := by
  obtain ⟨h1, h2, h3⟩ := h
  simp only [Dt.thg, Dt.dep, Dt.sz] at h1 h2 h3
  have s := Dt.sz_mem m
  exact ⟨(Dt.thgs_iff l).mp h1 d m, (Dt.deps_le l 5).mp (by omega) d m, by omega⟩
abbrev Knd := List (List Int)
def Knd.dt (k : Knd) : Dt := .tup [.tup (k.map fun c => .tup (c.map Dt.int)), .str "rows"]
inductive KOk : Knd → Prop
  | none : KOk []
  | one (a b : Int) : 0 ≤ a → a < b → b ≤ 99 → KOk [[a, b]]
  | two (a b c d : Int) : 0 ≤ a → a < b → b ≤ 99 → a < c → c < d → d ≤ 99 → b ≠ c → b ≠ d → KOk [[a, b], [c, d]]
mutual
def likeD (k : Knd) : Dt → Dt → Bool
  | .int a, .int b => decide (a = b) || k.any fun c => decide (a ∈ c) && decide (b ∈ c)
  | .tup l, .tup m => likeDs k l m
  | _, _ => false
def likeDs (k : Knd) : List Dt → List Dt → Bool
  | [], [] => true
  | d :: l, e :: m => likeD k d e && likeDs k l m
  | _, _ => false
end
mutual
def canonD (k : Knd) : Dt → Dt
  | .int a => .int (((k.find? fun c => decide (a ∈ c)).bind List.head?).getD a)
  | .str x => .str x
  | .tup l => .tup (canonDs k l)
def canonDs (k : Knd) : List Dt → List Dt
  | [] => []
  | d :: l => canonD k d :: canonDs k l
end
theorem canon_int {k : Knd} (h : KOk k) (a b : Int) : (canonD k (.int a) = canonD k (.int b)) ↔ likeD k (.int a) (.int b) = true := by
  cases h with
  | none => simp [canonD, likeD]
  | one p q h1 h2 h3 =>
    simp only [canonD, likeD, List.find?, List.any, List.mem_cons, List.not_mem_nil, or_false]
    by_cases e1 : a = p ∨ a = q <;> by_cases e2 : b = p ∨ b = q <;> simp [e1, e2] <;> omega
  | two p q r s h1 h2 h3 h4 h5 h6 h7 h8 =>
    simp only [canonD, likeD, List.find?, List.any, List.mem_cons, List.not_mem_nil, or_false]
    by_cases e1 : a = p ∨ a = q <;> by_cases e2 : b = p ∨ b = q <;> by_cases e3 : a = r ∨ a = s <;> by_cases e4 : b = r ∨ b = s <;> simp [e1, e2, e3, e4] <;> omega
mutual
theorem canon_like {k : Knd} (h : KOk k) : ∀ d e : Dt, d.thg = true → e.thg = true → ((canonD k d = canonD k e) ↔ likeD k d e = true)
  | .int a, .int b, _, _ => canon_int h a b
  | .tup l, .tup m, hl, hm => by
    simp only [Dt.thg] at hl hm
    simp only [canonD, likeD, Dt.tup.injEq]
    exact canons_like h l m hl hm
  | .int a, .tup m, _, _ => by simp [canonD, likeD]
  | .tup l, .int b, _, _ => by simp [canonD, likeD]
  | .str x, _, hl, _ => by simp [Dt.thg] at hl
  | .int _, .str x, _, hl => by simp [Dt.thg] at hl
  | .tup _, .str x, _, hl => by simp [Dt.thg] at hl
theorem canons_like {k : Knd} (h : KOk k) : ∀ l m : List Dt, Dt.thgs l = true → Dt.thgs m = true → ((canonDs k l = canonDs k m) ↔ likeDs k l m = true)
  | [], [], _, _ => by simp [canonDs, likeDs]
  | d :: l, e :: m, hl, hm => by
    simp only [Dt.thgs, Bool.and_eq_true] at hl hm
    simp only [canonDs, likeDs, List.cons.injEq, Bool.and_eq_true]
    rw [canon_like h d e hl.1 hm.1, canons_like h l m hl.2 hm.2]
  | [], _ :: _, _, _ => by simp [canonDs, likeDs]
  | _ :: _, [], _, _ => by simp [canonDs, likeDs]
end
inductive Lw where
  | nt
  | first
  | all
def Lw.word : Lw → Str
  | .nt => "not"
  | .first => "first"
  | .all => "all"
mutual
inductive Pt where
  | any
  | is_ (d : Dt)
  | two (both : Bool) (p q : Pt)
  | lone (k : Lw) (p : Pt)
  | row (l : Its)
inductive Its where
  | nil
  | cons (stretch : Bool) (p : Pt) (l : Its)
end
def twoW (b : Bool) : Str := if b then "both" else "either"
def itW (s : Bool) : Str := if s then "stretch" else "one"
mutual
def Pt.dt : Pt → Dt
  | .any => .tup [.str "any"]
  | .is_ d => .tup [.str "is", d]
  | .two b p q => .tup [.str (twoW b), p.dt, q.dt]
  | .lone k p => .tup [.str k.word, p.dt]
  | .row l => .tup [.str "row", .tup l.dts]
def Its.dts : Its → List Dt
  | .nil => []
  | .cons s p l => .tup [.str (itW s), p.dt] :: l.dts
end
def Its.len : Its → Nat
  | .nil => 0
  | .cons _ _ l => l.len + 1
theorem Its.dts_len : ∀ l : Its, l.dts.length = l.len
  | .nil => rfl
  | .cons _ _ l => by simp [Its.dts, Its.len, Its.dts_len l]
mutual
def Pt.pcs : Pt → Nat
  | .any => 1
  | .is_ d => d.sz
  | .two _ p q => 1 + (p.pcs + q.pcs)
  | .lone _ p => 1 + p.pcs
  | .row l => 1 + l.pcs
def Its.pcs : Its → Nat
  | .nil => 0
  | .cons _ p l => p.pcs + l.pcs
end
mutual
def Pt.dp : Pt → Nat
  | .any => 1
  | .is_ _ => 1
  | .two _ p q => 1 + max p.dp q.dp
  | .lone _ p => 1 + p.dp
  | .row l => 1 + l.dp
def Its.dp : Its → Nat
  | .nil => 0
  | .cons _ p l => max p.dp l.dp
end
def least2 : Option Nat → Option Nat → Option Nat
  | some a, some b => some (min a b)
  | some a, none => some a
  | none, b => b
def least (l : List (Option Nat)) : Option Nat := l.foldr least2 none
def sum2 : Option Nat → Option Nat → Option Nat
  | some a, some b => some (a + b)
  | _, _ => none
mutual
def wt (k : Knd) : Pt → Dt → Option Nat
  | .any, _ => some 0
  | .is_ d, t => if likeD k d t = true then some 0 else none
  | .two true p q, t => sum2 (wt k p t) (wt k q t)
  | .two false p q, t => least2 (wt k p t) (sum2 (some 1) (wt k q t))
  | .lone .first p, t => wt k p t
  | .lone .nt _, _ => none
  | .lone .all p, .tup l => l.foldr (fun t a => sum2 (wt k p t) a) (some 0)
  | .lone .all _, _ => none
  | .row s, .tup l => wts k s l
  | .row _, _ => none
def wts (k : Knd) : Its → List Dt → Option Nat
  | .nil, l => if l = [] then some 0 else none
  | .cons false _ _, [] => none
  | .cons false p s, t :: l => sum2 (wt k p t) (wts k s l)
  | .cons true p .nil, l => wt k p (.tup l)
  | .cons true p (.cons b q s), l => least ((List.range (l.length + 1)).map fun n => sum2 (some n) (sum2 (wt k p (.tup (l.take n))) (wts k (.cons b q s) (l.drop n))))
end
end Wf
set_option Elab.async false
set_option linter.all false
set_option maxRecDepth 100000
set_option maxHeartbeats 400000
namespace Wf
open PySem PySem.Spec PyProof.Rows L2
theorem sc_is_whole : FnScope ["thing"] ["thing"] (defScope sIsWhole) := ⟨rfl, rfl, rfl, by decide +kernel, rfl, by decide +kernel, by decide +kernel⟩
theorem sc_is_among : FnScope ["thing", "least", "most"] ["thing", "least", "most"] (defScope sIsAmong) := ⟨rfl, rfl, rfl, by decide +kernel, rfl, by decide +kernel, by decide +kernel⟩
theorem sc_is_leaf : FnScope ["thing"] ["thing"] (defScope sIsLeaf) := ⟨rfl, rfl, rfl, by decide +kernel, rfl, by decide +kernel, by decide +kernel⟩
theorem sc_size_within : FnScope ["thing", "deep", "found", "one", "many"] ["thing", "deep"] (defScope sSizeWithin) := ⟨rfl, rfl, rfl, by decide +kernel, rfl, by decide +kernel, by decide +kernel⟩
theorem sc_is_worth : FnScope ["thing"] ["thing"] (defScope sIsWorth) := ⟨rfl, rfl, rfl, by decide +kernel, rfl, by decide +kernel, by decide +kernel⟩
theorem sc_is_thing : FnScope ["thing"] ["thing"] (defScope sIsThing) := ⟨rfl, rfl, rfl, by decide +kernel, rfl, by decide +kernel, by decide +kernel⟩
theorem sc_need_thing : FnScope ["thing"] ["thing"] (defScope sNeedThing) := ⟨rfl, rfl, rfl, by decide +kernel, rfl, by decide +kernel, by decide +kernel⟩
theorem sc_goes_on : FnScope ["thing"] ["thing"] (defScope sGoesOn) := ⟨rfl, rfl, rfl, by decide +kernel, rfl, by decide +kernel, by decide +kernel⟩
theorem sc_lean : FnScope ["thing"] ["thing"] (defScope sLean) := ⟨rfl, rfl, rfl, by decide +kernel, rfl, by decide +kernel, by decide +kernel⟩
theorem sc_at_place : FnScope ["row", "number", "stem", "around"] ["row", "number"] (defScope sAtPlace) := ⟨rfl, rfl, rfl, by decide +kernel, rfl, by decide +kernel, by decide +kernel⟩
theorem sc_ahead_of : FnScope ["row", "many", "number"] ["row", "many"] (defScope sAheadOf) := ⟨rfl, rfl, rfl, by decide +kernel, rfl, by decide +kernel, by decide +kernel⟩
theorem sc_behind : FnScope ["row", "many", "stem", "around", "turn"] ["row", "many"] (defScope sBehind) := ⟨rfl, rfl, rfl, by decide +kernel, rfl, by decide +kernel, by decide +kernel⟩
theorem sc_rises : FnScope ["things", "one", "other"] ["things"] (defScope sRises) := ⟨rfl, rfl, rfl, by decide +kernel, rfl, by decide +kernel, by decide +kernel⟩
theorem sc_is_class : FnScope ["thing", "one"] ["thing"] (defScope sIsClass) := ⟨rfl, rfl, rfl, by decide +kernel, rfl, by decide +kernel, by decide +kernel⟩
theorem sc_is_kind : FnScope ["thing", "leaves", "one"] ["thing"] (defScope sIsKind) := ⟨rfl, rfl, rfl, by decide +kernel, rfl, by decide +kernel, by decide +kernel⟩
theorem sc_need_kind : FnScope ["thing"] ["thing"] (defScope sNeedKind) := ⟨rfl, rfl, rfl, by decide +kernel, rfl, by decide +kernel, by decide +kernel⟩
theorem sc_canon_of : FnScope ["kind", "worth", "some", "found", "one"] ["kind", "worth"] (defScope sCanonOf) := ⟨rfl, rfl, rfl, by decide +kernel, rfl, by decide +kernel, by decide +kernel⟩
theorem sc_are_like : FnScope ["kind", "one", "other", "rows", "row", "stem", "around", "some", "worth"] ["kind", "one", "other"] (defScope sAreLike) := ⟨rfl, rfl, rfl, by decide +kernel, rfl, by decide +kernel, by decide +kernel⟩
theorem sc_are_items : FnScope ["word", "thing", "place", "item"] ["word", "thing"] (defScope sAreItems) := ⟨rfl, rfl, rfl, by decide +kernel, rfl, by decide +kernel, by decide +kernel⟩
theorem sc_has_form : FnScope ["thing", "word", "many"] ["thing"] (defScope sHasForm) := ⟨rfl, rfl, rfl, by decide +kernel, rfl, by decide +kernel, by decide +kernel⟩
theorem sc_within : FnScope ["pattern", "word", "item"] ["pattern"] (defScope sWithin) := ⟨rfl, rfl, rfl, by decide +kernel, rfl, by decide +kernel, by decide +kernel⟩
theorem sc_parts_within : FnScope ["thing", "deep", "found", "one", "many"] ["thing", "deep"] (defScope sPartsWithin) := ⟨rfl, rfl, rfl, by decide +kernel, rfl, by decide +kernel, by decide +kernel⟩
theorem sc_is_pattern : FnScope ["thing"] ["thing"] (defScope sIsPattern) := ⟨rfl, rfl, rfl, by decide +kernel, rfl, by decide +kernel, by decide +kernel⟩
theorem sc_need_form : FnScope ["thing"] ["thing"] (defScope sNeedForm) := ⟨rfl, rfl, rfl, by decide +kernel, rfl, by decide +kernel, by decide +kernel⟩
theorem sc_all_parts : FnScope ["pattern", "found", "one"] ["pattern"] (defScope sAllParts) := ⟨rfl, rfl, rfl, by decide +kernel, rfl, by decide +kernel, by decide +kernel⟩
theorem sc_told_by : FnScope ["pattern", "word", "part"] ["pattern", "word"] (defScope sToldBy) := ⟨rfl, rfl, rfl, by decide +kernel, rfl, by decide +kernel, by decide +kernel⟩
theorem sc_all_uses : FnScope ["pattern", "part"] ["pattern"] (defScope sAllUses) := ⟨rfl, rfl, rfl, by decide +kernel, rfl, by decide +kernel, by decide +kernel⟩
theorem sc_uses_fit : FnScope ["book", "pattern", "known", "rule", "name", "many"] ["book", "pattern"] (defScope sUsesFit) := ⟨rfl, rfl, rfl, by decide +kernel, rfl, by decide +kernel, by decide +kernel⟩
theorem sc_first_bad : FnScope ["thing", "names", "number", "rule", "hole"] ["thing"] (defScope sFirstBad) := ⟨rfl, rfl, rfl, by decide +kernel, rfl, by decide +kernel, by decide +kernel⟩
theorem sc_need_book : FnScope ["thing", "wrong"] ["thing"] (defScope sNeedBook) := ⟨rfl, rfl, rfl, by decide +kernel, rfl, by decide +kernel, by decide +kernel⟩
theorem sc_need_pattern : FnScope ["book", "thing"] ["book", "thing"] (defScope sNeedPattern) := ⟨rfl, rfl, rfl, by decide +kernel, rfl, by decide +kernel, by decide +kernel⟩
theorem sc_is_stand : FnScope ["thing", "pair", "name", "worth"] ["thing"] (defScope sIsStand) := ⟨rfl, rfl, rfl, by decide +kernel, rfl, by decide +kernel, by decide +kernel⟩
theorem sc_weight_of : FnScope ["run"] ["run"] (defScope sWeightOf) := ⟨rfl, rfl, rfl, by decide +kernel, rfl, by decide +kernel, by decide +kernel⟩
theorem sc_left_in : FnScope ["row"] ["row"] (defScope sLeftIn) := ⟨rfl, rfl, rfl, by decide +kernel, rfl, by decide +kernel, by decide +kernel⟩
theorem sc_put_behind : FnScope ["choices", "runs", "more", "stand"] ["choices", "runs"] (defScope sPutBehind) := ⟨rfl, rfl, rfl, by decide +kernel, rfl, by decide +kernel, by decide +kernel⟩
theorem sc_need_asked : FnScope ["book", "kind", "pattern", "thing"] ["book", "kind", "pattern", "thing"] (defScope sNeedAsked) := ⟨rfl, rfl, rfl, by decide +kernel, rfl, by decide +kernel, by decide +kernel⟩
theorem sc_need_book_and_kind : FnScope ["book", "kind"] ["book", "kind"] (defScope sNeedBookAndKind) := ⟨rfl, rfl, rfl, by decide +kernel, rfl, by decide +kernel, by decide +kernel⟩
theorem sc_need_room : FnScope ["thing"] ["thing"] (defScope sNeedRoom) := ⟨rfl, rfl, rfl, by decide +kernel, rfl, by decide +kernel, by decide +kernel⟩
theorem sc_runs : FnScope ["book", "kind", "pattern", "thing", "stand", "room", "found"] ["book", "kind", "pattern", "thing", "stand", "room"] (defScope sRuns) := ⟨rfl, rfl, rfl, by decide +kernel, rfl, by decide +kernel, by decide +kernel⟩
theorem sc_is_plain_item : FnScope ["item"] ["item"] (defScope sIsPlainItem) := ⟨rfl, rfl, rfl, by decide +kernel, rfl, by decide +kernel, by decide +kernel⟩
theorem sc_inner_of : FnScope ["pattern", "word", "one", "item"] ["pattern"] (defScope sInnerOf) := ⟨rfl, rfl, rfl, by decide +kernel, rfl, by decide +kernel, by decide +kernel⟩
theorem sc_is_plain : FnScope ["pattern", "waiting", "inner"] ["pattern"] (defScope sIsPlain) := ⟨rfl, rfl, rfl, by decide +kernel, rfl, by decide +kernel, by decide +kernel⟩
theorem sc_need_plain : FnScope ["pattern"] ["pattern"] (defScope sNeedPlain) := ⟨rfl, rfl, rfl, by decide +kernel, rfl, by decide +kernel, by decide +kernel⟩
theorem sc_need_by_rows : FnScope ["kind"] ["kind"] (defScope sNeedByRows) := ⟨rfl, rfl, rfl, by decide +kernel, rfl, by decide +kernel, by decide +kernel⟩
theorem sc_is_wide : FnScope ["thing", "layer", "many", "deep", "rows", "row", "one"] ["thing"] (defScope sIsWide) := ⟨rfl, rfl, rfl, by decide +kernel, rfl, by decide +kernel, by decide +kernel⟩
theorem sc_need_wide : FnScope ["thing"] ["thing"] (defScope sNeedWide) := ⟨rfl, rfl, rfl, by decide +kernel, rfl, by decide +kernel, by decide +kernel⟩
theorem sc_add_pieces : FnScope ["found", "pattern", "number", "inner"] ["found", "pattern"] (defScope sAddPieces) := ⟨rfl, rfl, rfl, by decide +kernel, rfl, by decide +kernel, by decide +kernel⟩
theorem sc_pieces_by : FnScope ["patterns", "found", "pattern"] ["patterns"] (defScope sPiecesBy) := ⟨rfl, rfl, rfl, by decide +kernel, rfl, by decide +kernel, by decide +kernel⟩
theorem sc_is_by_reading : FnScope ["pattern"] ["pattern"] (defScope sIsByReading) := ⟨rfl, rfl, rfl, by decide +kernel, rfl, by decide +kernel, by decide +kernel⟩
theorem sc_items_of : FnScope ["pieces", "number", "pattern", "kids", "found", "item", "kid"] ["pieces", "number"] (defScope sItemsOf) := ⟨rfl, rfl, rfl, by decide +kernel, rfl, by decide +kernel, by decide +kernel⟩
theorem sc_gone_on : FnScope ["items", "spots", "found", "at", "spot"] ["items", "spots"] (defScope sGoneOn) := ⟨rfl, rfl, rfl, by decide +kernel, rfl, by decide +kernel, by decide +kernel⟩
theorem sc_begun : FnScope ["pieces", "found", "number", "pattern", "kids"] ["pieces"] (defScope sBegun) := ⟨rfl, rfl, rfl, by decide +kernel, rfl, by decide +kernel, by decide +kernel⟩
theorem sc_spots_behind : FnScope ["items", "spots", "told", "found", "spot"] ["items", "spots", "told"] (defScope sSpotsBehind) := ⟨rfl, rfl, rfl, by decide +kernel, rfl, by decide +kernel, by decide +kernel⟩
theorem sc_read_on : FnScope ["pieces", "reading", "told", "found", "number", "pattern", "kids"] ["pieces", "reading", "told"] (defScope sReadOn) := ⟨rfl, rfl, rfl, by decide +kernel, rfl, by decide +kernel, by decide +kernel⟩
theorem sc_put_together : FnScope ["pieces", "told", "found", "number", "pattern", "kids", "are", "is_so", "kid"] ["pieces", "told"] (defScope sPutTogether) := ⟨rfl, rfl, rfl, by decide +kernel, rfl, by decide +kernel, by decide +kernel⟩
theorem sc_like_leaves : FnScope ["kind", "one", "other", "some"] ["kind", "one", "other"] (defScope sLikeLeaves) := ⟨rfl, rfl, rfl, by decide +kernel, rfl, by decide +kernel, by decide +kernel⟩
theorem sc_leaf_told : FnScope ["kind", "pieces", "leaf", "found", "number", "pattern", "kids"] ["kind", "pieces", "leaf"] (defScope sLeafTold) := ⟨rfl, rfl, rfl, by decide +kernel, rfl, by decide +kernel, by decide +kernel⟩
theorem sc_row_told : FnScope ["pieces", "reading", "found", "at", "number", "pattern", "kids", "last"] ["pieces", "reading"] (defScope sRowTold) := ⟨rfl, rfl, rfl, by decide +kernel, rfl, by decide +kernel, by decide +kernel⟩
theorem sc_told_of : FnScope ["kind", "pieces", "worth", "pile", "told", "here"] ["kind", "pieces", "worth"] (defScope sToldOf) := ⟨rfl, rfl, rfl, by decide +kernel, rfl, by decide +kernel, by decide +kernel⟩
theorem sc_matches : FnScope ["kind", "pattern", "worth"] ["kind", "pattern", "worth"] (defScope sMatches) := ⟨rfl, rfl, rfl, by decide +kernel, rfl, by decide +kernel, by decide +kernel⟩
theorem sc_law_mixed : FnScope ["_law_cell", "_law_k", "_law_number"] ["_law_cell", "_law_k"] (defScope sLawMixed) := ⟨rfl, rfl, rfl, by decide +kernel, rfl, by decide +kernel, by decide +kernel⟩
theorem sc_law_folded : FnScope ["_law_script", "_law_found", "_law_k", "_law_cell"] ["_law_script"] (defScope sLawFolded) := ⟨rfl, rfl, rfl, by decide +kernel, rfl, by decide +kernel, by decide +kernel⟩
theorem sc_law_draw : FnScope ["_law_m", "_law_many", "_law_k", "_law_at", "_law_cell"] ["_law_m", "_law_many"] (defScope sLawDraw) := ⟨rfl, rfl, rfl, by decide +kernel, rfl, by decide +kernel, by decide +kernel⟩
theorem sc_law_begun : FnScope ["_law_script", "_law_m", "_law_cell"] ["_law_script"] (defScope sLawBegun) := ⟨rfl, rfl, rfl, by decide +kernel, rfl, by decide +kernel, by decide +kernel⟩
theorem sc_law_leaf : FnScope ["_law_m"] ["_law_m"] (defScope sLawLeaf) := ⟨rfl, rfl, rfl, by decide +kernel, rfl, by decide +kernel, by decide +kernel⟩
theorem sc_law_worth : FnScope ["_law_m", "_law_deep", "_law_room", "_law_way", "_law_many", "_law_found", "_law_k"] ["_law_m", "_law_deep", "_law_room"] (defScope sLawWorth) := ⟨rfl, rfl, rfl, by decide +kernel, rfl, by decide +kernel, by decide +kernel⟩
theorem sc_law_kind : FnScope ["_law_m", "_law_way", "_law_how", "_law_one", "_law_other", "_law_some"] ["_law_m"] (defScope sLawKind) := ⟨rfl, rfl, rfl, by decide +kernel, rfl, by decide +kernel, by decide +kernel⟩
theorem sc_law_kind_by_rows : FnScope ["_law_m"] ["_law_m"] (defScope sLawKindByRows) := ⟨rfl, rfl, rfl, by decide +kernel, rfl, by decide +kernel, by decide +kernel⟩
theorem sc_law_plain : FnScope ["_law_m", "_law_deep", "_law_room", "_law_found"] ["_law_m", "_law_deep", "_law_room"] (defScope sLawPlain) := ⟨rfl, rfl, rfl, by decide +kernel, rfl, by decide +kernel, by decide +kernel⟩
theorem sc_law_depth : FnScope ["_law_pattern", "_law_inner", "_law_item", "_law_one"] ["_law_pattern"] (defScope sLawDepth) := ⟨rfl, rfl, rfl, by decide +kernel, rfl, by decide +kernel, by decide +kernel⟩
theorem sc_law_plain_in : FnScope ["_law_m", "_law_deep", "_law_room", "_law_way", "_law_leaf_here", "_law_rows", "_law_items", "_law_k", "_law_one", "_law_other", "_law_word"] ["_law_m", "_law_deep", "_law_room"] (defScope sLawPlainIn) := ⟨rfl, rfl, rfl, by decide +kernel, rfl, by decide +kernel, by decide +kernel⟩
theorem sc_law_plain_item : FnScope ["_law_m", "_law_deep", "_law_room", "_law_way", "_law_one"] ["_law_m", "_law_deep", "_law_room"] (defScope sLawPlainItem) := ⟨rfl, rfl, rfl, by decide +kernel, rfl, by decide +kernel, by decide +kernel⟩
theorem sc_law_like : FnScope ["_law_kind_here", "_law_one", "_law_other", "_law_some", "_law_k"] ["_law_kind_here", "_law_one", "_law_other"] (defScope sLawLike) := ⟨rfl, rfl, rfl, by decide +kernel, rfl, by decide +kernel, by decide +kernel⟩
theorem sc_law_matched : FnScope ["_law_kind_here", "_law_pattern", "_law_worth_here", "_law_word", "_law_thing"] ["_law_kind_here", "_law_pattern", "_law_worth_here"] (defScope sLawMatched) := ⟨rfl, rfl, rfl, by decide +kernel, rfl, by decide +kernel, by decide +kernel⟩
theorem sc_law_pieces : FnScope ["_law_pattern", "_law_found", "_law_one", "_law_item"] ["_law_pattern"] (defScope sLawPieces) := ⟨rfl, rfl, rfl, by decide +kernel, rfl, by decide +kernel, by decide +kernel⟩
theorem sc_law_no_nots : FnScope ["_law_pattern", "_law_word", "_law_item", "_law_one"] ["_law_pattern"] (defScope sLawNoNots) := ⟨rfl, rfl, rfl, by decide +kernel, rfl, by decide +kernel, by decide +kernel⟩
theorem sc_law_sum : FnScope ["_law_weights"] ["_law_weights"] (defScope sLawSum) := ⟨rfl, rfl, rfl, by decide +kernel, rfl, by decide +kernel, by decide +kernel⟩
theorem sc_law_least : FnScope ["_law_weights", "_law_some", "_law_weight_here"] ["_law_weights"] (defScope sLawLeast) := ⟨rfl, rfl, rfl, by decide +kernel, rfl, by decide +kernel, by decide +kernel⟩
theorem sc_law_weight : FnScope ["_law_kind_here", "_law_pattern", "_law_worth_here", "_law_word", "_law_second", "_law_one", "_law_thing"] ["_law_kind_here", "_law_pattern", "_law_worth_here"] (defScope sLawWeight) := ⟨rfl, rfl, rfl, by decide +kernel, rfl, by decide +kernel, by decide +kernel⟩
theorem sc_law_row_weight : FnScope ["_law_kind_here", "_law_items", "_law_things", "_law_word", "_law_pattern", "_law_first", "_law_found", "_law_many", "_law_rest"] ["_law_kind_here", "_law_items", "_law_things"] (defScope sLawRowWeight) := ⟨rfl, rfl, rfl, by decide +kernel, rfl, by decide +kernel, by decide +kernel⟩
theorem sc_law_runs : FnScope ["_law_kind_here", "_law_pattern", "_law_worth_here", "_law_room", "_law_caught", "_law_found", "e"] ["_law_kind_here", "_law_pattern", "_law_worth_here", "_law_room"] (defScope sLawRuns) := ⟨rfl, rfl, rfl, by decide +kernel, rfl, by decide +kernel, by decide +kernel⟩
theorem sc_law0 : FnScope ["_law_script", "_law_m", "_law_turn", "_law_kind_here", "_law_pattern", "_law_worth_here", "_law_weight_here", "_law_room", "_law_found", "_law_choices", "_law_stand"] ["_law_script"] (defScope sLaw0) := ⟨rfl, rfl, rfl, by decide +kernel, rfl, by decide +kernel, by decide +kernel⟩
theorem sc_tr_init : FnScope ["self", "book", "kind", "rule"] ["self", "book", "kind"] (defScope sTrInit) := ⟨rfl, rfl, rfl, by decide +kernel, rfl, by decide +kernel, by decide +kernel⟩
theorem sc_tr_alike : FnScope ["self", "one", "other"] ["self", "one", "other"] (defScope sTrAlike) := ⟨rfl, rfl, rfl, by decide +kernel, rfl, by decide +kernel, by decide +kernel⟩
theorem sc_tr_found : FnScope ["self", "pattern", "thing", "stand", "room", "word", "rule"] ["self", "pattern", "thing", "stand", "room"] (defScope sTrFound) := ⟨rfl, rfl, rfl, by decide +kernel, rfl, by decide +kernel, by decide +kernel⟩
theorem sc_tr_by_worth : FnScope ["self", "pattern", "thing", "stand", "some"] ["self", "pattern", "thing", "stand"] (defScope sTrByWorth) := ⟨rfl, rfl, rfl, by decide +kernel, rfl, by decide +kernel, by decide +kernel⟩
theorem sc_tr_by_two : FnScope ["self", "pattern", "thing", "stand", "room", "word", "one", "other", "found", "choices", "later"] ["self", "pattern", "thing", "stand", "room"] (defScope sTrByTwo) := ⟨rfl, rfl, rfl, by decide +kernel, rfl, by decide +kernel, by decide +kernel⟩
theorem sc_tr_by_looking : FnScope ["self", "pattern", "thing", "stand", "room", "some"] ["self", "pattern", "thing", "stand", "room"] (defScope sTrByLooking) := ⟨rfl, rfl, rfl, by decide +kernel, rfl, by decide +kernel, by decide +kernel⟩
theorem sc_tr_chosen : FnScope ["self", "choice", "pattern", "thing", "stand", "room"] ["self", "choice", "pattern", "thing", "stand", "room"] (defScope sTrChosen) := ⟨rfl, rfl, rfl, by decide +kernel, rfl, by decide +kernel, by decide +kernel⟩
theorem sc_tr_by_all : FnScope ["self", "pattern", "row", "stand", "room", "found", "worth", "longer", "choices", "later"] ["self", "pattern", "row", "stand", "room"] (defScope sTrByAll) := ⟨rfl, rfl, rfl, by decide +kernel, rfl, by decide +kernel, by decide +kernel⟩
theorem sc_tr_by_row : FnScope ["self", "items", "row", "stand", "room", "many", "word", "pattern", "found", "choice", "parts"] ["self", "items", "row", "stand", "room"] (defScope sTrByRow) := ⟨rfl, rfl, rfl, by decide +kernel, rfl, by decide +kernel, by decide +kernel⟩
theorem sc_tr_cut : FnScope ["self", "pattern", "items", "parts", "stand", "room", "found", "choices", "later"] ["self", "pattern", "items", "parts", "stand", "room"] (defScope sTrCut) := ⟨rfl, rfl, rfl, by decide +kernel, rfl, by decide +kernel, by decide +kernel⟩
end Wf
set_option Elab.async false
set_option linter.all false
set_option maxRecDepth 100000
set_option maxHeartbeats 400000
namespace Wf
open PySem PySem.Spec PyProof.Rows L2
section
variable {P : Program} {w : World} {K : PySem.W.Frag} {mg : Str → Option Value} {base : Heap}
def spIsWhole (K : PySem.W.Frag) : Sp := fun vs H Q _ => ∃ v d, vs = [v] ∧ Is K H v d ∧ Q (.bl (d.isT "int")) H
theorem ok_is_whole (T : Tx w K mg) : Cal P w K mg base 1 "is_whole" (spIsWhole K) := by
  refine Tx.cal T.f_is_whole T.g_is_whole T.b_is_whole sc_is_whole ?_ ?_
  · rintro vs H Q E ⟨v, d, rfl, _⟩
    rfl
  · rintro cdv A outer s H vs Q E hr ⟨v, d, rfl, hd, q⟩
    refine ⟨_, (pss_one (ps_ret (pe_and (pe_callB (isD K "int" (by simp)) (by rfl) T.z_isinstance PyProof.Rows.boot_isinstance (pa_cons (pv 0) (pa_cons (pe_bltn (v := .ty "int") (by rfl) T.z_int boot_int rfl) pa_nil))) (pe_one (pe_not (pe_callB (isD K "bool" (by simp)) (by rfl) T.z_isinstance PyProof.Rows.boot_isinstance (pa_cons (pv 0) (pa_cons (pe_bltn (v := .ty "bool") (by rfl) T.z_bool boot_bool rfl) pa_nil)))))))), ?_⟩
    refine ⟨_, rfl, _, _, rfl, hd, _, rfl, ?_⟩
    cases e : d.isT "int" with
    | false =>
      rw [e] at q
      exact q
    | true =>
      rw [e] at q
      refine ⟨_, rfl, _, _, rfl, hd, _, rfl, ?_⟩
      rw [isB]
      exact q
def amg : Dt → Int → Int → Bool
  | .int i, a, b => decide (a ≤ i) && decide (i ≤ b)
  | _, _, _ => false
def spIsAmong (K : PySem.W.Frag) : Sp := fun vs H Q _ => ∃ v d a b, vs = [v, .int a, .int b] ∧ Is K H v d ∧ Q (.bl (amg d a b)) H
theorem ok_is_among {k : Nat} (T : Tx w K mg) (c_is_whole : Cal P w K mg base k "is_whole" (spIsWhole K)) : Cal P w K mg base (k + 1) "is_among" (spIsAmong K) := by
  refine Tx.cal T.f_is_among T.g_is_among T.b_is_among sc_is_among ?_ ?_
  · rintro vs H Q E ⟨v, d, a, b, rfl, _⟩
    rfl
  · rintro cdv A outer s H vs Q E hr ⟨v, d, a, b, rfl, hd, q⟩
    refine ⟨_, (pss_one (ps_ret (pe_and (pe_c c_is_whole hr (Nat.le_refl _) (by rfl) (pa_cons (pv 0) pa_nil)) (pe_one (pe_chain op_le op_le (pv 1) (pv 0) (pv 2)))))), ?_⟩
    refine ⟨_, rfl, _, _, rfl, hd, _, rfl, ?_⟩
    cases hd with
    | int i =>
      rw [isI_int]
      refine ⟨_, rfl, _, rfl, _, _, rfl, rfl, _, rfl, ?_⟩
      by_cases e : a ≤ i
      · rw [if_pos (decide_eq_true e)]
        refine ⟨_, rfl, _, _, rfl, rfl, ?_⟩
        have z : amg (.int i) a b = decide (i ≤ b) := by simp [amg, e]
        rw [z] at q
        exact q
      · rw [if_neg (by simp [e])]
        have z : amg (.int i) a b = false := by simp [amg, e]
        rw [z] at q
        exact q
    | str x =>
      rw [isI_str]
      exact q
    | tup _ _ =>
      rw [isI_tup]
      exact q
def spIsLeaf (K : PySem.W.Frag) : Sp := fun vs H Q _ => ∃ v d, vs = [v] ∧ Is K H v d ∧ Q (.bl (amg d 0 99)) H
theorem ok_is_leaf {k : Nat} (T : Tx w K mg) (c_is_among : Cal P w K mg base k "is_among" (spIsAmong K)) : Cal P w K mg base (k + 1) "is_leaf" (spIsLeaf K) := by
  refine Tx.cal T.f_is_leaf T.g_is_leaf T.b_is_leaf sc_is_leaf ?_ ?_
  · rintro vs H Q E ⟨v, d, rfl, _⟩
    rfl
  · rintro cdv A outer s H vs Q E hr ⟨v, d, rfl, hd, q⟩
    refine ⟨_, (pss_one (ps_ret (pe_c c_is_among hr (Nat.le_refl _) (by rfl) (pa_cons (pv 0) (pa_cons pe_int (pa_cons (pe_gv (by rfl) T.i_MOST_LEAF_words) pa_nil)))))), ?_⟩
    exact ⟨_, rfl, _, d, _, _, rfl, hd, q⟩
theorem szs_take {l : List Dt} {i : Nat} {d : Dt} (h : l[i]? = some d) : Dt.szs (l.take (i + 1)) = Dt.szs (l.take i) + d.sz := by
  rw [List.take_add_one, h, Dt.szs_append]
  simp [Dt.szs]
theorem szs_take_le (l : List Dt) (i : Nat) : Dt.szs (l.take i) ≤ Dt.szs l := by
  have h := Dt.szs_append (l.take i) (l.drop i)
  rw [List.take_append_drop] at h
  omega
def spSize (K : PySem.W.Frag) (n : Nat) : Sp := fun vs H Q _ => ∃ v d m, vs = [v, .int (m : Nat)] ∧ Is K H v d ∧ d.thg = true ∧ d.sz ≤ 10 ∧ d.dep < m ∧ m ≤ n ∧ Q (.int (d.sz : Nat)) H
theorem ok_size {k : Nat} (T : Tx w K mg) (c : Cal P w K mg base k "is_leaf" (spIsLeaf K)) : ∀ n, Cal P w K mg base (k + n) "size_within" (spSize K n)
  | 0 => Cal.no T.g_size_within T.f_size_within.kp T.b_size_within (by
      rintro vs H Q E ⟨v, d, m, _, _, _, _, h1, h2, _⟩
      omega)
  | n + 1 => by
    have c_size_within := ok_size T c n
    have c_is_leaf := c.up (Nat.le_add_right k n)
    refine Tx.cal T.f_size_within T.g_size_within T.b_size_within sc_size_within ?_ ?_
    · rintro vs H Q E ⟨v, d, m, rfl, _⟩
      rfl
    · rintro cdv A outer s H vs Q E hr ⟨v, d, m, rfl, hd, ht, hz, hm, hn, q⟩
      refine ⟨_, (pss_cons (ps_if (pt_val (pe_c c_is_leaf hr (Nat.le_refl _) (by rfl) (pa_cons (pv 0) pa_nil))) (pss_one (ps_ret (pe_ifExp (pt_cmpR op_gt (pv 1) pe_int (nomark _)) pe_int pe_int))) pss_nil) (pss_cons (ps_if (pw_or (pt_cmpR op_eq (pv 1) pe_int (nomark _)) (pw_or (pt_not (pt_val (pe_callB (isD K "tuple" (by simp)) (by rfl) T.z_isinstance PyProof.Rows.boot_isinstance (pa_cons (pv 0) (pa_cons (pe_bltn (v := .ty "tuple") (by rfl) T.z_tuple boot_tuple rfl) pa_nil))))) (pw_or1 (pt_cmpR op_gt (pe_callB (lenD K) (by rfl) T.z_len boot_len (pa_cons (pv 0) pa_nil)) (pe_gv (by rfl) T.i_MOST_THINGS) (nomark _))))).pt (pss_one (ps_ret pe_int)) pss_nil) (pss_cons (ps_set (i := 2) sc_size_within.nd rfl (by first | exact Or.inl rfl | exact Or.inr rfl) pe_int) (pss_cons (ps_for PassesOwn.never rfl (pi_tup (pv 0)) (pg_name (i := 3) sc_size_within.nd rfl (by first | exact Or.inl rfl | exact Or.inr rfl)) (pss_cons (ps_set (i := 4) sc_size_within.nd rfl (by first | exact Or.inl rfl | exact Or.inr rfl) (pe_c c_size_within hr (Nat.le_refl _) (by rfl) (pa_cons (pv 3) (pa_cons (pe_op op_sub (pv 1) pe_int) pa_nil)))) (pss_cons (ps_set (i := 2) sc_size_within.nd rfl (by first | exact Or.inl rfl | exact Or.inr rfl) (pe_op op_add (pv 2) (pv 4))) (pss_one (ps_if (pw_or (pt_cmpR op_eq (pv 4) pe_int (nomark _)) (pw_or1 (pt_cmpR op_gt (pv 2) (pe_gv (by rfl) T.i_MOST_SIZE_worths) (nomark _)))).pt (pss_one (ps_ret pe_int)) pss_nil))))) (pss_one (ps_ret (pv 2))))))), ?_⟩
      refine ⟨_, rfl, _, d, rfl, hd, _, rfl, ?_⟩
      have h0 := hd
      cases hd with
      | int i =>
        have e : amg (.int i) 0 99 = true := by simpa [amg, Dt.thg] using ht
        rw [e]
        refine ⟨_, rfl, _, _, rfl, rfl, _, rfl, iY (decide_eq_true (by omega)) ?_⟩
        exact q
      | str x => simp [Dt.thg] at ht
      | @tup a xs l sq il =>
        have e : amg (.tup l) 0 99 = false := rfl
        rw [e]
        have hl : l.length ≤ 10 := by
          have := Dt.szs_len l
          simp only [Dt.sz] at hz
          omega
        refine ⟨_, rfl, rfl, _, rfl, iN (decide_eq_false (by intro z; have := V.int.inj z; omega)) ?_⟩
        refine ⟨_, rfl, _, _, rfl, h0, _, rfl, ?_⟩
        rw [isT_tup]
        refine ⟨_, rfl, _, l, rfl, h0, _, _, rfl, rfl, _, rfl, iN (decide_eq_false (by omega)) ?_⟩
        refine ⟨_, rfl, _, rfl, ⟨_, sq⟩, ?_⟩
        refine for_D (walk_tup (xs := xs)) il (fun i σ H' => H' = H ∧ ∃ o m', σ = [some (.ref a), some (.int m), some (.int ((1 + Dt.szs (l.take i) : Nat) : Int)), o, m']) ?_ ?_ ?_ ?_
        · exact ⟨rfl, none, none, rfl⟩
        · rintro i σ H' ⟨rfl, _⟩
          exact ⟨sq, .refl⟩
        · rintro i x d σ H1 hd id ⟨rfl, o, m', rfl⟩
          have hmem : d ∈ l := List.mem_of_getElem? hd
          have hs := szs_take hd
          have hle := szs_take_le l (i + 1)
          have hsz := Dt.sz_mem hmem
          have hp := Dt.sz_pos d
          simp only [Dt.thg, Dt.sz, Dt.dep] at ht hz hm
          have hdp := (Dt.deps_le l (Dt.deps l)).mp (Nat.le_refl _) d hmem
          refine ⟨_, rfl, _, rfl, _, _, rfl, rfl, _, d, m - 1, ?_, id, (Dt.thgs_iff l).mp ht d hmem, by omega, by omega, by omega, ?_⟩
          · show [x, V.int ((m : Int) - 1)] = _
            rw [show ((m : Int) - 1) = ((m - 1 : Nat) : Int) by omega]
          refine ⟨_, rfl, _, rfl, _, _, rfl, rfl, ?_⟩
          refine ⟨_, rfl, rfl, _, rfl, iN (decide_eq_false (by intro z; have := V.int.inj z; omega)) ?_⟩
          refine ⟨_, rfl, _, _, rfl, rfl, _, rfl, iN (decide_eq_false (by omega)) ?_⟩
          have e2 : ((1 + Dt.szs (l.take (i + 1)) : Nat) : Int) = ((1 + Dt.szs (l.take i) : Nat) : Int) + (d.sz : Nat) := by omega
          exact ⟨rfl, some x, some (.int (d.sz : Nat)), by rw [e2]; rfl⟩
        · rintro σ H1 ⟨rfl, o, m', rfl⟩
          refine ⟨_, rfl, ?_⟩
          rw [List.take_length]
          exact q
def spG (K : PySem.W.Frag) (f : V → V) : Sp := fun vs H Q _ => ∃ v d, vs = [v] ∧ Is K H v d ∧ d.good ∧ Q (f v) H
theorem spG_len {K : PySem.W.Frag} {f : V → V} : ∀ vs H Q E, spG K f vs H Q E → vs.length = 1 := by
  rintro vs H Q E ⟨v, d, rfl, _⟩
  rfl
theorem ok_is_worth {k : Nat} (T : Tx w K mg) (c_size_within : Cal P w K mg base k "size_within" (spSize K 6)) : Cal P w K mg base (k + 1) "is_worth" (spG K fun _ => .bl true) := by
  refine Tx.cal T.f_is_worth T.g_is_worth T.b_is_worth sc_is_worth spG_len ?_
  rintro cdv A outer s H vs Q E hr ⟨v, d, rfl, hd, hg, q⟩
  refine ⟨_, (pss_one (ps_ret (pe_cmpR op_gt (pe_c c_size_within hr (Nat.le_refl _) (by rfl) (pa_cons (pv 0) (pa_cons (pe_gv (by rfl) T.i_MOST_DEEP_worths) pa_nil))) pe_int (nomark _)))), ?_⟩
  refine ⟨_, rfl, _, d, 6, rfl, hd, hg.thg, hg.sz, by have := hg.dep; omega, Nat.le_refl _, _, _, rfl, rfl, ?_⟩
  exact qB (decide_eq_true (by have := Dt.sz_pos d; omega)) q
theorem ok_is_thing {k : Nat} (T : Tx w K mg) (c_is_worth : Cal P w K mg base k "is_worth" (spG K fun _ => .bl true)) : Cal P w K mg base (k + 1) "is_thing" (spG K fun _ => .bl true) := by
  refine Tx.cal T.f_is_thing T.g_is_thing T.b_is_thing sc_is_thing spG_len ?_
  rintro cdv A outer s H vs Q E hr ⟨v, d, rfl, hd, hg, q⟩
  refine ⟨_, (pss_one (ps_ret (pe_or (pe_c c_is_worth hr (Nat.le_refl _) (by rfl) (pa_cons (pv 0) pa_nil)) (pe_one pe_no)))), ?_⟩
  exact ⟨_, rfl, _, d, rfl, hd, hg, _, rfl, q⟩
theorem ok_need_thing {k : Nat} (T : Tx w K mg) (c_is_thing : Cal P w K mg base k "is_thing" (spG K fun _ => .bl true)) : Cal P w K mg base (k + 1) "need_thing" (spG K fun _ => .non) := by
  refine Tx.cal T.f_need_thing T.g_need_thing T.b_need_thing sc_need_thing spG_len ?_
  rintro cdv A outer s H vs Q E hr ⟨v, d, rfl, hd, hg, q⟩
  refine ⟨_, (pss_one (ps_if (pt_not (pt_val (pe_c c_is_thing hr (Nat.le_refl _) (by rfl) (pa_cons (pv 0) pa_nil)))) pss_never pss_nil)), ?_⟩
  exact ⟨_, rfl, _, d, rfl, hd, hg, _, rfl, q⟩
theorem thg_ne_str {d : Dt} (x : Str) (h : d.thg = true) : decide (d = .str x) = false := decide_eq_false fun e => by
  subst e
  simp [Dt.thg] at h
theorem fit_endless : (Dt.str "endless").fit := Dt.fit_of (by decide +kernel) (by decide +kernel)
theorem ok_goes_on {k : Nat} (T : Tx w K mg) : Cal P w K mg base (k + 1) "goes_on" (spG K fun _ => .bl false) := by
  refine Tx.cal T.f_goes_on T.g_goes_on T.b_goes_on sc_goes_on spG_len ?_
  rintro cdv A outer s H vs Q E hr ⟨v, d, rfl, hd, hg, q⟩
  refine ⟨_, (pss_one (ps_ret (pe_and (pe_callB (isD K "tuple" (by simp)) (by rfl) T.z_isinstance PyProof.Rows.boot_isinstance (pa_cons (pv 0) (pa_cons (pe_bltn (v := .ty "tuple") (by rfl) T.z_tuple boot_tuple rfl) pa_nil))) (pe_and (pe_cmpR op_eq (pe_callB (lenD K) (by rfl) T.z_len boot_len (pa_cons (pv 0) pa_nil)) pe_int (nomark _)) (pe_one (pe_cmpR (eqT K hr.units) (pe_ix (ixD K) (pv 0) pe_int (fun _ _ => rfl)) (pe_gv (by rfl) T.s_ENDLESS) (nomark _))))))), ?_⟩
  refine ⟨_, rfl, _, _, rfl, hd, _, rfl, ?_⟩
  cases d with
  | int i =>
    rw [isT_int]
    exact q
  | str x =>
    rw [isT_str]
    exact q
  | tup l =>
    rw [isT_tup]
    refine iY rfl ⟨_, rfl, _, l, rfl, hd, rfl, _, rfl, iD (fun e => ?_) fun e => ?_⟩
    · have el : l.length = 3 := by
        have := V.int.inj (of_decide_eq_true e)
        omega
      have h0 : l[0]? = some (l[0]'(by omega)) := List.getElem?_eq_getElem _
      have hm : l[0]'(by omega) ∈ l := List.getElem_mem _
      refine ⟨_, rfl, l, 0, _, hd, rfl, h0, fun v hv => ⟨_, _, hv, .str _, (hg.mem hm).fit, fit_endless, ?_⟩⟩
      rw [thg_ne_str _ (hg.mem hm).thg]
      exact q
    · exact q
theorem ok_lean {k : Nat} (T : Tx w K mg) (c_need_thing : Cal P w K mg base k "need_thing" (spG K fun _ => .non)) (c_goes_on : Cal P w K mg base k "goes_on" (spG K fun _ => .bl false)) : Cal P w K mg base (k + 1) "lean" (spG K fun v => v) := by
  refine Tx.cal T.f_lean T.g_lean T.b_lean sc_lean spG_len ?_
  rintro cdv A outer s H vs Q E hr ⟨v, d, rfl, hd, hg, q⟩
  refine ⟨_, (pss_cons (ps_expr (pe_c c_need_thing hr (Nat.le_refl _) (by rfl) (pa_cons (pv 0) pa_nil))) (pss_one (ps_ret (pe_ifExp (pt_val (pe_c c_goes_on hr (Nat.le_refl _) (by rfl) (pa_cons (pv 0) pa_nil))) pe_no (pv 0))))), ?_⟩
  exact ⟨_, rfl, _, d, rfl, hd, hg, _, rfl, _, d, rfl, hd, hg, _, rfl, _, rfl, q⟩
def spAt (K : PySem.W.Frag) : Sp := fun vs H Q _ => ∃ v l j d, vs = [v, .int (j : Nat)] ∧ Is K H v (.tup l) ∧ (Dt.tup l).good ∧ l[j]? = some d ∧ ∀ x, Is K H x d → Q x H
theorem ok_at_place {k : Nat} (T : Tx w K mg) (c_goes_on : Cal P w K mg base k "goes_on" (spG K fun _ => .bl false)) : Cal P w K mg base (k + 1) "at_place" (spAt K) := by
  refine Tx.cal T.f_at_place T.g_at_place T.b_at_place sc_at_place ?_ ?_
  · rintro vs H Q E ⟨v, l, j, d, rfl, _⟩
    rfl
  · rintro cdv A outer s H vs Q E hr ⟨v, l, j, d, rfl, hd, hg, hj, q⟩
    refine ⟨_, (pss_cons (ps_if (pt_not (pt_val (pe_c c_goes_on hr (Nat.le_refl _) (by rfl) (pa_cons (pv 0) pa_nil)))) (pss_one (ps_ret (pe_ix (ixD K) (pv 0) (pv 1) (fun _ _ => rfl)))) pss_nil) pss_never), ?_⟩
    exact ⟨_, rfl, _, _, rfl, hd, hg, _, rfl, _, rfl, _, rfl, l, j, d, hd, rfl, hj, q⟩
def spAhead (K : PySem.W.Frag) : Sp := fun vs H Q _ => ∃ v l n, vs = [v, .int (n : Nat)] ∧ Is K H v (.tup l) ∧ (Dt.tup l).good ∧ n ≤ l.length ∧ ∀ x H', Same H H' → Is K H' x (.tup (l.take n)) → Q x H'
theorem ok_ahead_of {k : Nat} (T : Tx w K mg) (c_at_place : Cal P w K mg base k "at_place" (spAt K)) : Cal P w K mg base (k + 1) "ahead_of" (spAhead K) := by
  refine Tx.cal T.f_ahead_of T.g_ahead_of T.b_ahead_of sc_ahead_of ?_ ?_
  · rintro vs H Q E ⟨v, l, n, rfl, _⟩
    rfl
  · rintro cdv A outer s H vs Q E hr ⟨v, l, n, rfl, hd, hg, hn, q⟩
    refine ⟨_, (pss_one (ps_ret (pe_callTy call_tuple_of (by rfl) T.z_tuple boot_tuple (pa_cons (pe_lc (own := [("number", 2)]) rfl sc_ahead_of.nd (pi_range1 (by rfl) T.z_range (pa_cons (pv 1) pa_nil)) (blkOk_by (own := [("number", 2)]) (N := ["row", "many", "number"]) (sc := defScope sAheadOf) (by decide +kernel)) (fun _ _ _ _ _ => (pg_name (i := 2) sc_ahead_of.nd rfl (by first | exact Or.inl rfl | exact Or.inr rfl))) (fun _ _ _ _ _ => pts_nil) (fun _ _ _ _ _ => (pe_c c_at_place hr (Nat.le_refl _) (by rfl) (pa_cons (pv 0) (pa_cons (pv 2) pa_nil))))) pa_nil)))), ?_⟩
    obtain ⟨a, xs, rfl, sq, il⟩ := hd.tupD
    have hlen : l.length ≤ 10 := by
      have h1 := hg.sz
      have h2 := Dt.szs_len l
      simp only [Dt.sz] at h1
      omega
    refine ⟨_, rfl, _, rfl, by omega, by omega, fun D nD => ?_⟩
    refine lc_W walk_range nD (fun i H' acc => IsAll K H' acc (l.take i)) .nil (fun _ _ => trivial) ?_ ?_
    · rintro i x H1 H2 acc hi s1 hD ⟨rfl, rfl⟩ f
      have hi' : i < l.length := by omega
      refine ⟨rfl, _, rfl, _, rfl, _, l, i, l[i], ?_, .tup (sq_up s1 sq) (il.sm s1), hg, List.getElem?_eq_getElem hi', fun x hx => ?_⟩
      · show [V.ref a, V.int (0 + (i : Nat))] = _
        rw [Int.zero_add]
      · refine lcn nD s1 hD (.refl _) (lt_line (by rw [f.len, List.length_take]; omega)) ?_
        rw [List.take_add_one, List.getElem?_eq_getElem hi']
        exact (f.append (.one hx)).up (.lst hD)
    · intro H2 acc s1 hD f
      refine ⟨_, acc, rfl, .inl ⟨.of hD, fun p np => ?_⟩⟩
      have e : (n : Int).toNat = n := by omega
      rw [e] at f
      exact q _ _ (s1.trans (Sm.new np)) (Is.new np f)
def spBehind (K : PySem.W.Frag) : Sp := fun vs H Q _ => ∃ v l n, vs = [v, .int (n : Nat)] ∧ Is K H v (.tup l) ∧ (Dt.tup l).good ∧ ∀ x H', Same H H' → Is K H' x (.tup (l.drop n)) → Q x H'
theorem ok_behind {k : Nat} (T : Tx w K mg) (c_goes_on : Cal P w K mg base k "goes_on" (spG K fun _ => .bl false)) : Cal P w K mg base (k + 1) "behind" (spBehind K) := by
  refine Tx.cal T.f_behind T.g_behind T.b_behind sc_behind ?_ ?_
  · rintro vs H Q E ⟨v, l, n, rfl, _⟩
    rfl
  · rintro cdv A outer s H vs Q E hr ⟨v, l, n, rfl, hd, hg, q⟩
    refine ⟨_, (pss_cons (ps_if (pt_not (pt_val (pe_c c_goes_on hr (Nat.le_refl _) (by rfl) (pa_cons (pv 0) pa_nil)))) (pss_one (ps_ret (pe_slice (slD K) (pv 0) (po_some (pv 1)) po_none))) pss_nil) pss_never), ?_⟩
    refine ⟨_, rfl, _, _, rfl, hd, hg, _, rfl, _, rfl, _, rfl, _, rfl, l, hd, fun x H' e hx => q x H' e ?_⟩
    rw [cutD_drop] at hx
    exact hx
def spLeft (K : PySem.W.Frag) : Sp := fun vs H Q _ => ∃ v l, vs = [v] ∧ Is K H v (.tup l) ∧ (Dt.tup l).good ∧ Q (.int (l.length : Nat)) H
theorem ok_left_in {k : Nat} (T : Tx w K mg) (c_goes_on : Cal P w K mg base k "goes_on" (spG K fun _ => .bl false)) : Cal P w K mg base (k + 1) "left_in" (spLeft K) := by
  refine Tx.cal T.f_left_in T.g_left_in T.b_left_in sc_left_in ?_ ?_
  · rintro vs H Q E ⟨v, l, rfl, _⟩
    rfl
  · rintro cdv A outer s H vs Q E hr ⟨v, l, rfl, hd, hg, q⟩
    refine ⟨_, (pss_one (ps_ret (pe_ifExp (pt_val (pe_c c_goes_on hr (Nat.le_refl _) (by rfl) (pa_cons (pv 0) pa_nil))) pe_non (pe_callB (lenD K) (by rfl) T.z_len boot_len (pa_cons (pv 0) pa_nil))))), ?_⟩
    exact ⟨_, rfl, _, _, rfl, hd, hg, _, rfl, _, rfl, _, l, rfl, hd, q⟩
end
end Wf
set_option Elab.async false
set_option linter.all false
set_option maxRecDepth 100000
set_option maxHeartbeats 400000
namespace Wf
open PySem PySem.Spec PyProof.Rows L2
section
variable {P : Program} {w : World} {K : PySem.W.Frag} {mg : Str → Option Value} {base : Heap}
def ltD (d e : Dt) : Prop := (∃ i j, d = .int i ∧ e = .int j ∧ i < j) ∨ ∃ ns ms : List Int, d = .tup (ns.map Dt.int) ∧ e = .tup (ms.map Dt.int) ∧ HT.lexLt ns ms = true
def spRises (K : PySem.W.Frag) : Sp := fun vs H Q _ => ∃ v, vs = [v] ∧ ((∃ l, Is K H v (.tup l) ∧ l.length ≤ 10 ∧ ∀ i d e, l[i]? = some d → l[i + 1]? = some e → ltD d e) ∨ ∃ a, v = .ref a ∧ H a = some (.lst [])) ∧ ∀ H', Same H H' → Q (.bl true) H'
theorem bls_true (n : Nat) : (List.replicate n true).all id = true := by
  rw [List.all_eq_true]
  intro b hb
  exact (List.mem_replicate.mp hb).2
theorem ok_rises {k : Nat} (T : Tx w K mg) : Cal P w K mg base (k + 1) "rises" (spRises K) := by
  refine Tx.cal T.f_rises T.g_rises T.b_rises sc_rises ?_ ?_
  · rintro vs H Q E ⟨v, rfl, _⟩
    rfl
  · rintro cdv A outer s H vs Q E hr ⟨v, rfl, hv, q⟩
    refine ⟨_, (pss_one (ps_ret (pe_callB (cr_all rfl) (by rfl) T.z_all boot_all (pa_cons (pe_lc (own := [("one", 1), ("other", 2)]) rfl sc_rises.nd (RZ.pi_zipA (by rfl) T.z_zip (pa_cons (pv 0) (pa_cons (pe_slice (SlR.or sl_list (slD K)) (pv 0) (po_some pe_int) po_none) pa_nil))) (blkOk_by (own := [("one", 1), ("other", 2)]) (N := ["things", "one", "other"]) (sc := defScope sRises) (by decide +kernel)) (fun _ _ _ _ _ => (pgTup K (n := 2) rfl (pgs_cons (pg_name (i := 1) sc_rises.nd rfl (by first | exact Or.inl rfl | exact Or.inr rfl)) (pgs_cons (pg_name (i := 2) sc_rises.nd rfl (by first | exact Or.inl rfl | exact Or.inr rfl)) pgs_nil)))) (fun _ _ _ _ _ => pts_nil) (fun _ _ _ _ _ => (pe_cmpR (opOr op_lt (ltT K hr.units)) (pv 1) (pv 2) (nomark _)))) pa_nil)))), ?_⟩
    refine ⟨_, rfl, _, rfl, _, rfl, ?_⟩
    rcases hv with ⟨l, hd, hl, ha⟩ | ⟨a, rfl, hH⟩
    · refine .inr ⟨l, hd, fun v' H1 s1 hd' => ?_⟩
      have e : cutD l (some 1) none = l.drop 1 := cutD_drop l 1
      obtain ⟨a, xs, rfl, sq, il⟩ := hd.tupD
      obtain ⟨b, ys, rfl, sq', il'⟩ := hd'.tupD
      rw [e] at il'
      have hx := il.len
      have hy := il'.len
      rw [List.length_drop] at hy
      refine ⟨a, b, xs, ys, rfl, .inr ⟨sq_up s1 sq, sq', fun D nD => ?_⟩⟩
      refine lc_W (walk_zipT (n := ys.length) (xs := xs) (ys := ys) (by omega)) nD (fun i _ acc => acc = List.replicate i (.bl true)) rfl (fun H2 s2 => ⟨sq_up s2 (sq_up s1 sq), sq_up s2 sq'⟩) ?_ ?_
      · rintro i x H2 H3 acc hi s2 hD ⟨T1, x1, x2, rfl, nT, rfl, h1, h2⟩ f
        obtain ⟨d1, e1, i1⟩ := il.at_ h1
        obtain ⟨d2, e2, i2⟩ := il'.at_ h2
        rw [List.getElem?_drop, Nat.add_comm] at e2
        refine ⟨_, _, rfl, .of upd_same, rfl, _, _, rfl, _, _, rfl, rfl, rfl, _, rfl, _, rfl, ?_⟩
        have fin : LcN H1 D (fun i _ acc => acc = List.replicate i (.bl true)) (i + 1) (.bl true) (upd H2 T1 (.tup [x1, x2])) := by
          refine lcn nD s2 hD (Sm.new nT) (lt_line (by rw [f, List.length_replicate]; omega)) ?_
          rw [f, List.replicate_succ']
        rcases ha i d1 d2 e1 e2 with ⟨n, m, rfl, rfl, hlt⟩ | ⟨ns, ms, rfl, rfl, hlt⟩
        · rw [i1.intD, i2.intD]
          refine .inl ⟨n, m, rfl, rfl, ?_⟩
          show LcN H1 D _ (i + 1) (V.bl (decide (n < m))) _
          rw [decide_eq_true hlt]
          rw [i1.intD, i2.intD] at fin
          exact fin
        · obtain ⟨p1, ys1, rfl, q1, r1⟩ := (i1.sm (s1.trans s2)).tupD
          obtain ⟨p2, ys2, rfl, q2, r2⟩ := (i2.sm s2).tupD
          rw [r1.ints_eq] at q1
          rw [r2.ints_eq] at q2
          refine .inr ⟨p1, p2, ns, ms, rfl, rfl, sq_up (Sm.new nT) q1, sq_up (Sm.new nT) q2, ?_⟩
          show LcN H1 D _ (i + 1) (V.bl (HT.lexLt ns ms)) _
          rw [hlt]
          exact fin
      · rintro H2 acc s2 hD rfl
        refine ⟨D, List.replicate ys.length true, rfl, .of (by rw [hD, List.map_replicate]), qB (bls_true _) (q _ (s1.trans s2))⟩
    · refine .inl ⟨a, [], rfl, .of hH, fun p np => ?_⟩
      have np' : a ≠ p := ne_of_none hH np
      refine ⟨a, p, [], [], rfl, .inl ⟨.of (by rw [upd_ne np']; exact hH), .of upd_same, fun D nD => ?_⟩⟩
      refine lc_W (walk_zip (n := 0) (xs := []) (ys := []) rfl) nD (fun i _ acc => acc = []) rfl (fun H2 s2 => ⟨.of (s2 _ _ (by rw [upd_ne np']; exact hH)), .of (s2 _ _ upd_same)⟩) ?_ ?_
      · rintro i x H2 H3 acc hi
        omega
      · rintro H2 acc s2 hD rfl
        exact ⟨D, [], rfl, .of hD, q _ ((Sm.new np).trans s2)⟩
theorem KOk.cls {k : Knd} (h : KOk k) : ∀ c ∈ k, ∃ a b : Int, c = [a, b] ∧ 0 ≤ a ∧ a < b ∧ b ≤ 99 := by
  cases h with
  | none => simp
  | one a b h1 h2 h3 =>
    intro c hc
    rw [List.mem_singleton] at hc
    exact ⟨a, b, hc, h1, h2, h3⟩
  | two a b p q h1 h2 h3 h4 h5 h6 h7 h8 =>
    intro c hc
    rcases List.mem_cons.mp hc with rfl | hc
    · exact ⟨a, b, rfl, h1, h2, h3⟩
    · rw [List.mem_singleton] at hc
      exact ⟨p, q, hc, by omega, h5, h6⟩
theorem KOk.len {k : Knd} (h : KOk k) : k.length ≤ 2 := by cases h <;> simp
theorem KOk.nd {k : Knd} (h : KOk k) : k.flatten.Nodup := by
  cases h <;> simp <;> omega
theorem KOk.asc {k : Knd} (h : KOk k) : ∀ i d e, (k.map fun c => Dt.tup (c.map Dt.int))[i]? = some d → (k.map fun c => Dt.tup (c.map Dt.int))[i + 1]? = some e → ltD d e := by
  cases h with
  | none => simp
  | one a b h1 h2 h3 => simp
  | two a b p q h1 h2 h3 h4 h5 h6 h7 h8 =>
    intro i d e hd he
    match i with
    | 0 =>
      simp only [List.map, List.getElem?_cons_zero, List.getElem?_cons_succ, Option.some.injEq] at hd he
      exact .inr ⟨[a, b], [p, q], hd.symm, he.symm, by simp [HT.lexLt, h4]; omega⟩
    | n + 1 => simp at he
def spIsClass (K : PySem.W.Frag) : Sp := fun vs H Q _ => ∃ v a b, vs = [v] ∧ Is K H v (.tup [.int a, .int b]) ∧ 0 ≤ a ∧ a < b ∧ b ≤ 99 ∧ ∀ H', Same H H' → Q (.bl true) H'
theorem ok_is_class {k : Nat} (T : Tx w K mg) (c_is_leaf : Cal P w K mg base k "is_leaf" (spIsLeaf K)) (c_rises : Cal P w K mg base k "rises" (spRises K)) : Cal P w K mg base (k + 1) "is_class" (spIsClass K) := by
  refine Tx.cal T.f_is_class T.g_is_class T.b_is_class sc_is_class ?_ ?_
  · rintro vs H Q E ⟨v, a, b, rfl, _⟩
    rfl
  · rintro cdv A outer s H vs Q E hr ⟨v, a, b, rfl, hd, h1, h2, h3, q⟩
    refine ⟨_, (pss_cons (ps_if (pw_or (pt_not (pt_val (pe_callB (isD K "tuple" (by simp)) (by rfl) T.z_isinstance PyProof.Rows.boot_isinstance (pa_cons (pv 0) (pa_cons (pe_bltn (v := .ty "tuple") (by rfl) T.z_tuple boot_tuple rfl) pa_nil))))) (pw_or1 (pt_not (pt_chain op_le op_le pe_int (pe_callB (lenD K) (by rfl) T.z_len boot_len (pa_cons (pv 0) pa_nil)) (pe_gv (by rfl) T.i_MOST_LEAVES))))).pt (pss_one (ps_ret pe_bl)) pss_nil) (pss_one (ps_ret (pe_and (pe_callB (cr_all rfl) (by rfl) T.z_all boot_all (pa_cons (pe_lc (own := [("one", 1)]) rfl sc_is_class.nd (pi_tup (pv 0)) (blkOk_by (own := [("one", 1)]) (N := ["thing", "one"]) (sc := defScope sIsClass) (by decide +kernel)) (fun _ _ _ _ _ => (pg_name (i := 1) sc_is_class.nd rfl (by first | exact Or.inl rfl | exact Or.inr rfl))) (fun _ _ _ _ _ => pts_nil) (fun _ _ _ _ _ => (pe_c c_is_leaf hr (Nat.le_refl _) (by rfl) (pa_cons (pv 1) pa_nil)))) pa_nil)) (pe_one (pe_c c_rises hr (Nat.le_refl _) (by rfl) (pa_cons (pv 0) pa_nil))))))), ?_⟩
    obtain ⟨p, xs, rfl, sq, il⟩ := hd.tupD
    refine ⟨_, rfl, _, _, rfl, hd, _, rfl, ?_⟩
    rw [isT_tup]
    refine ⟨_, rfl, _, _, rfl, hd, _, _, rfl, rfl, _, rfl, _, _, rfl, rfl, _, rfl, ?_⟩
    refine ⟨_, rfl, _, rfl, ⟨_, sq⟩, fun D nD => ?_⟩
    refine lc_D (walk_tup (xs := xs)) il nD (fun i _ acc => acc = List.replicate i (.bl true)) rfl (fun H2 s2 => sq_up s2 sq) ?_ ?_
    · rintro i x d H2 acc hi s1 hD hx rfl
      refine ⟨rfl, _, rfl, _, d, rfl, hx, ?_⟩
      have e : amg d 0 99 = true := by
        match i, hi with
        | 0, hi =>
          simp only [List.getElem?_cons_zero, Option.some.injEq] at hi
          subst hi
          simp [amg]
          omega
        | 1, hi =>
          simp only [List.getElem?_cons_zero, List.getElem?_cons_succ, Option.some.injEq] at hi
          subst hi
          simp [amg]
          omega
        | n + 2, hi => simp at hi
      rw [e]
      refine lcn nD s1 hD (.refl _) (lt_line ?_) ?_
      · rw [List.length_replicate]
        have := (List.getElem?_eq_some_iff.mp hi).1
        simp only [List.length_cons, List.length_nil] at this
        omega
      · rw [List.replicate_succ']
    · rintro H2 acc s1 hD rfl
      refine ⟨D, List.replicate 2 true, rfl, .of (by rw [hD, List.map_replicate]; rfl), _, rfl, ?_⟩
      refine ⟨_, rfl, _, rfl, .inl ⟨_, hd.sm s1, by simp, ?_⟩, fun H3 s3 => q _ (s1.trans s3)⟩
      intro i d e hd he
      match i with
      | 0 =>
        simp only [List.getElem?_cons_zero, List.getElem?_cons_succ, Option.some.injEq] at hd he
        exact .inl ⟨a, b, hd.symm, he.symm, h2⟩
      | n + 1 => simp at he
def spKnd (K : PySem.W.Frag) (x : V) : Sp := fun vs H Q _ => ∃ v k, vs = [v] ∧ Is K H v (Knd.dt k) ∧ KOk k ∧ ∀ H', Same H H' → Q x H'
theorem spKnd_len {x : V} : ∀ vs H Q E, spKnd K x vs H Q E → vs.length = 1 := by
  rintro vs H Q E ⟨v, k, rfl, _⟩
  rfl
theorem hows_rows {H : Hp} : decide (Dt.str "rows" ∈ [Dt.str "rows", .str "lots", .str "turned"]) = true := decide_eq_true (List.mem_cons_self ..)
theorem ok_is_kind {k : Nat} (T : Tx w K mg) (c_is_class : Cal P w K mg base k "is_class" (spIsClass K)) (c_rises : Cal P w K mg base k "rises" (spRises K)) : Cal P w K mg base (k + 1) "is_kind" (spKnd K (.bl true)) := by
  refine Tx.cal T.f_is_kind T.g_is_kind T.b_is_kind sc_is_kind spKnd_len ?_
  rintro cdv A outer s H vs Q E hr ⟨v, k, rfl, hd, hk, q⟩
  refine ⟨_, (pss_cons (ps_if (pw_or (pt_not (pt_val (pe_callB (isD K "tuple" (by simp)) (by rfl) T.z_isinstance PyProof.Rows.boot_isinstance (pa_cons (pv 0) (pa_cons (pe_bltn (v := .ty "tuple") (by rfl) T.z_tuple boot_tuple rfl) pa_nil))))) (pw_or (pt_cmpR op_ne (pe_callB (lenD K) (by rfl) T.z_len boot_len (pa_cons (pv 0) pa_nil)) pe_int (nomark _)) (pw_or1 (pt_not (pt_val (pe_callB (isD K "tuple" (by simp)) (by rfl) T.z_isinstance PyProof.Rows.boot_isinstance (pa_cons (pe_ix (ixD K) (pv 0) pe_int (fun _ _ => rfl)) (pa_cons (pe_bltn (v := .ty "tuple") (by rfl) T.z_tuple boot_tuple rfl) pa_nil)))))))).pt (pss_one (ps_ret pe_bl)) pss_nil) (pss_cons (ps_if (pw_or (pt_not (pt_val (pe_callB (isD K "str" (by simp)) (by rfl) T.z_isinstance PyProof.Rows.boot_isinstance (pa_cons (pe_ix (ixD K) (pv 0) pe_int (fun _ _ => rfl)) (pa_cons (pe_bltn (v := .ty "str") (by rfl) T.z_str boot_str rfl) pa_nil))))) (pw_or (pt_cmpR (notInT K) (pe_ix (ixD K) (pv 0) pe_int (fun _ _ => rfl)) (pe_gv (by rfl) T.v_HOWS) (by rfl)) (pw_or1 (pt_cmpR op_gt (pe_callB (lenD K) (by rfl) T.z_len boot_len (pa_cons (pe_ix (ixD K) (pv 0) pe_int (fun _ _ => rfl)) pa_nil)) (pe_gv (by rfl) T.i_MOST_CLASSES) (nomark _))))).pt (pss_one (ps_ret pe_bl)) pss_nil) (pss_cons (ps_if (pw_or (pt_not (pt_val (pe_callB (cr_all rfl) (by rfl) T.z_all boot_all (pa_cons (pe_lc (own := [("one", 2)]) rfl sc_is_kind.nd (pi_tup (pe_ix (ixD K) (pv 0) pe_int (fun _ _ => rfl))) (blkOk_by (own := [("one", 2)]) (N := ["thing", "leaves", "one"]) (sc := defScope sIsKind) (by decide +kernel)) (fun _ _ _ _ _ => (pg_name (i := 2) sc_is_kind.nd rfl (by first | exact Or.inl rfl | exact Or.inr rfl))) (fun _ _ _ _ _ => pts_nil) (fun _ _ _ _ _ => (pe_c c_is_class hr (Nat.le_refl _) (by rfl) (pa_cons (pv 2) pa_nil)))) pa_nil)))) (pw_or1 (pt_not (pt_val (pe_c c_rises hr (Nat.le_refl _) (by rfl) (pa_cons (pe_ix (ixD K) (pv 0) pe_int (fun _ _ => rfl)) pa_nil)))))).pt (pss_one (ps_ret pe_bl)) pss_nil) (pss_cons (ps_set (i := 1) sc_is_kind.nd rfl (by first | exact Or.inl rfl | exact Or.inr rfl) (pe_lst pa_nil)) (pss_cons (ps_for PassesOwn.never rfl (pi_tup (pe_ix (ixD K) (pv 0) pe_int (fun _ _ => rfl))) (pg_name (i := 2) sc_is_kind.nd rfl (by first | exact Or.inl rfl | exact Or.inr rfl)) (pss_one (ps_expr (pe_bm PySem.F.plainAttrs_list PySem.F.slot_list_extend PySem.F.type_list_extend mt_extT (pv 1) (pa_cons (pv 2) pa_nil))))) (pss_one (ps_ret (pe_cmpR op_eq (pe_callB call_lenSet (by rfl) T.z_len boot_len (pa_cons (pe_callTy (cr_setL rfl) (by rfl) T.z_set boot_set (pa_cons (pv 1) pa_nil)) pa_nil)) (pe_callB call_len_seq (by rfl) T.z_len boot_len (pa_cons (pv 1) pa_nil)) (nomark _))))))))), ?_⟩
  have hdk : Knd.dt k = .tup [.tup (k.map fun c => .tup (c.map Dt.int)), .str "rows"] := rfl
  rw [hdk] at hd
  refine ⟨_, rfl, _, _, rfl, hd, _, rfl, ?_⟩
  rw [isT_tup]
  refine ⟨_, rfl, _, _, rfl, hd, rfl, _, rfl, ?_⟩
  refine ⟨_, rfl, _, 0, _, hd, rfl, rfl, fun v0 h0 => ⟨_, _, rfl, h0, _, rfl, ?_⟩⟩
  rw [isT_tup]
  refine ⟨_, rfl, _, 1, _, hd, rfl, rfl, fun v1 h1 => ⟨_, _, rfl, h1, _, rfl, ?_⟩⟩
  rw [isS_str]
  refine ⟨_, rfl, _, 1, _, hd, rfl, rfl, fun v1 h1 => ⟨_, _, h1, T.d_HOWS H, rfl, rfl, _, rfl, ?_⟩⟩
  refine iN (by simp) ?_
  refine ⟨_, rfl, _, 0, _, hd, rfl, rfl, fun v0 h0 => ⟨_, _, rfl, h0, _, _, rfl, rfl, _, rfl, iN (decide_eq_false (by have := hk.len; simp; omega)) ?_⟩⟩
  obtain ⟨p, xs, rfl, sq, il⟩ := h0.tupD
  refine ⟨_, rfl, _, 0, _, hd, rfl, rfl, fun v0 h0 => ?_⟩
  obtain ⟨p, xs, rfl, sq, il⟩ := h0.tupD
  refine ⟨_, rfl, ⟨_, sq⟩, fun D nD => ?_⟩
  refine lc_D (walk_tup (xs := xs)) il nD (fun i _ acc => acc = List.replicate i (.bl true)) rfl (fun H2 s2 => sq_up s2 sq) ?_ ?_
  · rintro i x d H2 acc hi s1 hD hx rfl
    rw [List.getElem?_map] at hi
    obtain ⟨c, hc, rfl⟩ := Option.map_eq_some_iff.mp hi
    obtain ⟨a, b, rfl, z1, z2, z3⟩ := hk.cls c (List.mem_of_getElem? hc)
    refine ⟨rfl, _, rfl, _, a, b, rfl, hx, z1, z2, z3, fun H3 s3 => ?_⟩
    refine lcn nD s1 hD s3 (lt_line ?_) ?_
    · rw [List.length_replicate]
      have := (List.getElem?_eq_some_iff.mp hc).1
      have := hk.len
      omega
    · rw [List.replicate_succ']
  rintro H2 acc s1 hD rfl
  refine ⟨D, List.replicate _ true, rfl, .of (by rw [hD, List.map_replicate]), _, rfl, ?_⟩
  rw [bls_true]
  refine ⟨_, rfl, _, 0, _, hd.sm s1, rfl, rfl, fun v0 h0 => ⟨_, rfl, .inl ⟨_, h0, by have := hk.len; simp; omega, hk.asc⟩, fun H3 s3 => ⟨_, rfl, ?_⟩⟩⟩
  refine ⟨by decide, fun L nL => ?_⟩
  have hd3 := hd.sm (s1.trans (s3.trans (Sm.new (o := .lst []) nL)))
  refine ⟨_, rfl, _, 0, _, hd3, rfl, rfl, fun v0 h0 => ?_⟩
  obtain ⟨p, xs, rfl, sq, il⟩ := h0.tupD
  refine ⟨_, rfl, ⟨_, sq⟩, ?_⟩
  have s13 : Same H H3 := s1.trans s3
  refine for_D (walk_tup (xs := xs)) il (fun i σ H' => Up K (upd H3 L (.lst [])) H' ∧ Same H3 H' ∧ H' L = some (.lst ((k.take i).flatten.map V.int)) ∧ ∃ o, σ = [some v, some (.ref L), o]) ?_ ?_ ?_ ?_
  · exact ⟨.refl, Sm.new nL, upd_same, none, rfl⟩
  · rintro i σ H' ⟨u, _⟩
    exact ⟨u _ _ sq, u⟩
  · rintro i x d σ H' hi hx ⟨u, s4, hL, o, rfl⟩
    rw [List.getElem?_map] at hi
    obtain ⟨c, hc, rfl⟩ := Option.map_eq_some_iff.mp hi
    obtain ⟨a, ys, rfl, sqy, ily⟩ := hx.tupD
    have e := ily.ints_eq
    subst e
    have hb : ((k.take i).flatten.map V.int).length + (c.map V.int).length ≤ 16777216 := by
      have h2 := hk.len
      have h3 : ∀ m : Knd, KOk k → (∀ c ∈ m, c ∈ k) → m.flatten.length = 2 * m.length := by
        intro m hk hm
        induction m with
        | nil => rfl
        | cons b m ih =>
          obtain ⟨a, b', rfl, _⟩ := hk.cls b (hm b (List.mem_cons_self ..))
          simp only [List.flatten_cons, List.length_append, List.length_cons, List.length_nil]
          have := ih fun c hc => hm c (List.mem_cons_of_mem _ hc)
          omega
      have h4 := h3 (k.take i) hk (fun c hc => List.mem_of_mem_take hc)
      obtain ⟨a, b', rfl, _⟩ := hk.cls c (List.mem_of_getElem? hc)
      simp only [List.length_map, List.length_cons, List.length_nil]
      have h5 : (k.take i).length ≤ k.length := by rw [List.length_take]; omega
      omega
    refine ⟨_, rfl, .inl ⟨rfl, _, .of hL⟩, _, rfl, L, a, _, _, rfl, rfl, hL, sqy, le_line hb, ?_⟩
    refine ⟨u.trans (.lst hL), Sm.put s4 nL, ?_, _, rfl⟩
    rw [upd_same, List.take_add_one, hc, List.flatten_append, List.map_append]
    simp
  · rintro σ H' ⟨u, s4, hL, o, rfl⟩
    have e : (k.take (k.map fun c => Dt.tup (c.map Dt.int)).length) = k := by rw [List.length_map, List.take_length]
    rw [e] at hL
    have hlen : k.flatten.length ≤ 1000 := by
      have h2 := hk.len
      cases hk <;> simp
    refine ⟨_, rfl, L, _, rfl, .of hL, hlen, fun p c np _ nd => ?_⟩
    refine ⟨p, _, c, rfl, upd_same, _, rfl, L, _, rfl, .inl (.of (by rw [upd_ne (ne_of_none hL np)]; exact hL)), rfl, ?_⟩
    rw [nd hk.nd]
    refine qB (decide_eq_true ?_) (q _ (s13.trans (s4.trans (Sm.new np))))
    rw [List.length_map]
theorem ok_need_kind {k : Nat} (T : Tx w K mg) (c_is_kind : Cal P w K mg base k "is_kind" (spKnd K (.bl true))) : Cal P w K mg base (k + 1) "need_kind" (spKnd K .non) := by
  refine Tx.cal T.f_need_kind T.g_need_kind T.b_need_kind sc_need_kind spKnd_len ?_
  rintro cdv A outer s H vs Q E hr ⟨v, k, rfl, hd, hk, q⟩
  refine ⟨_, (pss_one (ps_if (pt_not (pt_val (pe_c c_is_kind hr (Nat.le_refl _) (by rfl) (pa_cons (pv 0) pa_nil)))) pss_never pss_nil)), ?_⟩
  exact ⟨_, rfl, _, k, rfl, hd, hk, fun H' s1 => ⟨_, rfl, q H' s1⟩⟩
theorem ok_need_by_rows {k : Nat} (T : Tx w K mg) (c_is_kind : Cal P w K mg base k "is_kind" (spKnd K (.bl true))) : Cal P w K mg base (k + 1) "need_by_rows" (spKnd K .non) := by
  refine Tx.cal T.f_need_by_rows T.g_need_by_rows T.b_need_by_rows sc_need_by_rows spKnd_len ?_
  rintro cdv A outer s H vs Q E hr ⟨v, k, rfl, hd, hk, q⟩
  refine ⟨_, (pss_one (ps_if (pw_or (pt_not (pt_val (pe_c c_is_kind hr (Nat.le_refl _) (by rfl) (pa_cons (pv 0) pa_nil)))) (pw_or1 (pt_cmpR op_ne (pe_ix (ixD K) (pv 0) pe_int (fun _ _ => rfl)) pe_str (nomark _)))).pt pss_never pss_nil)), ?_⟩
  refine ⟨_, rfl, _, k, rfl, hd, hk, fun H' s1 => ⟨_, rfl, _, rfl, _, 1, _, hd.sm s1, rfl, rfl, fun v1 h1 => ?_⟩⟩
  rw [h1.strD]
  exact ⟨rfl, _, rfl, q H' s1⟩
def spCanon (K : PySem.W.Frag) (n : Nat) : Sp := fun vs H Q _ => ∃ kv v k d, vs = [kv, v] ∧ Is K H kv (Knd.dt k) ∧ KOk k ∧ Is K H v d ∧ d.thg = true ∧ d.dep < n ∧ d.sz ≤ 10 ∧ ∀ x H', Same H H' → Is K H' x (canonD k d) → Q x H'
theorem canon_find {k : Knd} {j : Nat} {a b i : Int} (hc : k[j]? = some [a, b]) (hno : ∀ c ∈ k.take j, i ∉ c) (hi : i ∈ [a, b]) : canonD k (.int i) = .int a := by
  obtain ⟨hj, e⟩ := List.getElem?_eq_some_iff.mp hc
  have e2 : k = k.take j ++ [a, b] :: k.drop (j + 1) := by
    rw [← e, ← List.drop_eq_getElem_cons hj, List.take_append_drop]
  have e3 : (k.find? fun c => decide (i ∈ c)) = some [a, b] := by
    rw [e2, List.find?_append, List.find?_eq_none.mpr (by
      intro c hc
      simpa using hno c hc), List.find?_cons, decide_eq_true hi]
    rfl
  simp only [canonD, e3]
  rfl
theorem canonDs_map (k : Knd) (l : List Dt) : canonDs k l = l.map (canonD k) := by
  induction l with
  | nil => rfl
  | cons d l ih => rw [canonDs, ih, List.map_cons]
theorem rows_ne {x : Str} (h : (("rows" : Str) == x) = false) : decide (V.str "rows" = V.str x) = false := decide_eq_false fun e => by
  have := V.str.inj e
  rw [← this] at h
  simp at h
theorem ok_canon_of {k : Nat} (T : Tx w K mg) : ∀ n, Cal P w K mg base (k + n) "canon_of" (spCanon K n)
  | 0 => Cal.no T.g_canon_of T.f_canon_of.kp T.b_canon_of (by
      rintro vs H Q E ⟨kv, v, k, d, _, _, _, _, _, h, _⟩
      omega)
  | n + 1 => by
    have c_canon_of := ok_canon_of (k := k) T n
    refine Tx.cal T.f_canon_of T.g_canon_of T.b_canon_of sc_canon_of ?_ ?_
    · rintro vs H Q E ⟨kv, v, k, d, rfl, _⟩
      rfl
    · rintro cdv A outer s H vs Q E hr ⟨kv, v, k, d, rfl, hkv, hk, hd, ht, hn, hz, q⟩
      refine ⟨_, (pss_cons (ps_if (pt_not (pt_val (pe_callB (isD K "tuple" (by simp)) (by rfl) T.z_isinstance PyProof.Rows.boot_isinstance (pa_cons (pv 1) (pa_cons (pe_bltn (v := .ty "tuple") (by rfl) T.z_tuple boot_tuple rfl) pa_nil))))) (pss_cons (ps_for PassesOwn.never rfl (pi_tup (pe_ix (ixD K) (pv 0) pe_int (fun _ _ => rfl))) (pg_name (i := 2) sc_canon_of.nd rfl (by first | exact Or.inl rfl | exact Or.inr rfl)) (pss_one (ps_if (pt_cmpR (inT K) (pv 1) (pv 2) (by rfl)) (pss_one (ps_ret (pe_ix (ixD K) (pv 2) pe_int (fun _ _ => rfl)))) pss_nil))) (pss_one (ps_ret (pv 1)))) pss_nil) (pss_cons (ps_setLc (i := 3) (own := [("one", 4)]) rfl sc_canon_of.nd rfl rfl (sw_true rfl rfl rfl (by decide +kernel)) (pi_tup (pv 1)) (blkOk_by (own := [("one", 4)]) (N := ["kind", "worth", "some", "found", "one"]) (sc := defScope sCanonOf) (by decide +kernel)) (fun _ _ _ _ _ => (pg_name (i := 4) sc_canon_of.nd rfl (by first | exact Or.inl rfl | exact Or.inr rfl))) (fun _ _ _ _ _ => pts_nil) (fun _ _ _ _ _ => (pe_c c_canon_of hr (Nat.le_refl _) (by rfl) (pa_cons (pv 0) (pa_cons (pv 4) pa_nil))))) (pss_cons (ps_if (pt_cmpR op_eq (pe_ix (ixD K) (pv 0) pe_int (fun _ _ => rfl)) pe_str (nomark _)) (pss_one (ps_set (i := 3) sc_canon_of.nd rfl (by first | exact Or.inl rfl | exact Or.inr rfl) pe_no)) pss_nil) (pss_cons (ps_if (pw_and (pt_cmpR op_eq (pe_ix (ixD K) (pv 0) pe_int (fun _ _ => rfl)) pe_str (nomark _)) (pw_and1 pt_no)).pt (pss_one ps_never) pss_nil) (pss_one (ps_ret (pe_callTy call_tuple_of (by rfl) T.z_tuple boot_tuple (pa_cons (pv 3) pa_nil)))))))), ?_⟩
      refine ⟨_, rfl, _, _, rfl, hd, _, rfl, ?_⟩
      cases d with
      | str x => simp [Dt.thg] at ht
      | int i =>
        rw [isT_int]
        have hdk : Knd.dt k = .tup [.tup (k.map fun c => .tup (c.map Dt.int)), .str "rows"] := rfl
        rw [hdk] at hkv
        refine ⟨_, rfl, _, 0, _, hkv, rfl, rfl, fun v0 h0 => ?_⟩
        obtain ⟨p, xs, rfl, sq, il⟩ := h0.tupD
        refine ⟨_, rfl, ⟨_, sq⟩, ?_⟩
        refine for_D (walk_tup (xs := xs)) il (fun j σ H' => H' = H ∧ (∀ c ∈ k.take j, i ∉ c) ∧ ∃ o1 o2 o3, σ = [some kv, some v, o1, o2, o3]) ?_ ?_ ?_ ?_
        · exact ⟨rfl, by simp, none, none, none, rfl⟩
        · rintro j σ H' ⟨rfl, _⟩
          exact ⟨sq, .refl⟩
        · rintro j x d σ H' hj hx ⟨rfl, hno, o1, o2, o3, rfl⟩
          rw [List.getElem?_map] at hj
          obtain ⟨c, hc, rfl⟩ := Option.map_eq_some_iff.mp hj
          obtain ⟨a, b, rfl, z1, z2, z3⟩ := hk.cls c (List.mem_of_getElem? hc)
          refine ⟨_, rfl, _, rfl, _, _, hd, hx, rfl, rfl, _, rfl, iD (fun e => ?_) fun e => ?_⟩
          · refine ⟨_, rfl, _, 0, .int a, hx, rfl, rfl, fun y hy => q y _ (.refl _) ?_⟩
            have e1 : i ∈ [a, b] := by simpa using of_decide_eq_true e
            rw [canon_find hc hno e1]
            exact hy
          · refine ⟨rfl, ?_, _, _, _, rfl⟩
            intro c hc'
            rw [List.take_add_one, hc, List.mem_append] at hc'
            rcases hc' with hc' | hc'
            · exact hno c hc'
            · simp only [Option.toList_some, List.mem_singleton] at hc'
              subst hc'
              have e2 := of_decide_eq_false e
              simpa using e2
        · rintro σ H' ⟨rfl, hno, o1, o2, o3, rfl⟩
          refine ⟨_, rfl, q _ _ (.refl _) ?_⟩
          have e : canonD k (.int i) = .int i := by
            have : (k.find? fun c => decide (i ∈ c)) = none := by
              rw [List.find?_eq_none]
              intro c hc
              simp only [decide_eq_true_eq]
              refine hno c ?_
              rw [List.length_map, List.take_length]
              exact hc
            simp only [canonD, this]
            rfl
          rw [e]
          exact hd
      | tup l =>
        rw [isT_tup]
        have hdk : Knd.dt k = .tup [.tup (k.map fun c => .tup (c.map Dt.int)), .str "rows"] := rfl
        have hkv' := hkv
        rw [hdk] at hkv
        obtain ⟨p, xs, rfl, sq, il⟩ := hd.tupD
        simp only [Dt.thg, Dt.sz, Dt.dep] at ht hz hn
        refine ⟨_, rfl, _, rfl, ⟨_, sq⟩, fun D nD => ?_⟩
        refine lc_D (walk_tup (xs := xs)) il nD (fun i H' acc => IsAll K H' acc ((l.take i).map (canonD k))) .nil (fun H2 s2 => sq_up s2 sq) ?_ ?_
        · rintro i x d H2 acc hi s1 hD hx f
          have hmem : d ∈ l := List.mem_of_getElem? hi
          have hsz := Dt.sz_mem hmem
          have hdp := (Dt.deps_le l (Dt.deps l)).mp (Nat.le_refl _) d hmem
          have hl := Dt.szs_len l
          refine ⟨rfl, _, rfl, _, rfl, _, _, k, d, rfl, hkv'.sm s1, hk, hx, (Dt.thgs_iff l).mp ht d hmem, by omega, by omega, fun y H3 s3 hy => ?_⟩
          refine lcn nD s1 hD s3 (lt_line (by rw [f.len, List.length_map, List.length_take]; omega)) ?_
          rw [List.take_add_one, hi, List.map_append]
          exact ((f.sm s3).append (.one hy)).up (.lst (s3 _ _ hD))
        · rintro H2 acc s1 hD f
          rw [List.take_length] at f
          refine ⟨_, rfl, _, 1, _, hkv.sm s1, rfl, rfl, fun v1 h1 => ?_⟩
          rw [h1.strD]
          refine ⟨rfl, _, rfl, iN (rows_ne (by decide +kernel)) ?_⟩
          refine ⟨_, rfl, _, 1, _, hkv.sm s1, rfl, rfl, fun v1 h1 => ?_⟩
          rw [h1.strD]
          refine ⟨rfl, _, rfl, ?_⟩
          rw [rows_ne (by decide +kernel)]
          refine ⟨_, rfl, D, acc, rfl, .inl ⟨.of hD, fun p np => q _ _ (s1.trans (Sm.new np)) ?_⟩⟩
          rw [canonD, canonDs_map]
          exact Is.new np f
mutual
theorem canon_sok (k : Knd) : ∀ d : Dt, (canonD k d).sok = d.sok
  | .int _ => by simp [canonD, Dt.sok]
  | .str _ => by simp [canonD]
  | .tup l => by simp [canonD, Dt.sok, canons_sok k l]
theorem canons_sok (k : Knd) : ∀ l : List Dt, Dt.soks (canonDs k l) = Dt.soks l
  | [] => by simp [canonDs]
  | d :: l => by simp [canonDs, Dt.soks, canon_sok k d, canons_sok k l]
end
mutual
theorem canon_dep (k : Knd) : ∀ d : Dt, (canonD k d).dep = d.dep
  | .int _ => by simp [canonD, Dt.dep]
  | .str _ => by simp [canonD]
  | .tup l => by simp [canonD, Dt.dep, canons_dep k l]
theorem canons_dep (k : Knd) : ∀ l : List Dt, Dt.deps (canonDs k l) = Dt.deps l
  | [] => by simp [canonDs]
  | d :: l => by simp [canonDs, Dt.deps, canon_dep k d, canons_dep k l]
end
def spLike (K : PySem.W.Frag) : Sp := fun vs H Q _ => ∃ kv v u k d e, vs = [kv, v, u] ∧ Is K H kv (Knd.dt k) ∧ KOk k ∧ Is K H v d ∧ Is K H u e ∧ d.good ∧ e.good ∧ ∀ H', Same H H' → Q (.bl (likeD k d e)) H'
theorem ok_are_like {k : Nat} (T : Tx w K mg) (c_goes_on : Cal P w K mg base k "goes_on" (spG K fun _ => .bl false)) (c_canon_of : Cal P w K mg base k "canon_of" (spCanon K 6)) : Cal P w K mg base (k + 1) "are_like" (spLike K) := by
  refine Tx.cal T.f_are_like T.g_are_like T.b_are_like sc_are_like ?_ ?_
  · rintro vs H Q E ⟨kv, v, u, k, d, e, rfl, _⟩
    rfl
  · rintro cdv A outer s H vs Q E hr ⟨kv, v, u, k, d, e, rfl, hkv, hk, hd, he, gd, ge, q⟩
    refine ⟨_, (pss_cons (ps_if (pt_cmpR op_ne (pe_c c_goes_on hr (Nat.le_refl _) (by rfl) (pa_cons (pv 1) pa_nil)) (pe_c c_goes_on hr (Nat.le_refl _) (by rfl) (pa_cons (pv 2) pa_nil)) (nomark _)) (pss_one (ps_ret pe_bl)) pss_nil) (pss_cons (ps_if (pt_not (pt_val (pe_c c_goes_on hr (Nat.le_refl _) (by rfl) (pa_cons (pv 1) pa_nil)))) (pss_one (ps_ret (pe_cmpR (eqT K hr.units) (pe_c c_canon_of hr (Nat.le_refl _) (by rfl) (pa_cons (pv 0) (pa_cons (pv 1) pa_nil))) (pe_c c_canon_of hr (Nat.le_refl _) (by rfl) (pa_cons (pv 0) (pa_cons (pv 2) pa_nil))) (nomark _)))) pss_nil) pss_never)), ?_⟩
    refine ⟨_, rfl, _, d, rfl, hd, gd, _, rfl, _, e, rfl, he, ge, rfl, _, rfl, ?_⟩
    refine ⟨_, rfl, _, d, rfl, hd, gd, _, rfl, ?_⟩
    have d1 := gd.dep
    have d2 := ge.dep
    refine ⟨_, rfl, _, rfl, _, _, k, d, rfl, hkv, hk, hd, gd.thg, by omega, gd.sz, fun x H1 s1 hx => ?_⟩
    refine ⟨_, rfl, _, rfl, _, _, k, e, rfl, hkv.sm s1, hk, he.sm s1, ge.thg, by omega, ge.sz, fun y H2 s2 hy => ?_⟩
    refine ⟨_, _, hx.sm s2, hy, Dt.fit_of (by rw [canon_sok]; exact Dt.sok_thg d gd.thg) (by rw [canon_dep]; omega), Dt.fit_of (by rw [canon_sok]; exact Dt.sok_thg e ge.thg) (by rw [canon_dep]; omega), ?_⟩
    refine qB ?_ (q _ (s1.trans s2))
    have h := canon_like hk d e gd.thg ge.thg
    cases z : likeD k d e with
    | true => exact decide_eq_true (h.mpr z)
    | false => exact decide_eq_false fun w => by rw [h.mp w] at z; cases z
end
end Wf
set_option Elab.async false
set_option linter.all false
set_option maxRecDepth 100000
set_option maxHeartbeats 400000
namespace Wf
open PySem PySem.Spec PyProof.Rows L2
mutual
def Pt.ok : Pt → Prop
  | .any => True
  | .is_ d => d.good
  | .two _ p q => p.ok ∧ q.ok
  | .lone _ p => p.ok
  | .row l => l.len ≤ 3 ∧ l.ok
def Its.ok : Its → Prop
  | .nil => True
  | .cons _ p l => p.ok ∧ l.ok
end
def Its.pats : Its → List Pt
  | .nil => []
  | .cons _ p l => p :: l.pats
def Pt.subs : Pt → List Pt
  | .any => []
  | .is_ _ => []
  | .two _ p q => [p, q]
  | .lone _ p => [p]
  | .row l => l.pats
mutual
def Pt.nd : Pt → Nat
  | .any => 1
  | .is_ _ => 1
  | .two _ p q => 1 + (p.nd + q.nd)
  | .lone _ p => 1 + p.nd
  | .row l => 1 + l.nd
def Its.nd : Its → Nat
  | .nil => 0
  | .cons _ p l => p.nd + l.nd
end
def sumN : List Nat → Nat
  | [] => 0
  | a :: l => a + sumN l
theorem sumN_append (l m : List Nat) : sumN (l ++ m) = sumN l + sumN m := by
  induction l with
  | nil => simp [sumN]
  | cons a l ih => simp [sumN, ih]; omega
theorem sumN_take {l : List Nat} {i : Nat} {a : Nat} (h : l[i]? = some a) : sumN (l.take (i + 1)) = sumN (l.take i) + a := by
  rw [List.take_add_one, h, sumN_append]
  simp [sumN]
theorem sumN_take_le (l : List Nat) (i : Nat) : sumN (l.take i) ≤ sumN l := by
  have h := sumN_append (l.take i) (l.drop i)
  rw [List.take_append_drop] at h
  omega
theorem sumN_mem {l : List Nat} {a : Nat} (h : a ∈ l) : a ≤ sumN l := by
  induction l with
  | nil => cases h
  | cons b l ih =>
    simp only [sumN]
    rcases List.mem_cons.mp h with rfl | h
    · omega
    · have := ih h
      omega
theorem Its.nd_pats : ∀ l : Its, l.nd = sumN (l.pats.map Pt.nd)
  | .nil => by simp [Its.nd, Its.pats, sumN]
  | .cons _ p l => by simp [Its.nd, Its.pats, sumN, Its.nd_pats l]
theorem Pt.nd_subs (p : Pt) : p.nd = 1 + sumN (p.subs.map Pt.nd) := by
  cases p with
  | row l => simp [Pt.nd, Pt.subs, Its.nd_pats l]
  | _ => simp [Pt.nd, Pt.subs, sumN] <;> omega
theorem Pt.nd_pos (p : Pt) : 1 ≤ p.nd := by rw [Pt.nd_subs]; omega
theorem Its.pats_len : ∀ l : Its, l.pats.length = l.len
  | .nil => rfl
  | .cons _ _ l => by simp [Its.pats, Its.len, Its.pats_len l]
theorem Its.dp_le : ∀ {l : Its} {p : Pt}, p ∈ l.pats → p.dp ≤ l.dp
  | .nil, _, h => by cases h
  | .cons _ q l, p, h => by
    simp only [Its.dp]
    rcases List.mem_cons.mp h with rfl | h
    · omega
    · have := Its.dp_le h
      omega
theorem Pt.dp_subs {p q : Pt} (h : q ∈ p.subs) : q.dp + 1 ≤ p.dp := by
  cases p with
  | any => cases h
  | is_ _ => cases h
  | two b p r =>
    simp only [Pt.subs, List.mem_cons, List.not_mem_nil, or_false] at h
    simp only [Pt.dp]
    rcases h with rfl | rfl <;> omega
  | lone k r =>
    simp only [Pt.subs, List.mem_cons, List.not_mem_nil, or_false] at h
    subst h
    simp only [Pt.dp]
    omega
  | row l =>
    have := Its.dp_le h
    simp only [Pt.dp]
    omega
theorem Its.ok_mem : ∀ {l : Its} {p : Pt}, l.ok → p ∈ l.pats → p.ok
  | .nil, _, _, h => by cases h
  | .cons _ q l, p, k, h => by
    simp only [Its.ok] at k
    rcases List.mem_cons.mp h with rfl | h
    · exact k.1
    · exact Its.ok_mem k.2 h
theorem Pt.ok_subs {p q : Pt} (k : p.ok) (h : q ∈ p.subs) : q.ok := by
  cases p with
  | any => cases h
  | is_ _ => cases h
  | two b p r =>
    simp only [Pt.subs, List.mem_cons, List.not_mem_nil, or_false] at h
    simp only [Pt.ok] at k
    rcases h with rfl | rfl
    · exact k.1
    · exact k.2
  | lone _ r =>
    simp only [Pt.subs, List.mem_cons, List.not_mem_nil, or_false] at h
    subst h
    exact k
  | row l =>
    simp only [Pt.ok] at k
    exact Its.ok_mem k.2 h
theorem Pt.dp_pos (p : Pt) : 1 ≤ p.dp := by cases p <;> simp [Pt.dp]
mutual
theorem Pt.sok : ∀ p : Pt, p.ok → p.dt.sok = true
  | .any, _ => by
    simp only [Pt.dt, Dt.sok, Dt.soks]
    decide +kernel
  | .is_ d, h => by
    simp only [Pt.ok] at h
    simp only [Pt.dt, Dt.sok, Dt.soks, Dt.sok_thg d h.thg]
    decide +kernel
  | .two b p q, h => by
    simp only [Pt.ok] at h
    simp only [Pt.dt, Dt.sok, Dt.soks, Pt.sok p h.1, Pt.sok q h.2]
    cases b <;> decide +kernel
  | .lone k p, h => by
    simp only [Pt.ok] at h
    simp only [Pt.dt, Dt.sok, Dt.soks, Pt.sok p h]
    cases k <;> decide +kernel
  | .row l, h => by
    simp only [Pt.ok] at h
    simp only [Pt.dt, Dt.sok, Dt.soks, Its.sok l h.2]
    decide +kernel
theorem Its.sok : ∀ l : Its, l.ok → Dt.soks l.dts = true
  | .nil, _ => rfl
  | .cons s p l, h => by
    simp only [Its.ok] at h
    simp only [Its.dts, Dt.sok, Dt.soks, Pt.sok p h.1, Its.sok l h.2]
    cases s <;> decide +kernel
end
mutual
theorem Pt.dtdep : ∀ p : Pt, p.ok → p.dt.dep ≤ 3 * p.dp + 4
  | .any, _ => by simp [Pt.dt, Dt.dep, Dt.deps, Pt.dp]
  | .is_ d, h => by
    simp only [Pt.ok] at h
    have := h.dep
    simp only [Pt.dt, Dt.dep, Dt.deps, Pt.dp]
    omega
  | .two b p q, h => by
    simp only [Pt.ok] at h
    have h1 := Pt.dtdep p h.1
    have h2 := Pt.dtdep q h.2
    simp only [Pt.dt, Dt.dep, Dt.deps, Pt.dp]
    omega
  | .lone k p, h => by
    simp only [Pt.ok] at h
    have h1 := Pt.dtdep p h
    simp only [Pt.dt, Dt.dep, Dt.deps, Pt.dp]
    omega
  | .row l, h => by
    simp only [Pt.ok] at h
    have h1 := Its.dtdep l h.2
    simp only [Pt.dt, Dt.dep, Dt.deps, Pt.dp]
    omega
theorem Its.dtdep : ∀ l : Its, l.ok → Dt.deps l.dts ≤ 3 * l.dp + 5
  | .nil, _ => by simp [Its.dts, Dt.deps]
  | .cons s p l, h => by
    simp only [Its.ok] at h
    have h1 := Pt.dtdep p h.1
    have h2 := Its.dtdep l h.2
    simp only [Its.dts, Dt.dep, Dt.deps, Its.dp]
    omega
end
theorem Pt.fit {p : Pt} (h : p.ok) (d : p.dp ≤ 10) : p.dt.fit := Dt.fit_of (p.sok h) (by have := p.dtdep h; omega)
def Pt.word : Pt → Str
  | .any => "any"
  | .is_ _ => "is"
  | .two b _ _ => twoW b
  | .lone k _ => k.word
  | .row _ => "row"
theorem Pt.dt_head (p : Pt) : ∃ l, p.dt = .tup (.str p.word :: l) := by cases p <;> exact ⟨_, rfl⟩
mutual
def Pt.all : Pt → List Pt
  | .any => [.any]
  | .is_ d => [.is_ d]
  | .two b p q => .two b p q :: (p.all ++ (q.all ++ []))
  | .lone k p => .lone k p :: (p.all ++ [])
  | .row l => .row l :: l.all
def Its.all : Its → List Pt
  | .nil => []
  | .cons _ p l => p.all ++ l.all
end
theorem Its.all_pats : ∀ l : Its, l.all = (l.pats.map Pt.all).flatten
  | .nil => by simp [Its.all, Its.pats]
  | .cons _ p l => by simp [Its.all, Its.pats, Its.all_pats l]
theorem Pt.all_subs (p : Pt) : p.all = p :: (p.subs.map Pt.all).flatten := by
  cases p with
  | row l => simp [Pt.all, Pt.subs, Its.all_pats l]
  | _ => simp [Pt.all, Pt.subs]
mutual
theorem Pt.all_len : ∀ p : Pt, p.all.length = p.nd
  | .any => by simp [Pt.all, Pt.nd]
  | .is_ _ => by simp [Pt.all, Pt.nd]
  | .two _ p q => by simp [Pt.all, Pt.nd, Pt.all_len p, Pt.all_len q]; omega
  | .lone _ p => by simp [Pt.all, Pt.nd, Pt.all_len p]; omega
  | .row l => by simp [Pt.all, Pt.nd, Its.all_len l]; omega
theorem Its.all_len : ∀ l : Its, l.all.length = l.nd
  | .nil => by simp [Its.all, Its.nd]
  | .cons _ p l => by simp [Its.all, Its.nd, Pt.all_len p, Its.all_len l]
end
theorem Pt.word_in (p : Pt) : p.word ∈ (["any", "is", "both", "either", "not", "first", "all", "row"] : List Str) := by
  cases p with
  | any => simp [Pt.word]
  | is_ _ => simp [Pt.word]
  | two b _ _ => cases b <;> simp [Pt.word, twoW]
  | lone k _ => cases k <;> simp [Pt.word, Lw.word]
  | row _ => simp [Pt.word]
theorem Pt.word_ne {p : Pt} {x : Str} (h : (["any", "is", "both", "either", "not", "first", "all", "row"] : List Str).contains x = false) : p.word ≠ x := fun e => by
  have := p.word_in
  rw [e] at this
  rw [List.contains_iff_mem.mpr this] at h
  cases h
mutual
theorem Pt.nd_le : ∀ p : Pt, p.nd ≤ p.pcs
  | .any => by simp [Pt.nd, Pt.pcs]
  | .is_ d => by have := d.sz_pos; simp only [Pt.nd, Pt.pcs]; omega
  | .two _ p q => by have := p.nd_le; have := q.nd_le; simp only [Pt.nd, Pt.pcs]; omega
  | .lone _ p => by have := p.nd_le; simp only [Pt.nd, Pt.pcs]; omega
  | .row l => by have := l.nd_le; simp only [Pt.nd, Pt.pcs]; omega
theorem Its.nd_le : ∀ l : Its, l.nd ≤ l.pcs
  | .nil => by simp [Its.nd]
  | .cons _ p l => by have := p.nd_le; have := l.nd_le; simp only [Its.nd, Its.pcs]; omega
end
end Wf
set_option Elab.async false
set_option linter.all false
set_option maxRecDepth 100000
set_option maxHeartbeats 400000
namespace Wf
open PySem PySem.Spec PyProof.Rows L2
section
variable {P : Program} {w : World} {K : PySem.W.Frag} {mg : Str → Option Value} {base : Heap}
theorem strE {x y : Str} (h : (x == y) = true) : decide (V.str x = V.str y) = true := decide_eq_true (congrArg V.str (eq_of_beq h))
theorem strN {x y : Str} (h : (x == y) = false) : decide (V.str x = V.str y) = false := decide_eq_false fun e => by
  have := V.str.inj e
  rw [this, beq_self_eq_true] at h
  cases h
theorem its_at : ∀ {l : Its} {i : Nat} {d : Dt}, l.dts[i]? = some d → ∃ s p, d = .tup [.str (itW s), p.dt] ∧ p ∈ l.pats
  | .nil, _, _, h => by simp [Its.dts] at h
  | .cons s p l, 0, d, h => by
    simp only [Its.dts, List.getElem?_cons_zero, Option.some.injEq] at h
    exact ⟨s, p, h.symm, List.mem_cons_self ..⟩
  | .cons s p l, i + 1, d, h => by
    simp only [Its.dts, List.getElem?_cons_succ] at h
    obtain ⟨s', p', e, m⟩ := its_at h
    exact ⟨s', p', e, List.mem_cons_of_mem _ m⟩
def spItems (K : PySem.W.Frag) : Sp := fun vs H Q _ => ∃ v l, vs = [.str "row", v] ∧ Is K H v (.tup (Its.dts l)) ∧ l.len ≤ 3 ∧ ∀ H', Same H H' → Q (.bl true) H'
theorem ok_are_items {k : Nat} (T : Tx w K mg) : Cal P w K mg base (k + 1) "are_items" (spItems K) := by
  refine Tx.cal T.f_are_items T.g_are_items T.b_are_items sc_are_items ?_ ?_
  · rintro vs H Q E ⟨v, l, rfl, _⟩
    rfl
  · rintro cdv A outer s H vs Q E hr ⟨v, l, rfl, hd, hl, q⟩
    obtain ⟨es, tn, hD⟩ := T.mi_tab
    obtain ⟨u6, hu6, ru6⟩ := T.mi_row
    refine ⟨_, (pss_cons (ps_if (pw_or (pt_not (pt_val (pe_callB (isD K "tuple" (by simp)) (by rfl) T.z_isinstance PyProof.Rows.boot_isinstance (pa_cons (pv 1) (pa_cons (pe_bltn (v := .ty "tuple") (by rfl) T.z_tuple boot_tuple rfl) pa_nil))))) (pw_or1 (pt_cmpR op_gt (pe_callB (lenD K) (by rfl) T.z_len boot_len (pa_cons (pv 1) pa_nil)) (pe_ix (ix_kd hD) (pe_gv (by rfl) T.v_MOST_ITEMS) (pv 0) (fun _ _ => rfl)) (nomark _)))).pt (pss_one (ps_ret pe_bl)) pss_nil) (pss_cons (ps_for PassesOwn.never rfl (pi_enumT (by rfl) T.z_enumerate (pa_cons (pv 1) pa_nil)) (pgTup K (n := 2) rfl (pgs_cons (pg_name (i := 2) sc_are_items.nd rfl (by first | exact Or.inl rfl | exact Or.inr rfl)) (pgs_cons (pg_name (i := 3) sc_are_items.nd rfl (by first | exact Or.inl rfl | exact Or.inr rfl)) pgs_nil))) (pss_cons (ps_if (pw_or (pt_not (pt_val (pe_callB (isD K "tuple" (by simp)) (by rfl) T.z_isinstance PyProof.Rows.boot_isinstance (pa_cons (pv 3) (pa_cons (pe_bltn (v := .ty "tuple") (by rfl) T.z_tuple boot_tuple rfl) pa_nil))))) (pw_or (pt_cmpR op_ne (pe_callB (lenD K) (by rfl) T.z_len boot_len (pa_cons (pv 3) pa_nil)) pe_int (nomark _)) (pw_or1 (pt_not (pt_val (pe_callB (isD K "str" (by simp)) (by rfl) T.z_isinstance PyProof.Rows.boot_isinstance (pa_cons (pe_ix (ixD K) (pv 3) pe_int (fun _ _ => rfl)) (pa_cons (pe_bltn (v := .ty "str") (by rfl) T.z_str boot_str rfl) pa_nil)))))))).pt (pss_one (ps_ret pe_bl)) pss_nil) (pss_one (ps_if (pw_and (pt_cmpR op_ne (pe_ix (ixD K) (pv 3) pe_int (fun _ _ => rfl)) pe_str (nomark _)) (pw_and1 (pt_not (pw_and (pt_cmpR op_eq (pe_ix (ixD K) (pv 3) pe_int (fun _ _ => rfl)) pe_str (nomark _)) (pw_and1 (pt_cmpR op_eq (pv 0) pe_str (nomark _)))).pt))).pt pss_never pss_nil)))) (pss_one (ps_ret pe_bl)))), ?_⟩
    obtain ⟨p, xs, rfl, sq, il⟩ := hd.tupD
    have hlen := l.dts_len
    have hxl := il.len
    refine ⟨_, rfl, _, _, rfl, hd, _, rfl, ?_⟩
    rw [isT_tup]
    refine ⟨_, rfl, _, _, rfl, hd, _, rfl, _, _, _, rfl, rfl, hu6, ru6, _, _, rfl, rfl, _, rfl, iN (decide_eq_false (by omega)) ?_⟩
    refine ⟨_, rfl, p, xs, rfl, sq, ?_⟩
    refine for_it (walk_enumT (xs := xs)) (fun i σ H' => Same H H' ∧ ∃ o1 o2, σ = [some (.str "row"), some (.ref p), o1, o2]) ?_ ?_ ?_ ?_
    · exact ⟨.refl _, none, none, rfl⟩
    · rintro i σ H' _ ⟨s1, _⟩
      exact sq_up s1 sq
    · rintro i x σ H1 H2 hi ⟨s1, o1, o2, rfl⟩ ⟨t, x1, x2, rfl, nt, rfl, h1, h2⟩
      obtain rfl := Option.some.inj h1
      obtain ⟨d, e2, i2⟩ := il.at_ h2
      obtain ⟨b, q', rfl, _⟩ := its_at e2
      have i3 := (i2.sm s1).sm (Sm.new (o := .tup [.int (i : Nat), x2]) nt)
      refine ⟨_, _, rfl, .of upd_same, rfl, _, _, rfl, _, _, rfl, rfl, ?_⟩
      refine ⟨_, rfl, _, _, rfl, i3, _, rfl, ?_⟩
      rw [isT_tup]
      refine ⟨_, rfl, _, _, rfl, i3, rfl, _, rfl, ?_⟩
      refine ⟨_, rfl, _, 0, _, i3, rfl, rfl, fun v0 h0 => ⟨_, _, rfl, h0, _, rfl, ?_⟩⟩
      rw [isS_str]
      refine ⟨_, rfl, _, 0, _, i3, rfl, rfl, fun v0 h0 => ?_⟩
      rw [h0.strD]
      refine ⟨rfl, _, rfl, ?_⟩
      cases b with
      | false =>
        refine iN (by decide +kernel) ?_
        exact ⟨s1.trans (Sm.new nt), _, _, rfl⟩
      | true =>
        refine iY (by decide +kernel) ?_
        refine ⟨_, rfl, _, 0, _, i3, rfl, rfl, fun v0 h0 => ?_⟩
        rw [h0.strD]
        refine ⟨rfl, _, rfl, iY (by decide +kernel) ?_⟩
        refine ⟨_, rfl, rfl, _, rfl, ?_⟩
        refine iN (by decide +kernel) ?_
        exact ⟨s1.trans (Sm.new nt), _, _, rfl⟩
    · rintro σ H1 ⟨s1, o1, o2, rfl⟩
      exact q _ s1
theorem inE {d : Dt} {l : List Dt} (h : l.contains d = true) : decide (d ∈ l) = true := decide_eq_true (List.contains_iff_mem.mp h)
theorem inN {d : Dt} {l : List Dt} (h : l.contains d = false) : decide (d ∈ l) = false := decide_eq_false fun m => by
  rw [List.contains_iff_mem.mpr m] at h
  cases h
theorem pt_ne_nil (p : Pt) : decide (p.dt = .tup []) = false := decide_eq_false fun e => by
  obtain ⟨l, h⟩ := p.dt_head
  rw [h] at e
  cases e
theorem Pt.dt_len (p : Pt) : ∃ l, p.dt = .tup l ∧ l[0]? = some (.str p.word) ∧ 1 ≤ l.length ∧ l.length ≤ 3 := by
  cases p <;> exact ⟨_, rfl, rfl, by simp, by simp⟩
def spForm (K : PySem.W.Frag) : Sp := fun vs H Q _ => ∃ v p, vs = [v] ∧ Is K H v (Pt.dt p) ∧ p.ok ∧ p.dp ≤ 10 ∧ ∀ H', Same H H' → Q (.bl true) H'
theorem ok_has_form {k : Nat} (T : Tx w K mg) (c_are_items : Cal P w K mg base k "are_items" (spItems K)) (c_is_worth : Cal P w K mg base k "is_worth" (spG K fun _ => .bl true)) : Cal P w K mg base (k + 1) "has_form" (spForm K) := by
  refine Tx.cal T.f_has_form T.g_has_form T.b_has_form sc_has_form ?_ ?_
  · rintro vs H Q E ⟨v, p, rfl, _⟩
    rfl
  · rintro cdv A outer s H vs Q E hr ⟨v, p, rfl, hd, hok, hdp, q⟩
    obtain ⟨es, tn, hD⟩ := T.mi_tab
    obtain ⟨u6, hu6, ru6⟩ := T.mi_row
    refine ⟨_, (pss_cons (ps_if (pw_or (pt_not (pt_val (pe_callB (isD K "tuple" (by simp)) (by rfl) T.z_isinstance PyProof.Rows.boot_isinstance (pa_cons (pv 0) (pa_cons (pe_bltn (v := .ty "tuple") (by rfl) T.z_tuple boot_tuple rfl) pa_nil))))) (pw_or (pt_cmpR (eqT K hr.units) (pv 0) (pe_tup pa_nil) (nomark _)) (pw_or1 (pt_not (pt_val (pe_callB (isD K "str" (by simp)) (by rfl) T.z_isinstance PyProof.Rows.boot_isinstance (pa_cons (pe_ix (ixD K) (pv 0) pe_int (fun _ _ => rfl)) (pa_cons (pe_bltn (v := .ty "str") (by rfl) T.z_str boot_str rfl) pa_nil)))))))).pt (pss_one (ps_ret pe_bl)) pss_nil) (pss_cons (ps_par (i := 1) (j := 2) rfl sc_has_form.nd rfl rfl (by decide) rfl rfl (pa_cons (pe_ix (ixD K) (pv 0) pe_int (fun _ _ => rfl)) (pa_cons (pe_callB (lenD K) (by rfl) T.z_len boot_len (pa_cons (pv 0) pa_nil)) pa_nil)) rfl) (pss_cons (ps_if (pt_cmpR op_eq (pv 1) pe_str (nomark _)) (pss_one (ps_ret (pe_cmpR op_eq (pv 2) pe_int (nomark _)))) pss_nil) (pss_cons (ps_if (pt_cmpR (inT K) (pv 1) (pe_gv (by rfl) T.v_PAIRS) (by rfl)) (pss_one (ps_ret (pe_cmpR op_eq (pv 2) pe_int (nomark _)))) pss_nil) (pss_cons (ps_if (pt_cmpR op_eq (pv 1) pe_str (nomark _)) pss_never pss_nil) (pss_cons (ps_if (pt_cmpR op_ne (pv 2) pe_int (nomark _)) (pss_one (ps_ret pe_bl)) pss_nil) (pss_cons (ps_if (pt_cmpR (inT K) (pv 1) (pe_tup (pa_cons pe_str (pa_cons pe_str pa_nil))) (by rfl)) pss_never pss_nil) (pss_cons (ps_if (pt_cmpR (op_in_kd hD) (pv 1) (pe_gv (by rfl) T.v_MOST_ITEMS) (by rfl)) (pss_one (ps_ret (pe_c c_are_items hr (Nat.le_refl _) (by rfl) (pa_cons (pv 1) (pa_cons (pe_ix (ixD K) (pv 0) pe_int (fun _ _ => rfl)) pa_nil))))) pss_nil) (pss_one (ps_ret (pe_or (pe_cmpR (inT K) (pv 1) (pe_gv (by rfl) T.v_LONE) (by rfl)) (pe_one (pe_and (pe_cmpR op_eq (pv 1) pe_str (nomark _)) (pe_one (pe_c c_is_worth hr (Nat.le_refl _) (by rfl) (pa_cons (pe_ix (ixD K) (pv 0) pe_int (fun _ _ => rfl)) pa_nil)))))))))))))))), ?_⟩
    obtain ⟨l, el, l0, ll1, ll3⟩ := p.dt_len
    have hfit := p.fit hok hdp
    have hne := pt_ne_nil p
    have hd' := hd
    rw [el] at hd
    refine ⟨_, rfl, _, _, rfl, hd, _, rfl, ?_⟩
    rw [isT_tup]
    refine ⟨_, rfl, by decide, fun pe ne => ?_⟩
    have s0 : Same H (upd H pe (.tup [])) := Sm.new ne
    refine ⟨p.dt, .tup [], hd'.sm s0, Is.new ne .nil, hfit, Dt.fit_of rfl (by simp [Dt.dep, Dt.deps]), ?_⟩
    rw [hne]
    refine ⟨_, rfl, _, rfl, _, 0, _, hd.sm s0, rfl, l0, fun v0 h0 => ⟨_, _, rfl, h0, _, rfl, ?_⟩⟩
    rw [isS_str]
    refine ⟨_, rfl, _, 0, _, hd.sm s0, rfl, l0, fun v0 h0 => ⟨_, rfl, _, _, rfl, hd.sm s0, ?_⟩⟩
    rw [h0.strD]
    generalize upd H pe (.tup []) = H0 at *
    refine ⟨_, _, rfl, _, rfl, rfl, _, rfl, ?_⟩
    cases p with
    | any =>
      obtain rfl := Dt.tup.inj el
      refine iY (strE rfl) ?_
      exact ⟨_, rfl, rfl, q _ s0⟩
    | is_ d =>
      obtain rfl := Dt.tup.inj el
      refine iN (strN rfl) ?_
      refine ⟨_, rfl, _, _, .str _, T.d_PAIRS _, rfl, rfl, _, rfl, iN (inN rfl) ?_⟩
      refine ⟨_, rfl, rfl, _, rfl, iN rfl ?_⟩
      refine ⟨_, rfl, rfl, _, rfl, iN rfl ?_⟩
      refine ⟨_, rfl, by decide, fun p2 n2 => ⟨_, [.str "name", .str "hole"], .str _, Is.new n2 (.cons (.str _) (.cons (.str _) .nil)), rfl, rfl, _, rfl, iN (inN rfl) ?_⟩⟩
      have s2 := s0.trans (Sm.new (o := .tup [.str "name", .str "hole"]) n2)
      refine ⟨_, rfl, _, none, rfl, rfl, T.mi_is, _, rfl, iN rfl ?_⟩
      refine ⟨_, rfl, _, _, .str _, T.d_LONE _, rfl, rfl, _, rfl, iN (inN rfl) ?_⟩
      refine ⟨_, rfl, rfl, _, rfl, iY (strE rfl) ?_⟩
      refine ⟨_, rfl, _, 1, d, hd.sm s2, rfl, rfl, fun v1 h1 => ?_⟩
      simp only [Pt.ok] at hok
      exact ⟨_, d, rfl, h1, hok, q _ s2⟩
    | two b p1 p2 =>
      obtain rfl := Dt.tup.inj el
      cases b
      all_goals
        refine iN (strN rfl) ?_
        refine ⟨_, rfl, _, _, .str _, T.d_PAIRS _, rfl, rfl, _, rfl, iY (inE rfl) ?_⟩
        exact ⟨_, rfl, rfl, q _ s0⟩
    | lone k1 p1 =>
      obtain rfl := Dt.tup.inj el
      cases k1
      all_goals
        refine iN (strN rfl) ?_
        refine ⟨_, rfl, _, _, .str _, T.d_PAIRS _, rfl, rfl, _, rfl, iN (inN rfl) ?_⟩
        refine ⟨_, rfl, rfl, _, rfl, iN rfl ?_⟩
        refine ⟨_, rfl, rfl, _, rfl, iN rfl ?_⟩
        refine ⟨_, rfl, by decide, fun p2 n2 => ⟨_, [.str "name", .str "hole"], .str _, Is.new n2 (.cons (.str _) (.cons (.str _) .nil)), rfl, rfl, _, rfl, iN (inN rfl) ?_⟩⟩
        have s2 := s0.trans (Sm.new (o := .tup [.str "name", .str "hole"]) n2)
        refine ⟨_, rfl, _, none, rfl, rfl, by first | exact T.mi_not | exact T.mi_first | exact T.mi_all, _, rfl, iN rfl ?_⟩
        refine ⟨_, rfl, _, _, .str _, T.d_LONE _, rfl, rfl, _, rfl, iY (inE rfl) ?_⟩
        exact q _ s2
    | row its =>
      obtain rfl := Dt.tup.inj el
      refine iN (strN rfl) ?_
      refine ⟨_, rfl, _, _, .str _, T.d_PAIRS _, rfl, rfl, _, rfl, iN (inN rfl) ?_⟩
      refine ⟨_, rfl, rfl, _, rfl, iN rfl ?_⟩
      refine ⟨_, rfl, rfl, _, rfl, iN rfl ?_⟩
      refine ⟨_, rfl, by decide, fun p2 n2 => ⟨_, [.str "name", .str "hole"], .str _, Is.new n2 (.cons (.str _) (.cons (.str _) .nil)), rfl, rfl, _, rfl, iN (inN rfl) ?_⟩⟩
      have s2 := s0.trans (Sm.new (o := .tup [.str "name", .str "hole"]) n2)
      refine ⟨_, rfl, _, some u6, rfl, rfl, hu6, _, rfl, iY rfl ?_⟩
      simp only [Pt.ok] at hok
      refine ⟨_, rfl, _, rfl, _, 1, _, hd.sm s2, rfl, rfl, fun v1 h1 => ⟨_, its, rfl, h1, hok.1, fun H' s3 => q _ (s2.trans s3)⟩⟩
end
end Wf
set_option Elab.async false
set_option linter.all false
set_option maxRecDepth 100000
set_option maxHeartbeats 400000
namespace Wf
open PySem PySem.Spec PyProof.Rows L2
section
variable {P : Program} {w : World} {K : PySem.W.Frag} {mg : Str → Option Value} {base : Heap}
def NewL (K : PySem.W.Frag) (H : Hp) (l : List Dt) (Q : VK) : Prop := ∀ H' a xs, Same H H' → H a = none → H' a = some (.lst xs) → IsAll K H' xs l → Q (.ref a) H'
theorem NewL.mono {K : PySem.W.Frag} {H H1 : Hp} {l : List Dt} {Q : VK} (s : Same H H1) (h : NewL K H l Q) : NewL K H1 l Q := fun H' a xs e n => h H' a xs (s.trans e) (s.free n)
theorem its_nth : ∀ {l : Its} {i : Nat} {d : Dt}, l.dts[i]? = some d → ∃ s p, d = .tup [.str (itW s), p.dt] ∧ l.pats[i]? = some p
  | .nil, _, _, h => by simp [Its.dts] at h
  | .cons s p l, 0, d, h => by
    simp only [Its.dts, List.getElem?_cons_zero, Option.some.injEq] at h
    exact ⟨s, p, h.symm, rfl⟩
  | .cons s p l, i + 1, d, h => by
    simp only [Its.dts, List.getElem?_cons_succ] at h
    obtain ⟨s', p', e, m⟩ := its_nth h
    exact ⟨s', p', e, m⟩
def spWithin (K : PySem.W.Frag) : Sp := fun vs H Q _ => ∃ v p, vs = [v] ∧ Is K H v (Pt.dt p) ∧ p.ok ∧ NewL K H (p.subs.map Pt.dt) Q
theorem ok_within {k : Nat} (T : Tx w K mg) : Cal P w K mg base (k + 1) "within" (spWithin K) := by
  refine Tx.cal T.f_within T.g_within T.b_within sc_within ?_ ?_
  · rintro vs H Q E ⟨v, p, rfl, _⟩
    rfl
  · rintro cdv A outer s H vs Q E hr ⟨v, p, rfl, hd, hok, q⟩
    obtain ⟨es, tn, hD⟩ := T.mi_tab
    obtain ⟨u6, hu6, ru6⟩ := T.mi_row
    refine ⟨_, (pss_cons (ps_set (i := 1) sc_within.nd rfl (by first | exact Or.inl rfl | exact Or.inr rfl) (pe_ix (ixD K) (pv 0) pe_int (fun _ _ => rfl))) (pss_cons (ps_if (pw_or (pt_cmpR (inT K) (pv 1) (pe_gv (by rfl) T.v_PAIRS) (by rfl)) (pw_or1 (pt_cmpR (inT K) (pv 1) (pe_gv (by rfl) T.v_LONE) (by rfl)))).pt (pss_one (ps_ret (pe_callTy call_list_of (by rfl) T.z_list boot_list (pa_cons (pe_slice (slD K) (pv 0) (po_some pe_int) po_none) pa_nil)))) pss_nil) (pss_cons (ps_if (pt_cmpR (op_in_kd hD) (pv 1) (pe_gv (by rfl) T.v_MOST_ITEMS) (by rfl)) (pss_one (ps_ret (pe_lc (own := [("item", 2)]) rfl sc_within.nd (pi_tup (pe_ix (ixD K) (pv 0) pe_int (fun _ _ => rfl))) (blkOk_by (own := [("item", 2)]) (N := ["pattern", "word", "item"]) (sc := defScope sWithin) (by decide +kernel)) (fun _ _ _ _ _ => (pg_name (i := 2) sc_within.nd rfl (by first | exact Or.inl rfl | exact Or.inr rfl))) (fun _ _ _ _ _ => pts_nil) (fun _ _ _ _ _ => (pe_ix (ixD K) (pv 2) pe_int (fun _ _ => rfl)))))) pss_nil) (pss_one (ps_ret (pe_ifExp (pt_cmpR op_eq (pv 1) pe_str (nomark _)) pe_no (pe_lst pa_nil))))))), ?_⟩
    obtain ⟨l, el, l0, ll1, ll3⟩ := p.dt_len
    rw [el] at hd
    refine ⟨_, rfl, _, 0, _, hd, rfl, l0, fun v0 h0 => ?_⟩
    rw [h0.strD]
    cases p with
    | any =>
      obtain rfl := Dt.tup.inj el
      refine ⟨_, rfl, _, _, .str _, T.d_PAIRS _, rfl, rfl, _, rfl, iN (inN rfl) ?_⟩
      refine ⟨_, rfl, _, _, .str _, T.d_LONE _, rfl, rfl, _, rfl, iN (inN rfl) ?_⟩
      refine ⟨_, rfl, _, none, rfl, rfl, T.mi_any, _, rfl, iN rfl ?_⟩
      refine ⟨_, rfl, rfl, _, rfl, iN (strN rfl) ?_⟩
      exact ⟨by decide, fun a na => q _ a [] (Sm.new na) na upd_same .nil⟩
    | is_ d =>
      obtain rfl := Dt.tup.inj el
      refine ⟨_, rfl, _, _, .str _, T.d_PAIRS _, rfl, rfl, _, rfl, iN (inN rfl) ?_⟩
      refine ⟨_, rfl, _, _, .str _, T.d_LONE _, rfl, rfl, _, rfl, iN (inN rfl) ?_⟩
      refine ⟨_, rfl, _, none, rfl, rfl, T.mi_is, _, rfl, iN rfl ?_⟩
      refine ⟨_, rfl, rfl, _, rfl, iN (strN rfl) ?_⟩
      exact ⟨by decide, fun a na => q _ a [] (Sm.new na) na upd_same .nil⟩
    | two b p1 p2 =>
      obtain rfl := Dt.tup.inj el
      have e1 : cutD [Dt.str (twoW b), p1.dt, p2.dt] (some 1) none = [p1.dt, p2.dt] := cutD_drop _ 1
      cases b
      all_goals
        refine ⟨_, rfl, _, _, .str _, T.d_PAIRS _, rfl, rfl, _, rfl, iY (inE rfl) ?_⟩
        refine ⟨_, rfl, _, rfl, _, hd, fun v' H1 s1 h1 => ?_⟩
        rw [e1] at h1
        obtain ⟨a, xs, rfl, sq, il⟩ := h1.tupD
        exact ⟨a, xs, rfl, .inr sq, fun a2 n2 => q _ a2 xs (s1.trans (Sm.new n2)) (s1.free n2) upd_same (il.sm (Sm.new n2))⟩
    | lone k1 p1 =>
      obtain rfl := Dt.tup.inj el
      have e1 : cutD [Dt.str k1.word, p1.dt] (some 1) none = [p1.dt] := cutD_drop _ 1
      cases k1
      all_goals
        refine ⟨_, rfl, _, _, .str _, T.d_PAIRS _, rfl, rfl, _, rfl, iN (inN rfl) ?_⟩
        refine ⟨_, rfl, _, _, .str _, T.d_LONE _, rfl, rfl, _, rfl, iY (inE rfl) ?_⟩
        refine ⟨_, rfl, _, rfl, _, hd, fun v' H1 s1 h1 => ?_⟩
        rw [e1] at h1
        obtain ⟨a, xs, rfl, sq, il⟩ := h1.tupD
        exact ⟨a, xs, rfl, .inr sq, fun a2 n2 => q _ a2 xs (s1.trans (Sm.new n2)) (s1.free n2) upd_same (il.sm (Sm.new n2))⟩
    | row its =>
      obtain rfl := Dt.tup.inj el
      simp only [Pt.ok] at hok
      refine ⟨_, rfl, _, _, .str _, T.d_PAIRS _, rfl, rfl, _, rfl, iN (inN rfl) ?_⟩
      refine ⟨_, rfl, _, _, .str _, T.d_LONE _, rfl, rfl, _, rfl, iN (inN rfl) ?_⟩
      refine ⟨_, rfl, _, some u6, rfl, rfl, hu6, _, rfl, iY rfl ?_⟩
      refine ⟨_, rfl, _, 1, _, hd, rfl, rfl, fun v1 h1 => ?_⟩
      obtain ⟨a, xs, rfl, sq, il⟩ := h1.tupD
      refine ⟨_, rfl, ⟨_, sq⟩, fun D nD => ?_⟩
      refine lc_D (walk_tup (xs := xs)) il nD (fun i H' acc => IsAll K H' acc ((its.pats.take i).map Pt.dt)) .nil (fun H2 s2 => sq_up s2 sq) ?_ ?_
      · rintro i x d H2 acc hi s1 hD hx f
        obtain ⟨b, p', e, hp⟩ := its_nth hi
        subst e
        have hl := its.pats_len
        refine ⟨rfl, _, rfl, _, 1, _, hx, rfl, rfl, fun y hy => ?_⟩
        refine lcn nD s1 hD (.refl _) (lt_line (by rw [f.len, List.length_map, List.length_take]; omega)) ?_
        rw [List.take_add_one, hp, List.map_append]
        exact (f.append (.one hy)).up (.lst hD)
      · intro H2 acc s1 hD f
        rw [Its.dts_len, ← Its.pats_len, List.take_length] at f
        exact q _ D acc s1 nD hD f
theorem nds_take {p : Pt} {i : Nat} {q : Pt} (h : p.subs[i]? = some q) : sumN ((p.subs.map Pt.nd).take (i + 1)) = sumN ((p.subs.map Pt.nd).take i) + q.nd := sumN_take (by rw [List.getElem?_map, h]; rfl)
def spParts (K : PySem.W.Frag) (n : Nat) : Sp := fun vs H Q _ => ∃ v p m, vs = [v, .int (m : Nat)] ∧ Is K H v (Pt.dt p) ∧ p.ok ∧ p.dp ≤ m ∧ m ≤ n ∧ m ≤ 10 ∧ p.nd ≤ 40 ∧ ∀ H', Same H H' → Q (.int (p.nd : Nat)) H'
theorem ok_parts_within {k : Nat} (T : Tx w K mg) (c1 : Cal P w K mg base k "has_form" (spForm K)) (c2 : Cal P w K mg base k "within" (spWithin K)) : ∀ n, Cal P w K mg base (k + n) "parts_within" (spParts K n)
  | 0 => Cal.no T.g_parts_within T.f_parts_within.kp T.b_parts_within (by
      rintro vs H Q E ⟨v, p, m, _, _, _, h, h2, _⟩
      have := p.dp_pos
      omega)
  | n + 1 => by
    have c_parts_within := ok_parts_within (k := k) T c1 c2 n
    have c_has_form := c1.up (Nat.le_add_right k n)
    have c_within := c2.up (Nat.le_add_right k n)
    refine Tx.cal T.f_parts_within T.g_parts_within T.b_parts_within sc_parts_within ?_ ?_
    · rintro vs H Q E ⟨v, p, m, rfl, _⟩
      rfl
    · rintro cdv A outer s H vs Q E hr ⟨v, p, m, rfl, hd, hok, hdp, hmn, hm, hnd, q⟩
      refine ⟨_, (pss_cons (ps_if (pw_or (pt_cmpR op_eq (pv 1) pe_int (nomark _)) (pw_or1 (pt_not (pt_val (pe_c c_has_form hr (Nat.le_refl _) (by rfl) (pa_cons (pv 0) pa_nil)))))).pt (pss_one (ps_ret pe_int)) pss_nil) (pss_cons (ps_set (i := 2) sc_parts_within.nd rfl (by first | exact Or.inl rfl | exact Or.inr rfl) pe_int) (pss_cons (ps_for PassesOwn.never rfl (pi_list (pe_c c_within hr (Nat.le_refl _) (by rfl) (pa_cons (pv 0) pa_nil))) (pg_name (i := 3) sc_parts_within.nd rfl (by first | exact Or.inl rfl | exact Or.inr rfl)) (pss_cons (ps_set (i := 4) sc_parts_within.nd rfl (by first | exact Or.inl rfl | exact Or.inr rfl) (pe_c c_parts_within hr (Nat.le_refl _) (by rfl) (pa_cons (pv 3) (pa_cons (pe_op op_sub (pv 1) pe_int) pa_nil)))) (pss_cons (ps_set (i := 2) sc_parts_within.nd rfl (by first | exact Or.inl rfl | exact Or.inr rfl) (pe_op op_add (pv 2) (pv 4))) (pss_one (ps_if (pw_or (pt_cmpR op_eq (pv 4) pe_int (nomark _)) (pw_or1 (pt_cmpR op_gt (pv 2) (pe_gv (by rfl) T.i_MOST_PARTS) (nomark _)))).pt (pss_one (ps_ret pe_int)) pss_nil))))) (pss_one (ps_ret (pv 2)))))), ?_⟩
      have hp1 := p.dp_pos
      refine ⟨_, rfl, rfl, _, rfl, iN (decide_eq_false (by intro z; have := V.int.inj z; omega)) ?_⟩
      refine ⟨_, rfl, _, p, rfl, hd, hok, by omega, fun H1 s1 => ⟨_, rfl, ?_⟩⟩
      refine ⟨_, rfl, _, p, rfl, hd.sm s1, hok, fun H2 a xs s2 na ha il => ?_⟩
      refine ⟨a, rfl, ⟨xs, .of ha⟩, ?_⟩
      refine for_D (walk_list (xs := xs)) il (fun i σ H' => Same H2 H' ∧ ∃ o m', σ = [some v, some (.int m), some (.int ((1 + sumN ((p.subs.map Pt.nd).take i) : Nat) : Int)), o, m']) ?_ ?_ ?_ ?_
      · exact ⟨.refl _, none, none, rfl⟩
      · rintro i σ H' ⟨s3, _⟩
        exact ⟨.of (s3 _ _ ha), .sm s3⟩
      · rintro i x d σ H3 hi hx ⟨s3, o, m', rfl⟩
        rw [List.getElem?_map] at hi
        obtain ⟨q', hq, rfl⟩ := Option.map_eq_some_iff.mp hi
        have hmem : q' ∈ p.subs := List.mem_of_getElem? hq
        have h1 := p.dp_subs hmem
        have h2 := nds_take hq
        have h3 := p.nd_subs
        have h4 := sumN_take_le (p.subs.map Pt.nd) (i + 1)
        have h5 : q'.nd ≤ sumN (p.subs.map Pt.nd) := sumN_mem (List.mem_map.mpr ⟨q', hmem, rfl⟩)
        have h6 := q'.nd_pos
        refine ⟨_, rfl, _, rfl, _, _, rfl, rfl, _, q', m - 1, ?_, hx, p.ok_subs hok hmem, by omega, by omega, by omega, by omega, fun H4 s4 => ?_⟩
        · show [x, V.int ((m : Int) - 1)] = _
          rw [show ((m : Int) - 1) = ((m - 1 : Nat) : Int) by omega]
        refine ⟨_, rfl, _, rfl, _, _, rfl, rfl, ?_⟩
        refine ⟨_, rfl, rfl, _, rfl, iN (decide_eq_false (by intro z; have := V.int.inj z; omega)) ?_⟩
        refine ⟨_, rfl, _, _, rfl, rfl, _, rfl, iN (decide_eq_false (by omega)) ?_⟩
        have e2 : ((1 + sumN ((p.subs.map Pt.nd).take (i + 1)) : Nat) : Int) = ((1 + sumN ((p.subs.map Pt.nd).take i) : Nat) : Int) + (q'.nd : Nat) := by omega
        exact ⟨s3.trans s4, some x, some (.int (q'.nd : Nat)), by rw [e2]; rfl⟩
      · rintro σ H3 ⟨s3, o, m', rfl⟩
        refine ⟨_, rfl, ?_⟩
        have e : (p.subs.map Pt.nd).take (p.subs.map Pt.dt).length = p.subs.map Pt.nd := by rw [List.length_map, ← List.length_map (f := Pt.nd), List.take_length]
        rw [e, ← p.nd_subs]
        exact q _ (s1.trans (s2.trans s3))
def spP (K : PySem.W.Frag) (x : V) : Sp := fun vs H Q _ => ∃ v p, vs = [v] ∧ Is K H v (Pt.dt p) ∧ p.ok ∧ p.dp ≤ 10 ∧ p.nd ≤ 40 ∧ ∀ H', Same H H' → Q x H'
theorem spP_len {x : V} : ∀ vs H Q E, spP K x vs H Q E → vs.length = 1 := by
  rintro vs H Q E ⟨v, p, rfl, _⟩
  rfl
theorem ok_is_pattern {k : Nat} (T : Tx w K mg) (c_parts_within : Cal P w K mg base k "parts_within" (spParts K 10)) : Cal P w K mg base (k + 1) "is_pattern" (spP K (.bl true)) := by
  refine Tx.cal T.f_is_pattern T.g_is_pattern T.b_is_pattern sc_is_pattern spP_len ?_
  rintro cdv A outer s H vs Q E hr ⟨v, p, rfl, hd, hok, hdp, hnd, q⟩
  refine ⟨_, (pss_one (ps_ret (pe_cmpR op_gt (pe_c c_parts_within hr (Nat.le_refl _) (by rfl) (pa_cons (pv 0) (pa_cons (pe_gv (by rfl) T.i_MOST_DEEP_patterns) pa_nil))) pe_int (nomark _)))), ?_⟩
  refine ⟨_, rfl, _, p, 10, rfl, hd, hok, hdp, Nat.le_refl _, Nat.le_refl _, hnd, fun H1 s1 => ⟨_, _, rfl, rfl, ?_⟩⟩
  exact qB (decide_eq_true (by have := p.nd_pos; omega)) (q _ s1)
theorem ok_need_form {k : Nat} (T : Tx w K mg) (c_is_pattern : Cal P w K mg base k "is_pattern" (spP K (.bl true))) : Cal P w K mg base (k + 1) "need_form" (spP K .non) := by
  refine Tx.cal T.f_need_form T.g_need_form T.b_need_form sc_need_form spP_len ?_
  rintro cdv A outer s H vs Q E hr ⟨v, p, rfl, hd, hok, hdp, hnd, q⟩
  refine ⟨_, (pss_one (ps_if (pt_not (pt_val (pe_c c_is_pattern hr (Nat.le_refl _) (by rfl) (pa_cons (pv 0) pa_nil)))) pss_never pss_nil)), ?_⟩
  exact ⟨_, rfl, _, p, rfl, hd, hok, hdp, hnd, fun H1 s1 => ⟨_, rfl, q _ s1⟩⟩
def spAll (K : PySem.W.Frag) (n : Nat) : Sp := fun vs H Q _ => ∃ v p, vs = [v] ∧ Is K H v (Pt.dt p) ∧ p.ok ∧ p.dp ≤ n ∧ p.nd ≤ 40 ∧ NewL K H (p.all.map Pt.dt) Q
theorem alls_len (l : List Pt) : (l.map Pt.all).flatten.length = sumN (l.map Pt.nd) := by
  induction l with
  | nil => rfl
  | cons p l ih => simp [sumN, ih, Pt.all_len]
theorem ok_all_parts {k : Nat} (T : Tx w K mg) (c2 : Cal P w K mg base k "within" (spWithin K)) : ∀ n, Cal P w K mg base (k + n) "all_parts" (spAll K n)
  | 0 => Cal.no T.g_all_parts T.f_all_parts.kp T.b_all_parts (by
      rintro vs H Q E ⟨v, p, _, _, _, h, _⟩
      have := p.dp_pos
      omega)
  | n + 1 => by
    have c_all_parts := ok_all_parts (k := k) T c2 n
    have c_within := c2.up (Nat.le_add_right k n)
    refine Tx.cal T.f_all_parts T.g_all_parts T.b_all_parts sc_all_parts ?_ ?_
    · rintro vs H Q E ⟨v, p, rfl, _⟩
      rfl
    · rintro cdv A outer s H vs Q E hr ⟨v, p, rfl, hd, hok, hdp, hnd, q⟩
      refine ⟨_, (pss_cons (ps_set (i := 1) sc_all_parts.nd rfl (by first | exact Or.inl rfl | exact Or.inr rfl) (pe_lst (pa_cons (pv 0) pa_nil))) (pss_cons (ps_for PassesOwn.never rfl (pi_list (pe_c c_within hr (Nat.le_refl _) (by rfl) (pa_cons (pv 0) pa_nil))) (pg_name (i := 2) sc_all_parts.nd rfl (by first | exact Or.inl rfl | exact Or.inr rfl)) (pss_one (ps_expr (pe_bm PySem.F.plainAttrs_list PySem.F.slot_list_extend PySem.F.type_list_extend mt_extend (pv 1) (pa_cons (pe_c c_all_parts hr (Nat.le_refl _) (by rfl) (pa_cons (pv 2) pa_nil)) pa_nil))))) (pss_one (ps_ret (pv 1))))), ?_⟩
      refine ⟨_, rfl, line1, fun L nL => ?_⟩
      have s0 : Same H (upd H L (.lst [v])) := Sm.new nL
      refine ⟨_, rfl, _, p, rfl, hd.sm s0, hok, fun H2 a xs s2 na ha il => ?_⟩
      refine ⟨a, rfl, ⟨xs, .of ha⟩, ?_⟩
      have hL2 : H2 L = some (.lst [v]) := s2 _ _ upd_same
      have hne : a ≠ L := fun e => by rw [e, upd_same] at na; cases na
      have h3 := p.nd_subs
      refine for_D (walk_list (xs := xs)) il (fun i σ H' => Same H H' ∧ H' a = some (.lst xs) ∧ Up K H2 H' ∧ ∃ acc o, H' L = some (.lst acc) ∧ IsAll K H' acc ((p :: ((p.subs.take i).map Pt.all).flatten).map Pt.dt) ∧ σ = [some v, some (.ref L), o]) ?_ ?_ ?_ ?_
      · exact ⟨s0.trans s2, ha, .refl, [v], none, hL2, .one (hd.sm (s0.trans s2)), rfl⟩
      · rintro i σ H' ⟨s3, h1, u, _⟩
        exact ⟨.of h1, u⟩
      · rintro i x d σ H3 hi hx ⟨s3, h1, u, acc, o, hL, f, rfl⟩
        rw [List.getElem?_map] at hi
        obtain ⟨q', hq, rfl⟩ := Option.map_eq_some_iff.mp hi
        have hmem : q' ∈ p.subs := List.mem_of_getElem? hq
        have h2 := p.dp_subs hmem
        have h5 : q'.nd ≤ sumN (p.subs.map Pt.nd) := sumN_mem (List.mem_map.mpr ⟨q', hmem, rfl⟩)
        have h6 := sumN_take_le (p.subs.map Pt.nd) i
        have h7 := f.len
        simp only [List.length_map, List.length_cons, alls_len] at h7
        rw [List.map_take] at h7
        have h8 : q'.all.length = q'.nd := q'.all_len
        refine ⟨_, rfl, .inl ⟨rfl, _, .of hL⟩, _, rfl, _, q', rfl, hx, p.ok_subs hok hmem, by omega, by omega, fun H4 b zs s4 nb hb ilz => ?_⟩
        have h9 := ilz.len
        rw [List.length_map] at h9
        have hL4 := s4 _ _ hL
        have u4 : Up K H4 (upd H4 L (.lst (acc ++ zs))) := .lst hL4
        refine ⟨L, b, acc, zs, rfl, rfl, hL4, hb, le_line (by omega), ?_⟩
        refine ⟨Sm.put (s3.trans s4) nL, by rw [upd_ne hne]; exact s4 _ _ h1, u.trans ((Up.sm s4).trans u4), acc ++ zs, some x, upd_same, ?_, rfl⟩
        rw [List.take_add_one, hq, List.map_append, List.flatten_append]
        have g := ((f.sm s4).append ilz).up u4
        simpa using g
      · rintro σ H3 ⟨s3, h1, u, acc, o, hL, f, rfl⟩
        refine ⟨_, rfl, q _ L acc s3 nL hL ?_⟩
        rw [List.length_map, List.take_length, ← p.all_subs] at f
        exact f
end
end Wf
set_option Elab.async false
set_option linter.all false
set_option maxRecDepth 100000
set_option maxHeartbeats 400000
namespace Wf
open PySem PySem.Spec PyProof.Rows L2
section
variable {P : Program} {w : World} {K : PySem.W.Frag} {mg : Str → Option Value} {base : Heap}
def spTold (K : PySem.W.Frag) : Sp := fun vs H Q _ => ∃ v p, vs = [v, .str "hole"] ∧ Is K H v (Pt.dt p) ∧ p.ok ∧ p.dp ≤ 10 ∧ p.nd ≤ 40 ∧ NewL K H [] Q
theorem ok_told_by {k : Nat} (T : Tx w K mg) (c_all_parts : Cal P w K mg base k "all_parts" (spAll K 10)) : Cal P w K mg base (k + 1) "told_by" (spTold K) := by
  refine Tx.cal T.f_told_by T.g_told_by T.b_told_by sc_told_by ?_ ?_
  · rintro vs H Q E ⟨v, p, rfl, _⟩
    rfl
  · rintro cdv A outer s H vs Q E hr ⟨v, p, rfl, hd, hok, hdp, hnd, q⟩
    refine ⟨_, (pss_one (ps_ret (pe_callB (cr_sortedSet rfl) (by rfl) T.z_sorted boot_sorted (pa_cons (pe_callTy (cr_setL rfl) (by rfl) T.z_set boot_set (pa_cons (pe_lc (own := [("part", 2)]) rfl sc_told_by.nd (pi_list (pe_c c_all_parts hr (Nat.le_refl _) (by rfl) (pa_cons (pv 0) pa_nil))) (blkOk_by (own := [("part", 2)]) (N := ["pattern", "word", "part"]) (sc := defScope sToldBy) (by decide +kernel)) (fun _ _ _ _ _ => (pg_name (i := 2) sc_told_by.nd rfl (by first | exact Or.inl rfl | exact Or.inr rfl))) (fun _ _ _ _ _ => (pts_one (pt_cmpR op_eq (pe_ix (ixD K) (pv 2) pe_int (fun _ _ => rfl)) (pv 1) (nomark _)))) (fun _ _ _ _ _ => pe_no)) pa_nil)) pa_nil)))), ?_⟩
    refine ⟨_, rfl, _, p, rfl, hd, hok, hdp, hnd, fun H1 a xs s1 na ha il => ?_⟩
    refine ⟨_, rfl, ⟨xs, .of ha⟩, fun D nD => ?_⟩
    refine lc_D (walk_list (xs := xs)) il nD (fun i H' acc => acc = []) rfl (fun H2 s2 => .of (s2 _ _ ha)) ?_ ?_
    · rintro i x d H2 acc hi s2 hD hx rfl
      rw [List.getElem?_map] at hi
      obtain ⟨q', hq, rfl⟩ := Option.map_eq_some_iff.mp hi
      obtain ⟨l, el⟩ := q'.dt_head
      rw [el] at hx
      refine ⟨rfl, _, rfl, _, 0, _, hx, rfl, rfl, fun v0 h0 => ?_⟩
      rw [h0.strD]
      refine ⟨_, rfl, rfl, _, rfl, iN (decide_eq_false fun e => q'.word_ne (by decide +kernel) (V.str.inj e)) ?_⟩
      exact ⟨s2, [], hD, rfl⟩
    · rintro H2 acc s2 hD rfl
      refine ⟨D, [], rfl, .of hD, by simp, fun p1 c1 np hc _ => ?_⟩
      have hc0 : c1 = 0 := by simpa using hc
      subst hc0
      refine ⟨p1, _, 0, rfl, upd_same, by omega, fun ns p2 _ _ hl n2 => ?_⟩
      have hns : ns = [] := List.length_eq_zero_iff.mp hl
      subst hns
      exact q _ p2 [] (s1.trans (s2.trans ((Sm.new np).trans (Sm.new n2)))) (s1.free (s2.free ((Sm.new np).free n2))) upd_same .nil
def spUses (K : PySem.W.Frag) : Sp := fun vs H Q _ => ∃ v p, vs = [v] ∧ Is K H v (Pt.dt p) ∧ p.ok ∧ p.dp ≤ 10 ∧ p.nd ≤ 40 ∧ NewL K H [] Q
theorem ok_all_uses {k : Nat} (T : Tx w K mg) (c_all_parts : Cal P w K mg base k "all_parts" (spAll K 10)) : Cal P w K mg base (k + 1) "all_uses" (spUses K) := by
  refine Tx.cal T.f_all_uses T.g_all_uses T.b_all_uses sc_all_uses ?_ ?_
  · rintro vs H Q E ⟨v, p, rfl, _⟩
    rfl
  · rintro cdv A outer s H vs Q E hr ⟨v, p, rfl, hd, hok, hdp, hnd, q⟩
    refine ⟨_, (pss_one (ps_ret (pe_lc (own := [("part", 1)]) rfl sc_all_uses.nd (pi_list (pe_c c_all_parts hr (Nat.le_refl _) (by rfl) (pa_cons (pv 0) pa_nil))) (blkOk_by (own := [("part", 1)]) (N := ["pattern", "part"]) (sc := defScope sAllUses) (by decide +kernel)) (fun _ _ _ _ _ => (pg_name (i := 1) sc_all_uses.nd rfl (by first | exact Or.inl rfl | exact Or.inr rfl))) (fun _ _ _ _ _ => (pts_one (pt_cmpR op_eq (pe_ix (ixD K) (pv 1) pe_int (fun _ _ => rfl)) pe_str (nomark _)))) (fun _ _ _ _ _ => pe_no)))), ?_⟩
    refine ⟨_, rfl, _, p, rfl, hd, hok, hdp, hnd, fun H1 a xs s1 na ha il => ?_⟩
    refine ⟨_, rfl, ⟨xs, .of ha⟩, fun D nD => ?_⟩
    refine lc_D (walk_list (xs := xs)) il nD (fun i H' acc => acc = []) rfl (fun H2 s2 => .of (s2 _ _ ha)) ?_ ?_
    · rintro i x d H2 acc hi s2 hD hx rfl
      rw [List.getElem?_map] at hi
      obtain ⟨q', hq, rfl⟩ := Option.map_eq_some_iff.mp hi
      obtain ⟨l, el⟩ := q'.dt_head
      rw [el] at hx
      refine ⟨rfl, _, rfl, _, 0, _, hx, rfl, rfl, fun v0 h0 => ?_⟩
      rw [h0.strD]
      refine ⟨rfl, _, rfl, iN (decide_eq_false fun e => q'.word_ne (by decide +kernel) (V.str.inj e)) ?_⟩
      exact ⟨s2, [], hD, rfl⟩
    · rintro H2 acc s2 hD rfl
      exact q _ D [] (s1.trans s2) (s1.free nD) hD .nil
def spFit (K : PySem.W.Frag) : Sp := fun vs H Q _ => ∃ b v p, vs = [b, v] ∧ Is K H b (.tup []) ∧ Is K H v (Pt.dt p) ∧ p.ok ∧ p.dp ≤ 10 ∧ p.nd ≤ 40 ∧ ∀ H', Same H H' → Q (.bl true) H'
theorem ok_uses_fit {k : Nat} (T : Tx w K mg) (c_all_uses : Cal P w K mg base k "all_uses" (spUses K)) : Cal P w K mg base (k + 1) "uses_fit" (spFit K) := by
  refine Tx.cal T.f_uses_fit T.g_uses_fit T.b_uses_fit sc_uses_fit ?_ ?_
  · rintro vs H Q E ⟨b, v, p, rfl, _⟩
    rfl
  · rintro cdv A outer s H vs Q E hr ⟨b, v, p, rfl, hb, hd, hok, hdp, hnd, q⟩
    refine ⟨_, (pss_cons (ps_set (i := 2) sc_uses_fit.nd rfl (by first | exact Or.inl rfl | exact Or.inr rfl) (pe_callTy (call_dictP rfl) (by rfl) T.z_dict boot_dict (pa_cons (pe_lc (own := [("rule", 3)]) rfl sc_uses_fit.nd (pi_tup (pv 0)) (blkOk_by (own := [("rule", 3)]) (N := ["book", "pattern", "known", "rule", "name", "many"]) (sc := defScope sUsesFit) (by decide +kernel)) (fun _ _ _ _ _ => (pg_name (i := 3) sc_uses_fit.nd rfl (by first | exact Or.inl rfl | exact Or.inr rfl))) (fun _ _ _ _ _ => pts_nil) (fun _ _ _ _ _ => pe_no)) pa_nil))) (pss_one (ps_ret (pe_callB (cr_all rfl) (by rfl) T.z_all boot_all (pa_cons (pe_lc (own := [("name", 4), ("many", 5)]) rfl sc_uses_fit.nd (pi_list (pe_c c_all_uses hr (Nat.le_refl _) (by rfl) (pa_cons (pv 1) pa_nil))) (blkOk_by (own := [("name", 4), ("many", 5)]) (N := ["book", "pattern", "known", "rule", "name", "many"]) (sc := defScope sUsesFit) (by decide +kernel)) (fun _ _ _ _ _ => (pgTup K (n := 2) rfl (pgs_cons (pg_name (i := 4) sc_uses_fit.nd rfl (by first | exact Or.inl rfl | exact Or.inr rfl)) (pgs_cons (pg_name (i := 5) sc_uses_fit.nd rfl (by first | exact Or.inl rfl | exact Or.inr rfl)) pgs_nil)))) (fun _ _ _ _ _ => pts_nil) (fun _ _ _ _ _ => pe_no)) pa_nil))))), ?_⟩
    obtain ⟨ab, bs, rfl, sqb, ilb⟩ := hb.tupD
    cases ilb
    refine ⟨_, rfl, _, rfl, ⟨_, sqb⟩, fun D nD => ?_⟩
    refine lc_W (walk_tup (xs := [])) nD (fun i H' acc => acc = []) rfl (fun H2 s2 => sq_up s2 sqb) (fun i x H1 H2 acc hi => absurd hi (Nat.not_lt_zero i)) ?_
    rintro H2 acc s2 hD rfl
    refine ⟨D, [], [], rfl, .of hD, .nil, fun p1 np => ?_⟩
    have s3 := s2.trans (Sm.new (o := .dK (mergeK [] [])) np)
    refine ⟨_, rfl, _, p, rfl, hd.sm s3, hok, hdp, hnd, fun H4 a xs s4 na ha il => ?_⟩
    cases il
    refine ⟨_, rfl, ⟨_, .of ha⟩, fun D2 nD2 => ?_⟩
    refine lc_W (walk_list (xs := [])) nD2 (fun i H' acc => acc = []) rfl (fun H5 s5 => .of (s5 _ _ ha)) (fun i x H1 H2 acc hi => absurd hi (Nat.not_lt_zero i)) ?_
    rintro H5 acc s5 hD5 rfl
    exact ⟨D2, [], rfl, .of hD5, q _ (s3.trans (s4.trans s5))⟩
def spNone (K : PySem.W.Frag) : Sp := fun vs H Q _ => ∃ b, vs = [b] ∧ Is K H b (.tup []) ∧ ∀ H', Same H H' → Q .non H'
theorem spNone_len : ∀ vs H Q E, spNone K vs H Q E → vs.length = 1 := by
  rintro vs H Q E ⟨b, rfl, _⟩
  rfl
theorem ok_first_bad {k : Nat} (T : Tx w K mg) : Cal P w K mg base (k + 1) "first_bad" (spNone K) := by
  refine Tx.cal T.f_first_bad T.g_first_bad T.b_first_bad sc_first_bad spNone_len ?_
  rintro cdv A outer s H vs Q E hr ⟨b, rfl, hb, q⟩
  refine ⟨_, (pss_cons (ps_if (pw_or (pt_not (pt_val (pe_callB (isD K "tuple" (by simp)) (by rfl) T.z_isinstance PyProof.Rows.boot_isinstance (pa_cons (pv 0) (pa_cons (pe_bltn (v := .ty "tuple") (by rfl) T.z_tuple boot_tuple rfl) pa_nil))))) (pw_or1 (pt_cmpR op_gt (pe_callB (lenD K) (by rfl) T.z_len boot_len (pa_cons (pv 0) pa_nil)) (pe_gv (by rfl) T.i_MOST_RULES) (nomark _)))).pt (pss_one (ps_ret (pe_un un_neg pe_int))) pss_nil) (pss_cons (ps_set (i := 1) sc_first_bad.nd rfl (by first | exact Or.inl rfl | exact Or.inr rfl) (pe_lst pa_nil)) (pss_cons (ps_for PassesOwn.never rfl (pi_enumT (by rfl) T.z_enumerate (pa_cons (pv 0) pa_nil)) (pgTup K (n := 2) rfl (pgs_cons (pg_name (i := 2) sc_first_bad.nd rfl (by first | exact Or.inl rfl | exact Or.inr rfl)) (pgs_cons (pg_name (i := 3) sc_first_bad.nd rfl (by first | exact Or.inl rfl | exact Or.inr rfl)) pgs_nil))) pss_never) (pss_cons (ps_for PassesOwn.never rfl (pi_enumT (by rfl) T.z_enumerate (pa_cons (pv 0) pa_nil)) (pgTup K (n := 2) rfl (pgs_cons (pg_name (i := 2) sc_first_bad.nd rfl (by first | exact Or.inl rfl | exact Or.inr rfl)) (pgs_cons (pg_name (i := 3) sc_first_bad.nd rfl (by first | exact Or.inl rfl | exact Or.inr rfl)) pgs_nil))) pss_never) (pss_one (ps_ret pe_non)))))), ?_⟩
  have hb0 := hb
  obtain ⟨ab, bs, rfl, sqb, ilb⟩ := hb.tupD
  cases ilb
  refine ⟨_, rfl, _, _, rfl, hb0, _, rfl, ?_⟩
  rw [isT_tup]
  refine ⟨_, rfl, _, _, rfl, hb0, _, _, rfl, rfl, _, rfl, iN rfl ?_⟩
  refine ⟨by decide, fun L nL => ?_⟩
  have s0 : Same H (upd H L (.lst [])) := Sm.new nL
  refine ⟨_, rfl, _, [], rfl, sq_up s0 sqb, ?_⟩
  refine for_it (walk_enumT (xs := [])) (fun i σ H' => i = 0 ∧ Same H H' ∧ σ = [some (.ref ab), some (.ref L), none, none, none]) ⟨rfl, s0, rfl⟩ (fun i σ H' _ h => sq_up h.2.1 sqb) (fun i x σ H1 H2 hi => absurd hi (Nat.not_lt_zero i)) ?_
  rintro σ H1 ⟨_, s1, rfl⟩
  refine ⟨_, rfl, _, [], rfl, sq_up s1 sqb, ?_⟩
  refine for_it (walk_enumT (xs := [])) (fun i σ H' => i = 0 ∧ Same H H' ∧ σ = [some (.ref ab), some (.ref L), none, none, none]) ⟨rfl, s1, rfl⟩ (fun i σ H' _ h => sq_up h.2.1 sqb) (fun i x σ H1 H2 hi => absurd hi (Nat.not_lt_zero i)) ?_
  rintro σ H2 ⟨_, s2, rfl⟩
  exact q _ s2
theorem ok_need_book {k : Nat} (T : Tx w K mg) (c_first_bad : Cal P w K mg base k "first_bad" (spNone K)) : Cal P w K mg base (k + 1) "need_book" (spNone K) := by
  refine Tx.cal T.f_need_book T.g_need_book T.b_need_book sc_need_book spNone_len ?_
  rintro cdv A outer s H vs Q E hr ⟨b, rfl, hb, q⟩
  refine ⟨_, (pss_cons (ps_set (i := 1) sc_need_book.nd rfl (by first | exact Or.inl rfl | exact Or.inr rfl) (pe_c c_first_bad hr (Nat.le_refl _) (by rfl) (pa_cons (pv 0) pa_nil))) (pss_one (ps_if (pt_cmpR op_notN (pv 1) pe_non (nomark _)) pss_never pss_nil))), ?_⟩
  exact ⟨_, rfl, _, rfl, hb, fun H1 s1 => ⟨_, rfl, rfl, _, rfl, q _ s1⟩⟩
def spNP (K : PySem.W.Frag) : Sp := fun vs H Q _ => ∃ b v p, vs = [b, v] ∧ Is K H b (.tup []) ∧ Is K H v (Pt.dt p) ∧ p.ok ∧ p.dp ≤ 10 ∧ p.nd ≤ 40 ∧ ∀ H', Same H H' → Q .non H'
theorem ok_need_pattern {k : Nat} (T : Tx w K mg) (c_need_book : Cal P w K mg base k "need_book" (spNone K)) (c_need_form : Cal P w K mg base k "need_form" (spP K .non)) (c_uses_fit : Cal P w K mg base k "uses_fit" (spFit K))
    (c_told_by : Cal P w K mg base k "told_by" (spTold K)) : Cal P w K mg base (k + 1) "need_pattern" (spNP K) := by
  refine Tx.cal T.f_need_pattern T.g_need_pattern T.b_need_pattern sc_need_pattern ?_ ?_
  · rintro vs H Q E ⟨b, v, p, rfl, _⟩
    rfl
  · rintro cdv A outer s H vs Q E hr ⟨b, v, p, rfl, hb, hd, hok, hdp, hnd, q⟩
    refine ⟨_, (pss_cons (ps_expr (pe_c c_need_book hr (Nat.le_refl _) (by rfl) (pa_cons (pv 0) pa_nil))) (pss_cons (ps_expr (pe_c c_need_form hr (Nat.le_refl _) (by rfl) (pa_cons (pv 1) pa_nil))) (pss_one (ps_if (pw_or (pt_not (pt_val (pe_c c_uses_fit hr (Nat.le_refl _) (by rfl) (pa_cons (pv 0) (pa_cons (pv 1) pa_nil))))) (pw_or1 (pt_cmpR (neN K hr.units) (pe_c c_told_by hr (Nat.le_refl _) (by rfl) (pa_cons (pv 1) (pa_cons pe_str pa_nil))) (pe_lst pa_nil) (nomark _)))).pt pss_never pss_nil)))), ?_⟩
    refine ⟨_, rfl, _, rfl, hb, fun H1 s1 => ?_⟩
    refine ⟨_, rfl, _, p, rfl, hd.sm s1, hok, hdp, hnd, fun H2 s2 => ?_⟩
    have s12 := s1.trans s2
    refine ⟨_, rfl, _, rfl, _, _, p, rfl, hb.sm s12, hd.sm s12, hok, hdp, hnd, fun H3 s3 => ⟨_, rfl, ?_⟩⟩
    have s13 := s12.trans s3
    refine ⟨_, rfl, _, p, rfl, hd.sm s13, hok, hdp, hnd, fun H4 a xs s4 na ha il => ?_⟩
    cases il
    refine ⟨by decide, fun e ne => ?_⟩
    have hne : a ≠ e := ne_of_none ha ne
    exact ⟨a, e, [], [], rfl, rfl, .of (by rw [upd_ne hne]; exact ha), .of upd_same, .nil, shaped_nil, _, rfl, q _ (s13.trans (s4.trans (Sm.new ne)))⟩
end
end Wf
set_option Elab.async false
set_option linter.all false
set_option maxRecDepth 100000
set_option maxHeartbeats 400000
namespace Wf
open PySem PySem.Spec PyProof.Rows L2
def asI (c : List Nat) : List Int := c.map fun (n : Nat) => (n : Int)
theorem asI_sum (c : List Nat) : (asI c).sum = (c.sum : Nat) := by
  induction c with
  | nil => rfl
  | cons a c ih =>
    unfold asI at ih ⊢
    rw [List.map_cons, List.sum_cons, List.sum_cons, ih]
    omega
def leR (a b : List Nat) : Bool := PySem.W.dataLe false (fun c : List Nat => keyD (asI c)) a b
def srt (X : List (List Nat)) : List (List Nat) := X.mergeSort leR
def bindR (X : List (List Nat)) (f : List Nat → List (List Nat)) : List (List Nat) := X.flatMap fun c => (f c).map (c ++ ·)
mutual
def rn (k : Knd) : Pt → Dt → Nat → List (List Nat)
  | .any, _, _ => [[]]
  | .is_ d, t, _ => if likeD k d t = true then [[]] else []
  | .two true p q, t, r => bindR (rn k p t r) fun c => rn k q t (r - c.sum)
  | .two false p q, t, r => (rn k p t r).map (0 :: ·) ++ (if 1 ≤ r then (rn k q t (r - 1)).map (1 :: ·) else [])
  | .lone .nt _, _, _ => []
  | .lone .first p, t, r => (srt (rn k p t r)).take 1
  | .lone .all p, .tup l, r => l.foldl (fun X t => bindR X fun c => rn k p t (r - c.sum)) [[]]
  | .lone .all _, _, _ => []
  | .row s, .tup l, r => rns k s l r
  | .row _, _, _ => []
def rns (k : Knd) : Its → List Dt → Nat → List (List Nat)
  | .nil, l, _ => if l = [] then [[]] else []
  | .cons true p .nil, l, r => rn k p (.tup l) r
  | .cons false _ _, [], _ => []
  | .cons false p s, t :: l, r => bindR (rn k p t r) fun c => rns k s l (r - c.sum)
  | .cons true p (.cons b q s), l, r => (List.range (1 + min r l.length)).flatMap fun n => (bindR (rn k p (.tup (l.take n)) (r - n)) fun c => rns k (.cons b q s) (l.drop n) (r - n - c.sum)).map (n :: ·)
end
structure Gd (X : List (List Nat)) (w : Option Nat) (r : Nat) : Prop where
  up : ∀ c ∈ X, ∃ a, w = some a ∧ a ≤ c.sum ∧ c.sum ≤ r
  at_ : ∀ a, w = some a → a ≤ r → ∃ c ∈ X, c.sum = a
theorem mem_bindR {X : List (List Nat)} {f : List Nat → List (List Nat)} {e : List Nat} : e ∈ bindR X f ↔ ∃ c ∈ X, ∃ d ∈ f c, e = c ++ d := by
  unfold bindR
  rw [List.mem_flatMap]
  constructor
  · rintro ⟨c, hc, h⟩
    obtain ⟨d, hd, rfl⟩ := List.mem_map.mp h
    exact ⟨c, hc, d, hd, rfl⟩
  · rintro ⟨c, hc, d, hd, rfl⟩
    exact ⟨c, hc, List.mem_map.mpr ⟨d, hd, rfl⟩⟩
theorem Gd.bind {X : List (List Nat)} {f : List Nat → List (List Nat)} {w v : Option Nat} {r : Nat} (h : Gd X w r) (g : ∀ c ∈ X, Gd (f c) v (r - c.sum)) : Gd (bindR X f) (sum2 w v) r := by
  constructor
  · intro e he
    obtain ⟨c, hc, d, hd, rfl⟩ := mem_bindR.mp he
    obtain ⟨a, rfl, h1, h2⟩ := h.up c hc
    obtain ⟨b, rfl, h3, h4⟩ := (g c hc).up d hd
    refine ⟨a + b, rfl, ?_, ?_⟩ <;> rw [List.sum_append] <;> omega
  · intro a e ha
    cases w with
    | none => cases e
    | some a1 =>
      cases v with
      | none => cases e
      | some a2 =>
        obtain rfl := Option.some.inj e
        obtain ⟨c, hc, hs⟩ := h.at_ a1 rfl (by omega)
        obtain ⟨d, hd, hs2⟩ := (g c hc).at_ a2 rfl (by omega)
        exact ⟨c ++ d, mem_bindR.mpr ⟨c, hc, d, hd, rfl⟩, by rw [List.sum_append]; omega⟩
theorem Gd.cons {X : List (List Nat)} {w : Option Nat} {r n : Nat} (h : Gd X w (r - n)) (hn : n ≤ r) : Gd (X.map (n :: ·)) (sum2 (some n) w) r := by
  constructor
  · intro e he
    obtain ⟨c, hc, rfl⟩ := List.mem_map.mp he
    obtain ⟨a, rfl, h1, h2⟩ := h.up c hc
    refine ⟨n + a, rfl, ?_, ?_⟩ <;> rw [List.sum_cons] <;> omega
  · intro a e ha
    cases w with
    | none => cases e
    | some a1 =>
      obtain rfl := Option.some.inj e
      obtain ⟨c, hc, hs⟩ := h.at_ a1 rfl (by omega)
      exact ⟨n :: c, List.mem_map.mpr ⟨c, hc, rfl⟩, by rw [List.sum_cons]; omega⟩
theorem Gd.nil {w : Option Nat} {r n : Nat} (hn : r < n) : Gd [] (sum2 (some n) w) r := by
  constructor
  · intro e he
    cases he
  · intro a e ha
    cases w with
    | none => cases e
    | some a1 =>
      obtain rfl := Option.some.inj e
      omega
theorem Gd.or {X Y : List (List Nat)} {w v : Option Nat} {r : Nat} (h : Gd X w r) (g : Gd Y v r) : Gd (X ++ Y) (least2 w v) r := by
  constructor
  · intro e he
    rcases List.mem_append.mp he with he | he
    · obtain ⟨a, rfl, h1, h2⟩ := h.up e he
      cases v with
      | none => exact ⟨a, rfl, h1, h2⟩
      | some b => exact ⟨min a b, rfl, by omega, h2⟩
    · obtain ⟨b, rfl, h1, h2⟩ := g.up e he
      cases w with
      | none => exact ⟨b, rfl, h1, h2⟩
      | some a => exact ⟨min a b, rfl, by omega, h2⟩
  · intro m e hm
    have t : w = some m ∨ v = some m := by
      cases w with
      | none => exact .inr e
      | some a =>
        cases v with
        | none => exact .inl e
        | some b =>
          have e' : min a b = m := Option.some.inj e
          rcases Nat.le_total a b with z | z
          · rw [Nat.min_eq_left z] at e'
            exact .inl (by rw [e'])
          · rw [Nat.min_eq_right z] at e'
            exact .inr (by rw [e'])
    rcases t with t | t
    · obtain ⟨c, hc, hs⟩ := h.at_ m t hm
      exact ⟨c, List.mem_append.mpr (.inl hc), hs⟩
    · obtain ⟨c, hc, hs⟩ := g.at_ m t hm
      exact ⟨c, List.mem_append.mpr (.inr hc), hs⟩
theorem Gd.emp {r : Nat} : Gd [] none r := ⟨fun _ h => (nomatch h), fun _ e => (nomatch e)⟩
theorem Gd.zero {r : Nat} : Gd [[]] (some 0) r := by
  constructor
  · intro c hc
    rw [List.mem_singleton] at hc
    subst hc
    exact ⟨0, rfl, Nat.zero_le _, Nat.zero_le _⟩
  · intro a e _
    obtain rfl := Option.some.inj e
    exact ⟨[], List.mem_singleton.mpr rfl, rfl⟩
theorem least2_none (w : Option Nat) : least2 w none = w := by cases w <;> rfl
theorem Gd.flat {r : Nat} {W : Nat → Option Nat} {F : Nat → List (List Nat)} (hF : ∀ n, Gd (F n) (W n) r) : ∀ ns : List Nat, Gd (ns.flatMap F) (least (ns.map W)) r
  | [] => Gd.emp
  | n :: ns => by
    rw [List.flatMap_cons, List.map_cons]
    exact (hF n).or (Gd.flat hF ns)
theorem flat_cut {F : Nat → List (List Nat)} {r m : Nat} : (List.range (1 + min r m)).flatMap F = (List.range (m + 1)).flatMap fun n => if n ≤ r then F n else [] := by
  have e : ∀ a b : Nat, (∀ n, n < a → n ≤ r) → (∀ n, a ≤ n → n < a + b → r < n) → (List.range (a + b)).flatMap (fun n => if n ≤ r then F n else []) = (List.range a).flatMap F := by
    intro a b h1 h2
    induction b with
    | zero =>
      rw [Nat.add_zero]
      induction a with
      | zero => rfl
      | succ a ih =>
        rw [List.range_succ, List.flatMap_append, List.flatMap_append, ih (fun n hn => h1 n (by omega)) (fun n hn => by omega)]
        have := h1 a (by omega)
        simp [this]
    | succ b ih =>
      rw [← Nat.add_assoc, List.range_succ, List.flatMap_append, ih (fun n hn hb => h2 n hn (by omega))]
      have := h2 (a + b) (by omega) (by omega)
      simp [Nat.not_le.mpr this]
  have e2 : m + 1 = (1 + min r m) + (m - min r m) := by omega
  rw [e2, e (1 + min r m) (m - min r m) (fun n hn => by omega) (fun n h1 h2 => by omega)]
theorem alike_ints : ∀ xs ys : List Int, PySem.W.alikeAll (xs.map PyData.int) (ys.map PyData.int) = true
  | [], [] => by simp [PySem.W.alikeAll]
  | [], _ :: _ => by simp [PySem.W.alikeAll]
  | _ :: _, [] => by simp [PySem.W.alikeAll]
  | x :: xs, y :: ys => by
    simp only [List.map_cons, PySem.W.alikeAll, Bool.and_eq_true]
    exact ⟨by simp [PySem.W.alike], alike_ints xs ys⟩
theorem eqv_ints : ∀ xs ys : List Int, PyData.eqvAll (xs.map PyData.int) (ys.map PyData.int) = decide (xs = ys)
  | [], [] => by simp [PyData.eqvAll]
  | [], _ :: _ => by simp [PyData.eqvAll]
  | _ :: _, [] => by simp [PyData.eqvAll]
  | x :: xs, y :: ys => by
    simp only [List.map_cons, PyData.eqvAll, PyData.eqv, eqv_ints xs ys, List.cons.injEq, Bool.decide_and]
    rfl
theorem leR_iff (a b : List Nat) : leR a b = true ↔ (a.sum < b.sum ∨ (a.sum = b.sum ∧ asI a ≤ asI b)) := by
  unfold leR
  show (!PySem.W.dataLt (keyD (asI b)) (keyD (asI a))) = true ↔ _
  unfold keyD
  rw [PySem.W.dataLt_pair (by simp [PySem.W.alike]) (by simp only [PySem.W.alike]; exact alike_ints _ _), PySem.W.dataLt_int, PySem.W.dataLt_tuple]
  simp only [PyData.eqv, eqv_ints]
  have e : PyProof.Rows.lexLt PyProof.Rows.itemOrd (PySem.W.keyToksAll ((asI b).map PyData.int)) (PySem.W.keyToksAll ((asI a).map PyData.int)) = decide (asI b < asI a) := PySem.W.dataLt_ints _ _
  rw [e, asI_sum, asI_sum]
  by_cases h : b.sum = a.sum
  · rw [h]
    by_cases h2 : asI b = asI a
    · rw [h2]
      simp [List.le_refl]
    · simp only [BEq.rfl, if_true, decide_eq_true_eq, h2, if_false, Bool.not_eq_true', decide_eq_false_iff_not, List.not_lt, Nat.lt_irrefl, false_or, true_and]
  · have h' : ¬ ((b.sum : Int) = (a.sum : Int)) := by omega
    have h3 : ((b.sum : Int) == (a.sum : Int)) = false := by simpa using h'
    rw [h3]
    simp only [Bool.false_eq_true, if_false, Bool.not_eq_true', decide_eq_false_iff_not]
    omega
theorem leR_total (a b : List Nat) : (leR a b || leR b a) = true := by
  rw [Bool.or_eq_true, leR_iff, leR_iff]
  rcases Nat.lt_trichotomy a.sum b.sum with h | h | h
  · exact .inl (.inl h)
  · rcases List.le_total (asI a) (asI b) with z | z
    · exact .inl (.inr ⟨h, z⟩)
    · exact .inr (.inr ⟨h.symm, z⟩)
  · exact .inr (.inl h)
theorem leR_trans (a b c : List Nat) (h : leR a b = true) (g : leR b c = true) : leR a c = true := by
  rw [leR_iff] at *
  rcases h with h | ⟨h, h2⟩ <;> rcases g with g | ⟨g, g2⟩
  · exact .inl (by omega)
  · exact .inl (by omega)
  · exact .inl (by omega)
  · exact .inr ⟨h.trans g, List.le_trans h2 g2⟩
theorem mem_srt {X : List (List Nat)} {c : List Nat} : c ∈ srt X ↔ c ∈ X := (List.mergeSort_perm X leR).mem_iff
theorem srt_head {X : List (List Nat)} {c : List Nat} {Y : List (List Nat)} (h : srt X = c :: Y) : c ∈ X ∧ ∀ d ∈ X, c.sum ≤ d.sum := by
  have hp := List.pairwise_mergeSort leR_trans leR_total X
  rw [show X.mergeSort leR = c :: Y from h, List.pairwise_cons] at hp
  refine ⟨mem_srt.mp (by rw [h]; exact List.mem_cons_self ..), fun d hd => ?_⟩
  have hd' := mem_srt.mpr hd
  rw [h] at hd'
  rcases List.mem_cons.mp hd' with rfl | hd'
  · exact Nat.le_refl _
  · have z := (leR_iff c d).mp (hp.1 d hd')
    omega
theorem srt_nil {X : List (List Nat)} : srt X = [] ↔ X = [] := by
  constructor
  · intro h
    cases X with
    | nil => rfl
    | cons c X =>
      have : c ∈ srt (c :: X) := mem_srt.mpr (List.mem_cons_self ..)
      rw [h] at this
      cases this
  · rintro rfl
    simp [srt]
theorem Gd.first {X : List (List Nat)} {w : Option Nat} {r : Nat} (h : Gd X w r) : Gd ((srt X).take 1) w r := by
  cases e : srt X with
  | nil =>
    have hx := srt_nil.mp e
    subst hx
    refine ⟨fun c hc => ?_, fun a ha hr => ?_⟩
    · have hc' : c ∈ ([] : List (List Nat)) := by simpa using hc
      cases hc'
    · obtain ⟨c, hc, _⟩ := h.at_ a ha hr
      cases hc
  | cons c Y =>
    obtain ⟨h1, h2⟩ := srt_head e
    constructor
    · intro d hd
      have : d = c := by simpa using hd
      subst this
      exact h.up _ h1
    · intro a ha hr
      obtain ⟨d, hd, hs⟩ := h.at_ a ha hr
      obtain ⟨b, hb, h3, _⟩ := h.up c h1
      rw [ha] at hb
      obtain rfl := Option.some.inj hb
      have := h2 d hd
      exact ⟨c, by simp, by omega⟩
theorem Gd.fold {k : Knd} {p : Pt} (ih : ∀ t r, Gd (rn k p t r) (wt k p t) r) : ∀ (l : List Dt) (X : List (List Nat)) (w : Option Nat) (r : Nat), Gd X w r → Gd (l.foldl (fun X t => bindR X fun c => rn k p t (r - c.sum)) X) (sum2 w (l.foldr (fun t a => sum2 (wt k p t) a) (some 0))) r
  | [], X, w, r, h => by
    have e : sum2 w (some 0) = w := by cases w <;> rfl
    simp only [List.foldl_nil, List.foldr_nil, e]
    exact h
  | t :: l, X, w, r, h => by
    rw [List.foldl_cons, List.foldr_cons]
    have e : sum2 w (sum2 (wt k p t) (l.foldr (fun t a => sum2 (wt k p t) a) (some 0))) = sum2 (sum2 w (wt k p t)) (l.foldr (fun t a => sum2 (wt k p t) a) (some 0)) := by
      cases w <;> cases wt k p t <;> cases (l.foldr (fun t a => sum2 (wt k p t) a) (some 0)) <;> simp [sum2, Nat.add_assoc]
    rw [e]
    exact Gd.fold ih l _ _ r (h.bind fun c _ => ih t _)
mutual
theorem rn_good (k : Knd) : ∀ (p : Pt) (t : Dt) (r : Nat), Gd (rn k p t r) (wt k p t) r
  | .any, t, r => by
    simp only [rn, wt]
    exact .zero
  | .is_ d, t, r => by
    simp only [rn, wt]
    split
    · exact .zero
    · exact .emp
  | .two true p q, t, r => by
    simp only [rn, wt]
    exact (rn_good k p t r).bind fun c _ => rn_good k q t _
  | .two false p q, t, r => by
    simp only [rn, wt]
    have h0 : Gd ((rn k p t r).map (0 :: ·)) (wt k p t) r := by
      have := Gd.cons (n := 0) (rn_good k p t r) (Nat.zero_le _)
      have e : sum2 (some 0) (wt k p t) = wt k p t := by cases wt k p t <;> simp [sum2]
      rw [e] at this
      exact this
    refine h0.or ?_
    by_cases hr : 1 ≤ r
    · rw [if_pos hr]
      exact (rn_good k q t (r - 1)).cons hr
    · rw [if_neg hr]
      exact .nil (by omega)
  | .lone .nt p, t, r => by
    simp only [rn, wt]
    exact .emp
  | .lone .first p, t, r => by
    simp only [rn, wt]
    exact (rn_good k p t r).first
  | .lone .all p, .tup l, r => by
    simp only [rn, wt]
    have := Gd.fold (fun t r => rn_good k p t r) l [[]] (some 0) r .zero
    have e : ∀ w : Option Nat, sum2 (some 0) w = w := fun w => by cases w <;> simp [sum2]
    rw [e] at this
    exact this
  | .lone .all p, .int _, r => by
    simp only [rn, wt]
    exact .emp
  | .lone .all p, .str _, r => by
    simp only [rn, wt]
    exact .emp
  | .row s, .tup l, r => by
    simp only [rn, wt]
    exact rns_good k s l r
  | .row s, .int _, r => by
    simp only [rn, wt]
    exact .emp
  | .row s, .str _, r => by
    simp only [rn, wt]
    exact .emp
theorem rns_good (k : Knd) : ∀ (s : Its) (l : List Dt) (r : Nat), Gd (rns k s l r) (wts k s l) r
  | .nil, l, r => by
    simp only [rns, wts]
    split
    · exact .zero
    · exact .emp
  | .cons true p .nil, l, r => by
    simp only [rns, wts]
    exact rn_good k p (.tup l) r
  | .cons false p s, [], r => by
    simp only [rns, wts]
    exact .emp
  | .cons false p s, t :: l, r => by
    simp only [rns, wts]
    exact (rn_good k p t r).bind fun c _ => rns_good k s l _
  | .cons true p (.cons b q s), l, r => by
    simp only [rns, wts]
    rw [flat_cut]
    refine Gd.flat (fun n => ?_) _
    by_cases hn : n ≤ r
    · rw [if_pos hn]
      exact ((rn_good k p (.tup (l.take n)) (r - n)).bind fun c _ => rns_good k (.cons b q s) (l.drop n) _).cons hn
    · rw [if_neg hn]
      exact .nil (by omega)
end
end Wf
set_option Elab.async false
set_option linter.all false
set_option maxRecDepth 100000
set_option maxHeartbeats 400000
namespace Wf
open PySem PySem.Spec PyProof.Rows L2
def Bn : Nat → Nat → Nat
  | 0, _ => 1
  | _ + 1, 0 => 1
  | l + 1, s + 1 => Bn (l + 1) s + Bn l (s + 1)
theorem Bn_zero (l : Nat) : Bn l 0 = 1 := by cases l <;> simp [Bn]
theorem Bn_pos : ∀ l s, 1 ≤ Bn l s
  | 0, _ => by simp [Bn]
  | _ + 1, 0 => by simp [Bn]
  | l + 1, s + 1 => by
    have := Bn_pos l (s + 1)
    simp only [Bn]
    omega
theorem Bn_up (l s : Nat) : Bn l s ≤ Bn (l + 1) s := by
  cases s with
  | zero => rw [Bn_zero, Bn_zero]; exact Nat.le_refl _
  | succ s => simp only [Bn]; omega
theorem Bn_mono {l m : Nat} (s : Nat) (h : l ≤ m) : Bn l s ≤ Bn m s := by
  induction m with
  | zero =>
    have : l = 0 := by omega
    subst this
    exact Nat.le_refl _
  | succ m ih =>
    rcases Nat.lt_or_ge m l with z | z
    · have : l = m + 1 := by omega
      subst this
      exact Nat.le_refl _
    · exact Nat.le_trans (ih z) (Bn_up m s)
theorem Bn_step (l s : Nat) : Bn l s ≤ Bn l (s + 1) := by
  cases l with
  | zero => simp [Bn]
  | succ l => simp only [Bn]; omega
theorem Bn_mono2 (l : Nat) {s t : Nat} (h : s ≤ t) : Bn l s ≤ Bn l t := by
  induction t with
  | zero =>
    have : s = 0 := by omega
    subst this
    exact Nat.le_refl _
  | succ t ih =>
    rcases Nat.lt_or_ge t s with z | z
    · have : s = t + 1 := by omega
      subst this
      exact Nat.le_refl _
    · exact Nat.le_trans (ih z) (Bn_step l t)
def cnt (X : List (List Nat)) (s : Nat) : Nat := X.countP fun c => decide (c.sum ≤ s)
structure Dm (L : Nat) (X : List (List Nat)) : Prop where
  many : ∀ s, cnt X s ≤ Bn L s
  len : ∀ c ∈ X, c.length ≤ L
theorem Dm.mono {L M : Nat} {X : List (List Nat)} (h : Dm L X) (k : L ≤ M) : Dm M X := ⟨fun s => Nat.le_trans (h.many s) (Bn_mono s k), fun c hc => Nat.le_trans (h.len c hc) k⟩
def tm (m s : Nat) (c : List Nat) : Nat := if c.sum ≤ s then Bn m (s - c.sum) else 0
def tms (m s : Nat) : List (List Nat) → Nat
  | [] => 0
  | c :: X => tm m s c + tms m s X
theorem tm_step (m s : Nat) (c : List Nat) : tm (m + 1) (s + 1) c = tm (m + 1) s c + tm m (s + 1) c := by
  unfold tm
  by_cases h : c.sum ≤ s
  · rw [if_pos (by omega), if_pos h, if_pos (by omega), show s + 1 - c.sum = (s - c.sum) + 1 by omega]
    simp only [Bn]
  · rw [if_neg h]
    by_cases h2 : c.sum ≤ s + 1
    · rw [if_pos h2, if_pos h2, show s + 1 - c.sum = 0 by omega, Bn_zero, Bn_zero]
    · rw [if_neg h2, if_neg h2]
theorem tms_step (m s : Nat) : ∀ X, tms (m + 1) (s + 1) X = tms (m + 1) s X + tms m (s + 1) X
  | [] => rfl
  | c :: X => by
    simp only [tms, tm_step, tms_step m s X]
    omega
theorem tms_flat (m s : Nat) (h : m = 0 ∨ s = 0) : ∀ X, tms m s X = cnt X s
  | [] => rfl
  | c :: X => by
    have e : tm m s c = if c.sum ≤ s then 1 else 0 := by
      unfold tm
      split
      · rcases h with rfl | rfl
        · simp [Bn]
        · rw [Nat.zero_sub, Bn_zero]
      · rfl
    simp only [tms, tms_flat m s h X, e, cnt, List.countP_cons, decide_eq_true_eq]
    omega
theorem tms_le {L : Nat} {X : List (List Nat)} (h : Dm L X) : ∀ m s, tms m s X ≤ Bn (L + m) s
  | 0, s => by
    rw [tms_flat 0 s (.inl rfl)]
    exact h.many s
  | m + 1, 0 => by
    rw [tms_flat (m + 1) 0 (.inr rfl), Bn_zero]
    have := h.many 0
    rw [Bn_zero] at this
    exact this
  | m + 1, s + 1 => by
    have h1 := tms_le h (m + 1) s
    have h2 := tms_le h m (s + 1)
    rw [tms_step]
    show _ ≤ Bn (L + m + 1) (s + 1)
    simp only [Bn]
    exact Nat.add_le_add h1 h2
theorem cnt_append (X Y : List (List Nat)) (s : Nat) : cnt (X ++ Y) s = cnt X s + cnt Y s := by
  unfold cnt
  exact List.countP_append
theorem cnt_behind (c : List Nat) (Y : List (List Nat)) (s : Nat) : cnt (Y.map (c ++ ·)) s = if c.sum ≤ s then cnt Y (s - c.sum) else 0 := by
  unfold cnt
  rw [List.countP_map]
  by_cases h : c.sum ≤ s
  · rw [if_pos h]
    refine List.countP_congr fun d _ => ?_
    simp only [Function.comp, List.sum_append, decide_eq_true_eq]
    omega
  · rw [if_neg h, List.countP_eq_zero]
    intro d _
    simp only [Function.comp, List.sum_append, decide_eq_true_eq]
    omega
theorem cnt_cons (n : Nat) (Y : List (List Nat)) (s : Nat) : cnt (Y.map (n :: ·)) s = if n ≤ s then cnt Y (s - n) else 0 := by
  unfold cnt
  rw [List.countP_map]
  by_cases h : n ≤ s
  · rw [if_pos h]
    refine List.countP_congr fun d _ => ?_
    show decide ((n :: d).sum ≤ s) = true ↔ decide (d.sum ≤ s - n) = true
    rw [decide_eq_true_iff, decide_eq_true_iff, List.sum_cons]
    omega
  · rw [if_neg h, List.countP_eq_zero]
    intro d _
    show ¬ decide ((n :: d).sum ≤ s) = true
    rw [decide_eq_true_iff, List.sum_cons]
    omega
theorem cnt_bind {M : Nat} {f : List Nat → List (List Nat)} (s : Nat) : ∀ X : List (List Nat), (∀ c ∈ X, Dm M (f c)) → cnt (bindR X f) s ≤ tms M s X
  | [], _ => Nat.zero_le _
  | c :: X, h => by
    have ih := cnt_bind s X fun d hd => h d (List.mem_cons_of_mem _ hd)
    have h1 := (h c (List.mem_cons_self ..)).many
    unfold bindR at ih ⊢
    rw [List.flatMap_cons, cnt_append, cnt_behind]
    simp only [tms, tm]
    split
    · have := h1 (s - c.sum)
      omega
    · omega
theorem Dm.bind {L M : Nat} {X : List (List Nat)} {f : List Nat → List (List Nat)} (h : Dm L X) (g : ∀ c ∈ X, Dm M (f c)) : Dm (L + M) (bindR X f) := by
  refine ⟨fun s => Nat.le_trans (cnt_bind s X g) (tms_le h M s), fun e he => ?_⟩
  obtain ⟨c, hc, d, hd, rfl⟩ := mem_bindR.mp he
  have h1 := h.len c hc
  have h2 := (g c hc).len d hd
  rw [List.length_append]
  omega
theorem Dm.one {L : Nat} : Dm L [[]] := ⟨fun s => Nat.le_trans (by simp [cnt]) (Bn_pos L s), fun c hc => by
  rw [List.mem_singleton] at hc
  subst hc
  exact Nat.zero_le _⟩
theorem Dm.none {L : Nat} : Dm L [] := ⟨fun s => Nat.zero_le _, fun c hc => (nomatch hc)⟩
theorem Dm.two {L : Nat} {X Y : List (List Nat)} (h : Dm L X) (g : Dm L Y) : Dm (L + 1) (X.map (0 :: ·) ++ Y.map (1 :: ·)) := by
  refine ⟨fun s => ?_, fun e he => ?_⟩
  · rw [cnt_append, cnt_cons, cnt_cons, if_pos (Nat.zero_le _)]
    cases s with
    | zero =>
      have := h.many 0
      rw [Bn_zero] at this ⊢
      simpa using this
    | succ s =>
      have h1 := h.many (s + 1)
      have h2 := g.many s
      have h3 := Bn_up L s
      rw [if_pos (by omega), Nat.sub_zero, Nat.add_sub_cancel]
      simp only [Bn]
      omega
  · rcases List.mem_append.mp he with he | he
    · obtain ⟨c, hc, rfl⟩ := List.mem_map.mp he
      have := h.len c hc
      rw [List.length_cons]
      omega
    · obtain ⟨c, hc, rfl⟩ := List.mem_map.mp he
      have := g.len c hc
      rw [List.length_cons]
      omega
theorem cnt_range {L : Nat} {F : Nat → List (List Nat)} (s : Nat) : ∀ m, (∀ n, n < m → Dm L (F n)) → cnt ((List.range m).flatMap fun n => (F n).map (n :: ·)) s ≤ Bn (L + 1) s := by
  have key : ∀ m, (∀ n, n < m → Dm L (F n)) → m ≤ s + 1 → cnt ((List.range m).flatMap fun n => (F n).map (n :: ·)) s + (if m ≤ s then Bn (L + 1) (s - m) else 0) ≤ Bn (L + 1) s := by
    intro m
    induction m with
    | zero =>
      intro _ _
      simp [cnt]
    | succ m ih =>
      intro h hm
      have i1 := ih (fun n hn => h n (by omega)) (by omega)
      rw [if_pos (by omega)] at i1
      rw [List.range_succ, List.flatMap_append, cnt_append]
      have e : cnt ([m].flatMap fun n => (F n).map (n :: ·)) s = cnt (F m) (s - m) := by
        rw [List.flatMap_cons, List.flatMap_nil, List.append_nil, cnt_cons, if_pos (by omega)]
      rw [e]
      have h1 := (h m (by omega)).many (s - m)
      by_cases h2 : m + 1 ≤ s
      · rw [if_pos h2]
        rw [show s - m = (s - (m + 1)) + 1 by omega] at i1 h1 ⊢
        simp only [Bn] at i1
        omega
      · rw [if_neg h2]
        have e0 : s - m = 0 := by omega
        rw [e0] at h1 i1 ⊢
        rw [Bn_zero] at h1 i1
        omega
  intro m h
  rcases Nat.lt_or_ge (s + 1) m with z | z
  · have k := key (s + 1) (fun n hn => h n (by omega)) (Nat.le_refl _)
    have e : ∀ b, (∀ n, n < s + 1 + b → n < m) → cnt ((List.range (s + 1 + b)).flatMap fun n => (F n).map (n :: ·)) s = cnt ((List.range (s + 1)).flatMap fun n => (F n).map (n :: ·)) s := by
      intro b
      induction b with
      | zero => intro _; rfl
      | succ b ih =>
        intro hb
        rw [← Nat.add_assoc, List.range_succ, List.flatMap_append, cnt_append, ih fun n hn => hb n (by omega)]
        rw [List.flatMap_cons, List.flatMap_nil, List.append_nil, cnt_cons, if_neg (by omega)]
        rfl
    have e2 := e (m - (s + 1)) (fun n hn => by omega)
    rw [show s + 1 + (m - (s + 1)) = m by omega] at e2
    rw [e2]
    omega
  · have k := key m h z
    omega
theorem Dm.range {L : Nat} {F : Nat → List (List Nat)} {m : Nat} (h : ∀ n, n < m → Dm L (F n)) : Dm (L + 1) ((List.range m).flatMap fun n => (F n).map (n :: ·)) := by
  refine ⟨fun s => cnt_range s m h, fun e he => ?_⟩
  obtain ⟨n, hn, he⟩ := List.mem_flatMap.mp he
  obtain ⟨c, hc, rfl⟩ := List.mem_map.mp he
  have := (h n (List.mem_range.mp hn)).len c hc
  rw [List.length_cons]
  omega
theorem Dm.first {L : Nat} {X : List (List Nat)} (h : Dm L X) : Dm L ((srt X).take 1) := by
  refine ⟨fun s => ?_, fun c hc => h.len c (mem_srt.mp (List.mem_of_mem_take hc))⟩
  have h1 : cnt ((srt X).take 1) s ≤ cnt (srt X) s := List.Sublist.countP_le (List.take_sublist ..)
  have h2 : cnt (srt X) s = cnt X s := (List.mergeSort_perm X leR).countP_eq _
  have h3 := h.many s
  omega
mutual
def Pt.w : Pt → Nat
  | .any => 0
  | .is_ _ => 0
  | .two true p q => p.w + q.w
  | .two false p q => 1 + (p.w + q.w)
  | .lone _ p => p.w
  | .row s => s.w
def Its.w : Its → Nat
  | .nil => 0
  | .cons false p s => p.w + s.w
  | .cons true p .nil => p.w
  | .cons true p (.cons b q s) => 1 + (p.w + Its.w (.cons b q s))
end
theorem Dm.fold {k : Knd} {p : Pt} {W : Nat} (ih : ∀ t r, Dm (W * t.sz) (rn k p t r)) (r : Nat) : ∀ (l : List Dt) (X : List (List Nat)) (L : Nat), Dm L X → Dm (L + W * Dt.szs l) (l.foldl (fun X t => bindR X fun c => rn k p t (r - c.sum)) X)
  | [], X, L, h => by
    simp only [Dt.szs, Nat.mul_zero, Nat.add_zero, List.foldl_nil]
    exact h
  | t :: l, X, L, h => by
    have := Dm.fold ih r l _ _ (h.bind (M := W * t.sz) (f := fun c => rn k p t (r - c.sum)) fun c _ => ih t _)
    rw [List.foldl_cons]
    simp only [Dt.szs, Nat.mul_add]
    rw [← Nat.add_assoc]
    exact this
mutual
theorem rn_many (k : Knd) : ∀ (p : Pt) (t : Dt) (r : Nat), Dm (p.w * t.sz) (rn k p t r)
  | .any, t, r => by
    simp only [rn]
    exact .one
  | .is_ d, t, r => by
    simp only [rn]
    split
    · exact .one
    · exact .none
  | .two true p q, t, r => by
    simp only [rn, Pt.w, Nat.add_mul]
    exact (rn_many k p t r).bind fun c _ => rn_many k q t _
  | .two false p q, t, r => by
    simp only [rn, Pt.w, Nat.add_mul, Nat.one_mul]
    have hs := t.sz_pos
    have h1 : Dm (p.w * t.sz + q.w * t.sz) (rn k p t r) := (rn_many k p t r).mono (by omega)
    by_cases hr : 1 ≤ r
    · rw [if_pos hr]
      have h2 : Dm (p.w * t.sz + q.w * t.sz) (rn k q t (r - 1)) := (rn_many k q t (r - 1)).mono (by omega)
      exact (h1.two h2).mono (by omega)
    · rw [if_neg hr]
      have := (h1.two (Dm.none)).mono (show _ ≤ t.sz + (p.w * t.sz + q.w * t.sz) by omega)
      simpa using this
  | .lone .nt p, t, r => by
    simp only [rn]
    exact .none
  | .lone .first p, t, r => by
    simp only [rn, Pt.w]
    exact (rn_many k p t r).first
  | .lone .all p, .tup l, r => by
    simp only [rn, Pt.w]
    have := Dm.fold (fun t r => rn_many k p t r) r l [[]] 0 .one
    refine this.mono ?_
    simp only [Dt.sz, Nat.mul_add]
    omega
  | .lone .all p, .int _, r => by
    simp only [rn]
    exact .none
  | .lone .all p, .str _, r => by
    simp only [rn]
    exact .none
  | .row s, .tup l, r => by
    simp only [rn, Pt.w]
    exact rns_many k s l r
  | .row s, .int _, r => by
    simp only [rn]
    exact .none
  | .row s, .str _, r => by
    simp only [rn]
    exact .none
theorem rns_many (k : Knd) : ∀ (s : Its) (l : List Dt) (r : Nat), Dm (s.w * (Dt.tup l).sz) (rns k s l r)
  | .nil, l, r => by
    simp only [rns]
    split
    · exact .one
    · exact .none
  | .cons true p .nil, l, r => by
    simp only [rns, Its.w]
    exact rn_many k p (.tup l) r
  | .cons false p s, [], r => by
    simp only [rns]
    exact .none
  | .cons false p s, t :: l, r => by
    simp only [rns, Its.w]
    have := (rn_many k p t r).bind (M := s.w * (Dt.tup l).sz) fun c _ => rns_many k s l (r - c.sum)
    refine this.mono ?_
    rw [Nat.add_mul]
    refine Nat.add_le_add (Nat.mul_le_mul_left _ ?_) (Nat.mul_le_mul_left _ ?_)
    · simp only [Dt.sz, Dt.szs]; omega
    · simp only [Dt.sz, Dt.szs]; omega
  | .cons true p (.cons b q s), l, r => by
    simp only [rns, Its.w]
    refine (Dm.range (L := p.w * (Dt.tup l).sz + Its.w (.cons b q s) * (Dt.tup l).sz) fun n hn => ?_).mono ?_
    · have e1 := Dt.szs_append (l.take n) (l.drop n)
      rw [List.take_append_drop] at e1
      have h1 : Dm (p.w * (Dt.tup l).sz) (rn k p (.tup (l.take n)) (r - n)) := (rn_many k p (.tup (l.take n)) (r - n)).mono (Nat.mul_le_mul_left _ (by simp only [Dt.sz]; omega))
      exact h1.bind fun c _ => (rns_many k (.cons b q s) (l.drop n) _).mono (Nat.mul_le_mul_left _ (by simp only [Dt.sz]; omega))
    · rw [Nat.add_mul, Nat.add_mul, Nat.one_mul]
      have := (Dt.tup l).sz_pos
      omega
end
mutual
theorem Pt.w_le : ∀ p : Pt, p.ok → 3 * p.w + 2 ≤ 2 * p.pcs
  | .any, _ => by simp [Pt.w, Pt.pcs]
  | .is_ d, _ => by have := d.sz_pos; simp only [Pt.w, Pt.pcs]; omega
  | .two true p q, h => by
    simp only [Pt.ok] at h
    have := Pt.w_le p h.1
    have := Pt.w_le q h.2
    simp only [Pt.w, Pt.pcs]
    omega
  | .two false p q, h => by
    simp only [Pt.ok] at h
    have := Pt.w_le p h.1
    have := Pt.w_le q h.2
    simp only [Pt.w, Pt.pcs]
    omega
  | .lone _ p, h => by
    simp only [Pt.ok] at h
    have := Pt.w_le p h
    simp only [Pt.w, Pt.pcs]
    omega
  | .row s, h => by
    simp only [Pt.ok] at h
    have h1 := Its.w_le s h.2
    simp only [Pt.w, Pt.pcs]
    omega
theorem Its.w_le : ∀ s : Its, s.ok → 3 * s.w + 3 ≤ 2 * s.pcs + s.len ∨ (s.len = 0 ∧ s.w = 0)
  | .nil, _ => .inr ⟨rfl, by simp [Its.w]⟩
  | .cons false p s, h => by
    simp only [Its.ok] at h
    have := Pt.w_le p h.1
    have := Its.w_le s h.2
    simp only [Its.w, Its.pcs, Its.len]
    omega
  | .cons true p .nil, h => by
    simp only [Its.ok] at h
    have := Pt.w_le p h.1
    simp only [Its.w, Its.pcs, Its.len]
    omega
  | .cons true p (.cons b q s), h => by
    have h' := h
    simp only [Its.ok] at h
    have h1 := Pt.w_le p h.1
    have h2 := Its.w_le (.cons b q s) (by simp only [Its.ok]; exact h.2)
    simp only [Its.w, Its.pcs, Its.len] at h2 ⊢
    omega
end
def tb : Nat → Nat × Nat × Nat × Nat × Nat
  | 0 => (1, 1, 1, 1, 1)
  | l + 1 => match tb l with
    | (a, b, c, d, e) => (1 + a, 1 + a + b, 1 + a + b + c, 1 + a + b + c + d, 1 + a + b + c + d + e)
theorem tb_is : ∀ l, tb l = (Bn l 1, Bn l 2, Bn l 3, Bn l 4, Bn l 5)
  | 0 => by simp [tb, Bn]
  | l + 1 => by
    simp only [tb, tb_is l, Bn, Bn_zero]
theorem Bn_60 : Bn 60 5 ≤ 16000000 := by
  have h := tb_is 60
  have e : (tb 60).2.2.2.2 = 8259888 := by decide +kernel
  rw [h] at e
  have e' : Bn 60 5 = 8259888 := e
  omega
theorem rn_few {k : Knd} {p : Pt} {t : Dt} {r : Nat} (ho : p.ok) (hp : p.pcs ≤ 17) (ht : t.sz ≤ 6) (hr : r ≤ 5) (hw : p.w ≤ 10) : (rn k p t r).length ≤ 16000000 ∧ ∀ c ∈ rn k p t r, c.length ≤ 60 := by
  have h := (rn_many k p t r).mono (show p.w * t.sz ≤ 60 from Nat.mul_le_mul hw ht)
  refine ⟨?_, h.len⟩
  have h1 : cnt (rn k p t r) 5 = (rn k p t r).length := by
    unfold cnt
    rw [List.countP_eq_length]
    intro c hc
    obtain ⟨a, _, _, h3⟩ := (rn_good k p t r).up c hc
    exact decide_eq_true (by omega)
  have h4 := h.many 5
  have h5 := Bn_60
  omega
end Wf
set_option Elab.async false
set_option linter.all false
set_option maxRecDepth 100000
set_option maxHeartbeats 400000
namespace Wf
open PySem PySem.Spec PyProof.Rows L2
section
variable {P : Program} {w : World} {K : PySem.W.Frag} {mg : Str → Option Value} {base : Heap}
def ctD (c : List Nat) : Dt := .tup (c.map fun (n : Nat) => Dt.int (n : Int))
def runD (c : List Nat) : Dt := .tup [ctD c, .tup []]
theorem runD_in {K : PySem.W.Frag} {H : Hp} {v : V} {c : List Nat} (h : Is K H v (runD c)) : ∃ a cv sv, v = .ref a ∧ SqT K H a [cv, sv] ∧ Is K H cv (ctD c) ∧ Is K H sv (.tup []) := by
  obtain ⟨a, xs, rfl, sq, il⟩ := h.tupD
  cases il with
  | cons h1 t =>
    cases t with
    | cons h2 t =>
      cases t
      exact ⟨a, _, _, rfl, sq, h1, h2⟩
theorem ctD_in {K : PySem.W.Frag} {H : Hp} {v : V} {c : List Nat} (h : Is K H v (ctD c)) : ∃ a, v = .ref a ∧ SqT K H a ((asI c).map V.int) := by
  obtain ⟨a, xs, rfl, sq, il⟩ := h.tupD
  have e : (c.map fun (n : Nat) => Dt.int (n : Int)) = (asI c).map Dt.int := by unfold asI; rw [List.map_map]; rfl
  rw [e] at il
  rw [il.ints_eq] at sq
  exact ⟨a, rfl, sq⟩
def spPut (K : PySem.W.Frag) : Sp := fun vs H Q _ => ∃ (cv : V) (a : Addr) (c : List Nat) (xs : List V) (rs : List (List Nat)), vs = [cv, .ref a] ∧ Is K H cv (ctD c) ∧ H a = some (.lst xs) ∧ IsAll K H xs (rs.map runD) ∧ c.length ≤ 60 ∧ (∀ r ∈ rs, r.length ≤ 60) ∧ rs.length ≤ 16000000 ∧ NewL K H ((rs.map (c ++ ·)).map runD) Q
theorem ok_put_behind {k : Nat} (T : Tx w K mg) : Cal P w K mg base (k + 1) "put_behind" (spPut K) := by
  refine Tx.cal T.f_put_behind T.g_put_behind T.b_put_behind sc_put_behind ?_ ?_
  · rintro vs H Q E ⟨cv, a, c, xs, rs, rfl, _⟩
    rfl
  · rintro cdv A outer s H vs Q E hr ⟨cv, a, c, xs, rs, rfl, hc, ha, il, hcl, hrl, hrs, q⟩
    refine ⟨_, (pss_one (ps_ret (pe_lc (own := [("more", 2), ("stand", 3)]) rfl sc_put_behind.nd (pi_list (pv 1)) (blkOk_by (own := [("more", 2), ("stand", 3)]) (N := ["choices", "runs", "more", "stand"]) (sc := defScope sPutBehind) (by decide +kernel)) (fun _ _ _ _ _ => (pgTup K (n := 2) rfl (pgs_cons (pg_name (i := 2) sc_put_behind.nd rfl (by first | exact Or.inl rfl | exact Or.inr rfl)) (pgs_cons (pg_name (i := 3) sc_put_behind.nd rfl (by first | exact Or.inl rfl | exact Or.inr rfl)) pgs_nil)))) (fun _ _ _ _ _ => pts_nil) (fun _ _ _ _ _ => (pe_tup (pa_cons (pe_op (catD K) (pv 0) (pv 2)) (pa_cons (pv 3) pa_nil))))))), ?_⟩
    refine ⟨_, rfl, _, rfl, ⟨xs, .of ha⟩, fun D nD => ?_⟩
    refine lc_D (walk_list (xs := xs)) il nD (fun i H' acc => IsAll K H' acc (((rs.take i).map (c ++ ·)).map runD)) .nil (fun H2 s2 => .of (s2 _ _ ha)) ?_ ?_
    · rintro i x d H2 acc hi s1 hD hx f
      rw [List.getElem?_map] at hi
      obtain ⟨r, hr', rfl⟩ := Option.map_eq_some_iff.mp hi
      obtain ⟨p, c2, sv, rfl, sq, h1, h2⟩ := runD_in hx
      refine ⟨_, _, rfl, sq, rfl, _, _, rfl, _, _, rfl, rfl, rfl, ?_⟩
      have hlen := hrl r (List.mem_of_getElem? hr')
      refine ⟨_, rfl, _, rfl, _, _, hc.sm s1, h1, le_line (by simp; omega), fun v' H3 s3 hv => ⟨_, rfl, line2, fun p2 n2 => ?_⟩⟩
      have hi2 := (List.getElem?_eq_some_iff.mp hr').1
      refine lcn nD s1 hD (s3.trans (Sm.new n2)) (lt_line (by rw [f.len, List.length_map, List.length_map, List.length_take]; omega)) ?_
      have e : Is K (upd H3 p2 (.tup [v', sv])) (.ref p2) (runD (c ++ r)) := Is.new n2 (.cons (by
        have e1 : ctD (c ++ r) = .tup ((c.map fun (n : Nat) => Dt.int (n : Int)) ++ r.map fun (n : Nat) => Dt.int (n : Int)) := by unfold ctD; rw [List.map_append]
        rw [e1]
        exact hv) (.one (h2.sm s3)))
      rw [List.take_add_one, hr', List.map_append, List.map_append]
      exact ((f.sm (s3.trans (Sm.new n2))).append (.one e)).up (.lst ((s3.trans (Sm.new n2)) _ _ hD))
    · intro H2 acc s1 hD f
      rw [List.length_map, List.take_length] at f
      exact q _ D acc s1 nD hD f
def SelfAt (K : PySem.W.Frag) (H : Hp) (sf : Addr) (kv : V) : Prop := ∃ dx rd, H sf = some (.ins (He.ga K "Trying") dx [("rules", rd), ("kind", kv)])
theorem SelfAt.sm {H H' : Hp} {sf : Addr} {kv : V} (s : Same H H') (h : SelfAt K H sf kv) : SelfAt K H' sf kv := by
  obtain ⟨dx, rd, h⟩ := h
  exact ⟨dx, rd, s _ _ h⟩
def spAlike (K : PySem.W.Frag) : Sp := fun vs H Q _ => ∃ sf kv v u k d e, vs = [.ref sf, v, u] ∧ SelfAt K H sf kv ∧ Is K H kv (Knd.dt k) ∧ KOk k ∧ Is K H v d ∧ Is K H u e ∧ d.good ∧ e.good ∧ ∀ H', Same H H' → Q (.bl (likeD k d e)) H'
theorem ok_alike {k : Nat} (T : Tx w K mg) (c_are_like : Cal P w K mg base k "are_like" (spLike K)) : Met P w K mg base (k + 1) (He.ga K "Trying") "alike" (spAlike K) := by
  refine Tx.met T.cls T.m_alike T.f_Tralike T.b_Tralike sc_tr_alike ?_ ?_
  · rintro vs H Q E ⟨sf, kv, v, u, k, d, e, rfl, _⟩
    rfl
  · rintro cdv A outer s H vs Q E hr ⟨sf, kv, v, u, k, d, e, rfl, me, hkv, hk, hd, he, gd, ge, q⟩
    obtain ⟨dx, rd, hs⟩ := me
    refine ⟨_, (pss_one (ps_ret (pe_c c_are_like hr (Nat.le_refl _) (by rfl) (pa_cons (pe_fld (pv 0) rfl) (pa_cons (pv 1) (pa_cons (pv 2) pa_nil)))))), ?_⟩
    exact ⟨_, rfl, _, _, _, _, _, rfl, hs, T.cls, T.na_kind, rfl, _, rfl, _, rfl, _, _, _, k, d, e, rfl, hkv, hk, hd, he, gd, ge, q⟩
mutual
def Pt.nn : Pt → Bool
  | .any => true
  | .is_ _ => true
  | .two _ p q => p.nn && q.nn
  | .lone .nt _ => false
  | .lone .first p => p.nn
  | .lone .all p => p.nn
  | .row s => s.nn
def Its.nn : Its → Bool
  | .nil => true
  | .cons _ p s => p.nn && s.nn
end
structure Ask (K : PySem.W.Frag) (H : Hp) (sf : Addr) (kv v u st : V) (k : Knd) (p : Pt) (t : Dt) : Prop where
  me : SelfAt K H sf kv
  kd : Is K H kv (Knd.dt k)
  kok : KOk k
  pat : Is K H v p.dt
  ok : p.ok
  nn : p.nn = true
  w : p.w ≤ 10
  th : Is K H u t
  good : t.good
  sz : t.sz ≤ 6
  sd : Is K H st (.tup [])
theorem Ask.sm {H H' : Hp} {sf : Addr} {kv v u st : V} {k : Knd} {p : Pt} {t : Dt} (s : Same H H') (a : Ask K H sf kv v u st k p t) : Ask K H' sf kv v u st k p t :=
  ⟨a.me.sm s, a.kd.sm s, a.kok, a.pat.sm s, a.ok, a.nn, a.w, a.th.sm s, a.good, a.sz, a.sd.sm s⟩
theorem few_of {L : Nat} {X : List (List Nat)} (h : Dm L X) (hL : L ≤ 60) (hs : ∀ c ∈ X, c.sum ≤ 5) : X.length ≤ 16000000 ∧ ∀ c ∈ X, c.length ≤ 60 := by
  have h' := h.mono hL
  refine ⟨?_, h'.len⟩
  have h1 : cnt X 5 = X.length := by
    unfold cnt
    rw [List.countP_eq_length]
    intro c hc
    exact decide_eq_true (hs c hc)
  have h4 := h'.many 5
  have h5 := Bn_60
  omega
theorem rn_sum {k : Knd} {p : Pt} {t : Dt} {r : Nat} {c : List Nat} (h : c ∈ rn k p t r) : c.sum ≤ r := by
  obtain ⟨a, _, _, h3⟩ := (rn_good k p t r).up c h
  exact h3
theorem rns_sum {k : Knd} {p : Its} {t : List Dt} {r : Nat} {c : List Nat} (h : c ∈ rns k p t r) : c.sum ≤ r := by
  obtain ⟨a, _, _, h3⟩ := (rns_good k p t r).up c h
  exact h3
theorem rn_few2 {k : Knd} {p : Pt} {t : Dt} {r : Nat} (hw : p.w ≤ 10) (ht : t.sz ≤ 6) (hr : r ≤ 5) : (rn k p t r).length ≤ 16000000 ∧ ∀ c ∈ rn k p t r, c.length ≤ 60 :=
  few_of (rn_many k p t r) (Nat.mul_le_mul hw ht) fun c hc => Nat.le_trans (rn_sum hc) hr
theorem rns_few2 {k : Knd} {p : Its} {t : List Dt} {r : Nat} (hw : p.w ≤ 10) (ht : (Dt.tup t).sz ≤ 6) (hr : r ≤ 5) : (rns k p t r).length ≤ 16000000 ∧ ∀ c ∈ rns k p t r, c.length ≤ 60 :=
  few_of (rns_many k p t r) (Nat.mul_le_mul hw ht) fun c hc => Nat.le_trans (rns_sum hc) hr
def spFound (K : PySem.W.Frag) (n : Nat) : Sp := fun vs H Q _ => ∃ sf kv v u st k p t r, vs = [.ref sf, v, u, st, .int (r : Nat)] ∧ Ask K H sf kv v u st k p t ∧ p.dp ≤ n ∧ r ≤ 5 ∧ NewL K H ((rn k p t r).map runD) Q
def spByWorth (K : PySem.W.Frag) : Sp := fun vs H Q _ => ∃ sf kv v u st k d t, vs = [.ref sf, v, u, st] ∧ Ask K H sf kv v u st k (.is_ d) t ∧ NewL K H ((if likeD k d t = true then [([] : List Nat)] else []).map runD) Q
theorem run_nil {H : Hp} {e n : Addr} {st : V} (ne : H e = none) (hs : Is K H st (.tup [])) (nn : upd H e (.tup []) n = none) : Is K (upd (upd H e (.tup [])) n (.tup [.ref e, st])) (.ref n) (runD []) :=
  Is.new nn (.cons (Is.new ne .nil) (.one (hs.sm (Sm.new ne))))
theorem ok_by_worth {k : Nat} (T : Tx w K mg) (m_alike : Met P w K mg base k (He.ga K "Trying") "alike" (spAlike K)) : Met P w K mg base (k + 1) (He.ga K "Trying") "by_worth" (spByWorth K) := by
  refine Tx.met T.cls T.m_by_worth T.f_Trby_worth T.b_Trby_worth sc_tr_by_worth ?_ ?_
  · rintro vs H Q E ⟨sf, kv, v, u, st, k, d, t, rfl, _⟩
    rfl
  · rintro cdv A outer s H vs Q E hr ⟨sf, kv, v, u, st, k, d, t, rfl, a, q⟩
    refine ⟨_, (pss_cons (ps_set (i := 4) sc_tr_by_worth.nd rfl (by first | exact Or.inl rfl | exact Or.inr rfl) (pe_ifExp (pt_cmpR op_eq (pe_ix (ixD K) (pv 1) pe_int (fun _ _ => rfl)) pe_str (nomark _)) (pe_lst (pa_cons (pe_ix (ixD K) (pv 1) pe_int (fun _ _ => rfl)) pa_nil)) pe_no)) (pss_cons (ps_if (pt_cmpR (eqN K hr.units) (pv 4) (pe_lst pa_nil) (nomark _)) pss_never pss_nil) (pss_one (ps_ret (pe_ifExp (pt_val (pe_mt m_alike hr (Nat.le_refl _) (pv 0) (pa_cons (pe_ix (ixL K) (pv 4) pe_int (fun _ _ => rfl)) (pa_cons (pv 2) pa_nil)))) (pe_lst (pa_cons (pe_tup (pa_cons (pe_tup pa_nil) (pa_cons (pv 3) pa_nil))) pa_nil)) (pe_lst pa_nil)))))), ?_⟩
    have hp : Is K H v (.tup [.str "is", d]) := a.pat
    have hd : d.good := by have := a.ok; simpa only [Pt.ok] using this
    refine ⟨_, rfl, _, 0, _, hp, rfl, rfl, fun v0 h0 => ?_⟩
    rw [h0.strD]
    refine ⟨rfl, _, rfl, iY (by decide +kernel) ?_⟩
    refine ⟨_, rfl, _, 1, _, hp, rfl, rfl, fun v1 h1 => ⟨line1, fun L nL => ?_⟩⟩
    have s0 : Same H (upd H L (.lst [v1])) := Sm.new nL
    refine ⟨_, rfl, by decide, fun e ne => ?_⟩
    have s1 := s0.trans (Sm.new (o := .lst []) ne)
    have hLe : L ≠ e := ne_of_none upd_same ne
    have hL : (upd (upd H L (.lst [v1])) e (.lst [])) L = some (.lst [v1]) := by rw [upd_ne hLe]; exact upd_same
    refine ⟨L, e, [v1], [d.toP], rfl, rfl, .of hL, .of upd_same, .cons (h1.sm s1).dp .nil, ?_, _, rfl, iN rfl ?_⟩
    · have h3 := Dt.sok_thg d hd.thg
      have h4 := hd.dep
      unfold SeqAt.shaped
      simp only [PyData.canLay0, PyData.canLayAll0, PyData.depth, PyData.depthAll, Dt.lay, Dt.depP, h3]
      simp
      omega
    have a1 := a.sm s1
    obtain ⟨dx, rd, hself⟩ := a1.me
    refine ⟨_, rfl, _, _, _, rfl, hself, rfl, _, rfl, _, _, _, _, rfl, rfl, .of hL, rfl, _, rfl, ?_⟩
    refine ⟨sf, kv, v1, u, k, d, t, rfl, a1.me, a1.kd, a1.kok, h1.sm s1, a1.th, hd, a1.good, fun H2 s2 => ⟨_, rfl, ?_⟩⟩
    have s12 := s1.trans s2
    refine iD (fun e => ?_) fun e => ?_
    · rw [e] at q
      refine ⟨by decide, fun p1 n1 => ⟨_, rfl, line2, fun p2 n2 => ⟨line1, fun p3 n3 => ?_⟩⟩⟩
      have z := run_nil n1 (a.sd.sm s12) n2
      have s3 := (Sm.new (o := .tup []) n1).trans ((Sm.new (o := .tup [.ref p1, st]) n2).trans (Sm.new (o := .lst [.ref p2]) n3))
      refine q _ p3 [.ref p2] (s12.trans s3) (s12.free ((Sm.new n1).free ((Sm.new n2).free n3))) upd_same (.one (z.sm (Sm.new n3)))
    · rw [e] at q
      exact ⟨by decide, fun p3 n3 => q _ p3 [] (s12.trans (Sm.new n3)) (s12.free n3) upd_same .nil⟩
def chR (k : Knd) (p : Pt) (t : Dt) (j r : Nat) : List (List Nat) := if j ≤ r then (rn k p t (r - j)).map (j :: ·) else []
def spChosen (K : PySem.W.Frag) (n : Nat) : Sp := fun vs H Q _ => ∃ sf kv v u st k p t j r, vs = [.ref sf, .int (j : Nat), v, u, st, .int (r : Nat)] ∧ Ask K H sf kv v u st k p t ∧ p.dp ≤ n ∧ r ≤ 5 ∧ p.w ≤ 10 ∧ NewL K H ((chR k p t j r).map runD) Q
theorem ok_chosen {k n : Nat} (T : Tx w K mg) (c_put_behind : Cal P w K mg base k "put_behind" (spPut K)) (m_found : Met P w K mg base k (He.ga K "Trying") "found" (spFound K n)) : Met P w K mg base (k + 1) (He.ga K "Trying") "chosen" (spChosen K n) := by
  refine Tx.met T.cls T.m_chosen T.f_Trchosen T.b_Trchosen sc_tr_chosen ?_ ?_
  · rintro vs H Q E ⟨sf, kv, v, u, st, k, p, t, j, r, rfl, _⟩
    rfl
  · rintro cdv A outer s H vs Q E hr ⟨sf, kv, v, u, st, k, p, t, j, r, rfl, a, hn, h5, hw, q⟩
    refine ⟨_, (pss_cons (ps_if (pt_cmpR op_gt (pv 1) (pv 5) (nomark _)) (pss_one (ps_ret (pe_lst pa_nil))) pss_nil) (pss_one (ps_ret (pe_c c_put_behind hr (Nat.le_refl _) (by rfl) (pa_cons (pe_tup (pa_cons (pv 1) pa_nil)) (pa_cons (pe_mt m_found hr (Nat.le_refl _) (pv 0) (pa_cons (pv 2) (pa_cons (pv 3) (pa_cons (pv 4) (pa_cons (pe_op op_sub (pv 5) (pv 1)) pa_nil))))) pa_nil)))))), ?_⟩
    refine ⟨_, rfl, _, rfl, _, _, rfl, rfl, _, rfl, iD (fun e => ?_) fun e => ?_⟩
    · have e' : ¬ j ≤ r := by have := of_decide_eq_true e; omega
      unfold chR at q
      rw [if_neg e'] at q
      exact ⟨by decide, fun p3 n3 => q _ p3 [] (Sm.new n3) n3 upd_same .nil⟩
    · have e' : j ≤ r := by have := of_decide_eq_false e; omega
      unfold chR at q
      rw [if_pos e'] at q
      refine ⟨_, rfl, line1, fun p1 n1 => ?_⟩
      have s1 : Same H (upd H p1 (.tup [.int (j : Nat)])) := Sm.new n1
      have a1 := a.sm s1
      obtain ⟨dx, rd, hself⟩ := a1.me
      refine ⟨_, rfl, _, _, _, rfl, hself, rfl, _, rfl, _, rfl, _, rfl, _, rfl, _, rfl, _, _, rfl, rfl, ?_⟩
      refine ⟨sf, kv, v, u, st, k, p, t, r - j, ?_, a1, hn, by omega, fun H2 b ys s2 nb hb ilb => ?_⟩
      · show [V.ref sf, v, u, st, V.int ((r : Int) - (j : Int))] = _
        rw [show ((r : Int) - (j : Int)) = ((r - j : Nat) : Int) by omega]
      have few := rn_few2 (k := k) (p := p) (t := t) (r := r - j) hw a.sz (by omega)
      have hj : Is K (upd H p1 (.tup [.int (j : Nat)])) (.ref p1) (ctD [j]) := Is.new n1 (.one (.int _))
      exact ⟨_, _, [j], ys, _, rfl, hj.sm s2, hb, ilb, by simp, few.2, few.1, q.mono (s1.trans s2)⟩
end
end Wf
set_option Elab.async false
set_option linter.all false
set_option maxRecDepth 100000
set_option maxHeartbeats 400000
namespace Wf
open PySem PySem.Spec PyProof.Rows L2
section
variable {P : Program} {w : World} {K : PySem.W.Frag} {mg : Str → Option Value} {base : Heap}
theorem Ask.go {H : Hp} {sf : Addr} {kv v u st v' u' st' : V} {k : Knd} {p p' : Pt} {t t' : Dt} (a : Ask K H sf kv v u st k p t) (hv : Is K H v' p'.dt) (ok : p'.ok) (nn : p'.nn = true) (hw : p'.w ≤ 10) (hu : Is K H u' t') (hg : t'.good) (hz : t'.sz ≤ 6) (hs : Is K H st' (.tup [])) : Ask K H sf kv v' u' st' k p' t' :=
  ⟨a.me, a.kd, a.kok, hv, ok, nn, hw, hu, hg, hz, hs⟩
theorem bindR_take {X : List (List Nat)} {f : List Nat → List (List Nat)} {i : Nat} {c : List Nat} (h : X[i]? = some c) : bindR (X.take (i + 1)) f = bindR (X.take i) f ++ (f c).map (c ++ ·) := by
  unfold bindR
  rw [List.take_add_one, h, List.flatMap_append]
  simp
theorem bindR_take_le (X : List (List Nat)) (f : List Nat → List (List Nat)) (i : Nat) : (bindR (X.take i) f).length ≤ (bindR X f).length := by
  have h : bindR X f = bindR (X.take i) f ++ bindR (X.drop i) f := by
    unfold bindR
    rw [← List.flatMap_append, List.take_append_drop]
  rw [h, List.length_append]
  omega
def spTwo (K : PySem.W.Frag) (n : Nat) : Sp := fun vs H Q _ => ∃ sf kv v u st k b p p2 t r, vs = [.ref sf, v, u, st, .int (r : Nat)] ∧ Ask K H sf kv v u st k (.two b p p2) t ∧ p.dp ≤ n ∧ p2.dp ≤ n ∧ r ≤ 5 ∧ NewL K H ((rn k (.two b p p2) t r).map runD) Q
theorem ok_by_two {k n : Nat} (T : Tx w K mg) (c_put_behind : Cal P w K mg base k "put_behind" (spPut K)) (m_found : Met P w K mg base k (He.ga K "Trying") "found" (spFound K n)) (m_chosen : Met P w K mg base k (He.ga K "Trying") "chosen" (spChosen K n)) :
    Met P w K mg base (k + 1) (He.ga K "Trying") "by_two" (spTwo K n) := by
  refine Tx.met T.cls T.m_by_two T.f_Trby_two T.b_Trby_two sc_tr_by_two ?_ ?_
  · rintro vs H Q E ⟨sf, kv, v, u, st, k, b, p, p2, t, r, rfl, _⟩
    rfl
  · rintro cdv A outer s H vs Q E hr ⟨sf, kv, v, u, st, k, b, p, p2, t, r, rfl, a, hn, hn2, h5, q⟩
    refine ⟨_, (pss_cons (ps_asg (pv 1) (pgTup K (n := 3) rfl (pgs_cons (pg_name (i := 5) sc_tr_by_two.nd rfl (by first | exact Or.inl rfl | exact Or.inr rfl)) (pgs_cons (pg_name (i := 6) sc_tr_by_two.nd rfl (by first | exact Or.inl rfl | exact Or.inr rfl)) (pgs_cons (pg_name (i := 7) sc_tr_by_two.nd rfl (by first | exact Or.inl rfl | exact Or.inr rfl)) pgs_nil))))) (pss_cons (ps_if (pt_cmpR op_eq (pv 5) pe_str (nomark _)) (pss_one (ps_ret (pe_op op_cat (pe_mt m_chosen hr (Nat.le_refl _) (pv 0) (pa_cons pe_int (pa_cons (pv 6) (pa_cons (pv 2) (pa_cons (pv 3) (pa_cons (pv 4) pa_nil)))))) (pe_mt m_chosen hr (Nat.le_refl _) (pv 0) (pa_cons pe_int (pa_cons (pv 7) (pa_cons (pv 2) (pa_cons (pv 3) (pa_cons (pv 4) pa_nil))))))))) pss_nil) (pss_cons (ps_set (i := 8) sc_tr_by_two.nd rfl (by first | exact Or.inl rfl | exact Or.inr rfl) (pe_lst pa_nil)) (pss_cons (ps_for PassesOwn.never rfl (pi_list (pe_mt m_found hr (Nat.le_refl _) (pv 0) (pa_cons (pv 6) (pa_cons (pv 2) (pa_cons (pv 3) (pa_cons (pv 4) pa_nil)))))) (pgTup K (n := 2) rfl (pgs_cons (pg_name (i := 9) sc_tr_by_two.nd rfl (by first | exact Or.inl rfl | exact Or.inr rfl)) (pgs_cons (pg_name (i := 10) sc_tr_by_two.nd rfl (by first | exact Or.inl rfl | exact Or.inr rfl)) pgs_nil))) (pss_one (ps_expr (pe_bm PySem.F.plainAttrs_list PySem.F.slot_list_extend PySem.F.type_list_extend mt_extend (pv 8) (pa_cons (pe_c c_put_behind hr (Nat.le_refl _) (by rfl) (pa_cons (pv 9) (pa_cons (pe_mt m_found hr (Nat.le_refl _) (pv 0) (pa_cons (pv 7) (pa_cons (pv 2) (pa_cons (pv 10) (pa_cons (pe_op op_sub (pv 4) (pe_callB (cr_sumT rfl) (by rfl) T.z_sum boot_sum (pa_cons (pv 9) pa_nil))) pa_nil))))) pa_nil))) pa_nil))))) (pss_one (ps_ret (pv 8))))))), ?_⟩
    have hp : Is K H v (.tup [.str (twoW b), p.dt, p2.dt]) := a.pat
    obtain ⟨ap, xs, rfl, sq, il⟩ := hp.tupD
    cases il with
    | cons i0 il =>
    cases il with
    | @cons v1 _ _ _ i1 il =>
    cases il with
    | @cons v2 _ _ _ i2 il =>
    cases il
    rw [i0.strD] at sq
    have hok : p.ok ∧ p2.ok := by have := a.ok; simpa only [Pt.ok] using this
    have hnn : p.nn = true ∧ p2.nn = true := by have := a.nn; simpa only [Pt.nn, Bool.and_eq_true] using this
    refine ⟨_, rfl, _, _, rfl, sq, rfl, _, _, rfl, _, _, rfl, _, _, rfl, rfl, ?_⟩
    cases b with
    | false =>
      have hw : p.w ≤ 10 ∧ p2.w ≤ 10 := by have := a.w; simp only [Pt.w] at this; omega
      have a1 := a.go (p' := p) i1 hok.1 hnn.1 hw.1 a.th a.good a.sz a.sd
      obtain ⟨dx, rd, hself⟩ := a1.me
      refine ⟨_, rfl, rfl, _, rfl, iY (strE rfl) ?_⟩
      refine ⟨_, rfl, _, _, _, rfl, hself, rfl, _, rfl, _, rfl, _, rfl, _, rfl, sf, kv, v1, u, st, k, p, t, 0, r, rfl, a1, hn, h5, hw.1, fun H1 l1 xs1 s1 n1 hl1 il1 => ?_⟩
      have a2 := (a.go (p' := p2) i2 hok.2 hnn.2 hw.2 a.th a.good a.sz a.sd).sm s1
      obtain ⟨dx2, rd2, hself2⟩ := a2.me
      refine ⟨_, rfl, _, _, _, rfl, hself2, rfl, _, rfl, _, rfl, _, rfl, _, rfl, sf, kv, v2, u, st, k, p2, t, 1, r, rfl, a2, hn2, h5, hw.2, fun H2 l2 xs2 s2 n2 hl2 il2 => ?_⟩
      have e1 : rn k (.two false p p2) t r = chR k p t 0 r ++ chR k p2 t 1 r := by
        simp only [rn, chR, if_pos (Nat.zero_le r), Nat.sub_zero]
      rw [e1] at q
      have few := rn_few2 (k := k) (p := .two false p p2) (r := r) a.w a.sz h5
      rw [e1] at few
      refine ⟨l1, l2, xs1, xs2, rfl, rfl, s2 _ _ hl1, hl2, le_line ?_, fun p3 n3 => ?_⟩
      · rw [il1.len, il2.len, List.length_map, List.length_map]
        have := few.1
        rw [List.length_append] at this
        omega
      · refine q _ p3 _ (s1.trans (s2.trans (Sm.new n3))) (s1.free (s2.free n3)) upd_same ?_
        rw [List.map_append]
        exact ((il1.sm s2).append il2).sm (Sm.new n3)
    | true =>
      have hw : p.w ≤ 10 ∧ p2.w ≤ 10 := by have := a.w; simp only [Pt.w] at this; omega
      refine ⟨_, rfl, rfl, _, rfl, iN (strN rfl) ?_⟩
      refine ⟨by decide, fun L nL => ?_⟩
      have s0 : Same H (upd H L (.lst [])) := Sm.new nL
      have a1 := (a.go (p' := p) i1 hok.1 hnn.1 hw.1 a.th a.good a.sz a.sd).sm s0
      obtain ⟨dx, rd, hself⟩ := a1.me
      refine ⟨_, rfl, _, _, _, rfl, hself, rfl, _, rfl, _, rfl, _, rfl, _, rfl, sf, kv, v1, u, st, k, p, t, r, rfl, a1, hn, h5, fun H1 l1 xs1 s1 n1 hl1 il1 => ?_⟩
      have e1 : rn k (.two true p p2) t r = bindR (rn k p t r) fun c => rn k p2 t (r - c.sum) := by simp only [rn]
      have few := rn_few2 (k := k) (p := .two true p p2) (r := r) a.w a.sz h5
      rw [e1] at few q
      have few1 := rn_few2 (k := k) (p := p) (r := r) hw.1 a.sz h5
      have hL1 : H1 L = some (.lst []) := s1 _ _ upd_same
      have hne : l1 ≠ L := fun e => by rw [e, upd_same] at n1; cases n1
      refine ⟨l1, rfl, ⟨xs1, .of hl1⟩, ?_⟩
      refine for_D (walk_list (xs := xs1)) il1 (fun i σ H' => Same H H' ∧ H' l1 = some (.lst xs1) ∧ Up K H1 H' ∧ ∃ acc o1 o2, H' L = some (.lst acc) ∧ IsAll K H' acc ((bindR ((rn k p t r).take i) fun c => rn k p2 t (r - c.sum)).map runD) ∧
        σ = [some (.ref sf), some (.ref ap), some u, some st, some (.int (r : Nat)), some (.str (twoW true)), some v1, some v2, some (.ref L), o1, o2]) ?_ ?_ ?_ ?_
      · exact ⟨s0.trans s1, hl1, .refl, [], none, none, hL1, .nil, rfl⟩
      · rintro i σ H' ⟨s3, h1, up, _⟩
        exact ⟨.of h1, up⟩
      · rintro i x d σ H3 hi hx ⟨s3, h1, up, acc, o1, o2, hL, f, rfl⟩
        rw [List.getElem?_map] at hi
        obtain ⟨c, hc, rfl⟩ := Option.map_eq_some_iff.mp hi
        obtain ⟨pr, cv, sv, rfl, sqr, hcv, hsv⟩ := runD_in hx
        obtain ⟨ac, rfl, sqc⟩ := ctD_in hcv
        have hmem := List.mem_of_getElem? hc
        have hsum := rn_sum hmem
        refine ⟨_, _, rfl, sqr, rfl, _, _, rfl, _, _, rfl, rfl, ?_⟩
        have a2 := (a.go (p' := p2) (st' := st) i2 hok.2 hnn.2 hw.2 a.th a.good a.sz a.sd).sm s3
        have a3 := a2.go a2.pat a2.ok a2.nn a2.w a2.th a2.good a2.sz hsv
        obtain ⟨dx3, rd3, hself3⟩ := a3.me
        refine ⟨_, rfl, .inl ⟨rfl, _, .of hL⟩, _, rfl, _, rfl, _, _, _, rfl, hself3, rfl, _, rfl, _, rfl, _, rfl, _, rfl, _, rfl, ac, _, rfl, sqc, _, _, rfl, rfl, ?_⟩
        refine ⟨sf, kv, v2, u, sv, k, p2, t, r - c.sum, ?_, a3, hn2, by omega, fun H4 b ys s4 nb hb ilb => ?_⟩
        · show [V.ref sf, v2, u, sv, V.int ((r : Int) - (asI c).sum)] = _
          rw [asI_sum, show ((r : Int) - (c.sum : Nat)) = ((r - c.sum : Nat) : Int) by omega]
        have few2 := rn_few2 (k := k) (p := p2) (t := t) (r := r - c.sum) hw.2 a.sz (by omega)
        refine ⟨_, b, c, ys, _, rfl, hcv.sm s4, hb, ilb, few1.2 c hmem, few2.2, few2.1, fun H5 b2 zs s5 nb2 hb2 ilz => ?_⟩
        have s35 := s4.trans s5
        have hL5 := s35 _ _ hL
        have u5 : Up K H5 (upd H5 L (.lst (acc ++ zs))) := .lst hL5
        have tk := bindR_take (f := fun c => rn k p2 t (r - c.sum)) hc
        have le := bindR_take_le (rn k p t r) (fun c => rn k p2 t (r - c.sum)) (i + 1)
        rw [tk, List.length_append] at le
        refine ⟨L, b2, acc, zs, rfl, rfl, hL5, hb2, le_line ?_, ?_⟩
        · rw [f.len, ilz.len, List.length_map, List.length_map]
          have := few.1
          omega
        · refine ⟨Sm.put (s3.trans s35) nL, by rw [upd_ne hne]; exact s35 _ _ h1, up.trans ((Up.sm s35).trans u5), acc ++ zs, _, _, upd_same, ?_, rfl⟩
          rw [tk, List.map_append]
          exact ((f.sm s35).append ilz).up u5
      · rintro σ H3 ⟨s3, h1, up, acc, o1, o2, hL, f, rfl⟩
        rw [List.length_map, List.take_length] at f
        exact ⟨_, rfl, q _ L acc s3 nL hL f⟩
end
end Wf
set_option Elab.async false
set_option linter.all false
set_option maxRecDepth 100000
set_option maxHeartbeats 400000
namespace Wf
open PySem PySem.Spec PyProof.Rows L2
section
variable {P : Program} {w : World} {K : PySem.W.Frag} {mg : Str → Option Value} {base : Heap}
theorem IsAll.of {H : Hp} {α : Type} {f : α → V} {g : α → Dt} : ∀ l : List α, (∀ x ∈ l, Is K H (f x) (g x)) → IsAll K H (l.map f) (l.map g)
  | [], _ => .nil
  | x :: l, h => .cons (h x (List.mem_cons_self ..)) (IsAll.of l fun y hy => h y (List.mem_cons_of_mem _ hy))
theorem IsAll.pair {H : Hp} {g : List Nat → Dt} : ∀ {xs : List V} {X : List (List Nat)}, IsAll K H xs (X.map g) → ∃ zs : List (V × List Nat), zs.map (·.1) = xs ∧ zs.map (·.2) = X ∧ ∀ z ∈ zs, Is K H z.1 (g z.2)
  | [], [], _ => ⟨[], rfl, rfl, fun z hz => nomatch hz⟩
  | v :: xs, c :: X, h => by
    cases h with
    | cons h1 t =>
      obtain ⟨zs, e1, e2, hz⟩ := IsAll.pair t
      refine ⟨(v, c) :: zs, by rw [List.map_cons, e1], by rw [List.map_cons, e2], fun z hz' => ?_⟩
      rcases List.mem_cons.mp hz' with rfl | hz'
      · exact h1
      · exact hz z hz'
  | [], _ :: _, h => nomatch h
  | _ :: _, [], h => nomatch h
theorem srt_run {H : Hp} {xs : List V} {X : List (List Nat)} (h : IsAll K H xs (X.map runD)) : ∃ bs : List (V × List Int), bs.map (·.1) = xs ∧ (∀ b ∈ bs, ∃ t c sv, b.1 = .ref t ∧ SqT K H t [.ref c, sv] ∧ SqT K H c (b.2.map V.int)) ∧ IsAll K H ((byKey bs).map (·.1)) ((srt X).map runD) := by
  obtain ⟨zs, e1, e2, hz⟩ := h.pair
  refine ⟨zs.map fun z => (z.1, asI z.2), by rw [List.map_map]; exact e1, ?_, ?_⟩
  · intro b hb
    obtain ⟨z, hz', rfl⟩ := List.mem_map.mp hb
    obtain ⟨a, cv, sv, ea, sq, hc, _⟩ := runD_in (hz z hz')
    obtain ⟨c, rfl, sqc⟩ := ctD_in hc
    exact ⟨a, c, sv, ea, sq, sqc⟩
  · have m1 : byKey (zs.map fun z => (z.1, asI z.2)) = (zs.mergeSort fun a b => leR a.2 b.2).map fun z => (z.1, asI z.2) := by
      unfold byKey
      exact (List.map_mergeSort (r := fun a b : V × List Nat => leR a.2 b.2) (s := PySem.W.dataLe false fun b : V × List Int => keyD b.2) (f := fun z : V × List Nat => (z.1, asI z.2)) (l := zs) (fun a _ b _ => rfl)).symm
    have m2 : srt X = (zs.mergeSort fun a b => leR a.2 b.2).map (·.2) := by
      unfold srt
      rw [← e2]
      exact (List.map_mergeSort (r := fun a b : V × List Nat => leR a.2 b.2) (s := leR) (f := fun z : V × List Nat => z.2) (l := zs) (fun a _ b _ => rfl)).symm
    rw [m1, m2, List.map_map, List.map_map]
    exact IsAll.of _ fun z hz' => hz z (List.mem_mergeSort.mp hz')
def spLook (K : PySem.W.Frag) (n : Nat) : Sp := fun vs H Q _ => ∃ sf kv v u st k p t r, vs = [.ref sf, v, u, st, .int (r : Nat)] ∧ Ask K H sf kv v u st k (.lone .first p) t ∧ p.dp ≤ n ∧ r ≤ 5 ∧ NewL K H ((rn k (.lone .first p) t r).map runD) Q
theorem ok_by_looking {k n : Nat} (T : Tx w K mg) (m_found : Met P w K mg base k (He.ga K "Trying") "found" (spFound K n)) : Met P w K mg base (k + 1) (He.ga K "Trying") "by_looking" (spLook K n) := by
  refine Tx.met T.cls T.m_by_looking T.f_Trby_looking T.b_Trby_looking sc_tr_by_looking ?_ ?_
  · rintro vs H Q E ⟨sf, kv, v, u, st, k, p, t, r, rfl, _⟩
    rfl
  · rintro cdv A outer s H vs Q E hr ⟨sf, kv, v, u, st, k, p, t, r, rfl, a, hn, h5, q⟩
    refine ⟨_, (pss_cons (ps_set (i := 5) sc_tr_by_looking.nd rfl (by first | exact Or.inl rfl | exact Or.inr rfl) (pe_mt m_found hr (Nat.le_refl _) (pv 0) (pa_cons (pe_ix (ixD K) (pv 1) pe_int (fun _ _ => rfl)) (pa_cons (pv 2) (pa_cons (pv 3) (pa_cons (pv 4) pa_nil)))))) (pss_cons (ps_if (pt_cmpR op_eq (pe_ix (ixD K) (pv 1) pe_int (fun _ _ => rfl)) pe_str (nomark _)) pss_never pss_nil) (pss_one (ps_ret (pe_slice sl_list (pe_callBK (cr_sortedBy (f := He.ga K "weight_of") T.f_weight_of rfl hr T.z_sum) (by rfl) T.z_sorted PyProof.Rows.boot_sorted (pa_cons (pv 5) pa_nil) (pk_cons (pe_gv (v := .ref (He.ga K "weight_of")) (by rfl) ⟨_, T.g_weight_of, rfl⟩) pk_nil)) po_none (po_some pe_int)))))), ?_⟩
    have hp : Is K H v (.tup [.str "first", p.dt]) := a.pat
    have hok : p.ok := by have := a.ok; simpa only [Pt.ok] using this
    have hnn : p.nn = true := by have := a.nn; simpa only [Pt.nn] using this
    have hw : p.w ≤ 10 := by have := a.w; simpa only [Pt.w] using this
    obtain ⟨dx, rd, hself⟩ := a.me
    refine ⟨_, rfl, _, _, _, rfl, hself, rfl, _, rfl, _, 1, _, hp, rfl, rfl, fun v1 h1 => ⟨_, rfl, _, rfl, _, rfl, ?_⟩⟩
    refine ⟨sf, kv, v1, u, st, k, p, t, r, rfl, a.go h1 hok hnn hw a.th a.good a.sz a.sd, hn, h5, fun H1 l1 xs1 s1 n1 hl1 il1 => ?_⟩
    refine ⟨_, rfl, _, 0, _, hp.sm s1, rfl, rfl, fun v0 h0 => ?_⟩
    rw [h0.strD]
    refine ⟨rfl, _, rfl, iN (strN rfl) ?_⟩
    obtain ⟨bs, eb, hb, ib⟩ := srt_run il1
    refine ⟨_, rfl, l1, bs, rfl, rfl, .of (by rw [hl1, eb]), hb, fun p2 n2 => ?_⟩
    refine ⟨_, rfl, p2, _, rfl, .of upd_same, fun p3 n3 => ?_⟩
    have ib' := (ib.sm (Sm.new (o := .lst ((byKey bs).map (·.1))) n2)).sm (Sm.new (o := .lst (cutV ((byKey bs).map (·.1)) none (some 1))) n3)
    have ic := ib'.cut none (some 1)
    have e : cutD ((srt (rn k p t r)).map runD) none (some 1) = ((srt (rn k p t r)).take 1).map runD := by
      rw [List.map_take]
      exact cutD_take _ 1
    rw [e] at ic
    have e2 : rn k (.lone .first p) t r = (srt (rn k p t r)).take 1 := by simp only [rn]
    rw [e2] at q
    exact q _ p3 _ (s1.trans ((Sm.new n2).trans (Sm.new n3))) (s1.free ((Sm.new n2).free n3)) upd_same ic
def foldR (k : Knd) (p : Pt) (r : Nat) (l : List Dt) : List (List Nat) := l.foldl (fun X t => bindR X fun c => rn k p t (r - c.sum)) [[]]
theorem foldR_is (k : Knd) (p : Pt) (r : Nat) (l : List Dt) : rn k (.lone .all p) (.tup l) r = foldR k p r l := by simp only [rn, foldR]
theorem foldR_take {k : Knd} {p : Pt} {r : Nat} {l : List Dt} {i : Nat} {d : Dt} (h : l[i]? = some d) : foldR k p r (l.take (i + 1)) = bindR (foldR k p r (l.take i)) fun c => rn k p d (r - c.sum) := by
  unfold foldR
  rw [List.take_add_one, h, List.foldl_append]
  rfl
def spAllW (K : PySem.W.Frag) (n : Nat) : Sp := fun vs H Q _ => ∃ sf kv v u st k p l r, vs = [.ref sf, v, u, st, .int (r : Nat)] ∧ Ask K H sf kv v u st k p (.tup l) ∧ p.dp ≤ n ∧ r ≤ 5 ∧ NewL K H ((rn k (.lone .all p) (.tup l) r).map runD) Q
theorem ok_by_all {k n : Nat} (T : Tx w K mg) (c_put_behind : Cal P w K mg base k "put_behind" (spPut K)) (m_found : Met P w K mg base k (He.ga K "Trying") "found" (spFound K n)) : Met P w K mg base (k + 1) (He.ga K "Trying") "by_all" (spAllW K n) := by
  refine Tx.met T.cls T.m_by_all T.f_Trby_all T.b_Trby_all sc_tr_by_all ?_ ?_
  · rintro vs H Q E ⟨sf, kv, v, u, st, k, p, l, r, rfl, _⟩
    rfl
  · rintro cdv A outer s H vs Q E hr ⟨sf, kv, v, u, st, k, p, l, r, rfl, a, hn, h5, q⟩
    refine ⟨_, (pss_cons (ps_set (i := 5) sc_tr_by_all.nd rfl (by first | exact Or.inl rfl | exact Or.inr rfl) (pe_lst (pa_cons (pe_tup (pa_cons (pe_tup pa_nil) (pa_cons (pv 3) pa_nil))) pa_nil))) (pss_cons (ps_for PassesOwn.never rfl (pi_tup (pv 2)) (pg_name (i := 6) sc_tr_by_all.nd rfl (by first | exact Or.inl rfl | exact Or.inr rfl)) (pss_cons (ps_set (i := 7) sc_tr_by_all.nd rfl (by first | exact Or.inl rfl | exact Or.inr rfl) (pe_lst pa_nil)) (pss_cons (ps_for PassesOwn.never rfl (pi_list (pv 5)) (pgTup K (n := 2) rfl (pgs_cons (pg_name (i := 8) sc_tr_by_all.nd rfl (by first | exact Or.inl rfl | exact Or.inr rfl)) (pgs_cons (pg_name (i := 9) sc_tr_by_all.nd rfl (by first | exact Or.inl rfl | exact Or.inr rfl)) pgs_nil))) (pss_one (ps_expr (pe_bm PySem.F.plainAttrs_list PySem.F.slot_list_extend PySem.F.type_list_extend mt_extend (pv 7) (pa_cons (pe_c c_put_behind hr (Nat.le_refl _) (by rfl) (pa_cons (pv 8) (pa_cons (pe_mt m_found hr (Nat.le_refl _) (pv 0) (pa_cons (pv 1) (pa_cons (pv 6) (pa_cons (pv 9) (pa_cons (pe_op op_sub (pv 4) (pe_callB (cr_sumT rfl) (by rfl) T.z_sum boot_sum (pa_cons (pv 8) pa_nil))) pa_nil))))) pa_nil))) pa_nil))))) (pss_one (ps_set (i := 5) sc_tr_by_all.nd rfl (by first | exact Or.inl rfl | exact Or.inr rfl) (pv 7)))))) (pss_one (ps_ret (pv 5))))), ?_⟩
    rw [foldR_is] at q
    obtain ⟨ar, ws, rfl, sqr, ilr⟩ := a.th.tupD
    refine ⟨by decide, fun p1 n1 => ⟨_, rfl, line2, fun p2 n2 => ⟨line1, fun L0 n3 => ?_⟩⟩⟩
    have z := run_nil n1 a.sd n2
    have sa := (Sm.new (o := .tup []) n1).trans ((Sm.new (o := .tup [.ref p1, st]) n2).trans (Sm.new (o := .lst [.ref p2]) n3))
    have z3 := z.sm (Sm.new (o := .lst [.ref p2]) n3)
    have n4 : H L0 = none := (Sm.new n1).free ((Sm.new n2).free n3)
    refine ⟨_, rfl, ar, rfl, ⟨ws, sq_up sa sqr⟩, ?_⟩
    refine for_D (walk_tup (xs := ws)) ilr (fun i σ H' => Same H H' ∧ ∃ L acc o1 o2 o3 o4, H' L = some (.lst acc) ∧ H L = none ∧ IsAll K H' acc ((foldR k p r (l.take i)).map runD) ∧
        σ = [some (.ref sf), some v, some (.ref ar), some st, some (.int (r : Nat)), some (.ref L), o1, o2, o3, o4]) ?_ ?_ ?_ ?_
    · exact ⟨sa, L0, [.ref p2], none, none, none, none, upd_same, n4, .one z3, rfl⟩
    · rintro i σ H' ⟨s1, _⟩
      exact ⟨sq_up s1 sqr, .sm s1⟩
    · rintro i x d σ H1 hi hx ⟨s1, L, acc, o1, o2, o3, o4, hL, nL, f, rfl⟩
      have hmem : d ∈ l := List.mem_of_getElem? hi
      have hsz : d.sz ≤ 6 := by
        have h1 := a.sz
        have h2 := Dt.sz_mem hmem
        simp only [Dt.sz] at h1
        omega
      have hszi : ∀ j, (Dt.tup (l.take j)).sz ≤ 6 := fun j => by
        have h1 := a.sz
        have h2 := szs_take_le l j
        simp only [Dt.sz] at h1 ⊢
        omega
      refine ⟨by decide, fun M nM => ?_⟩
      have hLM : L ≠ M := ne_of_none hL nM
      have s2 : Same H1 (upd H1 M (.lst [])) := Sm.new nM
      refine ⟨_, rfl, L, rfl, ⟨acc, .of (s2 _ _ hL)⟩, ?_⟩
      have few0 := rn_few2 (k := k) (p := .lone .all p) (t := .tup (l.take i)) (r := r) (by simpa only [Pt.w] using a.w) (hszi i) h5
      have few1 := rn_few2 (k := k) (p := .lone .all p) (t := .tup (l.take (i + 1))) (r := r) (by simpa only [Pt.w] using a.w) (hszi (i + 1)) h5
      rw [foldR_is] at few0 few1
      rw [foldR_take hi] at few1
      have hsums : ∀ c ∈ foldR k p r (l.take i), c.sum ≤ r := fun c hc => by
        rw [← foldR_is] at hc
        exact rn_sum hc
      refine for_D (walk_list (xs := acc)) f (fun j σ H' => Same H1 H' ∧ ∃ acc2 o3 o4, H' M = some (.lst acc2) ∧ IsAll K H' acc2 ((bindR ((foldR k p r (l.take i)).take j) fun c => rn k p d (r - c.sum)).map runD) ∧
        σ = [some (.ref sf), some v, some (.ref ar), some st, some (.int (r : Nat)), some (.ref L), some x, some (.ref M), o3, o4]) ?_ ?_ ?_ ?_
      · exact ⟨s2, [], o3, o4, upd_same, .nil, rfl⟩
      · rintro j σ H' ⟨s3, _⟩
        exact ⟨.of (s3 _ _ hL), .sm s3⟩
      · rintro j y e σ H3 hj hy ⟨s3, acc2, o3, o4, hM, g, rfl⟩
        rw [List.getElem?_map] at hj
        obtain ⟨c, hc, rfl⟩ := Option.map_eq_some_iff.mp hj
        obtain ⟨pr, cv, sv, rfl, sqp, hcv, hsv⟩ := runD_in hy
        obtain ⟨ac, rfl, sqc⟩ := ctD_in hcv
        have hmemc := List.mem_of_getElem? hc
        have hsum := hsums c hmemc
        refine ⟨_, _, rfl, sqp, rfl, _, _, rfl, _, _, rfl, rfl, ?_⟩
        have s13 := s1.trans s3
        have a2 := a.sm s13
        have a3 := a2.go (p' := p) (t' := d) a2.pat a2.ok a2.nn a2.w (hx.sm s3) (a.good.mem hmem) hsz hsv
        obtain ⟨dx3, rd3, hself3⟩ := a3.me
        refine ⟨_, rfl, .inl ⟨rfl, _, .of hM⟩, _, rfl, _, rfl, _, _, _, rfl, hself3, rfl, _, rfl, _, rfl, _, rfl, _, rfl, _, rfl, ac, _, rfl, sqc, _, _, rfl, rfl, ?_⟩
        refine ⟨sf, kv, v, x, sv, k, p, d, r - c.sum, ?_, a3, hn, by omega, fun H4 b ys s4 nb hb ilb => ?_⟩
        · show [V.ref sf, v, x, sv, V.int ((r : Int) - (asI c).sum)] = _
          rw [asI_sum, show ((r : Int) - (c.sum : Nat)) = ((r - c.sum : Nat) : Int) by omega]
        have few2 := rn_few2 (k := k) (p := p) (t := d) (r := r - c.sum) a.w hsz (by omega)
        refine ⟨_, b, c, ys, _, rfl, hcv.sm s4, hb, ilb, few0.2 c hmemc, few2.2, few2.1, fun H5 b2 zs s5 nb2 hb2 ilz => ?_⟩
        have s35 := s4.trans s5
        have hM5 := s35 _ _ hM
        have u5 : Up K H5 (upd H5 M (.lst (acc2 ++ zs))) := .lst hM5
        have tk := bindR_take (f := fun c => rn k p d (r - c.sum)) hc
        have le := bindR_take_le (foldR k p r (l.take i)) (fun c => rn k p d (r - c.sum)) (j + 1)
        rw [tk, List.length_append] at le
        refine ⟨M, b2, acc2, zs, rfl, rfl, hM5, hb2, le_line ?_, ?_⟩
        · rw [g.len, ilz.len, List.length_map, List.length_map]
          have := few1.1
          omega
        · refine ⟨Sm.put (s3.trans s35) nM, acc2 ++ zs, _, _, upd_same, ?_, rfl⟩
          rw [tk, List.map_append]
          exact ((g.sm s35).append ilz).up u5
      · rintro σ H3 ⟨s3, acc2, o3, o4, hM, g, rfl⟩
        rw [List.length_map, List.take_length, ← foldR_take hi] at g
        exact ⟨_, rfl, s1.trans s3, M, acc2, _, _, _, _, hM, s1.free nM, g, rfl⟩
    · rintro σ H1 ⟨s1, L, acc, o1, o2, o3, o4, hL, nL, f, rfl⟩
      rw [List.take_length] at f
      exact ⟨_, rfl, q _ L acc s1 nL hL f⟩
end
end Wf
set_option Elab.async false
set_option linter.all false
set_option maxRecDepth 100000
set_option maxHeartbeats 400000
namespace Wf
open PySem PySem.Spec PyProof.Rows L2
section
variable {P : Program} {w : World} {K : PySem.W.Frag} {mg : Str → Option Value} {base : Heap}
theorem good_sub {l m : List Dt} (h : (Dt.tup l).good) (hm : ∀ d ∈ m, d ∈ l) (hs : Dt.szs m ≤ Dt.szs l) : (Dt.tup m).good := by
  obtain ⟨h1, h2, h3⟩ := h
  simp only [Dt.thg, Dt.dep, Dt.sz] at h1 h2 h3
  refine ⟨?_, ?_, ?_⟩
  · simp only [Dt.thg]
    exact (Dt.thgs_iff m).mpr fun d hd => (Dt.thgs_iff l).mp h1 d (hm d hd)
  · simp only [Dt.dep]
    have := (Dt.deps_le m 4).mpr fun d hd => (Dt.deps_le l 4).mp (by omega) d (hm d hd)
    omega
  · simp only [Dt.sz]
    omega
theorem szs_drop_le (l : List Dt) (i : Nat) : Dt.szs (l.drop i) ≤ Dt.szs l := by
  have h := Dt.szs_append (l.take i) (l.drop i)
  rw [List.take_append_drop] at h
  omega
theorem good_take {l : List Dt} (h : (Dt.tup l).good) (i : Nat) : (Dt.tup (l.take i)).good := good_sub h (fun _ hd => List.mem_of_mem_take hd) (szs_take_le l i)
theorem good_drop {l : List Dt} (h : (Dt.tup l).good) (i : Nat) : (Dt.tup (l.drop i)).good := good_sub h (fun _ hd => List.mem_of_mem_drop hd) (szs_drop_le l i)
structure AskI (K : PySem.W.Frag) (H : Hp) (sf : Addr) (kv iv u st : V) (k : Knd) (s : Its) (l : List Dt) : Prop where
  me : SelfAt K H sf kv
  kd : Is K H kv (Knd.dt k)
  kok : KOk k
  it : Is K H iv (.tup s.dts)
  ok : s.ok
  nn : s.nn = true
  w : s.w ≤ 10
  dp : s.dp ≤ 10
  th : Is K H u (.tup l)
  good : (Dt.tup l).good
  sz : (Dt.tup l).sz ≤ 6
  sd : Is K H st (.tup [])
theorem AskI.sm {H H' : Hp} {sf : Addr} {kv iv u st : V} {k : Knd} {s : Its} {l : List Dt} (e : Same H H') (a : AskI K H sf kv iv u st k s l) : AskI K H' sf kv iv u st k s l :=
  ⟨a.me.sm e, a.kd.sm e, a.kok, a.it.sm e, a.ok, a.nn, a.w, a.dp, a.th.sm e, a.good, a.sz, a.sd.sm e⟩
def spRow (K : PySem.W.Frag) (n m : Nat) : Sp := fun vs H Q _ => ∃ sf kv iv u st k s l r, vs = [.ref sf, iv, u, st, .int (r : Nat)] ∧ AskI K H sf kv iv u st k s l ∧ s.dp ≤ n ∧ s.len ≤ m ∧ r ≤ 5 ∧ NewL K H ((rns k s l r).map runD) Q
structure AskC (K : PySem.W.Frag) (H : Hp) (sf : Addr) (kv v iv pv st : V) (k : Knd) (p : Pt) (s : Its) (t : Dt) (l : List Dt) : Prop where
  me : SelfAt K H sf kv
  kd : Is K H kv (Knd.dt k)
  kok : KOk k
  pat : Is K H v p.dt
  pok : p.ok
  pnn : p.nn = true
  it : Is K H iv (.tup s.dts)
  ok : s.ok
  nn : s.nn = true
  w : p.w + s.w ≤ 10
  dp : s.dp ≤ 10
  th : Is K H pv (.tup [t, .tup l])
  tgood : t.good
  tsz : t.sz ≤ 6
  good : (Dt.tup l).good
  sz : (Dt.tup l).sz ≤ 6
  sd : Is K H st (.tup [])
theorem AskC.sm {H H' : Hp} {sf : Addr} {kv v iv pv st : V} {k : Knd} {p : Pt} {s : Its} {t : Dt} {l : List Dt} (e : Same H H') (a : AskC K H sf kv v iv pv st k p s t l) : AskC K H' sf kv v iv pv st k p s t l :=
  ⟨a.me.sm e, a.kd.sm e, a.kok, a.pat.sm e, a.pok, a.pnn, a.it.sm e, a.ok, a.nn, a.w, a.dp, a.th.sm e, a.tgood, a.tsz, a.good, a.sz, a.sd.sm e⟩
def cutR (k : Knd) (p : Pt) (s : Its) (t : Dt) (l : List Dt) (r : Nat) : List (List Nat) := bindR (rn k p t r) fun c => rns k s l (r - c.sum)
theorem cutR_few {k : Knd} {p : Pt} {s : Its} {t : Dt} {l : List Dt} {r : Nat} (hw : p.w + s.w ≤ 10) (ht : t.sz ≤ 6) (hl : (Dt.tup l).sz ≤ 6) (hr : r ≤ 5) : (cutR k p s t l r).length ≤ 16000000 ∧ ∀ c ∈ cutR k p s t l r, c.length ≤ 60 := by
  have h : Dm (p.w * 6 + s.w * 6) (cutR k p s t l r) := ((rn_many k p t r).mono (Nat.mul_le_mul_left _ ht)).bind fun c _ => (rns_many k s l _).mono (Nat.mul_le_mul_left _ hl)
  refine few_of h (by omega) fun c hc => ?_
  obtain ⟨c1, h1, d, h2, rfl⟩ := mem_bindR.mp hc
  have := rn_sum h1
  have := rns_sum h2
  rw [List.sum_append]
  omega
def spCut (K : PySem.W.Frag) (n m : Nat) : Sp := fun vs H Q _ => ∃ sf kv v iv pv st k p s t l r, vs = [.ref sf, v, iv, pv, st, .int (r : Nat)] ∧ AskC K H sf kv v iv pv st k p s t l ∧ p.dp ≤ n ∧ s.dp ≤ n ∧ s.len < m ∧ r ≤ 5 ∧ NewL K H ((cutR k p s t l r).map runD) Q
theorem ok_cut {k n m : Nat} (T : Tx w K mg) (c_put_behind : Cal P w K mg base k "put_behind" (spPut K)) (m_found : Met P w K mg base k (He.ga K "Trying") "found" (spFound K n)) (m_by_row : Met P w K mg base k (He.ga K "Trying") "by_row" (spRow K n m)) :
    Met P w K mg base (k + 1) (He.ga K "Trying") "cut" (spCut K n (m + 1)) := by
  refine Tx.met T.cls T.m_cut T.f_Trcut T.b_Trcut sc_tr_cut ?_ ?_
  · rintro vs H Q E ⟨sf, kv, v, iv, pv, st, k, p, s, t, l, r, rfl, _⟩
    rfl
  · rintro cdv A outer s0 H vs Q E hr ⟨sf, kv, v, iv, pa, st, k, p, s, t, l, r, rfl, a, hn, hn2, hm, h5, q⟩
    refine ⟨_, (pss_cons (ps_set (i := 6) sc_tr_cut.nd rfl (by first | exact Or.inl rfl | exact Or.inr rfl) (pe_lst pa_nil)) (pss_cons (ps_for PassesOwn.never rfl (pi_list (pe_mt m_found hr (Nat.le_refl _) (pv 0) (pa_cons (pv 1) (pa_cons (pe_ix (ixD K) (pv 3) pe_int (fun _ _ => rfl)) (pa_cons (pv 4) (pa_cons (pv 5) pa_nil)))))) (pgTup K (n := 2) rfl (pgs_cons (pg_name (i := 7) sc_tr_cut.nd rfl (by first | exact Or.inl rfl | exact Or.inr rfl)) (pgs_cons (pg_name (i := 8) sc_tr_cut.nd rfl (by first | exact Or.inl rfl | exact Or.inr rfl)) pgs_nil))) (pss_one (ps_expr (pe_bm PySem.F.plainAttrs_list PySem.F.slot_list_extend PySem.F.type_list_extend mt_extend (pv 6) (pa_cons (pe_c c_put_behind hr (Nat.le_refl _) (by rfl) (pa_cons (pv 7) (pa_cons (pe_mt m_by_row hr (Nat.le_refl _) (pv 0) (pa_cons (pv 2) (pa_cons (pe_ix (ixD K) (pv 3) pe_int (fun _ _ => rfl)) (pa_cons (pv 8) (pa_cons (pe_op op_sub (pv 5) (pe_callB (cr_sumT rfl) (by rfl) T.z_sum boot_sum (pa_cons (pv 7) pa_nil))) pa_nil))))) pa_nil))) pa_nil))))) (pss_one (ps_ret (pv 6))))), ?_⟩
    have hw := a.w
    refine ⟨by decide, fun L nL => ?_⟩
    have s0 : Same H (upd H L (.lst [])) := Sm.new nL
    have a1 := a.sm s0
    obtain ⟨dx, rd, hself⟩ := a1.me
    refine ⟨_, rfl, _, _, _, rfl, hself, rfl, _, rfl, _, rfl, _, 0, _, a1.th, rfl, rfl, fun v0 h0 => ⟨_, rfl, _, rfl, ?_⟩⟩
    refine ⟨sf, kv, v, v0, st, k, p, t, r, rfl, ⟨a1.me, a1.kd, a1.kok, a1.pat, a1.pok, a1.pnn, by omega, h0, a1.tgood, a1.tsz, a1.sd⟩, hn, h5, fun H1 l1 xs1 s1 n1 hl1 il1 => ?_⟩
    have few := cutR_few (k := k) (p := p) (s := s) (t := t) (l := l) a.w a.tsz a.sz h5
    have few1 := rn_few2 (k := k) (p := p) (t := t) (r := r) (by omega) a.tsz h5
    have hL1 : H1 L = some (.lst []) := s1 _ _ upd_same
    have hne : l1 ≠ L := fun e => by rw [e, upd_same] at n1; cases n1
    refine ⟨l1, rfl, ⟨xs1, .of hl1⟩, ?_⟩
    refine for_D (walk_list (xs := xs1)) il1 (fun i σ H' => Same H H' ∧ H' l1 = some (.lst xs1) ∧ Up K H1 H' ∧ ∃ acc o1 o2, H' L = some (.lst acc) ∧ IsAll K H' acc ((bindR ((rn k p t r).take i) fun c => rns k s l (r - c.sum)).map runD) ∧
      σ = [some (.ref sf), some v, some iv, some pa, some st, some (.int (r : Nat)), some (.ref L), o1, o2]) ?_ ?_ ?_ ?_
    · exact ⟨s0.trans s1, hl1, .refl, [], none, none, hL1, .nil, rfl⟩
    · rintro i σ H' ⟨s3, h1, up, _⟩
      exact ⟨.of h1, up⟩
    · rintro i x d σ H3 hi hx ⟨s3, h1, up, acc, o1, o2, hL, f, rfl⟩
      rw [List.getElem?_map] at hi
      obtain ⟨c, hc, rfl⟩ := Option.map_eq_some_iff.mp hi
      obtain ⟨pr, cv, sv, rfl, sqr, hcv, hsv⟩ := runD_in hx
      obtain ⟨ac, rfl, sqc⟩ := ctD_in hcv
      have hmem := List.mem_of_getElem? hc
      have hsum := rn_sum hmem
      refine ⟨_, _, rfl, sqr, rfl, _, _, rfl, _, _, rfl, rfl, ?_⟩
      have a3 := a.sm s3
      obtain ⟨dx3, rd3, hself3⟩ := a3.me
      refine ⟨_, rfl, .inl ⟨rfl, _, .of hL⟩, _, rfl, _, rfl, _, _, _, rfl, hself3, rfl, _, rfl, _, rfl, _, 1, _, a3.th, rfl, rfl, fun v1 h1' => ⟨_, rfl, _, rfl, _, rfl, ac, _, rfl, sqc, _, _, rfl, rfl, ?_⟩⟩
      refine ⟨sf, kv, iv, v1, sv, k, s, l, r - c.sum, ?_, ⟨a3.me, a3.kd, a3.kok, a3.it, a3.ok, a3.nn, by omega, a3.dp, h1', a3.good, a3.sz, hsv⟩, hn2, by omega, by omega, fun H4 b ys s4 nb hb ilb => ?_⟩
      · show [V.ref sf, iv, v1, sv, V.int ((r : Int) - (asI c).sum)] = _
        rw [asI_sum, show ((r : Int) - (c.sum : Nat)) = ((r - c.sum : Nat) : Int) by omega]
      have few2 := rns_few2 (k := k) (p := s) (t := l) (r := r - c.sum) (by omega) a.sz (by omega)
      refine ⟨_, b, c, ys, _, rfl, hcv.sm s4, hb, ilb, few1.2 c hmem, few2.2, few2.1, fun H5 b2 zs s5 nb2 hb2 ilz => ?_⟩
      have s35 := s4.trans s5
      have hL5 := s35 _ _ hL
      have u5 : Up K H5 (upd H5 L (.lst (acc ++ zs))) := .lst hL5
      have tk := bindR_take (f := fun c => rns k s l (r - c.sum)) hc
      have le := bindR_take_le (rn k p t r) (fun c => rns k s l (r - c.sum)) (i + 1)
      rw [tk, List.length_append] at le
      refine ⟨L, b2, acc, zs, rfl, rfl, hL5, hb2, le_line ?_, ?_⟩
      · rw [f.len, ilz.len, List.length_map, List.length_map]
        have := few.1
        unfold cutR at this
        omega
      · refine ⟨Sm.put (s3.trans s35) nL, by rw [upd_ne hne]; exact s35 _ _ h1, up.trans ((Up.sm s35).trans u5), acc ++ zs, _, _, upd_same, ?_, rfl⟩
        rw [tk, List.map_append]
        exact ((f.sm s35).append ilz).up u5
    · rintro σ H3 ⟨s3, h1, up, acc, o1, o2, hL, f, rfl⟩
      rw [List.length_map, List.take_length] at f
      exact ⟨_, rfl, q _ L acc s3 nL hL f⟩
theorem Its.dts_nil (s : Its) : decide (Dt.tup s.dts = .tup []) = decide (s.len = 0) := by
  cases s with
  | nil => rfl
  | cons b p s => simp [Its.dts, Its.len]
theorem flat_succ {F : Nat → List (List Nat)} (i : Nat) : (List.range (i + 1)).flatMap F = (List.range i).flatMap F ++ F i := by
  rw [List.range_succ, List.flatMap_append]
  simp
theorem flat_le {F : Nat → List (List Nat)} {i m : Nat} (h : i ≤ m) : ((List.range i).flatMap F).length ≤ ((List.range m).flatMap F).length := by
  induction m with
  | zero =>
    have : i = 0 := by omega
    subst this
    exact Nat.le_refl _
  | succ m ih =>
    rcases Nat.lt_or_ge m i with z | z
    · have : i = m + 1 := by omega
      subst this
      exact Nat.le_refl _
    · have := ih z
      rw [flat_succ, List.length_append]
      omega
theorem ok_by_row {k n m : Nat} (T : Tx w K mg) (c_left_in : Cal P w K mg base k "left_in" (spLeft K)) (c_at_place : Cal P w K mg base k "at_place" (spAt K)) (c_behind : Cal P w K mg base k "behind" (spBehind K)) (c_ahead_of : Cal P w K mg base k "ahead_of" (spAhead K))
    (c_put_behind : Cal P w K mg base k "put_behind" (spPut K)) (m_found : Met P w K mg base k (He.ga K "Trying") "found" (spFound K n)) (m_cut : Met P w K mg base k (He.ga K "Trying") "cut" (spCut K n m)) :
    Met P w K mg base (k + 1) (He.ga K "Trying") "by_row" (spRow K n m) := by
  refine Tx.met T.cls T.m_by_row T.f_Trby_row T.b_Trby_row sc_tr_by_row ?_ ?_
  · rintro vs H Q E ⟨sf, kv, iv, u, st, k, s, l, r, rfl, _⟩
    rfl
  · rintro cdv A outer s0 H vs Q E hr ⟨sf, kv, iv, u, st, k, s, l, r, rfl, a, hn, hm, h5, q⟩
    refine ⟨_, (pss_cons (ps_set (i := 5) sc_tr_by_row.nd rfl (by first | exact Or.inl rfl | exact Or.inr rfl) (pe_c c_left_in hr (Nat.le_refl _) (by rfl) (pa_cons (pv 2) pa_nil))) (pss_cons (ps_if (pt_cmpR (eqT K hr.units) (pv 1) (pe_tup pa_nil) (nomark _)) (pss_one (ps_ret (pe_ifExp (pt_cmpR op_eq (pv 5) pe_int (nomark _)) (pe_lst (pa_cons (pe_tup (pa_cons (pe_tup pa_nil) (pa_cons (pv 3) pa_nil))) pa_nil)) (pe_lst pa_nil)))) pss_nil) (pss_cons (ps_asg (pe_ix (ixD K) (pv 1) pe_int (fun _ _ => rfl)) (pgTup K (n := 2) rfl (pgs_cons (pg_name (i := 6) sc_tr_by_row.nd rfl (by first | exact Or.inl rfl | exact Or.inr rfl)) (pgs_cons (pg_name (i := 7) sc_tr_by_row.nd rfl (by first | exact Or.inl rfl | exact Or.inr rfl)) pgs_nil)))) (pss_cons (ps_if (pw_and (pt_cmpR op_eq (pv 6) pe_str (nomark _)) (pw_and1 (pt_cmpR op_eq (pe_callB (lenD K) (by rfl) T.z_len boot_len (pa_cons (pv 1) pa_nil)) pe_int (nomark _)))).pt (pss_one (ps_ret (pe_mt m_found hr (Nat.le_refl _) (pv 0) (pa_cons (pv 7) (pa_cons (pv 2) (pa_cons (pv 3) (pa_cons (pv 4) pa_nil))))))) pss_nil) (pss_cons (ps_if (pt_cmpR op_eq (pv 6) pe_str (nomark _)) (pss_one (ps_ret (pe_ifExp (pt_cmpR op_eq (pv 5) pe_int (nomark _)) (pe_lst pa_nil) (pe_mt m_cut hr (Nat.le_refl _) (pv 0) (pa_cons (pv 7) (pa_cons (pe_slice (slD K) (pv 1) (po_some pe_int) po_none) (pa_cons (pe_tup (pa_cons (pe_c c_at_place hr (Nat.le_refl _) (by rfl) (pa_cons (pv 2) (pa_cons pe_int pa_nil))) (pa_cons (pe_c c_behind hr (Nat.le_refl _) (by rfl) (pa_cons (pv 2) (pa_cons pe_int pa_nil))) pa_nil))) (pa_cons (pv 3) (pa_cons (pv 4) pa_nil))))))))) pss_nil) (pss_cons (ps_set (i := 8) sc_tr_by_row.nd rfl (by first | exact Or.inl rfl | exact Or.inr rfl) (pe_lst pa_nil)) (pss_cons (ps_for PassesOwn.never rfl (pi_range1 (by rfl) T.z_range (pa_cons (pe_op op_add pe_int (pe_callB (call_min2 rfl) (by rfl) T.z_min boot_min (pa_cons (pv 4) (pa_cons (pe_ifExp (pt_cmpR op_isN (pv 5) pe_non (nomark _)) (pe_gv (by rfl) T.i_MOST_THINGS) (pv 5)) pa_nil)))) pa_nil)) (pg_name (i := 9) sc_tr_by_row.nd rfl (by first | exact Or.inl rfl | exact Or.inr rfl)) (pss_cons (ps_set (i := 10) sc_tr_by_row.nd rfl (by first | exact Or.inl rfl | exact Or.inr rfl) (pe_tup (pa_cons (pe_c c_ahead_of hr (Nat.le_refl _) (by rfl) (pa_cons (pv 2) (pa_cons (pv 9) pa_nil))) (pa_cons (pe_c c_behind hr (Nat.le_refl _) (by rfl) (pa_cons (pv 2) (pa_cons (pv 9) pa_nil))) pa_nil)))) (pss_one (ps_expr (pe_bm PySem.F.plainAttrs_list PySem.F.slot_list_extend PySem.F.type_list_extend mt_extend (pv 8) (pa_cons (pe_c c_put_behind hr (Nat.le_refl _) (by rfl) (pa_cons (pe_tup (pa_cons (pv 9) pa_nil)) (pa_cons (pe_mt m_cut hr (Nat.le_refl _) (pv 0) (pa_cons (pv 7) (pa_cons (pe_slice (slD K) (pv 1) (po_some pe_int) po_none) (pa_cons (pv 10) (pa_cons (pv 3) (pa_cons (pe_op op_sub (pv 4) (pv 9)) pa_nil)))))) pa_nil))) pa_nil)))))) (pss_one (ps_ret (pv 8)))))))))), ?_⟩
    refine ⟨_, rfl, _, l, rfl, a.th, a.good, ?_⟩
    refine ⟨_, rfl, by decide, fun e0 n0 => ?_⟩
    have s0 : Same H (upd H e0 (.tup [])) := Sm.new n0
    have hfit : (Dt.tup s.dts).fit := Dt.fit_of (by simp only [Dt.sok]; exact Its.sok s a.ok) (by
      have := Its.dtdep s a.ok
      have := a.dp
      simp only [Dt.dep]
      omega)
    refine ⟨_, _, a.it.sm s0, Is.new n0 .nil, hfit, Dt.fit_of rfl (by simp [Dt.dep, Dt.deps]), _, rfl, ?_⟩
    rw [Its.dts_nil]
    have a0 := a.sm s0
    have qm := q.mono s0
    cases s with
    | nil =>
      refine iY rfl ?_
      refine ⟨_, rfl, rfl, _, rfl, iD (fun e => ?_) fun e => ?_⟩
      · have el : l = [] := by
          have := V.int.inj (of_decide_eq_true e)
          exact List.length_eq_zero_iff.mp (by omega)
        subst el
        refine ⟨by decide, fun p1 n1 => ⟨_, rfl, line2, fun p2 n2 => ⟨line1, fun p3 n3 => ?_⟩⟩⟩
        have z := run_nil n1 a0.sd n2
        have sa := (Sm.new (o := .tup []) n1).trans ((Sm.new (o := .tup [.ref p1, st]) n2).trans (Sm.new (o := .lst [.ref p2]) n3))
        refine qm _ p3 [.ref p2] sa ((Sm.new n1).free ((Sm.new n2).free n3)) upd_same ?_
        simp only [rns, if_pos]
        exact .one (z.sm (Sm.new n3))
      · have el : ¬ l = [] := fun z => by
          subst z
          exact absurd rfl (of_decide_eq_false e)
        refine ⟨by decide, fun p3 n3 => qm _ p3 [] (Sm.new n3) n3 upd_same ?_⟩
        simp only [rns, if_neg el]
        exact .nil
    | cons b p s' =>
      refine iN rfl ?_
      have it0 : Is K (upd H e0 (.tup [])) iv (.tup (.tup [.str (itW b), p.dt] :: s'.dts)) := a0.it
      have hok : p.ok ∧ s'.ok := by have := a.ok; simpa only [Its.ok] using this
      have hnn : p.nn = true ∧ s'.nn = true := by have := a.nn; simpa only [Its.nn, Bool.and_eq_true] using this
      have hdp : p.dp ≤ n ∧ s'.dp ≤ n := by simp only [Its.dp] at hn; omega
      have hdp2 : s'.dp ≤ 10 := by have := a.dp; simp only [Its.dp] at this; omega
      have hlen : s'.len < m := by simp only [Its.len] at hm; omega
      have hww : p.w + s'.w ≤ 10 := by
        have := a.w
        cases b with
        | false => simpa only [Its.w] using this
        | true =>
          cases s' with
          | nil => simp only [Its.w] at this ⊢; omega
          | cons b2 q2 s2 => simp only [Its.w] at this ⊢; omega
      refine ⟨_, rfl, _, 0, _, it0, rfl, rfl, fun vi hi => ?_⟩
      obtain ⟨ai, xs, rfl, sqi, ili⟩ := hi.tupD
      cases ili with
      | cons i0 ili =>
      cases ili with
      | @cons v1 _ _ _ i1 ili =>
      cases ili
      rw [i0.strD] at sqi
      refine ⟨_, _, rfl, sqi, rfl, _, _, rfl, _, _, rfl, rfl, ?_⟩
      have e1 : cutD (.tup [.str (itW b), p.dt] :: s'.dts) (some 1) none = s'.dts := cutD_drop _ 1
      generalize upd H e0 (.tup []) = H0 at *
      cases b with
      | false =>
        refine ⟨_, rfl, rfl, _, rfl, ?_⟩
        rw [show decide (V.str (itW false) = V.str "stretch") = false from strN rfl]
        refine ⟨_, rfl, rfl, _, rfl, iY (strE rfl) ?_⟩
        cases l with
        | nil =>
          refine ⟨_, rfl, rfl, _, rfl, iY rfl ?_⟩
          refine ⟨by decide, fun p3 n3 => qm _ p3 [] (Sm.new n3) n3 upd_same ?_⟩
          simp only [rns]
          exact .nil
        | cons t l' =>
          refine ⟨_, rfl, rfl, _, rfl, iN (decide_eq_false fun z => by have := V.int.inj z; simp at this; omega) ?_⟩
          obtain ⟨dx, rd, hself⟩ := a0.me
          have hsz : t.sz + Dt.szs l' + 1 ≤ 6 := by have := a.sz; simp only [Dt.sz, Dt.szs] at this; omega
          refine ⟨_, rfl, _, _, _, rfl, hself, rfl, _, rfl, _, rfl, _, rfl, _, it0, fun vr H1 s1 hvr => ?_⟩
          rw [e1] at hvr
          have a1 := a0.sm s1
          refine ⟨_, rfl, u, t :: l', 0, t, rfl, a1.th, a1.good, rfl, fun x hx => ?_⟩
          refine ⟨_, rfl, u, t :: l', 1, rfl, a1.th, a1.good, fun y H2 s2 hy => ⟨line2, fun pp np => ?_⟩⟩
          have s3 : Same H2 (upd H2 pp (.tup [x, y])) := Sm.new np
          have hpp : Is K (upd H2 pp (.tup [x, y])) (.ref pp) (.tup [t, .tup l']) := Is.new np (.cons (hx.sm s2) (.one hy))
          have a2 := a1.sm (s2.trans s3)
          have s13 := s1.trans (s2.trans s3)
          refine ⟨_, rfl, _, rfl, sf, kv, v1, vr, .ref pp, st, k, p, s', t, l', r, rfl, ⟨a2.me, a2.kd, a2.kok, i1.sm s13, hok.1, hnn.1, hvr.sm (s2.trans s3), hok.2, hnn.2, hww, hdp2, hpp, a.good.mem (List.mem_cons_self ..), by omega, good_drop (l := t :: l') a.good 1, by simp only [Dt.sz]; omega, a2.sd⟩, hdp.1, hdp.2, hlen, h5, ?_⟩
          have e3 : rns k (.cons false p s') (t :: l') r = cutR k p s' t l' r := by simp only [rns, cutR]
          rw [e3] at qm
          exact qm.mono s13
      | true =>
        refine ⟨_, rfl, rfl, _, rfl, ?_⟩
        rw [show decide (V.str (itW true) = V.str "stretch") = true from strE rfl]
        refine ⟨_, rfl, _, _, rfl, it0, rfl, _, rfl, ?_⟩
        obtain ⟨dx, rd, hself⟩ := a0.me
        cases s' with
        | nil =>
          refine iY rfl ?_
          have hw : p.w ≤ 10 := by omega
          refine ⟨_, rfl, _, _, _, rfl, hself, rfl, _, rfl, _, rfl, _, rfl, _, rfl, sf, kv, v1, u, st, k, p, .tup l, r, rfl, ⟨a0.me, a0.kd, a0.kok, i1, hok.1, hnn.1, hw, a0.th, a0.good, a0.sz, a0.sd⟩, hdp.1, h5, ?_⟩
          have e3 : rns k (.cons true p .nil) l r = rn k p (.tup l) r := by simp only [rns]
          rw [e3] at qm
          exact qm
        | cons b2 q2 s2 =>
          refine iN (decide_eq_false fun z => by have := V.int.inj z; simp [Its.dts] at this; omega) ?_
          refine ⟨_, rfl, rfl, _, rfl, iN (strN rfl) ?_⟩
          refine ⟨by decide, fun L nL => ?_⟩
          have sL : Same H0 (upd H0 L (.lst [])) := Sm.new nL
          have hl6 : l.length ≤ 5 := by
            have h1 := a.sz
            have h2 := Dt.szs_len l
            simp only [Dt.sz] at h1
            omega
          refine ⟨_, rfl, _, rfl, rfl, _, rfl, ?_⟩
          refine ⟨_, rfl, _, _, rfl, _, _, rfl, rfl, ?_⟩
          have ej : (1 : Int) + (if ((l.length : Nat) : Int) < (r : Nat) then ((l.length : Nat) : Int) else (r : Nat)) = ((1 + min r l.length : Nat) : Int) := by
            split <;> omega
          refine ⟨((1 + min r l.length : Nat) : Int), congrArg (fun z : Int => [V.int z]) ej, by omega, by omega, ?_⟩
          rw [Int.toNat_natCast]
          have e3 : rns k (.cons true p (.cons b2 q2 s2)) l r = (List.range (1 + min r l.length)).flatMap fun n => (cutR k p (.cons b2 q2 s2) (.tup (l.take n)) (l.drop n) (r - n)).map (n :: ·) := by
            simp only [rns, cutR]
          have few := rns_few2 (k := k) (p := .cons true p (.cons b2 q2 s2)) (t := l) (r := r) a.w a.sz h5
          rw [e3] at few qm
          have hszt : ∀ i, (Dt.tup (l.take i)).sz ≤ 6 := fun i => by
            have h1 := a.sz
            have h2 := szs_take_le l i
            simp only [Dt.sz] at h1 ⊢
            omega
          have hszd : ∀ i, (Dt.tup (l.drop i)).sz ≤ 6 := fun i => by
            have h1 := a.sz
            have h2 := szs_drop_le l i
            simp only [Dt.sz] at h1 ⊢
            omega
          refine for_it walk_range (fun i σ H' => Same H0 H' ∧ ∃ acc o1 o2, H' L = some (.lst acc) ∧ IsAll K H' acc (((List.range i).flatMap fun n => (cutR k p (.cons b2 q2 s2) (.tup (l.take n)) (l.drop n) (r - n)).map (n :: ·)).map runD) ∧
            σ = [some (.ref sf), some iv, some u, some st, some (.int (r : Nat)), some (.int (l.length : Nat)), some (.str (itW true)), some v1, some (.ref L), o1, o2]) ?_ ?_ ?_ ?_
          · exact ⟨sL, [], none, none, upd_same, .nil, rfl⟩
          · intro i σ H' _ _
            trivial
          · rintro i x σ H1 H2 hi ⟨s1, acc, o1, o2, hL, f, rfl⟩ ⟨rfl, rfl⟩
            have a1 := a0.sm s1
            refine ⟨_, rfl, _, rfl, u, l, i, ?_, a1.th, a1.good, by omega, fun x H3 s3 hx => ?_⟩
            · show [u, V.int (0 + (i : Nat))] = _
              rw [Int.zero_add]
            have a3 := a1.sm s3
            refine ⟨_, rfl, _, rfl, u, l, i, ?_, a3.th, a3.good, fun y H4 s4 hy => ⟨line2, fun pp np => ?_⟩⟩
            · show [u, V.int (0 + (i : Nat))] = _
              rw [Int.zero_add]
            have s5 : Same H4 (upd H4 pp (.tup [x, y])) := Sm.new np
            have s45 := s4.trans s5
            have hpp : Is K (upd H4 pp (.tup [x, y])) (.ref pp) (.tup [.tup (l.take i), .tup (l.drop i)]) := Is.new np (.cons (hx.sm s4) (.one hy))
            generalize hH5 : upd H4 pp (.tup [x, y]) = H5 at *
            have s15 := s3.trans s45
            have hL5 := s15 _ _ hL
            refine ⟨_, rfl, .inl ⟨rfl, _, .of hL5⟩, _, rfl, line1, fun pc nc => ?_⟩
            have s6 : Same H5 (upd H5 pc (.tup [.int (0 + (i : Nat))])) := Sm.new nc
            have hpc : Is K (upd H5 pc (.tup [.int (0 + (i : Nat))])) (.ref pc) (ctD [i]) := Is.new nc (.one (by rw [Int.zero_add]; exact .int _))
            generalize hH6 : upd H5 pc (.tup [.int (0 + (i : Nat))]) = H6 at *
            have s16 := s15.trans s6
            have a6 := a1.sm s16
            obtain ⟨dx6, rd6, hself6⟩ := a6.me
            refine ⟨_, rfl, _, _, _, rfl, hself6, rfl, _, rfl, _, rfl, _, rfl, _, it0.sm (s1.trans s16), fun vr H7 s7 hvr => ?_⟩
            rw [e1] at hvr
            have a7 := a6.sm s7
            refine ⟨_, rfl, _, rfl, _, rfl, _, rfl, _, _, rfl, rfl, ?_⟩
            refine ⟨sf, kv, v1, vr, .ref pp, st, k, p, .cons b2 q2 s2, .tup (l.take i), l.drop i, r - i, ?_, ⟨a7.me, a7.kd, a7.kok, i1.sm (s1.trans (s16.trans s7)), hok.1, hnn.1, hvr, hok.2, hnn.2, hww, hdp2, hpp.sm (s6.trans s7), good_take a.good i, hszt i, good_drop a.good i, hszd i, a7.sd⟩, hdp.1, hdp.2, hlen, by omega, fun H8 b ys s8 nb hb ilb => ?_⟩
            · show [V.ref sf, v1, vr, V.ref pp, st, V.int ((r : Int) - (0 + (i : Nat)))] = _
              rw [show ((r : Int) - (0 + (i : Nat))) = ((r - i : Nat) : Int) by omega]
            have fewc := cutR_few (k := k) (p := p) (s := .cons b2 q2 s2) (t := .tup (l.take i)) (l := l.drop i) (r := r - i) hww (hszt i) (hszd i) (by omega)
            refine ⟨_, b, [i], ys, _, rfl, hpc.sm (s7.trans s8), hb, ilb, by simp, fewc.2, fewc.1, fun H9 b2' zs s9 nb2 hb2 ilz => ?_⟩
            have s69 := s7.trans (s8.trans s9)
            have s19 := s16.trans s69
            have hL9 := s19 _ _ hL
            have u9 : Up K H9 (upd H9 L (.lst (acc ++ zs))) := .lst hL9
            have tk := flat_succ (F := fun n => (cutR k p (.cons b2 q2 s2) (.tup (l.take n)) (l.drop n) (r - n)).map (n :: ·)) i
            have le := flat_le (F := fun n => (cutR k p (.cons b2 q2 s2) (.tup (l.take n)) (l.drop n) (r - n)).map (n :: ·)) (show i + 1 ≤ 1 + min r l.length by omega)
            rw [tk, List.length_append] at le
            refine ⟨L, b2', acc, zs, rfl, rfl, hL9, hb2, le_line ?_, ?_⟩
            · rw [f.len, ilz.len, List.length_map, List.length_map]
              have := few.1
              simp only [List.length_map, List.singleton_append] at le ⊢
              omega
            · refine ⟨Sm.put (s1.trans s19) nL, acc ++ zs, _, _, upd_same, ?_, rfl⟩
              rw [tk, List.map_append]
              exact ((f.sm s19).append ilz).up u9
          · rintro σ H3 ⟨s3, acc, o1, o2, hL, f, rfl⟩
            exact ⟨_, rfl, qm _ L acc s3 nL hL f⟩
end
end Wf
set_option Elab.async false
set_option linter.all false
set_option maxRecDepth 100000
set_option maxHeartbeats 400000
namespace Wf
open PySem PySem.Spec PyProof.Rows L2
section
variable {P : Program} {w : World} {K : PySem.W.Frag} {mg : Str → Option Value} {base : Heap}
theorem ok_found {k n : Nat} (h10 : n ≤ 10) (T : Tx w K mg) (c_goes_on : Cal P w K mg base k "goes_on" (spG K fun _ => .bl false)) (m_by_worth : Met P w K mg base k (He.ga K "Trying") "by_worth" (spByWorth K))
    (m_by_two : Met P w K mg base k (He.ga K "Trying") "by_two" (spTwo K n)) (m_by_looking : Met P w K mg base k (He.ga K "Trying") "by_looking" (spLook K n)) (m_by_row : Met P w K mg base k (He.ga K "Trying") "by_row" (spRow K n 3))
    (m_by_all : Met P w K mg base k (He.ga K "Trying") "by_all" (spAllW K n)) : Met P w K mg base (k + 1) (He.ga K "Trying") "found" (spFound K (n + 1)) := by
  refine Tx.met T.cls T.m_found T.f_Trfound T.b_Trfound sc_tr_found ?_ ?_
  · rintro vs H Q E ⟨sf, kv, v, u, st, k, p, t, r, rfl, _⟩
    rfl
  · rintro cdv A outer s0 H vs Q E hr ⟨sf, kv, v, u, st, k, p, t, r, rfl, a, hn, h5, q⟩
    refine ⟨_, (pss_cons (ps_set (i := 5) sc_tr_found.nd rfl (by first | exact Or.inl rfl | exact Or.inr rfl) (pe_ix (ixD K) (pv 1) pe_int (fun _ _ => rfl))) (pss_cons (ps_if (pt_cmpR op_eq (pv 5) pe_str (nomark _)) (pss_one (ps_ret (pe_lst (pa_cons (pe_tup (pa_cons (pe_tup pa_nil) (pa_cons (pv 3) pa_nil))) pa_nil)))) pss_nil) (pss_cons (ps_if (pt_cmpR (inT K) (pv 5) (pe_tup (pa_cons pe_str (pa_cons pe_str pa_nil))) (by rfl)) (pss_one (ps_ret (pe_mt m_by_worth hr (Nat.le_refl _) (pv 0) (pa_cons (pv 1) (pa_cons (pv 2) (pa_cons (pv 3) pa_nil)))))) pss_nil) (pss_cons (ps_if (pt_cmpR (inT K) (pv 5) (pe_tup (pa_cons pe_str (pa_cons pe_str pa_nil))) (by rfl)) (pss_one (ps_ret (pe_mt m_by_two hr (Nat.le_refl _) (pv 0) (pa_cons (pv 1) (pa_cons (pv 2) (pa_cons (pv 3) (pa_cons (pv 4) pa_nil))))))) pss_nil) (pss_cons (ps_if (pt_cmpR (inT K) (pv 5) (pe_tup (pa_cons pe_str (pa_cons pe_str pa_nil))) (by rfl)) (pss_one (ps_ret (pe_mt m_by_looking hr (Nat.le_refl _) (pv 0) (pa_cons (pv 1) (pa_cons (pv 2) (pa_cons (pv 3) (pa_cons (pv 4) pa_nil))))))) pss_nil) (pss_cons (ps_if (pt_cmpR op_eq (pv 5) pe_str (nomark _)) pss_never pss_nil) (pss_cons (ps_if (pt_not (pt_val (pe_callB (isD K "tuple" (by simp)) (by rfl) T.z_isinstance PyProof.Rows.boot_isinstance (pa_cons (pv 2) (pa_cons (pe_bltn (v := .ty "tuple") (by rfl) T.z_tuple boot_tuple rfl) pa_nil))))) (pss_one (ps_ret (pe_lst pa_nil))) pss_nil) (pss_cons (ps_if (pt_cmpR op_eq (pv 5) pe_str (nomark _)) (pss_one (ps_ret (pe_mt m_by_row hr (Nat.le_refl _) (pv 0) (pa_cons (pe_ix (ixD K) (pv 1) pe_int (fun _ _ => rfl)) (pa_cons (pv 2) (pa_cons (pv 3) (pa_cons (pv 4) pa_nil))))))) pss_nil) (pss_cons (ps_if (pt_cmpR op_eq (pv 5) pe_str (nomark _)) pss_never pss_nil) (pss_cons (ps_if (pt_val (pe_c c_goes_on hr (Nat.le_refl _) (by rfl) (pa_cons (pv 2) pa_nil))) (pss_one (ps_ret (pe_lst pa_nil))) pss_nil) (pss_cons (ps_if (pt_cmpR op_eq (pv 5) pe_str (nomark _)) pss_never pss_nil) (pss_one (ps_ret (pe_mt m_by_all hr (Nat.le_refl _) (pv 0) (pa_cons (pe_ix (ixD K) (pv 1) pe_int (fun _ _ => rfl)) (pa_cons (pv 2) (pa_cons (pv 3) (pa_cons (pv 4) pa_nil)))))))))))))))))), ?_⟩
    obtain ⟨l, el, l0, ll1, ll3⟩ := p.dt_len
    have hd := a.pat
    rw [el] at hd
    refine ⟨_, rfl, _, 0, _, hd, rfl, l0, fun v0 h0 => ?_⟩
    rw [h0.strD]
    cases p with
    | any =>
      obtain rfl := Dt.tup.inj el
      refine ⟨_, rfl, rfl, _, rfl, iY (strE rfl) ?_⟩
      refine ⟨by decide, fun p1 n1 => ⟨_, rfl, line2, fun p2 n2 => ⟨line1, fun p3 n3 => ?_⟩⟩⟩
      have z := run_nil n1 a.sd n2
      have sa := (Sm.new (o := .tup []) n1).trans ((Sm.new (o := .tup [.ref p1, st]) n2).trans (Sm.new (o := .lst [.ref p2]) n3))
      refine q _ p3 [.ref p2] sa ((Sm.new n1).free ((Sm.new n2).free n3)) upd_same ?_
      simp only [rn]
      exact .one (z.sm (Sm.new n3))
    | is_ d =>
      obtain rfl := Dt.tup.inj el
      refine ⟨_, rfl, rfl, _, rfl, iN (strN rfl) ?_⟩
      refine ⟨_, rfl, line2, fun p2 n2 => ⟨_, [.str "is", .str "name"], .str _, Is.new n2 (.cons (.str _) (.cons (.str _) .nil)), rfl, rfl, _, rfl, iY (inE rfl) ?_⟩⟩
      have s1 : Same H (upd H p2 (.tup [.str "is", .str "name"])) := Sm.new n2
      have a1 := a.sm s1
      obtain ⟨dx, rd, hself⟩ := a1.me
      refine ⟨_, rfl, _, _, _, rfl, hself, rfl, _, rfl, _, rfl, _, rfl, sf, kv, v, u, st, k, d, t, rfl, a1, ?_⟩
      have e : rn k (.is_ d) t r = if likeD k d t = true then [([] : List Nat)] else [] := by simp only [rn]
      rw [e] at q
      exact q.mono s1
    | two b p1 p2 =>
      obtain rfl := Dt.tup.inj el
      have hdp : p1.dp ≤ n ∧ p2.dp ≤ n := by simp only [Pt.dp] at hn; omega
      cases b
      all_goals
        refine ⟨_, rfl, rfl, _, rfl, iN (strN rfl) ?_⟩
        refine ⟨_, rfl, line2, fun p2' n2 => ⟨_, [.str "is", .str "name"], .str _, Is.new n2 (.cons (.str _) (.cons (.str _) .nil)), rfl, rfl, _, rfl, iN (inN rfl) ?_⟩⟩
        have s1 : Same H (upd H p2' (.tup [.str "is", .str "name"])) := Sm.new n2
        refine ⟨_, rfl, line2, fun p3 n3 => ⟨_, [.str "both", .str "either"], .str _, Is.new n3 (.cons (.str _) (.cons (.str _) .nil)), rfl, rfl, _, rfl, iY (inE rfl) ?_⟩⟩
        have s2 := s1.trans (Sm.new (o := .tup [.str "both", .str "either"]) n3)
        have a1 := a.sm s2
        obtain ⟨dx, rd, hself⟩ := a1.me
        exact ⟨_, rfl, _, _, _, rfl, hself, rfl, _, rfl, _, rfl, _, rfl, _, rfl, sf, kv, v, u, st, k, _, p1, p2, t, r, rfl, a1, hdp.1, hdp.2, h5, q.mono s2⟩
    | lone k1 p1 =>
      obtain rfl := Dt.tup.inj el
      have hdp : p1.dp ≤ n := by simp only [Pt.dp] at hn; omega
      cases k1 with
      | nt =>
        have := a.nn
        simp [Pt.nn] at this
      | first =>
        refine ⟨_, rfl, rfl, _, rfl, iN (strN rfl) ?_⟩
        refine ⟨_, rfl, line2, fun p2' n2 => ⟨_, [.str "is", .str "name"], .str _, Is.new n2 (.cons (.str _) (.cons (.str _) .nil)), rfl, rfl, _, rfl, iN (inN rfl) ?_⟩⟩
        have s1 : Same H (upd H p2' (.tup [.str "is", .str "name"])) := Sm.new n2
        refine ⟨_, rfl, line2, fun p3 n3 => ⟨_, [.str "both", .str "either"], .str _, Is.new n3 (.cons (.str _) (.cons (.str _) .nil)), rfl, rfl, _, rfl, iN (inN rfl) ?_⟩⟩
        have s2 := s1.trans (Sm.new (o := .tup [.str "both", .str "either"]) n3)
        refine ⟨_, rfl, line2, fun p4 n4 => ⟨_, [.str "not", .str "first"], .str _, Is.new n4 (.cons (.str _) (.cons (.str _) .nil)), rfl, rfl, _, rfl, iY (inE rfl) ?_⟩⟩
        have s3 := s2.trans (Sm.new (o := .tup [.str "not", .str "first"]) n4)
        have a1 := a.sm s3
        obtain ⟨dx, rd, hself⟩ := a1.me
        exact ⟨_, rfl, _, _, _, rfl, hself, rfl, _, rfl, _, rfl, _, rfl, _, rfl, sf, kv, v, u, st, k, p1, t, r, rfl, a1, hdp, h5, q.mono s3⟩
      | all =>
        refine ⟨_, rfl, rfl, _, rfl, iN (strN rfl) ?_⟩
        refine ⟨_, rfl, line2, fun p2' n2 => ⟨_, [.str "is", .str "name"], .str _, Is.new n2 (.cons (.str _) (.cons (.str _) .nil)), rfl, rfl, _, rfl, iN (inN rfl) ?_⟩⟩
        have s1 : Same H (upd H p2' (.tup [.str "is", .str "name"])) := Sm.new n2
        refine ⟨_, rfl, line2, fun p3 n3 => ⟨_, [.str "both", .str "either"], .str _, Is.new n3 (.cons (.str _) (.cons (.str _) .nil)), rfl, rfl, _, rfl, iN (inN rfl) ?_⟩⟩
        have s2 := s1.trans (Sm.new (o := .tup [.str "both", .str "either"]) n3)
        refine ⟨_, rfl, line2, fun p4 n4 => ⟨_, [.str "not", .str "first"], .str _, Is.new n4 (.cons (.str _) (.cons (.str _) .nil)), rfl, rfl, _, rfl, iN (inN rfl) ?_⟩⟩
        have s3 := s2.trans (Sm.new (o := .tup [.str "not", .str "first"]) n4)
        refine ⟨_, rfl, rfl, _, rfl, iN (strN rfl) ?_⟩
        have a1 := a.sm s3
        obtain ⟨dx, rd, hself⟩ := a1.me
        have q3 := q.mono s3
        refine ⟨_, rfl, _, t, rfl, a1.th, _, rfl, ?_⟩
        cases t with
        | int i =>
          rw [isT_int]
          refine ⟨by decide, fun p5 n5 => q3 _ p5 [] (Sm.new n5) n5 upd_same ?_⟩
          simp only [rn]
          exact .nil
        | str x =>
          have := a.good.thg
          simp [Dt.thg] at this
        | tup l =>
          rw [isT_tup]
          refine ⟨_, rfl, rfl, _, rfl, iN (strN rfl) ?_⟩
          refine ⟨_, rfl, rfl, _, rfl, iN (strN rfl) ?_⟩
          refine ⟨_, rfl, u, _, rfl, a1.th, a1.good, _, rfl, iN rfl ?_⟩
          refine ⟨_, rfl, rfl, _, rfl, iN (strN rfl) ?_⟩
          have hp3 : Is K _ v (.tup [.str "all", p1.dt]) := a1.pat
          refine ⟨_, rfl, _, _, _, rfl, hself, rfl, _, rfl, _, 1, _, hp3, rfl, rfl, fun v1 h1 => ⟨_, rfl, _, rfl, _, rfl, ?_⟩⟩
          have hok : p1.ok := by have := a.ok; simpa only [Pt.ok] using this
          have hnn : p1.nn = true := by have := a.nn; simpa only [Pt.nn] using this
          have hw : p1.w ≤ 10 := by have := a.w; simpa only [Pt.w] using this
          exact ⟨sf, kv, v1, u, st, k, p1, l, r, rfl, a1.go h1 hok hnn hw a1.th a1.good a1.sz a1.sd, hdp, h5, q3⟩
    | row its =>
      obtain rfl := Dt.tup.inj el
      have hdp : its.dp ≤ n := by simp only [Pt.dp] at hn; omega
      refine ⟨_, rfl, rfl, _, rfl, iN (strN rfl) ?_⟩
      refine ⟨_, rfl, line2, fun p2' n2 => ⟨_, [.str "is", .str "name"], .str _, Is.new n2 (.cons (.str _) (.cons (.str _) .nil)), rfl, rfl, _, rfl, iN (inN rfl) ?_⟩⟩
      have s1 : Same H (upd H p2' (.tup [.str "is", .str "name"])) := Sm.new n2
      refine ⟨_, rfl, line2, fun p3 n3 => ⟨_, [.str "both", .str "either"], .str _, Is.new n3 (.cons (.str _) (.cons (.str _) .nil)), rfl, rfl, _, rfl, iN (inN rfl) ?_⟩⟩
      have s2 := s1.trans (Sm.new (o := .tup [.str "both", .str "either"]) n3)
      refine ⟨_, rfl, line2, fun p4 n4 => ⟨_, [.str "not", .str "first"], .str _, Is.new n4 (.cons (.str _) (.cons (.str _) .nil)), rfl, rfl, _, rfl, iN (inN rfl) ?_⟩⟩
      have s3 := s2.trans (Sm.new (o := .tup [.str "not", .str "first"]) n4)
      refine ⟨_, rfl, rfl, _, rfl, iN (strN rfl) ?_⟩
      have a1 := a.sm s3
      obtain ⟨dx, rd, hself⟩ := a1.me
      have q3 := q.mono s3
      refine ⟨_, rfl, _, t, rfl, a1.th, _, rfl, ?_⟩
      cases t with
      | int i =>
        rw [isT_int]
        refine ⟨by decide, fun p5 n5 => q3 _ p5 [] (Sm.new n5) n5 upd_same ?_⟩
        simp only [rn]
        exact .nil
      | str x =>
        have := a.good.thg
        simp [Dt.thg] at this
      | tup l =>
        rw [isT_tup]
        refine ⟨_, rfl, rfl, _, rfl, iY (strE rfl) ?_⟩
        have hp3 : Is K _ v (.tup [.str "row", .tup its.dts]) := a1.pat
        refine ⟨_, rfl, _, _, _, rfl, hself, rfl, _, rfl, _, 1, _, hp3, rfl, rfl, fun v1 h1 => ⟨_, rfl, _, rfl, _, rfl, ?_⟩⟩
        have hok : its.len ≤ 3 ∧ its.ok := by have := a.ok; simpa only [Pt.ok] using this
        have hnn : its.nn = true := by have := a.nn; simpa only [Pt.nn] using this
        have hw : its.w ≤ 10 := by have := a.w; simpa only [Pt.w] using this
        have e : rn k (.row its) (.tup l) r = rns k its l r := by simp only [rn]
        rw [e] at q3
        exact ⟨sf, kv, v1, u, st, k, its, l, r, rfl, ⟨a1.me, a1.kd, a1.kok, h1, hok.2, hnn, hw, by omega, a1.th, a1.good, a1.sz, a1.sd⟩, hdp, hok.1, h5, q3⟩
structure Low (P : Program) (w : World) (K : PySem.W.Frag) (mg : Str → Option Value) (base : Heap) (k : Nat) : Prop where
  goes_on : Cal P w K mg base k "goes_on" (spG K fun _ => .bl false)
  left_in : Cal P w K mg base k "left_in" (spLeft K)
  at_place : Cal P w K mg base k "at_place" (spAt K)
  behind : Cal P w K mg base k "behind" (spBehind K)
  ahead_of : Cal P w K mg base k "ahead_of" (spAhead K)
  put_behind : Cal P w K mg base k "put_behind" (spPut K)
  by_worth : Met P w K mg base k (He.ga K "Trying") "by_worth" (spByWorth K)
theorem Low.up {k j : Nat} (h : k ≤ j) (L : Low P w K mg base k) : Low P w K mg base j := ⟨L.goes_on.up h, L.left_in.up h, L.at_place.up h, L.behind.up h, L.ahead_of.up h, L.put_behind.up h, L.by_worth.up h⟩
theorem ok_rows {k n : Nat} (T : Tx w K mg) (L : Low P w K mg base k) (m_found : Met P w K mg base k (He.ga K "Trying") "found" (spFound K n)) : ∀ m, Met P w K mg base (k + 2 * m) (He.ga K "Trying") "cut" (spCut K n m) ∧ Met P w K mg base (k + 2 * m + 1) (He.ga K "Trying") "by_row" (spRow K n m)
  | 0 => by
    have c : Met P w K mg base (k + 2 * 0) (He.ga K "Trying") "cut" (spCut K n 0) := Met.no T.cls T.m_cut T.b_Trcut (by
      rintro vs H Q E ⟨sf, kv, v, iv, pv, st, k, p, s, t, l, r, _, _, _, _, h, _⟩
      omega)
    exact ⟨c, ok_by_row T L.left_in L.at_place L.behind L.ahead_of L.put_behind m_found c⟩
  | m + 1 => by
    obtain ⟨h1, h2⟩ := ok_rows T L m_found m
    have c : Met P w K mg base (k + 2 * (m + 1)) (He.ga K "Trying") "cut" (spCut K n (m + 1)) := ok_cut T (L.put_behind.up (show k ≤ k + 2 * m + 1 by omega)) (m_found.up (show k ≤ k + 2 * m + 1 by omega)) h2
    have L' := L.up (show k ≤ k + 2 * (m + 1) by omega)
    exact ⟨c, ok_by_row T L'.left_in L'.at_place L'.behind L'.ahead_of L'.put_behind (m_found.up (show k ≤ k + 2 * (m + 1) by omega)) c⟩
theorem ok_founds {k : Nat} (T : Tx w K mg) (L : Low P w K mg base k) : ∀ n, n ≤ 10 → Met P w K mg base (k + 9 * n) (He.ga K "Trying") "found" (spFound K n)
  | 0, _ => Met.no T.cls T.m_found T.b_Trfound (by
      rintro vs H Q E ⟨sf, kv, v, u, st, k, p, t, r, _, _, h, _⟩
      have := p.dp_pos
      omega)
  | n + 1, h => by
    have f := ok_founds T L n (by omega)
    have L1 := L.up (show k ≤ k + 9 * n by omega)
    have L8 := L.up (show k ≤ k + 9 * n + 8 by omega)
    have r := (ok_rows T L1 f 3).2
    have ch := ok_chosen T L1.put_behind f
    have two := ok_by_two T (L.put_behind.up (show k ≤ k + 9 * n + 1 by omega)) (f.up (show k + 9 * n ≤ k + 9 * n + 1 by omega)) ch
    have lk := ok_by_looking T f
    have al := ok_by_all T L1.put_behind f
    exact ok_found (by omega) T L8.goes_on L8.by_worth (two.up (show _ ≤ k + 9 * n + 8 by omega)) (lk.up (show _ ≤ k + 9 * n + 8 by omega)) (r.up (show _ ≤ k + 9 * n + 8 by omega)) (al.up (show _ ≤ k + 9 * n + 8 by omega))
end
end Wf
set_option Elab.async false
set_option linter.all false
set_option maxRecDepth 100000
set_option maxHeartbeats 400000
namespace Wf
open PySem PySem.Spec PyProof.Rows L2
section
variable {P : Program} {w : World} {K : PySem.W.Frag} {mg : Str → Option Value} {base : Heap}
theorem any_is {H : Hp} {p : Addr} (n : H p = none) : Is K (upd H p (.tup [.str "any"])) (.ref p) (Pt.dt .any) := Is.new n (.one (.str _))
def spNBK (K : PySem.W.Frag) : Sp := fun vs H Q _ => ∃ b kv k, vs = [b, kv] ∧ Is K H b (.tup []) ∧ Is K H kv (Knd.dt k) ∧ KOk k ∧ ∀ H', Same H H' → Q .non H'
theorem ok_need_book_and_kind {k : Nat} (T : Tx w K mg) (c_need_pattern : Cal P w K mg base k "need_pattern" (spNP K)) (c_need_kind : Cal P w K mg base k "need_kind" (spKnd K .non)) : Cal P w K mg base (k + 1) "need_book_and_kind" (spNBK K) := by
  refine Tx.cal T.f_need_book_and_kind T.g_need_book_and_kind T.b_need_book_and_kind sc_need_book_and_kind ?_ ?_
  · rintro vs H Q E ⟨b, kv, k, rfl, _⟩
    rfl
  · rintro cdv A outer s0 H vs Q E hr ⟨b, kv, k, rfl, hb, hk, kok, q⟩
    refine ⟨_, (pss_cons (ps_expr (pe_c c_need_pattern hr (Nat.le_refl _) (by rfl) (pa_cons (pv 0) (pa_cons (pe_tup (pa_cons pe_str pa_nil)) pa_nil)))) (pss_one (ps_expr (pe_c c_need_kind hr (Nat.le_refl _) (by rfl) (pa_cons (pv 1) pa_nil))))), ?_⟩
    refine ⟨_, rfl, line1, fun p np => ?_⟩
    have s1 : Same H (upd H p (.tup [.str "any"])) := Sm.new np
    refine ⟨_, _, .any, rfl, hb.sm s1, any_is np, trivial, by simp [Pt.dp], by simp [Pt.nd], fun H2 s2 => ?_⟩
    have s12 := s1.trans s2
    exact ⟨_, rfl, _, k, rfl, hk.sm s12, kok, fun H3 s3 => q _ (s12.trans s3)⟩
structure Asked (K : PySem.W.Frag) (H : Hp) (b kv v u : V) (k : Knd) (p : Pt) (t : Dt) : Prop where
  bk : Is K H b (.tup [])
  kd : Is K H kv (Knd.dt k)
  kok : KOk k
  pat : Is K H v p.dt
  ok : p.ok
  nn : p.nn = true
  w : p.w ≤ 10
  dp : p.dp ≤ 10
  nd : p.nd ≤ 40
  th : Is K H u t
  good : t.good
  sz : t.sz ≤ 6
theorem Asked.sm {H H' : Hp} {b kv v u : V} {k : Knd} {p : Pt} {t : Dt} (s : Same H H') (a : Asked K H b kv v u k p t) : Asked K H' b kv v u k p t :=
  ⟨a.bk.sm s, a.kd.sm s, a.kok, a.pat.sm s, a.ok, a.nn, a.w, a.dp, a.nd, a.th.sm s, a.good, a.sz⟩
def spNA (K : PySem.W.Frag) : Sp := fun vs H Q _ => ∃ b kv v u k p t, vs = [b, kv, v, u] ∧ Asked K H b kv v u k p t ∧ ∀ H', Same H H' → Q .non H'
theorem ok_need_asked {k : Nat} (T : Tx w K mg) (c_need_book_and_kind : Cal P w K mg base k "need_book_and_kind" (spNBK K)) (c_need_pattern : Cal P w K mg base k "need_pattern" (spNP K)) (c_need_thing : Cal P w K mg base k "need_thing" (spG K fun _ => .non)) :
    Cal P w K mg base (k + 1) "need_asked" (spNA K) := by
  refine Tx.cal T.f_need_asked T.g_need_asked T.b_need_asked sc_need_asked ?_ ?_
  · rintro vs H Q E ⟨b, kv, v, u, k, p, t, rfl, _⟩
    rfl
  · rintro cdv A outer s0 H vs Q E hr ⟨b, kv, v, u, k, p, t, rfl, a, q⟩
    refine ⟨_, (pss_cons (ps_expr (pe_c c_need_book_and_kind hr (Nat.le_refl _) (by rfl) (pa_cons (pv 0) (pa_cons (pv 1) pa_nil)))) (pss_cons (ps_expr (pe_c c_need_pattern hr (Nat.le_refl _) (by rfl) (pa_cons (pv 0) (pa_cons (pv 2) pa_nil)))) (pss_one (ps_expr (pe_c c_need_thing hr (Nat.le_refl _) (by rfl) (pa_cons (pv 3) pa_nil)))))), ?_⟩
    refine ⟨_, rfl, _, rfl, _, _, k, rfl, a.bk, a.kd, a.kok, fun H1 s1 => ?_⟩
    have a1 := a.sm s1
    refine ⟨_, rfl, _, rfl, _, _, p, rfl, a1.bk, a1.pat, a1.ok, a1.dp, a1.nd, fun H2 s2 => ?_⟩
    have a2 := a1.sm s2
    exact ⟨_, rfl, _, t, rfl, a2.th, a2.good, q _ (s1.trans s2)⟩
def spRoom (K : PySem.W.Frag) : Sp := fun vs H Q _ => ∃ r, vs = [.int (r : Nat)] ∧ r ≤ 5 ∧ Q .non H
theorem ok_need_room {k : Nat} (T : Tx w K mg) (c_is_among : Cal P w K mg base k "is_among" (spIsAmong K)) : Cal P w K mg base (k + 1) "need_room" (spRoom K) := by
  refine Tx.cal T.f_need_room T.g_need_room T.b_need_room sc_need_room ?_ ?_
  · rintro vs H Q E ⟨r, rfl, _⟩
    rfl
  · rintro cdv A outer s0 H vs Q E hr ⟨r, rfl, h5, q⟩
    refine ⟨_, (pss_one (ps_if (pt_not (pt_val (pe_c c_is_among hr (Nat.le_refl _) (by rfl) (pa_cons (pv 0) (pa_cons pe_int (pa_cons (pe_gv (by rfl) T.i_MOST_ROOM) pa_nil)))))) pss_never pss_nil)), ?_⟩
    refine ⟨_, rfl, _, .int (r : Nat), 0, 8, rfl, .int _, _, rfl, ?_⟩
    have e : amg (.int (r : Nat)) 0 8 = true := by simp [amg]; omega
    rw [e]
    exact q
def spStand (K : PySem.W.Frag) : Sp := fun vs H Q _ => ∃ v, vs = [v] ∧ Is K H v (.tup []) ∧ ∀ H', Same H H' → Q (.bl true) H'
theorem ok_is_stand {k : Nat} (T : Tx w K mg) (c_rises : Cal P w K mg base k "rises" (spRises K)) : Cal P w K mg base (k + 1) "is_stand" (spStand K) := by
  refine Tx.cal T.f_is_stand T.g_is_stand T.b_is_stand sc_is_stand ?_ ?_
  · rintro vs H Q E ⟨v, rfl, _⟩
    rfl
  · rintro cdv A outer s0 H vs Q E hr ⟨v, rfl, hv, q⟩
    refine ⟨_, (pss_cons (ps_if (pw_or (pt_not (pt_val (pe_callB (isD K "tuple" (by simp)) (by rfl) T.z_isinstance PyProof.Rows.boot_isinstance (pa_cons (pv 0) (pa_cons (pe_bltn (v := .ty "tuple") (by rfl) T.z_tuple boot_tuple rfl) pa_nil))))) (pw_or1 (pt_not (pt_val (pe_callB (cr_all rfl) (by rfl) T.z_all boot_all (pa_cons (pe_lc (own := [("pair", 1)]) rfl sc_is_stand.nd (pi_tup (pv 0)) (blkOk_by (own := [("pair", 1)]) (N := ["thing", "pair", "name", "worth"]) (sc := defScope sIsStand) (by decide +kernel)) (fun _ _ _ _ _ => (pg_name (i := 1) sc_is_stand.nd rfl (by first | exact Or.inl rfl | exact Or.inr rfl))) (fun _ _ _ _ _ => pts_nil) (fun _ _ _ _ _ => pe_no)) pa_nil)))))).pt (pss_one (ps_ret pe_bl)) pss_nil) (pss_cons (ps_if (pt_not (pt_val (pe_callB (cr_all rfl) (by rfl) T.z_all boot_all (pa_cons (pe_lc (own := [("name", 2), ("worth", 3)]) rfl sc_is_stand.nd (pi_tup (pv 0)) (blkOk_by (own := [("name", 2), ("worth", 3)]) (N := ["thing", "pair", "name", "worth"]) (sc := defScope sIsStand) (by decide +kernel)) (fun _ _ _ _ _ => (pgTup K (n := 2) rfl (pgs_cons (pg_name (i := 2) sc_is_stand.nd rfl (by first | exact Or.inl rfl | exact Or.inr rfl)) (pgs_cons (pg_name (i := 3) sc_is_stand.nd rfl (by first | exact Or.inl rfl | exact Or.inr rfl)) pgs_nil)))) (fun _ _ _ _ _ => pts_nil) (fun _ _ _ _ _ => pe_no)) pa_nil)))) (pss_one (ps_ret pe_bl)) pss_nil) (pss_one (ps_ret (pe_c c_rises hr (Nat.le_refl _) (by rfl) (pa_cons (pe_lc (own := [("pair", 1)]) rfl sc_is_stand.nd (pi_tup (pv 0)) (blkOk_by (own := [("pair", 1)]) (N := ["thing", "pair", "name", "worth"]) (sc := defScope sIsStand) (by decide +kernel)) (fun _ _ _ _ _ => (pg_name (i := 1) sc_is_stand.nd rfl (by first | exact Or.inl rfl | exact Or.inr rfl))) (fun _ _ _ _ _ => pts_nil) (fun _ _ _ _ _ => pe_no)) pa_nil)))))), ?_⟩
    have hv0 := hv
    obtain ⟨a, xs, rfl, sq, il⟩ := hv.tupD
    cases il
    refine ⟨_, rfl, _, _, rfl, hv0, _, rfl, ?_⟩
    rw [isT_tup]
    refine ⟨_, rfl, _, rfl, ⟨_, sq⟩, fun D nD => ?_⟩
    refine lc_W (walk_tup (xs := [])) nD (fun i H' acc => acc = []) rfl (fun H2 s2 => sq_up s2 sq) (fun i x H1 H2 acc hi => absurd hi (Nat.not_lt_zero i)) ?_
    rintro H1 acc s1 hD rfl
    refine ⟨D, [], rfl, .of hD, _, rfl, ?_⟩
    refine ⟨_, rfl, _, rfl, ⟨_, sq_up s1 sq⟩, fun D2 nD2 => ?_⟩
    refine lc_W (walk_tup (xs := [])) nD2 (fun i H' acc => acc = []) rfl (fun H2 s2 => sq_up s2 (sq_up s1 sq)) (fun i x H1 H2 acc hi => absurd hi (Nat.not_lt_zero i)) ?_
    rintro H2 acc s2 hD2 rfl
    refine ⟨D2, [], rfl, .of hD2, _, rfl, ?_⟩
    have s12 := s1.trans s2
    refine ⟨_, rfl, _, rfl, ⟨_, sq_up s12 sq⟩, fun D3 nD3 => ?_⟩
    refine lc_W (walk_tup (xs := [])) nD3 (fun i H' acc => acc = []) rfl (fun H3 s3 => sq_up s3 (sq_up s12 sq)) (fun i x H1 H2 acc hi => absurd hi (Nat.not_lt_zero i)) ?_
    rintro H3 acc s3 hD3 rfl
    exact ⟨_, rfl, .inr ⟨D3, rfl, hD3⟩, fun H4 s4 => q _ (s12.trans (s3.trans s4))⟩
def spInit (K : PySem.W.Frag) : Sp := fun vs H Q _ => ∃ x dx b kv, vs = [.ref x, b, kv] ∧ H x = some (.ins (He.ga K "Trying") dx []) ∧ Is K H b (.tup []) ∧
  ∀ H' rd, (∀ c o, c ≠ x → H c = some o → H' c = some o) → H' x = some (.ins (He.ga K "Trying") dx [("rules", rd), ("kind", kv)]) → Q .non H'
theorem ok_init (T : Tx w K mg) : FnOk P w K mg base CX0 1 (He.ma K (He.ga K "Trying") "__init__") (fdOf K ("Trying", some "__init__")) ["self", "book", "kind"] (spInit K) := by
  refine T.f_Trinit.ok sc_tr_init ?_ ?_
  · rintro vs H Q E ⟨x, dx, b, kv, rfl, _⟩
    rfl
  · rintro cdv A outer s0 H vs Q E hr ⟨x, dx, b, kv, rfl, hx, hb, q⟩
    refine ⟨_, PSs.nox (pss_cons (ps_fld (pv 0) (pe_callTy (call_dictP rfl) (by rfl) T.z_dict boot_dict (pa_cons (pe_lc (own := [("rule", 3)]) rfl sc_tr_init.nd (pi_tup (pv 1)) (blkOk_by (own := [("rule", 3)]) (N := ["self", "book", "kind", "rule"]) (sc := defScope sTrInit) (by decide +kernel)) (fun _ _ _ _ _ => (pg_name (i := 3) sc_tr_init.nd rfl (by first | exact Or.inl rfl | exact Or.inr rfl))) (fun _ _ _ _ _ => pts_nil) (fun _ _ _ _ _ => pe_no)) pa_nil)) rfl) (pss_one (ps_fld (pv 0) (pv 2) rfl))), ?_⟩
    obtain ⟨ab, bs, rfl, sqb, ilb⟩ := hb.tupD
    cases ilb
    refine ⟨_, rfl, _, rfl, ⟨_, sqb⟩, fun D nD => ?_⟩
    refine lc_W (walk_tup (xs := [])) nD (fun i H' acc => acc = []) rfl (fun H2 s2 => sq_up s2 sqb) (fun i x H1 H2 acc hi => absurd hi (Nat.not_lt_zero i)) ?_
    rintro H1 acc s1 hD rfl
    refine ⟨D, [], [], rfl, .of hD, .nil, fun p1 np => ?_⟩
    have s2 := s1.trans (Sm.new (o := .dK (mergeK [] [])) np)
    refine ⟨_, rfl, x, _, dx, [], rfl, s2 _ _ hx, T.cls, T.na_rules, by simp, ?_⟩
    refine ⟨_, rfl, _, rfl, x, _, dx, _, rfl, upd_same, T.cls, T.na_kind, by simp [putF], ?_⟩
    refine q _ (.ref p1) (fun c o hc h => ?_) ?_
    · rw [upd_ne hc, upd_ne hc]
      exact s2 _ _ h
    · rw [upd_same]
      rfl
end
end Wf
set_option Elab.async false
set_option linter.all false
set_option maxRecDepth 100000
set_option maxHeartbeats 400000
namespace Wf
open PySem PySem.Spec PyProof.Rows L2
section
variable {P : Program} {w : World} {K : PySem.W.Frag} {mg : Str → Option Value} {base : Heap}
def spRuns (K : PySem.W.Frag) : Sp := fun vs H Q E => ∃ b kv v u st k p t r, vs = [b, kv, v, u, st, .int (r : Nat)] ∧ Asked K H b kv v u k p t ∧ Is K H st (.tup []) ∧ r ≤ 5 ∧
  ((rn k p t r).length ≤ 2000 → NewL K H ((srt (rn k p t r)).map runD) Q) ∧ (2000 < (rn k p t r).length → ∀ H', Same H H' → E (.ref (He.ga K "TooMany")) none H')
theorem ok_runs {k : Nat} (h2 : 2 ≤ k) (T : Tx w K mg) (c_need_asked : Cal P w K mg base k "need_asked" (spNA K)) (c_is_stand : Cal P w K mg base k "is_stand" (spStand K)) (c_need_room : Cal P w K mg base k "need_room" (spRoom K)) (c_lean : Cal P w K mg base k "lean" (spG K fun v => v))
    (m_found : Met P w K mg base k (He.ga K "Trying") "found" (spFound K 10)) : FnOk P w K mg base (L2.CX P w) (k + 1) (He.ga K "runs") (fdOf K ("runs", none)) ["book", "kind", "pattern", "thing", "stand", "room"] (spRuns K) := by
  have gM : mg "TooMany" = some (.ref (He.ga K "TooMany")) := by
    obtain ⟨u, h, r⟩ := T.v_TooMany
    cases r
    exact h
  have gTr : mg "Trying" = some (.ref (He.ga K "Trying")) := by
    obtain ⟨u, h, r⟩ := T.v_Trying
    cases r
    exact h
  refine T.f_runs.ok sc_runs ?_ ?_
  · rintro vs H Q E ⟨b, kv, v, u, st, k, p, t, r, rfl, _⟩
    rfl
  · rintro cdv A outer s0 H vs Q E hr ⟨b, kv, v, u, st, k, p, t, r, rfl, a, hst, h5, q1, q2⟩
    have F_init := ok_init (P := P) (base := base) T
    have hr2 := hr.mono h2
    refine ⟨_, (pss_cons (ps_expr (pe_c c_need_asked hr (Nat.le_refl _) (by rfl) (pa_cons (pv 0) (pa_cons (pv 1) (pa_cons (pv 2) (pa_cons (pv 3) pa_nil)))))) (pss_cons (ps_if (pt_not (pt_val (pe_c c_is_stand hr (Nat.le_refl _) (by rfl) (pa_cons (pv 4) pa_nil)))) pss_never pss_nil) (pss_cons (ps_expr (pe_c c_need_room hr (Nat.le_refl _) (by rfl) (pa_cons (pv 5) pa_nil))) (pss_cons (ps_set (i := 6) sc_runs.nd rfl (by first | exact Or.inl rfl | exact Or.inr rfl) (pe_mt m_found hr (Nat.le_refl _) (pe_make T.mkr F_init hr2 (by rfl) gTr T.b_Trinit .nil pass0 (pa_cons (pv 0) (pa_cons (pv 1) pa_nil))) (pa_cons (pv 2) (pa_cons (pe_c c_lean hr (Nat.le_refl _) (by rfl) (pa_cons (pv 3) pa_nil)) (pa_cons (pv 4) (pa_cons (pv 5) pa_nil)))))) (pss_cons (ps_if (pt_cmpR op_gt (pe_callB call_len_seq (by rfl) T.z_len boot_len (pa_cons (pv 6) pa_nil)) (pe_gv (by rfl) T.i_MOST_RUNS) (nomark _)) (pss_one (ps_raise rfl (takes_of rfl rfl rfl rfl) (pmk_own PySem.F.excBase_ValueError T.exc.1 gM T.exc.2.1 (raises_own T.exc.2.2.1 T.exc.2.2.2) (by rfl)))) pss_nil) (pss_one (ps_ret (pe_callBK (cr_sortedBy (f := He.ga K "weight_of") T.f_weight_of rfl hr T.z_sum) (by rfl) T.z_sorted PyProof.Rows.boot_sorted (pa_cons (pv 6) pa_nil) (pk_cons (pe_gv (v := .ref (He.ga K "weight_of")) (by rfl) ⟨_, T.g_weight_of, rfl⟩) pk_nil))))))))), ?_⟩
    refine ⟨_, rfl, _, rfl, _, rfl, _, rfl, _, _, _, _, k, p, t, rfl, a, fun H1 s1 => ?_⟩
    have a1 := a.sm s1
    refine ⟨_, rfl, _, rfl, hst.sm s1, fun H2 s2 => ⟨_, rfl, ?_⟩⟩
    have s12 := s1.trans s2
    have a2 := a.sm s12
    refine ⟨_, rfl, r, rfl, h5, ?_⟩
    refine ⟨_, rfl, _, rfl, fun x dx nx ndx hne => ?_⟩
    have sx : Same H2 (upd (upd H2 dx (.own x)) x (.ins (He.ga K "Trying") dx [])) := (Sm.new (o := .own x) ndx).trans (Sm.new (by rw [upd_ne (fun e => hne e.symm)]; exact nx))
    refine ⟨x, dx, b, kv, rfl, upd_same, a2.bk.sm sx, fun H3 rd keep hx => ⟨rfl, ?_⟩⟩
    have s3 : Same H2 H3 := fun c o h => keep c o (fun e => by rw [e, nx] at h; cases h) (sx c o h)
    have s13 := s12.trans s3
    have a3 := a.sm s13
    refine ⟨x, dx, _, rfl, hx, rfl, _, rfl, _, rfl, _, t, rfl, a3.th, a3.good, _, rfl, _, rfl, ?_⟩
    refine ⟨x, kv, v, u, st, k, p, t, r, rfl, ⟨⟨dx, rd, hx⟩, a3.kd, a3.kok, a3.pat, a3.ok, a3.nn, a3.w, a3.th, a3.good, a3.sz, hst.sm s13⟩, a3.dp, h5, fun H4 l xs s4 nl hl il => ?_⟩
    have hlen := il.len
    rw [List.length_map] at hlen
    refine ⟨_, rfl, l, xs, rfl, .inl (.of hl), _, _, rfl, rfl, _, rfl, iD (fun e => ?_) fun e => ?_⟩
    · exact q2 (by have := of_decide_eq_true e; omega) _ (s13.trans s4)
    · obtain ⟨bs, eb, hb, ib⟩ := srt_run il
      refine ⟨_, rfl, l, bs, rfl, rfl, .of (by rw [hl, eb]), hb, fun p2 n2 => ?_⟩
      exact q1 (by have := of_decide_eq_false e; omega) _ p2 _ (s13.trans (s4.trans (Sm.new n2))) (s13.free (s4.free n2)) upd_same (ib.sm (Sm.new n2))
def spLawRuns (K : PySem.W.Frag) : Sp := fun vs H Q _ => ∃ kv v u k p t r, vs = [kv, v, u, .int (r : Nat)] ∧ Is K H kv (Knd.dt k) ∧ KOk k ∧ Is K H v (Pt.dt p) ∧ p.ok ∧ p.nn = true ∧ p.w ≤ 10 ∧ p.dp ≤ 10 ∧ p.nd ≤ 40 ∧ Is K H u t ∧ t.good ∧ t.sz ≤ 6 ∧ r ≤ 5 ∧
  ((rn k p t r).length ≤ 2000 → NewL K H ((srt (rn k p t r)).map runD) Q) ∧ (2000 < (rn k p t r).length → ∀ H', Same H H' → Q .non H')
theorem ok_law_runs {k : Nat} (T : Tx w K mg) (F : FnOk P w K mg base (L2.CX P w) k (He.ga K "runs") (fdOf K ("runs", none)) ["book", "kind", "pattern", "thing", "stand", "room"] (spRuns K)) : Cal P w K mg base (k + 1) "_law_runs" (spLawRuns K) := by
  have gM : mg "TooMany" = some (.ref (He.ga K "TooMany")) := by
    obtain ⟨u, h, r⟩ := T.v_TooMany
    cases r
    exact h
  refine Tx.cal T.f_law_runs T.g_law_runs T.b_law_runs sc_law_runs ?_ ?_
  · rintro vs H Q E ⟨kv, v, u, k, p, t, r, rfl, _⟩
    rfl
  · rintro cdv A outer s0 H vs Q E hr ⟨kv, v, u, k, p, t, r, rfl, hkv, kok, hv, pok, pnn, pw, pdp, pnd, hu, tg, tz, h5, q1, q2⟩
    refine ⟨_, (pss_cons (ps_set (i := 4) sc_law_runs.nd rfl (by first | exact Or.inl rfl | exact Or.inr rfl) pe_non) (pss_cons (ps_set (i := 5) sc_law_runs.nd rfl (by first | exact Or.inl rfl | exact Or.inr rfl) pe_non) (pss_cons (ps_try_as (i := 6) (tb := fun W => tAsg (tCallS (spRuns K) (WE W) (tCons (tTup tNil) (tCons (tVar 0) (tCons (tVar 1) (tCons (tVar 2) (tCons (tTup tNil) (tCons (tVar 3) tNil))))))) (gName 5)) (ts := fun a cls d => tAsg (tVar 6) (gName 4)) (Wout := fun _ _ _ _ => False) rfl rfl sc_law_runs.nd rfl rfl ⟨rfl, by decide, Or.inl gM⟩ takes0 (fun W pn xe tk _ => pss_one (ps_set (i := 5) sc_law_runs.nd rfl (Or.inl rfl) (by exact (pe_callS F hr rfl T.g_runs T.f_runs.kp T.b_runs (fun σ => passAt tk σ) (by exact (pa_cons (pe_tup pa_nil) (pa_cons (pv 0) (pa_cons (pv 1) (pa_cons (pv 2) (pa_cons (pe_tup pa_nil) (pa_cons (pv 3) pa_nil)))))))))) ) (fun a oe cls d pn hz hf => pss_one (ps_set (i := 4) sc_law_runs.nd rfl (Or.inl rfl) (pv 6)))) (pss_one (ps_ret (pe_ifExp (pt_cmpR op_isN (pv 4) pe_non (nomark _)) (pv 5) pe_non)))))), ?_⟩
    refine ⟨by decide, fun b nb => ⟨_, rfl, _, rfl, _, rfl, by decide, fun st nst => ⟨_, rfl, ?_⟩⟩⟩
    have s1 : Same H (upd H b (.tup [])) := Sm.new nb
    have s2 : Same (upd H b (.tup [])) (upd (upd H b (.tup [])) st (.tup [])) := Sm.new nst
    have s12 := s1.trans s2
    refine ⟨.ref b, kv, v, u, .ref st, k, p, t, r, rfl, ⟨(Is.new nb .nil).sm s2, hkv.sm s12, kok, hv.sm s12, pok, pnn, pw, pdp, pnd, hu.sm s12, tg, tz⟩, Is.new nst .nil, h5, fun hl => ?_, fun hl H' s3 => ?_⟩
    · intro H3 l xs s3 nl hl3 il
      refine ⟨_, rfl, rfl, _, rfl, iY rfl ?_⟩
      exact ⟨_, rfl, q1 hl H3 l xs (s12.trans s3) (s12.free nl) hl3 il⟩
    · refine ⟨true, T.exm, fun _ a na => ?_, fun q => Bool.noConfusion q⟩
      refine ⟨_, rfl, ?_⟩
      refine ⟨_, rfl, rfl, _, rfl, iN rfl ?_⟩
      exact q2 hl _ (s12.trans s3)
end
end Wf
set_option Elab.async false
set_option linter.all false
set_option maxRecDepth 100000
set_option maxHeartbeats 400000
namespace Wf
open PySem PySem.Spec PyProof.Rows L2
section
variable {P : Program} {w : World} {K : PySem.W.Frag} {mg : Str → Option Value} {base : Heap}
theorem shaped_ints (ns : List Int) : SeqAt.shaped (.list (ns.map PyData.int)) = true := by
  have h1 : ∀ ns : List Int, PyData.canLayAll0 (ns.map PyData.int) = true := by
    intro ns
    induction ns with
    | nil => rfl
    | cons n ns ih => simp [PyData.canLayAll0, PyData.canLay0, ih]
  have h2 : ∀ ns : List Int, PyData.depthAll (ns.map PyData.int) = 0 := by
    intro ns
    induction ns with
    | nil => rfl
    | cons n ns ih => simp [PyData.depthAll, PyData.depth, ih]
  unfold SeqAt.shaped
  simp [PyData.canLay0, PyData.depth, h1, h2]
theorem dp_ints {H : Hp} : ∀ ns : List Int, DpAll K H (ns.map V.int) (ns.map PyData.int)
  | [] => .nil
  | n :: ns => .cons (.int n) (dp_ints ns)
theorem likeDs_len {k : Knd} : ∀ {l m : List Dt}, l.length ≠ m.length → likeDs k l m = false
  | [], [], h => absurd rfl h
  | [], _ :: _, _ => rfl
  | _ :: _, [], _ => rfl
  | d :: l, e :: m, h => by
    simp only [likeDs, likeDs_len (k := k) (l := l) (m := m) (by simpa using h), Bool.and_false]
theorem likeDs_take {k : Knd} : ∀ {l m : List Dt} {i : Nat} {d e : Dt}, l[i]? = some d → m[i]? = some e → likeDs k (l.take (i + 1)) (m.take (i + 1)) = (likeDs k (l.take i) (m.take i) && likeD k d e)
  | [], _, _, _, _, h, _ => by simp at h
  | _ :: _, [], _, _, _, _, h => by simp at h
  | x :: l, y :: m, 0, d, e, h1, h2 => by
    simp only [List.getElem?_cons_zero, Option.some.injEq] at h1 h2
    subst h1 h2
    simp [likeDs]
  | x :: l, y :: m, i + 1, d, e, h1, h2 => by
    simp only [List.getElem?_cons_succ] at h1 h2
    simp only [List.take_succ_cons, likeDs]
    have ih := likeDs_take (k := k) h1 h2
    rw [ih, Bool.and_assoc]
def spLL (K : PySem.W.Frag) (n : Nat) : Sp := fun vs H Q _ => ∃ kv v u k d e, vs = [kv, v, u] ∧ Is K H kv (Knd.dt k) ∧ Is K H v d ∧ Is K H u e ∧ d.thg = true ∧ e.thg = true ∧ d.dep < n ∧ d.sz ≤ 1000 ∧ ∀ H', Same H H' → Q (.bl (likeD k d e)) H'
theorem ok_law_like {k : Nat} (T : Tx w K mg) : ∀ n, Cal P w K mg base (k + n) "_law_like" (spLL K n)
  | 0 => Cal.no T.g_law_like T.f_law_like.kp T.b_law_like (by
      rintro vs H Q E ⟨kv, v, u, k, d, e, _, _, _, _, _, _, h, _⟩
      omega)
  | n + 1 => by
    have c_law_like := ok_law_like (k := k) T n
    refine Tx.cal T.f_law_like T.g_law_like T.b_law_like sc_law_like ?_ ?_
    · rintro vs H Q E ⟨kv, v, u, k, d, e, rfl, _⟩
      rfl
    · rintro cdv A outer s0 H vs Q E hr ⟨kv, v, u, k, d, e, rfl, hkv, hd, he, td, te, hn, hz, q⟩
      refine ⟨_, (pss_cons (ps_if (pw_or (pt_val (pe_callB (isD K "tuple" (by simp)) (by rfl) T.z_isinstance PyProof.Rows.boot_isinstance (pa_cons (pv 1) (pa_cons (pe_bltn (v := .ty "tuple") (by rfl) T.z_tuple boot_tuple rfl) pa_nil)))) (pw_or1 (pt_val (pe_callB (isD K "tuple" (by simp)) (by rfl) T.z_isinstance PyProof.Rows.boot_isinstance (pa_cons (pv 2) (pa_cons (pe_bltn (v := .ty "tuple") (by rfl) T.z_tuple boot_tuple rfl) pa_nil)))))).pt (pss_cons (ps_if (pw_or (pt_not (pt_val (pe_callB (isD K "tuple" (by simp)) (by rfl) T.z_isinstance PyProof.Rows.boot_isinstance (pa_cons (pv 1) (pa_cons (pe_bltn (v := .ty "tuple") (by rfl) T.z_tuple boot_tuple rfl) pa_nil))))) (pw_or (pt_not (pt_val (pe_callB (isD K "tuple" (by simp)) (by rfl) T.z_isinstance PyProof.Rows.boot_isinstance (pa_cons (pv 2) (pa_cons (pe_bltn (v := .ty "tuple") (by rfl) T.z_tuple boot_tuple rfl) pa_nil))))) (pw_or1 (pt_cmpR op_ne (pe_callB (lenD K) (by rfl) T.z_len boot_len (pa_cons (pv 1) pa_nil)) (pe_callB (lenD K) (by rfl) T.z_len boot_len (pa_cons (pv 2) pa_nil)) (nomark _))))).pt (pss_one (ps_ret pe_bl)) pss_nil) (pss_one (ps_ret (pe_cmpR (eqN K hr.units) (pe_lc (own := [("_law_k", 4)]) rfl sc_law_like.nd (pi_range1 (by rfl) T.z_range (pa_cons (pe_callB (lenD K) (by rfl) T.z_len boot_len (pa_cons (pv 1) pa_nil)) pa_nil)) (blkOk_by (own := [("_law_k", 4)]) (N := ["_law_kind_here", "_law_one", "_law_other", "_law_some", "_law_k"]) (sc := defScope sLawLike) (by decide +kernel)) (fun _ _ _ _ _ => (pg_name (i := 4) sc_law_like.nd rfl (by first | exact Or.inl rfl | exact Or.inr rfl))) (fun _ _ _ _ _ => (pts_one (pt_not (pt_val (pe_c c_law_like hr (Nat.le_refl _) (by rfl) (pa_cons (pv 0) (pa_cons (pe_ix (ixD K) (pv 1) (pv 4) (fun _ _ => rfl)) (pa_cons (pe_ix (ixD K) (pv 2) (pv 4) (fun _ _ => rfl)) pa_nil)))))))) (fun _ _ _ _ _ => (pv 4))) (pe_lst pa_nil) (nomark _))))) pss_nil) (pss_cons (ps_for PassesOwn.never rfl (pi_tup (pe_ix (ixD K) (pv 0) pe_int (fun _ _ => rfl))) (pg_name (i := 3) sc_law_like.nd rfl (by first | exact Or.inl rfl | exact Or.inr rfl)) (pss_one (ps_if (pw_and (pt_cmpR (inT K) (pv 1) (pv 3) (by rfl)) (pw_and1 (pt_cmpR (inT K) (pv 2) (pv 3) (by rfl)))).pt (pss_one (ps_ret pe_bl)) pss_nil))) (pss_one (ps_ret (pe_cmpR op_eq (pv 1) (pv 2) (nomark _)))))), ?_⟩
      refine ⟨_, rfl, _, d, rfl, hd, _, rfl, ?_⟩
      cases d with
      | str x => simp [Dt.thg] at td
      | tup l =>
        rw [isT_tup]
        refine ⟨_, rfl, _, _, rfl, hd, _, rfl, ?_⟩
        rw [isT_tup]
        refine ⟨_, rfl, _, e, rfl, he, _, rfl, ?_⟩
        cases e with
        | str x => simp [Dt.thg] at te
        | int j =>
          rw [isT_int]
          exact q _ (.refl _)
        | tup m =>
          rw [isT_tup]
          refine ⟨_, rfl, _, l, rfl, hd, _, rfl, _, m, rfl, he, rfl, _, rfl, iD (fun e => ?_) fun e => ?_⟩
          · have hne : l.length ≠ m.length := fun z => by rw [z] at e; simp at e
            have := q _ (.refl _)
            rw [likeD, likeDs_len hne] at this
            exact this
          · have heq : l.length = m.length := by
              have := e
              simp at this
              omega
            simp only [Dt.sz, Dt.dep, Dt.thg] at hz hn td te
            have hl := Dt.szs_len l
            refine ⟨_, rfl, _, l, rfl, hd, _, rfl, by omega, by omega, fun D nD => ?_⟩
            refine lc_W walk_range nD (fun i H' acc => ∃ ns : List Int, acc = ns.map V.int ∧ ns.length ≤ i ∧ ns.isEmpty = likeDs k (l.take i) (m.take i)) ⟨[], rfl, Nat.zero_le _, by simp [likeDs]⟩ (fun _ _ => trivial) ?_ ?_
            · rintro i x H1 H2 acc hi s1 hD ⟨rfl, rfl⟩ ⟨ns, rfl, hln, hem⟩
              have hi1 : i < l.length := by omega
              have hi2 : i < m.length := by omega
              have g1 : l[i]? = some l[i] := List.getElem?_eq_getElem hi1
              have g2 : m[i]? = some m[i] := List.getElem?_eq_getElem hi2
              have e0 : V.int (0 + (i : Nat)) = .int (i : Nat) := by rw [Int.zero_add]
              have hdp := (Dt.deps_le l (Dt.deps l)).mp (Nat.le_refl _) _ (List.getElem_mem hi1)
              have hsz := Dt.sz_mem (List.getElem_mem hi1)
              refine ⟨rfl, _, rfl, _, rfl, _, rfl, l, i, l[i], hd.sm s1, e0, g1, fun x hx => ⟨_, rfl, _, rfl, m, i, m[i], he.sm s1, e0, g2, fun y hy => ?_⟩⟩
              refine ⟨_, _, _, k, l[i], m[i], rfl, hkv.sm s1, hx, hy, (Dt.thgs_iff l).mp td _ (List.getElem_mem hi1), (Dt.thgs_iff m).mp te _ (List.getElem_mem hi2), by omega, by omega, fun H3 s3 => ⟨_, rfl, ?_⟩⟩
              have tk := likeDs_take (k := k) g1 g2
              cases z : likeD k l[i] m[i] with
              | true =>
                rw [z, Bool.and_true] at tk
                exact ⟨s1.trans s3, _, s3 _ _ hD, ns, rfl, by omega, by rw [tk]; exact hem⟩
              | false =>
                rw [z, Bool.and_false] at tk
                refine ⟨_, rfl, ?_⟩
                refine lcn nD s1 hD s3 (lt_line (by rw [List.length_map]; omega)) ⟨ns ++ [(i : Int)], ?_, by simp; omega, by rw [tk]; simp⟩
                rw [List.map_append]
                show List.map V.int ns ++ [V.int (0 + (i : Nat))] = _
                rw [e0]
                rfl
            · rintro H2 acc s1 hD ⟨ns, rfl, hln, hem⟩
              refine ⟨by decide, fun e0 n0 => ?_⟩
              have hne : D ≠ e0 := ne_of_none hD n0
              rw [show ((l.length : Nat) : Int).toNat = l.length by omega, List.take_length, heq, List.take_length] at hem
              refine ⟨D, e0, ns.map V.int, ns.map PyData.int, rfl, rfl, .of (by rw [upd_ne hne]; exact hD), .of upd_same, dp_ints ns, shaped_ints ns, ?_⟩
              have hq := q _ (s1.trans (Sm.new (o := .lst []) n0))
              rw [likeD, ← hem] at hq
              have e3 : (ns.map V.int).isEmpty = ns.isEmpty := by cases ns <;> rfl
              rw [e3]
              exact hq
      | int i =>
        rw [isT_int]
        refine ⟨_, rfl, _, e, rfl, he, _, rfl, ?_⟩
        cases e with
        | str x => simp [Dt.thg] at te
        | tup m =>
          rw [isT_tup]
          refine ⟨_, rfl, _, _, rfl, hd, _, rfl, ?_⟩
          rw [isT_int]
          exact q _ (.refl _)
        | int j =>
          rw [isT_int]
          have hdk : Knd.dt k = .tup [.tup (k.map fun c => .tup (c.map Dt.int)), .str "rows"] := rfl
          rw [hdk] at hkv
          refine ⟨_, rfl, _, 0, _, hkv, rfl, rfl, fun v0 h0 => ?_⟩
          obtain ⟨p, xs, rfl, sq, il⟩ := h0.tupD
          refine ⟨_, rfl, ⟨_, sq⟩, ?_⟩
          refine for_D (walk_tup (xs := xs)) il (fun n σ H' => H' = H ∧ (∀ c ∈ k.take n, ¬ (i ∈ c ∧ j ∈ c)) ∧ ∃ o1 o2, σ = [some kv, some v, some u, o1, o2]) ?_ ?_ ?_ ?_
          · exact ⟨rfl, by simp, none, none, rfl⟩
          · rintro n σ H' ⟨rfl, _⟩
            exact ⟨sq, .refl⟩
          · rintro n x d σ H' hj hx ⟨rfl, hno, o1, o2, rfl⟩
            rw [List.getElem?_map] at hj
            obtain ⟨c, hc, rfl⟩ := Option.map_eq_some_iff.mp hj
            have hflat : (c.map Dt.int).all Dt.flat = true := by
              rw [List.all_map, List.all_eq_true]
              intro z _
              rfl
            have hin : ∀ z : Int, decide (Dt.int z ∈ c.map Dt.int) = decide (z ∈ c) := fun z => by
              congr 1
              rw [List.mem_map]
              exact propext ⟨fun ⟨a, h1, h2⟩ => Dt.int.inj h2 ▸ h1, fun h => ⟨z, h, rfl⟩⟩
            refine ⟨_, rfl, _, rfl, _, _, hd, hx, rfl, hflat, _, rfl, ?_⟩
            rw [hin]
            by_cases h1 : i ∈ c
            · rw [decide_eq_true h1]
              refine ⟨_, rfl, _, rfl, _, _, he, hx, rfl, hflat, _, rfl, ?_⟩
              rw [hin]
              by_cases h2 : j ∈ c
              · rw [decide_eq_true h2]
                have e1 : likeD k (.int i) (.int j) = true := by
                  simp only [likeD, Bool.or_eq_true, List.any_eq_true]
                  exact .inr ⟨c, List.mem_of_getElem? hc, by simp [h1, h2]⟩
                rw [e1] at q
                exact q _ (.refl _)
              · rw [decide_eq_false h2]
                refine ⟨rfl, fun c' hc' => ?_, _, _, rfl⟩
                rw [List.take_add_one, hc, List.mem_append] at hc'
                rcases hc' with hc' | hc'
                · exact hno c' hc'
                · simp only [Option.toList_some, List.mem_singleton] at hc'
                  subst hc'
                  exact fun z => h2 z.2
            · rw [decide_eq_false h1]
              refine ⟨rfl, fun c' hc' => ?_, _, _, rfl⟩
              rw [List.take_add_one, hc, List.mem_append] at hc'
              rcases hc' with hc' | hc'
              · exact hno c' hc'
              · simp only [Option.toList_some, List.mem_singleton] at hc'
                subst hc'
                exact fun z => h1 z.1
          · rintro σ H' ⟨rfl, hno, o1, o2, rfl⟩
            rw [hd.intD, he.intD]
            refine ⟨_, rfl, _, rfl, rfl, ?_⟩
            rw [List.length_map, List.take_length] at hno
            refine qB ?_ (q _ (.refl _))
            have e1 : (k.any fun c => decide (i ∈ c) && decide (j ∈ c)) = false := by
              rw [List.any_eq_false]
              intro c hc
              simpa using hno c hc
            simp only [likeD, e1, Bool.or_false]
            by_cases z : i = j
            · rw [decide_eq_true z, decide_eq_true (congrArg V.int z)]
            · rw [decide_eq_false z, decide_eq_false fun h => z (V.int.inj h)]
def mt1 (k : Knd) : Pt → Dt → Bool
  | .is_ d, t => likeD k d t
  | _, _ => true
def spLM (K : PySem.W.Frag) : Sp := fun vs H Q _ => ∃ kv v u k p t, vs = [kv, v, u] ∧ Is K H kv (Knd.dt k) ∧ Is K H v (Pt.dt p) ∧ (p = .any ∨ ∃ d, p = .is_ d ∧ d.good) ∧ Is K H u t ∧ t.good ∧ ∀ H', Same H H' → Q (.bl (mt1 k p t)) H'
theorem ok_law_matched {k : Nat} (T : Tx w K mg) (c_law_like : Cal P w K mg base k "_law_like" (spLL K 6)) : Cal P w K mg base (k + 1) "_law_matched" (spLM K) := by
  refine Tx.cal T.f_law_matched T.g_law_matched T.b_law_matched sc_law_matched ?_ ?_
  · rintro vs H Q E ⟨kv, v, u, k, p, t, rfl, _⟩
    rfl
  · rintro cdv A outer s0 H vs Q E hr ⟨kv, v, u, k, p, t, rfl, hkv, hv, hp, hu', ht, q⟩
    refine ⟨_, (pss_cons (ps_set (i := 3) sc_law_matched.nd rfl (by first | exact Or.inl rfl | exact Or.inr rfl) (pe_ix (ixD K) (pv 1) pe_int (fun _ _ => rfl))) (pss_cons (ps_if (pt_cmpR op_eq (pv 3) pe_str (nomark _)) (pss_one (ps_ret pe_bl)) pss_nil) (pss_cons (ps_if (pt_cmpR op_eq (pv 3) pe_str (nomark _)) (pss_one (ps_ret (pe_c c_law_like hr (Nat.le_refl _) (by rfl) (pa_cons (pv 0) (pa_cons (pe_ix (ixD K) (pv 1) pe_int (fun _ _ => rfl)) (pa_cons (pv 2) pa_nil)))))) pss_nil) pss_never))), ?_⟩
    rcases hp with rfl | ⟨d, rfl, hd⟩
    · have hv' : Is K H v (.tup [.str "any"]) := hv
      refine ⟨_, rfl, _, 0, _, hv', rfl, rfl, fun v0 h0 => ?_⟩
      rw [h0.strD]
      exact ⟨_, rfl, rfl, _, rfl, iY (strE rfl) (q _ (.refl _))⟩
    · have hv' : Is K H v (.tup [.str "is", d]) := hv
      refine ⟨_, rfl, _, 0, _, hv', rfl, rfl, fun v0 h0 => ?_⟩
      rw [h0.strD]
      refine ⟨_, rfl, rfl, _, rfl, iN (strN rfl) ?_⟩
      refine ⟨_, rfl, rfl, _, rfl, iY (strE rfl) ?_⟩
      refine ⟨_, rfl, _, rfl, _, 1, _, hv', rfl, rfl, fun v1 h1 => ⟨_, rfl, _, _, _, k, d, t, rfl, hkv, h1, hu', hd.thg, ht.thg, by have := hd.dep; omega, by have := hd.sz; omega, q⟩⟩
def oV : Option Nat → V
  | none => .non
  | some n => .int (n : Int)
def sumO (ws : List (Option Nat)) : Option Nat := ws.foldr sum2 (some 0)
theorem sumO_some : ∀ ns : List Nat, sumO (ns.map some) = some ns.sum
  | [] => rfl
  | n :: ns => by
    unfold sumO
    rw [List.map_cons, List.foldr_cons]
    have := sumO_some ns
    unfold sumO at this
    rw [this, List.sum_cons]
    rfl
theorem sumO_none : ∀ {ws : List (Option Nat)}, none ∈ ws → sumO ws = none
  | w :: ws, h => by
    unfold sumO
    rw [List.foldr_cons]
    rcases List.mem_cons.mp h with rfl | h
    · rfl
    · have := sumO_none h
      unfold sumO at this
      rw [this]
      cases w <;> rfl
theorem somes_of : ∀ {ws : List (Option Nat)}, none ∉ ws → ∃ ns : List Nat, ws = ns.map some
  | [], _ => ⟨[], rfl⟩
  | none :: ws, h => absurd (List.mem_cons_self ..) h
  | some n :: ws, h => by
    obtain ⟨ns, rfl⟩ := somes_of (ws := ws) fun z => h (List.mem_cons_of_mem _ z)
    exact ⟨n :: ns, rfl⟩
theorem in_ws : ∀ ws : List (Option Nat), inV .non (ws.map oV) = decide (none ∈ ws)
  | [] => by simp [inV]
  | none :: ws => by simp [inV, oV, eqV]
  | some n :: ws => by
    have := in_ws ws
    unfold inV at this ⊢
    rw [List.map_cons, List.any_cons, this]
    simp [oV, eqV]
theorem flat_ws (ws : List (Option Nat)) : (ws.map oV).all flatV = true := by
  rw [List.all_map, List.all_eq_true]
  intro w _
  cases w <;> rfl
def spSum (K : PySem.W.Frag) : Sp := fun vs H Q _ => ∃ a ws, vs = [.ref a] ∧ H a = some (.lst (ws.map oV)) ∧ Q (oV (sumO ws)) H
theorem ok_law_sum {k : Nat} (T : Tx w K mg) : Cal P w K mg base (k + 1) "_law_sum" (spSum K) := by
  refine Tx.cal T.f_law_sum T.g_law_sum T.b_law_sum sc_law_sum ?_ ?_
  · rintro vs H Q E ⟨a, ws, rfl, _⟩
    rfl
  · rintro cdv A outer s0 H vs Q E hr ⟨a, ws, rfl, ha, q⟩
    refine ⟨_, (pss_one (ps_ret (pe_ifExp (pt_cmpR (inS K) pe_non (pv 0) (by rfl)) pe_non (pe_callB (cr_sum rfl) (by rfl) T.z_sum boot_sum (pa_cons (pv 0) pa_nil))))), ?_⟩
    refine ⟨_, rfl, a, _, rfl, .inl (.of ha), rfl, flat_ws ws, _, rfl, ?_⟩
    show (if inV V.non (ws.map oV) = true then _ else _)
    rw [in_ws]
    by_cases h : none ∈ ws
    · rw [decide_eq_true h]
      rw [sumO_none h] at q
      exact q
    · rw [decide_eq_false h]
      obtain ⟨ns, rfl⟩ := somes_of h
      rw [sumO_some] at q
      refine iN rfl ⟨_, rfl, a, asI ns, rfl, .of ?_, ?_⟩
      · rw [ha, List.map_map]
        unfold asI
        rw [List.map_map]
        rfl
      · rw [asI_sum]
        exact q
def somes : List (Option Nat) → List Nat
  | [] => []
  | none :: ws => somes ws
  | some n :: ws => n :: somes ws
theorem somes_len : ∀ ws : List (Option Nat), (somes ws).length ≤ ws.length
  | [] => Nat.le_refl _
  | none :: ws => by have := somes_len ws; simp only [somes, List.length_cons]; omega
  | some n :: ws => by have := somes_len ws; simp only [somes, List.length_cons]; omega
theorem somes_append : ∀ ws vs : List (Option Nat), somes (ws ++ vs) = somes ws ++ somes vs
  | [], vs => rfl
  | none :: ws, vs => by simp only [List.cons_append, somes, somes_append ws vs]
  | some n :: ws, vs => by simp only [List.cons_append, somes, somes_append ws vs]
theorem least_somes : ∀ ws : List (Option Nat), (somes ws = [] → least ws = none) ∧ ∀ m ∈ somes ws, (∀ y ∈ somes ws, m ≤ y) → least ws = some m
  | [] => ⟨fun _ => rfl, fun m h => by cases h⟩
  | none :: ws => by
    have := least_somes ws
    unfold least at this ⊢
    rw [List.foldr_cons]
    exact this
  | some n :: ws => by
    have ih := least_somes ws
    unfold least at ih ⊢
    rw [List.foldr_cons]
    refine ⟨fun h => by simp [somes] at h, fun m hm hy => ?_⟩
    simp only [somes] at hm hy
    have hmn := hy n (List.mem_cons_self ..)
    cases e : somes ws with
    | nil =>
      rw [ih.1 e]
      rw [e] at hm
      have : m = n := by simpa using hm
      rw [this]
      rfl
    | cons z zs =>
      have hex : ∀ l : List Nat, l ≠ [] → ∃ a ∈ l, ∀ y ∈ l, a ≤ y := by
        intro l
        induction l with
        | nil => intro h; exact absurd rfl h
        | cons x l ihl =>
          intro _
          by_cases hl : l = []
          · subst hl
            exact ⟨x, List.mem_cons_self .., fun y hy => by simp at hy; omega⟩
          · obtain ⟨a, ha, hy⟩ := ihl hl
            rcases Nat.le_total x a with z | z
            · refine ⟨x, List.mem_cons_self .., fun y hy' => ?_⟩
              rcases List.mem_cons.mp hy' with rfl | hy'
              · exact Nat.le_refl _
              · exact Nat.le_trans z (hy y hy')
            · refine ⟨a, List.mem_cons_of_mem _ ha, fun y hy' => ?_⟩
              rcases List.mem_cons.mp hy' with rfl | hy'
              · exact z
              · exact hy y hy'
      obtain ⟨a, ha, hya⟩ := hex (somes ws) (by rw [e]; simp)
      rw [ih.2 a ha hya]
      show some (min n a) = some m
      have h1 : m ≤ a := hy a (List.mem_cons_of_mem _ ha)
      rcases List.mem_cons.mp hm with rfl | hm
      · rw [Nat.min_eq_left h1]
      · have h2 := hya m hm
        have : m = a := by omega
        subst this
        rw [Nat.min_eq_right hmn]
def spLeast (K : PySem.W.Frag) : Sp := fun vs H Q _ => ∃ a ws, vs = [.ref a] ∧ H a = some (.lst (ws.map oV)) ∧ ws.length ≤ 1000 ∧ ∀ H', Same H H' → Q (oV (least ws)) H'
theorem ok_law_least {k : Nat} (T : Tx w K mg) : Cal P w K mg base (k + 1) "_law_least" (spLeast K) := by
  refine Tx.cal T.f_law_least T.g_law_least T.b_law_least sc_law_least ?_ ?_
  · rintro vs H Q E ⟨a, ws, rfl, _⟩
    rfl
  · rintro cdv A outer s0 H vs Q E hr ⟨a, ws, rfl, ha, hl, q⟩
    refine ⟨_, (pss_cons (ps_setLc (i := 1) (own := [("_law_weight_here", 2)]) rfl sc_law_least.nd rfl rfl (sw_true rfl rfl rfl (by decide +kernel)) (pi_list (pv 0)) (blkOk_by (own := [("_law_weight_here", 2)]) (N := ["_law_weights", "_law_some", "_law_weight_here"]) (sc := defScope sLawLeast) (by decide +kernel)) (fun _ _ _ _ _ => (pg_name (i := 2) sc_law_least.nd rfl (by first | exact Or.inl rfl | exact Or.inr rfl))) (fun _ _ _ _ _ => (pts_one (pt_cmpR op_notN (pv 2) pe_non (nomark _)))) (fun _ _ _ _ _ => (pv 2))) (pss_one (ps_ret (pe_ifExp (pt_cmpR (neN K hr.units) (pv 1) (pe_lst pa_nil) (nomark _)) (pe_callB (cr_min rfl) (by rfl) T.z_min boot_min (pa_cons (pv 1) pa_nil)) pe_non)))), ?_⟩
    refine ⟨_, rfl, _, rfl, ⟨_, .of ha⟩, fun D nD => ?_⟩
    refine lc_W (walk_list (xs := ws.map oV)) nD (fun i H' acc => acc = (asI (somes (ws.take i))).map V.int) rfl (fun H2 s2 => .of (s2 _ _ ha)) ?_ ?_
    · rintro i x H1 H2 acc hi s1 hD ⟨rfl, hx⟩ rfl
      rw [List.getElem?_map] at hx
      obtain ⟨o, ho, rfl⟩ := Option.map_eq_some_iff.mp hx
      have hln := somes_len (ws.take i)
      rw [List.length_take] at hln
      refine ⟨rfl, _, rfl, rfl, _, rfl, ?_⟩
      cases o with
      | none =>
        refine iN rfl ⟨s1, _, hD, ?_⟩
        show _ = (asI (somes (ws.take (i + 1)))).map V.int
        rw [List.take_add_one, ho, somes_append]
        simp [somes]
      | some n =>
        refine iY rfl ⟨_, rfl, ?_⟩
        refine lcn nD s1 hD (.refl _) (lt_line (by rw [List.length_map]; unfold asI; rw [List.length_map]; omega)) ?_
        show _ = (asI (somes (ws.take (i + 1)))).map V.int
        rw [List.take_add_one, ho, somes_append]
        unfold asI
        rw [List.map_append, List.map_append]
        rfl
    · rintro H1 acc s1 hD rfl
      have e1 : ws.take (ws.map oV).length = ws := by rw [List.length_map, List.take_length]
      rw [e1] at hD
      refine ⟨_, rfl, by decide, fun e0 n0 => ?_⟩
      have hne : D ≠ e0 := ne_of_none hD n0
      refine ⟨D, e0, _, (asI (somes ws)).map PyData.int, rfl, rfl, .of (by rw [upd_ne hne]; exact hD), .of upd_same, dp_ints _, shaped_ints _, _, rfl, ?_⟩
      have hq := q _ (s1.trans (Sm.new (o := .lst []) n0))
      have ls := least_somes ws
      cases e : somes ws with
      | nil =>
        rw [ls.1 e] at hq
        exact iN rfl hq
      | cons z zs =>
        refine iY rfl ⟨_, rfl, D, asI (z :: zs), rfl, .of (by rw [upd_ne hne, hD, e]), by simp [asI], fun m hm hy => ?_⟩
        unfold asI at hm
        obtain ⟨m', hm', rfl⟩ := List.mem_map.mp hm
        have : least ws = some m' := ls.2 m' (by rw [e]; exact hm') fun y hy' => by
          have := hy (y : Int) (by unfold asI; exact List.mem_map.mpr ⟨y, by rw [← e]; exact hy', rfl⟩)
          omega
        rw [this] at hq
        exact hq
end
end Wf
set_option Elab.async false
set_option linter.all false
set_option maxRecDepth 100000
set_option maxHeartbeats 400000
namespace Wf
open PySem PySem.Spec PyProof.Rows L2
section
variable {P : Program} {w : World} {K : PySem.W.Frag} {mg : Str → Option Value} {base : Heap}
def spW (K : PySem.W.Frag) (n : Nat) : Sp := fun vs H Q _ => ∃ kv v u k p t, vs = [kv, v, u] ∧ Is K H kv (Knd.dt k) ∧ Is K H v (Pt.dt p) ∧ p.ok ∧ p.nn = true ∧ p.dp ≤ n ∧ Is K H u t ∧ t.good ∧ ∀ H', Same H H' → Q (oV (wt k p t)) H'
def spRW (K : PySem.W.Frag) (n m : Nat) : Sp := fun vs H Q _ => ∃ kv v u k s l, vs = [kv, v, u] ∧ Is K H kv (Knd.dt k) ∧ Is K H v (.tup (Its.dts s)) ∧ s.ok ∧ s.nn = true ∧ s.dp ≤ n ∧ s.dp ≤ 10 ∧ s.len < m ∧ Is K H u (.tup l) ∧ (Dt.tup l).good ∧ ∀ H', Same H H' → Q (oV (wts k s l)) H'
theorem sum2_zero (w : Option Nat) : sum2 w (some 0) = w := by cases w <;> simp [sum2]
theorem sumO_two (a b : Option Nat) : sumO [a, b] = sum2 a b := by
  unfold sumO
  rw [List.foldr_cons, List.foldr_cons, List.foldr_nil, sum2_zero]
theorem sumO_three (a b c : Option Nat) : sumO [a, b, c] = sum2 a (sum2 b c) := by
  unfold sumO
  rw [List.foldr_cons, List.foldr_cons, List.foldr_cons, List.foldr_nil, sum2_zero]
theorem ok_law_weight {k n : Nat} (T : Tx w K mg) (c_law_matched : Cal P w K mg base k "_law_matched" (spLM K)) (c_law_sum : Cal P w K mg base k "_law_sum" (spSum K)) (c_law_least : Cal P w K mg base k "_law_least" (spLeast K)) (h10 : n ≤ 10)
    (c_law_weight : Cal P w K mg base k "_law_weight" (spW K n)) (c_law_row_weight : Cal P w K mg base k "_law_row_weight" (spRW K n 4)) : Cal P w K mg base (k + 1) "_law_weight" (spW K (n + 1)) := by
  refine Tx.cal T.f_law_weight T.g_law_weight T.b_law_weight sc_law_weight ?_ ?_
  · rintro vs H Q E ⟨kv, v, u, k, p, t, rfl, _⟩
    rfl
  · rintro cdv A outer s0 H vs Q E hr ⟨kv, v, u, k, p, t, rfl, hkv, hv, hok, hnn, hn, hu', tg, q⟩
    refine ⟨_, (pss_cons (ps_set (i := 3) sc_law_weight.nd rfl (by first | exact Or.inl rfl | exact Or.inr rfl) (pe_ix (ixD K) (pv 1) pe_int (fun _ _ => rfl))) (pss_cons (ps_if (pt_cmpR (inT K) (pv 3) (pe_tup (pa_cons pe_str (pa_cons pe_str pa_nil))) (by rfl)) (pss_one (ps_ret (pe_ifExp (pt_val (pe_c c_law_matched hr (Nat.le_refl _) (by rfl) (pa_cons (pv 0) (pa_cons (pv 1) (pa_cons (pv 2) pa_nil))))) pe_int pe_non))) pss_nil) (pss_cons (ps_if (pt_cmpR op_eq (pv 3) pe_str (nomark _)) (pss_one (ps_ret (pe_c c_law_sum hr (Nat.le_refl _) (by rfl) (pa_cons (pe_lc (own := [("_law_one", 5)]) rfl sc_law_weight.nd (pi_tup (pe_slice (slD K) (pv 1) (po_some pe_int) po_none)) (blkOk_by (own := [("_law_one", 5)]) (N := ["_law_kind_here", "_law_pattern", "_law_worth_here", "_law_word", "_law_second", "_law_one", "_law_thing"]) (sc := defScope sLawWeight) (by decide +kernel)) (fun _ _ _ _ _ => (pg_name (i := 5) sc_law_weight.nd rfl (by first | exact Or.inl rfl | exact Or.inr rfl))) (fun _ _ _ _ _ => pts_nil) (fun _ _ _ _ _ => (pe_c c_law_weight hr (Nat.le_refl _) (by rfl) (pa_cons (pv 0) (pa_cons (pv 5) (pa_cons (pv 2) pa_nil)))))) pa_nil)))) pss_nil) (pss_cons (ps_if (pt_cmpR op_eq (pv 3) pe_str (nomark _)) (pss_cons (ps_set (i := 4) sc_law_weight.nd rfl (by first | exact Or.inl rfl | exact Or.inr rfl) (pe_c c_law_sum hr (Nat.le_refl _) (by rfl) (pa_cons (pe_lst (pa_cons pe_int (pa_cons (pe_c c_law_weight hr (Nat.le_refl _) (by rfl) (pa_cons (pv 0) (pa_cons (pe_ix (ixD K) (pv 1) pe_int (fun _ _ => rfl)) (pa_cons (pv 2) pa_nil)))) pa_nil))) pa_nil))) (pss_one (ps_ret (pe_c c_law_least hr (Nat.le_refl _) (by rfl) (pa_cons (pe_lst (pa_cons (pe_c c_law_weight hr (Nat.le_refl _) (by rfl) (pa_cons (pv 0) (pa_cons (pe_ix (ixD K) (pv 1) pe_int (fun _ _ => rfl)) (pa_cons (pv 2) pa_nil)))) (pa_cons (pv 4) pa_nil))) pa_nil))))) pss_nil) (pss_cons (ps_if (pt_cmpR op_eq (pv 3) pe_str (nomark _)) (pss_one (ps_ret (pe_c c_law_weight hr (Nat.le_refl _) (by rfl) (pa_cons (pv 0) (pa_cons (pe_ix (ixD K) (pv 1) pe_int (fun _ _ => rfl)) (pa_cons (pv 2) pa_nil)))))) pss_nil) (pss_cons (ps_if (pt_not (pt_val (pe_callB (isD K "tuple" (by simp)) (by rfl) T.z_isinstance PyProof.Rows.boot_isinstance (pa_cons (pv 2) (pa_cons (pe_bltn (v := .ty "tuple") (by rfl) T.z_tuple boot_tuple rfl) pa_nil))))) (pss_one (ps_ret pe_non)) pss_nil) (pss_cons (ps_if (pt_cmpR op_eq (pv 3) pe_str (nomark _)) (pss_one (ps_ret (pe_c c_law_sum hr (Nat.le_refl _) (by rfl) (pa_cons (pe_op op_cat (pe_lst (pa_cons pe_int pa_nil)) (pe_lc (own := [("_law_thing", 6)]) rfl sc_law_weight.nd (pi_tup (pv 2)) (blkOk_by (own := [("_law_thing", 6)]) (N := ["_law_kind_here", "_law_pattern", "_law_worth_here", "_law_word", "_law_second", "_law_one", "_law_thing"]) (sc := defScope sLawWeight) (by decide +kernel)) (fun _ _ _ _ _ => (pg_name (i := 6) sc_law_weight.nd rfl (by first | exact Or.inl rfl | exact Or.inr rfl))) (fun _ _ _ _ _ => pts_nil) (fun _ _ _ _ _ => (pe_c c_law_weight hr (Nat.le_refl _) (by rfl) (pa_cons (pv 0) (pa_cons (pe_ix (ixD K) (pv 1) pe_int (fun _ _ => rfl)) (pa_cons (pv 6) pa_nil))))))) pa_nil)))) pss_nil) (pss_one (ps_ret (pe_c c_law_row_weight hr (Nat.le_refl _) (by rfl) (pa_cons (pv 0) (pa_cons (pe_ix (ixD K) (pv 1) pe_int (fun _ _ => rfl)) (pa_cons (pv 2) pa_nil))))))))))))), ?_⟩
    obtain ⟨l, el, l0, ll1, ll3⟩ := p.dt_len
    have hd := hv
    rw [el] at hd
    refine ⟨_, rfl, _, 0, _, hd, rfl, l0, fun v0 h0 => ?_⟩
    rw [h0.strD]
    cases p with
    | any =>
      obtain rfl := Dt.tup.inj el
      refine ⟨_, rfl, line2, fun p2 n2 => ⟨_, [.str "any", .str "is"], .str _, Is.new n2 (.cons (.str _) (.cons (.str _) .nil)), rfl, rfl, _, rfl, iY (inE rfl) ?_⟩⟩
      have s1 : Same H (upd H p2 (.tup [.str "any", .str "is"])) := Sm.new n2
      refine ⟨_, rfl, _, rfl, _, rfl, _, _, _, k, .any, t, rfl, hkv.sm s1, hv.sm s1, .inl rfl, hu'.sm s1, tg, fun H2 s2 => ⟨_, rfl, iY rfl ?_⟩⟩
      have := q _ (s1.trans s2)
      simp only [wt] at this
      exact this
    | is_ d =>
      obtain rfl := Dt.tup.inj el
      have hdg : d.good := by simpa only [Pt.ok] using hok
      refine ⟨_, rfl, line2, fun p2 n2 => ⟨_, [.str "any", .str "is"], .str _, Is.new n2 (.cons (.str _) (.cons (.str _) .nil)), rfl, rfl, _, rfl, iY (inE rfl) ?_⟩⟩
      have s1 : Same H (upd H p2 (.tup [.str "any", .str "is"])) := Sm.new n2
      refine ⟨_, rfl, _, rfl, _, rfl, _, _, _, k, .is_ d, t, rfl, hkv.sm s1, hv.sm s1, .inr ⟨d, rfl, hdg⟩, hu'.sm s1, tg, fun H2 s2 => ⟨_, rfl, ?_⟩⟩
      have := q _ (s1.trans s2)
      simp only [wt] at this
      refine iD (fun e => ?_) fun e => ?_
      · have e' : likeD k d t = true := e
        rw [if_pos e'] at this
        exact this
      · have e' : ¬ likeD k d t = true := by
          have e2 : likeD k d t = false := e
          rw [e2]
          exact Bool.false_ne_true
        rw [if_neg e'] at this
        exact this
    | two b p1 p2 =>
      obtain rfl := Dt.tup.inj el
      have ho : p1.ok ∧ p2.ok := by simpa only [Pt.ok] using hok
      have hn2 : p1.nn = true ∧ p2.nn = true := by simpa only [Pt.nn, Bool.and_eq_true] using hnn
      have hdp : p1.dp ≤ n ∧ p2.dp ≤ n := by simp only [Pt.dp] at hn; omega
      cases b with
      | true =>
        refine ⟨_, rfl, line2, fun pa na => ⟨_, [.str "any", .str "is"], .str _, Is.new na (.cons (.str _) (.cons (.str _) .nil)), rfl, rfl, _, rfl, iN (inN rfl) ?_⟩⟩
        have s1 : Same H (upd H pa (.tup [.str "any", .str "is"])) := Sm.new na
        refine ⟨_, rfl, rfl, _, rfl, iY (strE rfl) ?_⟩
        refine ⟨_, rfl, _, rfl, _, hd.sm s1, fun x H2 s2 hx => ?_⟩
        have e1 : cutD [Dt.str (twoW true), p1.dt, p2.dt] (some 1) none = [p1.dt, p2.dt] := cutD_drop _ 1
        rw [e1] at hx
        obtain ⟨a, xs, rfl, sq, il⟩ := hx.tupD
        have s12 := s1.trans s2
        refine ⟨_, rfl, ⟨_, sq⟩, fun D nD => ?_⟩
        refine lc_D (walk_tup (xs := xs)) il nD (fun i H' acc => acc = (([p1, p2].take i).map fun z => oV (wt k z t))) rfl (fun H3 s3 => sq_up s3 sq) ?_ ?_
        · rintro i x d H3 acc hi s3 hD hx rfl
          have s13 := s12.trans s3
          have hz : ∃ z, [p1, p2][i]? = some z ∧ d = z.dt ∧ z.ok ∧ z.nn = true ∧ z.dp ≤ n := by
            match i, hi with
            | 0, hi => exact ⟨p1, rfl, by simpa using hi.symm, ho.1, hn2.1, hdp.1⟩
            | 1, hi => exact ⟨p2, rfl, by simpa using hi.symm, ho.2, hn2.2, hdp.2⟩
            | i + 2, hi => simp at hi
          obtain ⟨z, hz1, rfl, z1, z2, z3⟩ := hz
          refine ⟨rfl, _, rfl, _, rfl, _, rfl, _, _, _, k, z, t, rfl, hkv.sm s13, hx, z1, z2, z3, hu'.sm s13, tg, fun H4 s4 => ?_⟩
          refine lcn nD s3 hD s4 (lt_line (by simp; omega)) ?_
          rw [List.take_add_one, hz1, List.map_append]
          rfl
        · rintro H3 acc s3 hD rfl
          refine ⟨D, [wt k p1 t, wt k p2 t], rfl, hD, ?_⟩
          have := q _ (s12.trans s3)
          rw [wt, ← sumO_two] at this
          exact this
      | false =>
        refine ⟨_, rfl, line2, fun pa na => ⟨_, [.str "any", .str "is"], .str _, Is.new na (.cons (.str _) (.cons (.str _) .nil)), rfl, rfl, _, rfl, iN (inN rfl) ?_⟩⟩
        have s1 : Same H (upd H pa (.tup [.str "any", .str "is"])) := Sm.new na
        refine ⟨_, rfl, rfl, _, rfl, iN (strN rfl) ?_⟩
        refine ⟨_, rfl, rfl, _, rfl, iY (strE rfl) ?_⟩
        refine ⟨_, rfl, _, rfl, _, 2, _, hd.sm s1, rfl, rfl, fun v2 h2 => ⟨_, rfl, _, _, _, k, p2, t, rfl, hkv.sm s1, h2, ho.2, hn2.2, hdp.2, hu'.sm s1, tg, fun H2 s2 => ⟨line2, fun L nL => ?_⟩⟩⟩
        have s12 := s1.trans s2
        have s3 : Same H2 (upd H2 L (.lst [.int 1, oV (wt k p2 t)])) := Sm.new nL
        refine ⟨L, [some 1, wt k p2 t], rfl, upd_same, ?_⟩
        rw [sumO_two]
        have s13 := s12.trans s3
        refine ⟨_, rfl, _, rfl, _, 1, _, hd.sm s13, rfl, rfl, fun v1 h1 => ⟨_, rfl, _, _, _, k, p1, t, rfl, hkv.sm s13, h1, ho.1, hn2.1, hdp.1, hu'.sm s13, tg, fun H4 s4 => ⟨_, rfl, line2, fun L2 nL2 => ?_⟩⟩⟩
        refine ⟨L2, [wt k p1 t, sum2 (some 1) (wt k p2 t)], rfl, upd_same, by simp, fun H5 s5 => ?_⟩
        have := q _ (s13.trans (s4.trans ((Sm.new nL2).trans s5)))
        have e2 : least [wt k p1 t, sum2 (some 1) (wt k p2 t)] = least2 (wt k p1 t) (sum2 (some 1) (wt k p2 t)) := by
          unfold least
          rw [List.foldr_cons, List.foldr_cons, List.foldr_nil, least2_none]
        rw [wt, ← e2] at this
        exact this
    | lone k1 p1 =>
      obtain rfl := Dt.tup.inj el
      have ho : p1.ok := by simpa only [Pt.ok] using hok
      have hdp : p1.dp ≤ n := by simp only [Pt.dp] at hn; omega
      cases k1 with
      | nt => simp [Pt.nn] at hnn
      | first =>
        have hn2 : p1.nn = true := by simpa only [Pt.nn] using hnn
        refine ⟨_, rfl, line2, fun pa na => ⟨_, [.str "any", .str "is"], .str _, Is.new na (.cons (.str _) (.cons (.str _) .nil)), rfl, rfl, _, rfl, iN (inN rfl) ?_⟩⟩
        have s1 : Same H (upd H pa (.tup [.str "any", .str "is"])) := Sm.new na
        refine ⟨_, rfl, rfl, _, rfl, iN (strN rfl) ?_⟩
        refine ⟨_, rfl, rfl, _, rfl, iN (strN rfl) ?_⟩
        refine ⟨_, rfl, rfl, _, rfl, iY (strE rfl) ?_⟩
        refine ⟨_, rfl, _, rfl, _, 1, _, hd.sm s1, rfl, rfl, fun v1 h1 => ⟨_, rfl, _, _, _, k, p1, t, rfl, hkv.sm s1, h1, ho, hn2, hdp, hu'.sm s1, tg, fun H2 s2 => ?_⟩⟩
        have := q _ (s1.trans s2)
        rw [wt] at this
        exact this
      | all =>
        have hn2 : p1.nn = true := by simpa only [Pt.nn] using hnn
        refine ⟨_, rfl, line2, fun pa na => ⟨_, [.str "any", .str "is"], .str _, Is.new na (.cons (.str _) (.cons (.str _) .nil)), rfl, rfl, _, rfl, iN (inN rfl) ?_⟩⟩
        have s1 : Same H (upd H pa (.tup [.str "any", .str "is"])) := Sm.new na
        refine ⟨_, rfl, rfl, _, rfl, iN (strN rfl) ?_⟩
        refine ⟨_, rfl, rfl, _, rfl, iN (strN rfl) ?_⟩
        refine ⟨_, rfl, rfl, _, rfl, iN (strN rfl) ?_⟩
        refine ⟨_, rfl, _, t, rfl, hu'.sm s1, _, rfl, ?_⟩
        cases t with
        | str x =>
          have := tg.thg
          simp [Dt.thg] at this
        | int i =>
          rw [isT_int]
          have := q _ s1
          simp only [wt] at this
          exact this
        | tup l =>
          rw [isT_tup]
          refine ⟨_, rfl, rfl, _, rfl, iY (strE rfl) ?_⟩
          refine ⟨line1, fun L nL => ?_⟩
          have s2 : Same _ (upd _ L (.lst [.int 0])) := Sm.new nL
          have s12 := s1.trans s2
          have hu2 := hu'.sm s12
          obtain ⟨a, xs, rfl, sq, il⟩ := hu2.tupD
          have hl6 : l.length ≤ 10 := by
            have h1 := tg.sz
            have h2 := Dt.szs_len l
            simp only [Dt.sz] at h1
            omega
          refine ⟨_, rfl, _, rfl, ⟨_, sq⟩, fun D nD => ?_⟩
          refine lc_D (walk_tup (xs := xs)) il nD (fun i H' acc => acc = ((l.take i).map fun z => oV (wt k p1 z))) rfl (fun H3 s3 => sq_up s3 sq) ?_ ?_
          · rintro i x d H3 acc hi s3 hD hx rfl
            have s13 := s12.trans s3
            refine ⟨rfl, _, rfl, _, rfl, _, 1, _, hd.sm s13, rfl, rfl, fun v1 h1 => ⟨_, rfl, _, _, _, k, p1, d, rfl, hkv.sm s13, h1, ho, hn2, hdp, hx, tg.mem (List.mem_of_getElem? hi), fun H4 s4 => ?_⟩⟩
            refine lcn nD s3 hD s4 (lt_line (by rw [List.length_map, List.length_take]; omega)) ?_
            rw [List.take_add_one, hi, List.map_append]
            rfl
          · rintro H3 acc s3 hD rfl
            rw [List.take_length] at hD
            refine ⟨L, D, _, _, rfl, rfl, s3 _ _ upd_same, hD, le_line (by simp; omega), fun M nM => ?_⟩
            refine ⟨M, some 0 :: l.map (wt k p1), rfl, by rw [upd_same, List.map_cons, List.map_map]; rfl, ?_⟩
            have e2 : sumO (some 0 :: l.map (wt k p1)) = l.foldr (fun t a => sum2 (wt k p1 t) a) (some 0) := by
              unfold sumO
              rw [List.foldr_cons, List.foldr_map]
              cases (l.foldr (fun t a => sum2 (wt k p1 t) a) (some 0)) <;> simp [sum2]
            rw [e2]
            simp only [wt] at q
            exact q _ (s12.trans (s3.trans (Sm.new nM)))
    | row its =>
      obtain rfl := Dt.tup.inj el
      have ho : its.len ≤ 3 ∧ its.ok := by simpa only [Pt.ok] using hok
      have hn2 : its.nn = true := by simpa only [Pt.nn] using hnn
      have hdp : its.dp ≤ n := by simp only [Pt.dp] at hn; omega
      refine ⟨_, rfl, line2, fun pa na => ⟨_, [.str "any", .str "is"], .str _, Is.new na (.cons (.str _) (.cons (.str _) .nil)), rfl, rfl, _, rfl, iN (inN rfl) ?_⟩⟩
      have s1 : Same H (upd H pa (.tup [.str "any", .str "is"])) := Sm.new na
      refine ⟨_, rfl, rfl, _, rfl, iN (strN rfl) ?_⟩
      refine ⟨_, rfl, rfl, _, rfl, iN (strN rfl) ?_⟩
      refine ⟨_, rfl, rfl, _, rfl, iN (strN rfl) ?_⟩
      refine ⟨_, rfl, _, t, rfl, hu'.sm s1, _, rfl, ?_⟩
      cases t with
      | str x =>
        have := tg.thg
        simp [Dt.thg] at this
      | int i =>
        rw [isT_int]
        have := q _ s1
        simp only [wt] at this
        exact this
      | tup l =>
        rw [isT_tup]
        refine ⟨_, rfl, rfl, _, rfl, iN (strN rfl) ?_⟩
        refine ⟨_, rfl, _, rfl, _, 1, _, hd.sm s1, rfl, rfl, fun v1 h1 => ⟨_, rfl, _, _, _, k, its, l, rfl, hkv.sm s1, h1, ho.2, hn2, hdp, by omega, by omega, hu'.sm s1, tg, fun H2 s2 => ?_⟩⟩
        have := q _ (s1.trans s2)
        rw [wt] at this
        exact this
theorem good_fit {l : List Dt} (h : (Dt.tup l).good) : (Dt.tup l).fit := h.fit
theorem dts_fit {s : Its} (ok : s.ok) (dp : s.dp ≤ 10) : (Dt.tup s.dts).fit := Dt.fit_of (by simp only [Dt.sok]; exact Its.sok s ok) (by
  have := Its.dtdep s ok
  simp only [Dt.dep]
  omega)
theorem nil_fit : (Dt.tup []).fit := Dt.fit_of rfl (by simp [Dt.dep, Dt.deps])
theorem ok_law_row_weight {k n m : Nat} (T : Tx w K mg) (c_law_sum : Cal P w K mg base k "_law_sum" (spSum K)) (c_law_least : Cal P w K mg base k "_law_least" (spLeast K))
    (c_law_weight : Cal P w K mg base k "_law_weight" (spW K n)) (c_law_row_weight : Cal P w K mg base k "_law_row_weight" (spRW K n m)) : Cal P w K mg base (k + 1) "_law_row_weight" (spRW K n (m + 1)) := by
  refine Tx.cal T.f_law_row_weight T.g_law_row_weight T.b_law_row_weight sc_law_row_weight ?_ ?_
  · rintro vs H Q E ⟨kv, v, u, k, s, l, rfl, _⟩
    rfl
  · rintro cdv A outer s0 H vs Q E hr ⟨kv, v, u, k, s, l, rfl, hkv, hv, hok, hnn, hn, hn10, hm, hu', tg, q⟩
    refine ⟨_, (pss_cons (ps_if (pt_cmpR (eqT K hr.units) (pv 1) (pe_tup pa_nil) (nomark _)) (pss_one (ps_ret (pe_ifExp (pt_cmpR (eqT K hr.units) (pv 2) (pe_tup pa_nil) (nomark _)) pe_int pe_non))) pss_nil) (pss_cons (ps_asg (pe_ix (ixD K) (pv 1) pe_int (fun _ _ => rfl)) (pgTup K (n := 2) rfl (pgs_cons (pg_name (i := 3) sc_law_row_weight.nd rfl (by first | exact Or.inl rfl | exact Or.inr rfl)) (pgs_cons (pg_name (i := 4) sc_law_row_weight.nd rfl (by first | exact Or.inl rfl | exact Or.inr rfl)) pgs_nil)))) (pss_cons (ps_if (pt_cmpR op_eq (pv 3) pe_str (nomark _)) (pss_cons (ps_if (pt_cmpR (eqT K hr.units) (pv 2) (pe_tup pa_nil) (nomark _)) (pss_one (ps_ret pe_non)) pss_nil) (pss_cons (ps_set (i := 5) sc_law_row_weight.nd rfl (by first | exact Or.inl rfl | exact Or.inr rfl) (pe_c c_law_weight hr (Nat.le_refl _) (by rfl) (pa_cons (pv 0) (pa_cons (pv 4) (pa_cons (pe_ix (ixD K) (pv 2) pe_int (fun _ _ => rfl)) pa_nil))))) (pss_one (ps_ret (pe_c c_law_sum hr (Nat.le_refl _) (by rfl) (pa_cons (pe_lst (pa_cons (pv 5) (pa_cons (pe_c c_law_row_weight hr (Nat.le_refl _) (by rfl) (pa_cons (pv 0) (pa_cons (pe_slice (slD K) (pv 1) (po_some pe_int) po_none) (pa_cons (pe_slice (slD K) (pv 2) (po_some pe_int) po_none) pa_nil)))) pa_nil))) pa_nil)))))) pss_nil) (pss_cons (ps_if (pt_cmpR op_eq (pe_callB (lenD K) (by rfl) T.z_len boot_len (pa_cons (pv 1) pa_nil)) pe_int (nomark _)) (pss_one (ps_ret (pe_c c_law_weight hr (Nat.le_refl _) (by rfl) (pa_cons (pv 0) (pa_cons (pv 4) (pa_cons (pv 2) pa_nil)))))) pss_nil) (pss_cons (ps_set (i := 6) sc_law_row_weight.nd rfl (by first | exact Or.inl rfl | exact Or.inr rfl) (pe_lst pa_nil)) (pss_cons (ps_for PassesOwn.never rfl (pi_range1 (by rfl) T.z_range (pa_cons (pe_op op_add (pe_callB (lenD K) (by rfl) T.z_len boot_len (pa_cons (pv 2) pa_nil)) pe_int) pa_nil)) (pg_name (i := 7) sc_law_row_weight.nd rfl (by first | exact Or.inl rfl | exact Or.inr rfl)) (pss_cons (ps_set (i := 8) sc_law_row_weight.nd rfl (by first | exact Or.inl rfl | exact Or.inr rfl) (pe_c c_law_row_weight hr (Nat.le_refl _) (by rfl) (pa_cons (pv 0) (pa_cons (pe_slice (slD K) (pv 1) (po_some pe_int) po_none) (pa_cons (pe_slice (slD K) (pv 2) (po_some (pv 7)) po_none) pa_nil))))) (pss_one (ps_expr (pe_bm PySem.F.plainAttrs_list PySem.F.slot_list_append PySem.F.type_list_append mt_append (pv 6) (pa_cons (pe_c c_law_sum hr (Nat.le_refl _) (by rfl) (pa_cons (pe_lst (pa_cons (pv 7) (pa_cons (pe_c c_law_weight hr (Nat.le_refl _) (by rfl) (pa_cons (pv 0) (pa_cons (pv 4) (pa_cons (pe_slice (slD K) (pv 2) po_none (po_some (pv 7))) pa_nil)))) (pa_cons (pv 8) pa_nil)))) pa_nil)) pa_nil)))))) (pss_one (ps_ret (pe_c c_law_least hr (Nat.le_refl _) (by rfl) (pa_cons (pv 6) pa_nil)))))))))), ?_⟩
    refine ⟨_, rfl, by decide, fun e0 n0 => ?_⟩
    have s1 : Same H (upd H e0 (.tup [])) := Sm.new n0
    refine ⟨_, _, hv.sm s1, Is.new n0 .nil, dts_fit hok hn10, nil_fit, _, rfl, ?_⟩
    rw [Its.dts_nil]
    have hv1 := hv.sm s1
    have hu1 := hu'.sm s1
    have hk1 := hkv.sm s1
    have q1 : ∀ H', Same (upd H e0 (.tup [])) H' → Q (oV (wts k s l)) H' := fun H' e => q H' (s1.trans e)
    generalize upd H e0 (.tup []) = H0 at *
    cases s with
    | nil =>
      refine iY rfl ?_
      refine ⟨_, rfl, by decide, fun e1 n1 => ?_⟩
      have s2 : Same H0 (upd H0 e1 (.tup [])) := Sm.new n1
      refine ⟨_, _, hu1.sm s2, Is.new n1 .nil, good_fit tg, nil_fit, _, rfl, ?_⟩
      have := q1 _ s2
      simp only [wts] at this
      cases l with
      | nil =>
        rw [if_pos rfl] at this
        exact iY (by simp) this
      | cons t l =>
        rw [if_neg (by simp)] at this
        exact iN (by simp) this
    | cons b p s' =>
      refine iN rfl ?_
      have it0 : Is K H0 v (.tup (.tup [.str (itW b), p.dt] :: s'.dts)) := hv1
      have ho : p.ok ∧ s'.ok := by simpa only [Its.ok] using hok
      have hnn2 : p.nn = true ∧ s'.nn = true := by simpa only [Its.nn, Bool.and_eq_true] using hnn
      have hdp : p.dp ≤ n ∧ s'.dp ≤ n ∧ s'.dp ≤ 10 := by simp only [Its.dp] at hn hn10; omega
      have hlen : s'.len < m := by simp only [Its.len] at hm; omega
      have ec : cutD (.tup [.str (itW b), p.dt] :: s'.dts) (some 1) none = s'.dts := cutD_drop _ 1
      refine ⟨_, rfl, _, 0, _, it0, rfl, rfl, fun vi hi => ?_⟩
      obtain ⟨ai, xs, rfl, sqi, ili⟩ := hi.tupD
      cases ili with
      | cons i0 ili =>
      cases ili with
      | @cons v1 _ _ _ i1 ili =>
      cases ili
      rw [i0.strD] at sqi
      refine ⟨_, _, rfl, sqi, rfl, _, _, rfl, _, _, rfl, rfl, ?_⟩
      cases b with
      | false =>
        refine ⟨_, rfl, rfl, _, rfl, iY (strE rfl) ?_⟩
        refine ⟨_, rfl, by decide, fun e1 n1 => ?_⟩
        have s2 : Same H0 (upd H0 e1 (.tup [])) := Sm.new n1
        refine ⟨_, _, hu1.sm s2, Is.new n1 .nil, good_fit tg, nil_fit, _, rfl, ?_⟩
        cases l with
        | nil =>
          have := q1 _ s2
          simp only [wts] at this
          exact iY (by simp) this
        | cons t l =>
          refine iN (by simp) ?_
          refine ⟨_, rfl, _, rfl, _, rfl, _, 0, t, hu1.sm s2, rfl, rfl, fun x hx => ?_⟩
          refine ⟨_, _, _, k, p, t, rfl, hk1.sm s2, i1.sm s2, ho.1, hnn2.1, hdp.1, hx, tg.mem (List.mem_cons_self ..), fun H3 s3 => ?_⟩
          have s23 := s2.trans s3
          refine ⟨_, rfl, _, rfl, _, rfl, _, rfl, _, it0.sm s23, fun y H4 s4 hy => ⟨_, rfl, _, rfl, _, hu1.sm (s23.trans s4), fun z H5 s5 hz => ?_⟩⟩
          rw [ec] at hy
          have ec2 : cutD (t :: l) (some 1) none = l := cutD_drop _ 1
          rw [ec2] at hz
          have s25 := s23.trans (s4.trans s5)
          refine ⟨_, _, _, k, s', l, rfl, hk1.sm s25, hy.sm s5, ho.2, hnn2.2, hdp.2.1, hdp.2.2, hlen, hz, good_drop (l := t :: l) tg 1, fun H6 s6 => ⟨line2, fun L nL => ?_⟩⟩
          refine ⟨L, [wt k p t, wts k s' l], rfl, upd_same, ?_⟩
          rw [sumO_two]
          simp only [wts] at q1
          exact q1 _ (s25.trans (s6.trans (Sm.new nL)))
      | true =>
        refine ⟨_, rfl, rfl, _, rfl, iN (strN rfl) ?_⟩
        refine ⟨_, rfl, _, _, rfl, it0, rfl, _, rfl, ?_⟩
        cases s' with
        | nil =>
          refine iY rfl ?_
          refine ⟨_, rfl, _, rfl, _, rfl, _, _, _, k, p, .tup l, rfl, hk1, i1, ho.1, hnn2.1, hdp.1, hu1, tg, fun H3 s3 => ?_⟩
          simp only [wts] at q1
          exact q1 _ s3
        | cons b2 p2 s2' =>
          refine iN (decide_eq_false fun z => by have := V.int.inj z; simp [Its.dts] at this; omega) ?_
          refine ⟨by decide, fun L nL => ?_⟩
          have sL : Same H0 (upd H0 L (.lst [])) := Sm.new nL
          have hl6 : l.length ≤ 10 := by
            have h1 := tg.sz
            have h2 := Dt.szs_len l
            simp only [Dt.sz] at h1
            omega
          refine ⟨_, rfl, _, l, rfl, hu1.sm sL, _, _, rfl, rfl, ((l.length + 1 : Nat) : Int), rfl, by omega, by omega, ?_⟩
          rw [Int.toNat_natCast]
          refine for_it walk_range (fun i σ H' => Same H0 H' ∧ ∃ o1 o2, H' L = some (.lst (((List.range i).map fun n => sum2 (some n) (sum2 (wt k p (.tup (l.take n))) (wts k (.cons b2 p2 s2') (l.drop n)))).map oV)) ∧
            σ = [some kv, some v, some u, some (.str (itW true)), some v1, none, some (.ref L), o1, o2]) ?_ ?_ ?_ ?_
          · exact ⟨sL, none, none, upd_same, rfl⟩
          · intro i σ H' _ _
            trivial
          · rintro i x σ H1 H2 hi ⟨s2, o1, o2, hL, rfl⟩ ⟨rfl, rfl⟩
            have e0 : (0 : Int) + (i : Nat) = (i : Nat) := Int.zero_add _
            refine ⟨_, rfl, _, rfl, _, rfl, _, it0.sm s2, fun y H3 s3 hy => ⟨_, rfl, _, rfl, _, rfl, _, (hu1.sm s2).sm s3, fun z H4 s4 hz => ?_⟩⟩
            rw [ec] at hy
            rw [e0, cutD_drop] at hz
            have s24 := s2.trans (s3.trans s4)
            refine ⟨_, _, _, k, .cons b2 p2 s2', l.drop i, rfl, hk1.sm s24, hy.sm s4, ho.2, hnn2.2, hdp.2.1, hdp.2.2, hlen, hz, good_drop tg i, fun H5 s5 => ?_⟩
            have s25 := s24.trans s5
            have hL5 := (s3.trans (s4.trans s5)) _ _ hL
            refine ⟨_, rfl, .inl ⟨rfl, _, .of hL5⟩, _, rfl, _, rfl, _, rfl, _, rfl, _, rfl, _, rfl, _, hu1.sm s25, fun z2 H6 s6 hz2 => ?_⟩
            rw [e0, cutD_take] at hz2
            have s26 := s25.trans s6
            refine ⟨_, _, _, k, p, .tup (l.take i), rfl, hk1.sm s26, i1.sm s26, ho.1, hnn2.1, hdp.1, hz2, good_take tg i, fun H7 s7 => ⟨_, rfl, line3, fun M nM => ?_⟩⟩
            have s67 := s6.trans s7
            have hL7 := s67 _ _ hL5
            have hLM : L ≠ M := ne_of_none hL7 nM
            refine ⟨M, [some i, wt k p (.tup (l.take i)), wts k (.cons b2 p2 s2') (l.drop i)], rfl, by
              rw [upd_same]
              show some (HO.lst [V.int (0 + (i : Nat)), _, _]) = _
              rw [e0]
              rfl, ?_⟩
            rw [sumO_three]
            have s8 : Same H7 (upd H7 M (.lst [.int (0 + (i : Nat)), oV (wt k p (.tup (l.take i))), oV (wts k (.cons b2 p2 s2') (l.drop i))])) := Sm.new nM
            refine ⟨L, _, _, rfl, rfl, s8 _ _ hL7, lt_line (by simp; omega), ?_⟩
            refine ⟨Sm.put (s25.trans (s67.trans s8)) nL, _, _, ?_, rfl⟩
            rw [upd_same, List.range_succ, List.map_append, List.map_append]
            rfl
          · rintro σ H1 ⟨s2, o1, o2, hL, rfl⟩
            refine ⟨_, rfl, L, _, rfl, hL, by simp; omega, fun H2 s3 => ?_⟩
            simp only [wts] at q1
            exact q1 _ (s2.trans s3)
theorem ok_rws {k n : Nat} (T : Tx w K mg) (c_law_sum : Cal P w K mg base k "_law_sum" (spSum K)) (c_law_least : Cal P w K mg base k "_law_least" (spLeast K)) (c_law_weight : Cal P w K mg base k "_law_weight" (spW K n)) : ∀ m, Cal P w K mg base (k + m + 1) "_law_row_weight" (spRW K n m)
  | 0 => Cal.no T.g_law_row_weight T.f_law_row_weight.kp T.b_law_row_weight (by
      rintro vs H Q E ⟨kv, v, u, k, s, l, _, _, _, _, _, _, _, h, _⟩
      omega)
  | m + 1 => ok_law_row_weight T (c_law_sum.up (by omega)) (c_law_least.up (by omega)) (c_law_weight.up (by omega)) (ok_rws T c_law_sum c_law_least c_law_weight m)
theorem ok_weights {k : Nat} (T : Tx w K mg) (c1 : Cal P w K mg base k "_law_matched" (spLM K)) (c2 : Cal P w K mg base k "_law_sum" (spSum K)) (c3 : Cal P w K mg base k "_law_least" (spLeast K)) : ∀ n, n ≤ 10 → Cal P w K mg base (k + 6 * n) "_law_weight" (spW K n)
  | 0, _ => Cal.no T.g_law_weight T.f_law_weight.kp T.b_law_weight (by
      rintro vs H Q E ⟨kv, v, u, k, p, t, _, _, _, _, _, h, _⟩
      have := p.dp_pos
      omega)
  | n + 1, h => by
    have f := ok_weights T c1 c2 c3 n (by omega)
    have r := ok_rws T (c2.up (show k ≤ k + 6 * n by omega)) (c3.up (show k ≤ k + 6 * n by omega)) f 4
    exact ok_law_weight T (c1.up (show k ≤ k + 6 * n + 5 by omega)) (c2.up (show k ≤ k + 6 * n + 5 by omega)) (c3.up (show k ≤ k + 6 * n + 5 by omega)) (by omega) (f.up (show k + 6 * n ≤ k + 6 * n + 5 by omega)) r
end
end Wf
set_option Elab.async false
set_option linter.all false
set_option maxRecDepth 100000
set_option maxHeartbeats 400000
namespace Wf
open PySem PySem.Spec PyProof.Rows L2
section
variable {P : Program} {w : World} {K : PySem.W.Frag} {mg : Str → Option Value} {base : Heap}
def spMixed : Sp := fun vs H Q _ => ∃ a k : Int, vs = [.int a, .int k] ∧ 0 ≤ a ∧ a < 2 ^ 34 ∧ 0 ≤ k ∧ k < 2 ^ 25 ∧ ∀ r : Int, 0 ≤ r → r < 2 ^ 30 → Q (.int r) H
theorem ok_law_mixed (T : Tx w K mg) : Cal P w K mg base 1 "_law_mixed" spMixed := by
  refine Tx.cal T.f_law_mixed T.g_law_mixed T.b_law_mixed sc_law_mixed ?_ ?_
  · rintro vs H Q E ⟨a, k, rfl, _⟩
    rfl
  · rintro cdv A outer s0 H vs Q E hr ⟨a, k, rfl, h1, h2, h3, h4, q⟩
    refine ⟨_, (pss_cons (ps_set (i := 2) sc_law_mixed.nd rfl (by first | exact Or.inl rfl | exact Or.inr rfl) (pe_op op_add (pe_op op_add (pe_op op_mod (pe_op op_mul (pe_op op_mul (pv 0) (pe_op op_add pe_int (pe_op op_mul pe_int (pv 1)))) pe_int) pe_int) (pe_op op_mul (pe_op op_mul pe_int (pv 1)) (pv 1))) (pe_op op_mul pe_int (pv 1)))) (pss_one (ps_ret (pe_op op_fdiv (pe_op op_mod (pe_op op_mul (pv 2) pe_int) pe_int) pe_int)))), ?_⟩
    refine ⟨_, rfl, _, rfl, _, _, rfl, rfl, .inl ⟨by omega, by omega⟩, _, _, rfl, rfl, _, _, rfl, rfl, .inl ⟨by omega, by omega⟩, ?_⟩
    refine ⟨_, _, rfl, rfl, .inr ⟨by decide, by decide⟩, _, _, rfl, rfl, (by show (0 : Int) < 2147483647; decide), ?_⟩
    refine ⟨_, rfl, _, _, rfl, rfl, .inl ⟨by decide, by decide⟩, _, rfl, _, _, rfl, rfl, .inr ⟨by omega, by omega⟩, ?_⟩
    refine ⟨_, _, rfl, rfl, _, rfl, _, _, rfl, rfl, .inl ⟨by decide, by decide⟩, _, _, rfl, rfl, ?_⟩
    refine ⟨_, rfl, _, _, rfl, rfl, .inr ⟨by decide, by decide⟩, _, _, rfl, rfl, (by show (0 : Int) < 2147483629; decide), _, _, rfl, rfl, ⟨by decide, by decide⟩, ?_⟩
    generalize (a * (1 + 2 * k) * 48271 % 2147483647 + 7919 * k * k + 104729 * k) * 69621 = z
    have h5 := Int.emod_nonneg z (show (2147483629 : Int) ≠ 0 by decide)
    have h6 := Int.emod_lt_of_pos z (show (0 : Int) < 2147483629 by decide)
    exact q _ (by omega) (by omega)
def Kp (S : Addr → Prop) (H H' : Hp) : Prop := ∀ b o, ¬ S b → H b = some o → H' b = some o
def dM (c l : Addr) (n : Nat) : List (L2.Key × V) := [(.inr "cells", .ref c), (.inr "left", .ref l), (.inr "at", .int n)]
structure Drw (H : Hp) (m c l : Addr) (N : Nat) : Prop where
  ex : ∃ (n : Nat) (cs ls : List Int), H m = some (.dK (dM c l n)) ∧ H c = some (.lst (cs.map V.int)) ∧ H l = some (.lst (ls.map V.int)) ∧ cs.length = 64 ∧ (∀ x ∈ cs, 0 ≤ x ∧ x < 2147483647) ∧ ls.length ≤ 1000 ∧ n ≤ N ∧ c ≠ l
theorem Kp.refl {S : Addr → Prop} {H : Hp} : Kp S H H := fun _ _ _ h => h
theorem Kp.trans {S : Addr → Prop} {H H1 H2 : Hp} (a : Kp S H H1) (b : Kp S H1 H2) : Kp S H H2 := fun x o s h => b x o s (a x o s h)
theorem Kp.sm {S : Addr → Prop} {H H1 : Hp} (s : Same H H1) : Kp S H H1 := fun b o _ h => s b o h
theorem Kp.mono {S S' : Addr → Prop} {H H1 : Hp} (h : ∀ b, S b → S' b) (k : Kp S H H1) : Kp S' H H1 := fun b o n e => k b o (fun z => n (h b z)) e
theorem Kp.up {S : Addr → Prop} {H H1 : Hp} (h : ∀ b, S b → NoTup (H b)) (k : Kp S H H1) : Up K H H1 := fun a xs z => by
  rcases z with (z | ⟨u, z⟩) | z
  · exact .inl (.inl (k _ _ (fun s => by have := h _ s; rw [z] at this; exact this) z))
  · exact .inl (.inr ⟨u, k _ _ (fun s => by have := h _ s; rw [z] at this; exact this) z⟩)
  · exact .inr z
def two (m l : Addr) : Addr → Prop := fun b => b = m ∨ b = l
theorem Drw.nt {H : Hp} {m c l : Addr} {N : Nat} (d : Drw H m c l N) : ∀ b, two m l b → NoTup (H b) := by
  obtain ⟨n, cs, ls, h1, h2, h3, _⟩ := d.ex
  rintro b (rfl | rfl)
  · rw [h1]; trivial
  · rw [h3]; trivial
theorem Drw.sm {H H' : Hp} {m c l : Addr} {N : Nat} (s : Same H H') (d : Drw H m c l N) : Drw H' m c l N := by
  obtain ⟨n, cs, ls, h1, h2, h3, h4⟩ := d.ex
  exact ⟨n, cs, ls, s _ _ h1, s _ _ h2, s _ _ h3, h4⟩
theorem Drw.mono {H : Hp} {m c l : Addr} {N M : Nat} (h : N ≤ M) (d : Drw H m c l N) : Drw H m c l M := by
  obtain ⟨n, cs, ls, h1, h2, h3, h4, h5, h6, h7⟩ := d.ex
  exact ⟨n, cs, ls, h1, h2, h3, h4, h5, h6, Nat.le_trans h7.1 h, h7.2⟩
def spDraw (K : PySem.W.Frag) : Sp := fun vs H Q _ => ∃ m c l N many, vs = [.ref m, .int (many : Nat)] ∧ 1 ≤ many ∧ many ≤ 1000 ∧ Drw H m c l N ∧ N ≤ 2 ^ 20 ∧
  ∀ H' (x : Nat), Kp (two m l) H H' → Drw H' m c l (N + 1) → x < many → Q (.int (x : Nat)) H'
theorem ok_law_draw {k : Nat} (T : Tx w K mg) (c_law_mixed : Cal P w K mg base k "_law_mixed" spMixed) : Cal P w K mg base (k + 1) "_law_draw" (spDraw K) := by
  refine Tx.cal T.f_law_draw T.g_law_draw T.b_law_draw sc_law_draw ?_ ?_
  · rintro vs H Q E ⟨m, c, l, N, many, rfl, _⟩
    rfl
  · rintro cdv A outer s0 H vs Q E hr ⟨m, c, l, N, many, rfl, hm1, hm2, D, hN, q⟩
    obtain ⟨n, cs, ls, h1, h2, h3, h4, h5, h6, h7, hcl⟩ := D.ex
    refine ⟨_, (pss_cons (ps_set (i := 2) sc_law_draw.nd rfl (by first | exact Or.inl rfl | exact Or.inr rfl) (pe_dget (hu_of hr) (pv 0) pe_str (fun _ _ => rfl))) (pss_cons (ps_dput (hu_of hr) (pv 0) pe_str (pe_op op_add (pv 2) pe_int) rfl) (pss_cons (ps_if (pt_cmpR (neN K hr.units) (pe_dget (hu_of hr) (pv 0) pe_str (fun _ _ => rfl)) (pe_lst pa_nil) (nomark _)) (pss_cons (ps_set (i := 3) sc_law_draw.nd rfl (by first | exact Or.inl rfl | exact Or.inr rfl) (pe_op op_mod (pv 2) (pe_callB call_len_seq (by rfl) T.z_len boot_len (pa_cons (pe_dget (hu_of hr) (pv 0) pe_str (fun _ _ => rfl)) pa_nil)))) (pss_cons (ps_set (i := 4) sc_law_draw.nd rfl (by first | exact Or.inl rfl | exact Or.inr rfl) (pe_ix (ixL K) (pe_dget (hu_of hr) (pv 0) pe_str (fun _ _ => rfl)) (pv 3) (fun _ _ => rfl))) (pss_one (ps_if (pt_cmpR op_gt (pv 4) pe_int (nomark _)) (pss_cons (ps_asg (pe_op op_fdiv (pv 4) (pv 1)) (pg_sub (pe_dget (hu_of hr) (pv 0) pe_str (fun _ _ => rfl)) (pv 3) set_list)) (pss_one (ps_ret (pe_op op_mod (pv 4) (pv 1))))) pss_nil)))) pss_nil) (pss_one (ps_ret (pe_op op_mod (pe_c c_law_mixed hr (Nat.le_refl _) (by rfl) (pa_cons (pe_c c_law_mixed hr (Nat.le_refl _) (by rfl) (pa_cons (pe_op op_add (pe_ix (ixL K) (pe_dget (hu_of hr) (pv 0) pe_str (fun _ _ => rfl)) (pe_op op_mod (pv 2) pe_int) (fun _ _ => rfl)) (pe_op op_mul pe_int (pe_op op_fdiv (pv 2) pe_int))) (pa_cons (pv 2) pa_nil))) (pa_cons (pe_op op_add (pv 2) pe_int) pa_nil))) (pv 1))))))), ?_⟩
    refine ⟨_, rfl, m, .int n, rfl, DGet.k (k := Sum.inr "at") h1, ?_⟩
    refine ⟨_, rfl, _, _, rfl, rfl, _, rfl, m, _, rfl, DPut.k (k := Sum.inr "at") h1 (lt_line (by show 3 < 16777216; decide)), ?_⟩
    have ep : putK (dM c l n) (Sum.inr "at") (V.int ((n : Int) + 1)) = dM c l (n + 1) := rfl
    have nmc : c ≠ m := fun e => by rw [e, h1] at h2; cases h2
    have nml : l ≠ m := fun e => by rw [e, h1] at h3; cases h3
    generalize hH1 : upd H m (.dK (putK (dM c l n) (Sum.inr "at") (V.int ((n : Int) + 1)))) = H1
    have g1 : H1 m = some (.dK (dM c l (n + 1))) := by rw [← hH1, upd_same, ep]
    have g2 : H1 c = some (.lst (cs.map V.int)) := by rw [← hH1, upd_ne nmc]; exact h2
    have g3 : H1 l = some (.lst (ls.map V.int)) := by rw [← hH1, upd_ne nml]; exact h3
    have kp1 : Kp (two m l) H H1 := fun b o hb h => by
      rw [← hH1, upd_ne (fun e => hb (.inl e))]
      exact h
    have D1 : Drw H1 m c l (N + 1) := ⟨n + 1, cs, ls, g1, g2, g3, h4, h5, h6, by omega, hcl⟩
    have q1 : ∀ H' (x : Nat), Kp (two m l) H1 H' → Drw H' m c l (N + 1) → x < many → Q (.int (x : Nat)) H' := fun H' x kp D' hx => q H' x (kp1.trans kp) D' hx
    have s2 : ∀ e, H1 e = none → Same H1 (upd H1 e (.lst [])) := fun e ne => Sm.new ne
    refine ⟨_, rfl, m, .ref l, rfl, DGet.k (k := Sum.inr "left") g1, by decide, fun e ne => ?_⟩
    have s2 : Same H1 (upd H1 e (.lst [])) := Sm.new ne
    have D2 := D1.sm s2
    have kp2 : Kp (two m l) H1 (upd H1 e (.lst [])) := .sm s2
    have g12 := s2 _ _ g1
    have g22 := s2 _ _ g2
    have g32 := s2 _ _ g3
    have gE : (upd H1 e (.lst [])) e = some (.lst []) := upd_same
    generalize upd H1 e (.lst []) = H2 at *
    refine ⟨l, e, _, ls.map PyData.int, rfl, rfl, .of g32, .of gE, dp_ints ls, shaped_ints ls, _, rfl, ?_⟩
    have hmany : (0 : Int) < (many : Nat) := by omega
    have last : ∀ σ : L2.St, σ = [some (.ref m), some (.int (many : Nat)), some (.int n), σ.getD 3 none, σ.getD 4 none] → (tRet (tOp (rI (fun _ j => 0 < j) fun i j => .int (i % j)) (tCall spMixed [] E0 (tCons (tCall spMixed [] E0 (tCons (tOp (rI0 fun i j => .int (i + j)) (tOp (rIxL K) (tDGet (tVar 0) (tC (.str "cells"))) (tOp (rI (fun _ j => 0 < j) fun i j => .int (i % j)) (tVar 2) (tC (.int 64))))
        (tOp (rI CMul fun i j => .int (i * j)) (tC (.int 31)) (tOp (rI CDiv fun i j => .int (i / j)) (tVar 2) (tC (.int 64))))) (tCons (tVar 2) tNil))) (tCons (tOp (rI0 fun i j => .int (i + j)) (tVar 2) (tC (.int 7))) tNil))) (tVar 1)))
        { nx := fun _ H' => Q .non H', rt := Q } σ H2 := by
      intro σ hσ
      rw [hσ]
      have h64 : n % 64 < cs.length := by omega
      have hx := h5 cs[n % 64] (List.getElem_mem h64)
      have hat : atI (cs.map V.int) ((n : Int) % 64) = some (.int cs[n % 64]) := by
        rw [show ((n : Int) % 64) = ((n % 64 : Nat) : Int) by omega]
        exact atI_nat0 (by rw [List.getElem?_map, List.getElem?_eq_getElem h64]; rfl)
      refine ⟨_, rfl, m, .ref c, rfl, DGet.k (k := Sum.inr "cells") g12, _, rfl, _, _, rfl, rfl, (by show (0 : Int) < 64; decide), c, _, _, _, rfl, rfl, .of g22, hat, ?_⟩
      refine ⟨_, rfl, _, _, rfl, rfl, ⟨by decide, by decide⟩, _, _, rfl, rfl, .inl ⟨by decide, by decide⟩, _, _, rfl, rfl, _, rfl, ?_⟩
      refine ⟨_, _, rfl, by omega, by omega, by omega, by omega, fun r hr0 hr1 => ?_⟩
      refine ⟨_, rfl, _, _, rfl, rfl, _, _, rfl, hr0, by omega, by omega, by omega, fun r2 hr2 hr3 => ?_⟩
      refine ⟨_, rfl, _, _, rfl, rfl, hmany, ?_⟩
      have h8 := Int.emod_nonneg r2 (show ((many : Nat) : Int) ≠ 0 by omega)
      have h9 := Int.emod_lt_of_pos r2 hmany
      have e1 : r2 % ((many : Nat) : Int) = ((r2 % ((many : Nat) : Int)).toNat : Nat) := by omega
      exact qI e1 (q1 _ _ kp2 D2 (by omega))
    cases hls : ls with
    | nil =>
      refine iN rfl ?_
      exact last _ rfl
    | cons x0 ls' =>
      rw [← hls]
      have hpos : 0 < ls.length := by rw [hls]; simp
      refine iY (by rw [hls]; rfl) ?_
      refine ⟨_, rfl, _, rfl, m, .ref l, rfl, DGet.k (k := Sum.inr "left") g12, l, _, rfl, .inl (.of g32), _, _, rfl, rfl, (by show (0 : Int) < _; rw [List.length_map]; omega), ?_⟩
      have hj : n % ls.length < ls.length := Nat.mod_lt _ hpos
      have hat : atI (ls.map V.int) ((n : Int) % ((ls.map V.int).length : Nat)) = some (.int ls[n % ls.length]) := by
        rw [List.length_map, show ((n : Int) % (ls.length : Nat)) = ((n % ls.length : Nat) : Int) by omega]
        exact atI_nat0 (by rw [List.getElem?_map, List.getElem?_eq_getElem hj]; rfl)
      refine ⟨_, rfl, m, .ref l, rfl, DGet.k (k := Sum.inr "left") g12, _, rfl, l, _, _, _, rfl, rfl, .of g32, hat, ?_⟩
      refine ⟨_, rfl, _, _, rfl, rfl, _, rfl, iD (fun e => ?_) fun e => ?_⟩
      · have hc0 := of_decide_eq_true e
        refine ⟨_, rfl, _, rfl, _, _, rfl, rfl, ⟨hmany, by omega⟩, ?_⟩
        have hix : ixN (ls.map V.int).length ((n : Int) % ((ls.map V.int).length : Nat)) = some (n % ls.length) := by
          rw [List.length_map, show ((n : Int) % (ls.length : Nat)) = ((n % ls.length : Nat) : Int) by omega]
          unfold ixN
          rw [if_pos (by omega), if_pos (by omega), Int.toNat_natCast]
        refine ⟨_, rfl, m, .ref l, rfl, DGet.k (k := Sum.inr "left") g12, _, rfl, l, _, _, _, rfl, rfl, g32, hix, ?_⟩
        refine ⟨_, rfl, _, rfl, _, _, rfl, rfl, hmany, ?_⟩
        have h8 := Int.emod_nonneg ls[n % ls.length] (show ((many : Nat) : Int) ≠ 0 by omega)
        have h9 := Int.emod_lt_of_pos ls[n % ls.length] hmany
        have e1 : ls[n % ls.length] % ((many : Nat) : Int) = ((ls[n % ls.length] % ((many : Nat) : Int)).toNat : Nat) := by omega
        refine qI e1 (q1 _ _ (kp2.trans fun b o hb h => ?_) ⟨n + 1, cs, ls.set (n % ls.length) (ls[n % ls.length] / (many : Nat)), ?_, ?_, ?_, h4, h5, by rw [List.length_set]; exact h6, by omega, hcl⟩ (by omega))
        · rw [upd_ne (fun e => hb (.inr e))]
          exact h
        · rw [upd_ne (Ne.symm nml)]
          exact g12
        · rw [upd_ne hcl]
          exact g22
        · rw [upd_same, List.map_set]
      · exact last _ rfl
end
end Wf
set_option Elab.async false
set_option linter.all false
set_option maxRecDepth 100000
set_option maxHeartbeats 400000
namespace Wf
open PySem PySem.Spec PyProof.Rows L2
section
variable {P : Program} {w : World} {K : PySem.W.Frag} {mg : Str → Option Value} {base : Heap}
def Rng (cs : List Int) : Prop := cs.length = 64 ∧ ∀ x ∈ cs, 0 ≤ x ∧ x < 2147483647
theorem Rng.set {cs : List Int} (h : Rng cs) (i : Nat) (z : Int) : Rng (cs.set i (z % 2147483647)) := by
  refine ⟨by rw [List.length_set]; exact h.1, fun x hx => ?_⟩
  rcases List.mem_or_eq_of_mem_set hx with hx | rfl
  · exact h.2 x hx
  · exact ⟨Int.emod_nonneg z (by decide), Int.emod_lt_of_pos z (by decide)⟩
theorem ixN_at {n j : Nat} (h : j < n) : ixN n (j : Int) = some j := by
  unfold ixN
  rw [if_pos (by omega), if_pos (by omega), Int.toNat_natCast]
theorem at_ints {cs : List Int} {j : Nat} (h : j < cs.length) : atI (cs.map V.int) (j : Int) = some (.int cs[j]) := atI_nat0 (by rw [List.getElem?_map, List.getElem?_eq_getElem h]; rfl)
def spFolded (K : PySem.W.Frag) : Sp := fun vs H Q _ => ∃ (a : Addr) (ns : List Int), vs = [.ref a] ∧ SqL K H a (ns.map V.int) ∧ ∀ H' p (cs : List Int), Same H H' → H p = none → H' p = some (.lst (cs.map V.int)) → Rng cs → Q (.ref p) H'
theorem ok_law_folded {k : Nat} (T : Tx w K mg) : Cal P w K mg base (k + 1) "_law_folded" (spFolded K) := by
  refine Tx.cal T.f_law_folded T.g_law_folded T.b_law_folded sc_law_folded ?_ ?_
  · rintro vs H Q E ⟨a, ns, rfl, _⟩
    rfl
  · rintro cdv A outer s0 H vs Q E hr ⟨a, ns, rfl, ha, q⟩
    refine ⟨_, (pss_cons (ps_setLc (i := 1) (own := [("_law_k", 2)]) rfl sc_law_folded.nd rfl rfl (sw_true rfl rfl rfl (by decide +kernel)) (pi_range1 (by rfl) T.z_range (pa_cons pe_int pa_nil)) (blkOk_by (own := [("_law_k", 2)]) (N := ["_law_script", "_law_found", "_law_k", "_law_cell"]) (sc := defScope sLawFolded) (by decide +kernel)) (fun _ _ _ _ _ => (pg_name (i := 2) sc_law_folded.nd rfl (by first | exact Or.inl rfl | exact Or.inr rfl))) (fun _ _ _ _ _ => pts_nil) (fun _ _ _ _ _ => (pe_op op_add pe_int (pv 2)))) (pss_cons (ps_for PassesOwn.never rfl (pi_enum (by rfl) T.z_enumerate (pa_cons (pv 0) pa_nil)) (pgTup K (n := 2) rfl (pgs_cons (pg_name (i := 2) sc_law_folded.nd rfl (by first | exact Or.inl rfl | exact Or.inr rfl)) (pgs_cons (pg_name (i := 3) sc_law_folded.nd rfl (by first | exact Or.inl rfl | exact Or.inr rfl)) pgs_nil))) (pss_one (ps_asg (pe_op op_mod (pe_op op_add (pe_op op_mul (pe_ix (ixL K) (pv 1) (pe_op op_mod (pv 2) pe_int) (fun _ _ => rfl)) pe_int) (pv 3)) pe_int) (pg_sub (pv 1) (pe_op op_mod (pv 2) pe_int) set_list)))) (pss_cons (ps_for PassesOwn.never rfl (pi_range2 (by rfl) T.z_range (pa_cons pe_int (pa_cons pe_int pa_nil))) (pg_name (i := 2) sc_law_folded.nd rfl (by first | exact Or.inl rfl | exact Or.inr rfl)) (pss_one (ps_asg (pe_op op_mod (pe_op op_add (pe_ix (ixL K) (pv 1) (pv 2) (fun _ _ => rfl)) (pe_op op_mul (pe_ix (ixL K) (pv 1) (pe_op op_sub (pv 2) pe_int) (fun _ _ => rfl)) pe_int)) pe_int) (pg_sub (pv 1) (pv 2) set_list)))) (pss_one (ps_ret (pv 1)))))), ?_⟩
    refine ⟨_, rfl, by decide, by decide, fun D nD => ?_⟩
    refine lc_W walk_range nD (fun i H' acc => ∃ cs : List Int, acc = cs.map V.int ∧ cs.length = i ∧ ∀ x ∈ cs, 0 ≤ x ∧ x < 2147483647) ⟨[], rfl, rfl, by simp⟩ (fun _ _ => trivial) ?_ ?_
    · rintro i x H1 H2 acc hi s1 hD ⟨rfl, rfl⟩ ⟨cs, rfl, hl, hc⟩
      have hi' : i < 64 := hi
      refine ⟨rfl, _, rfl, _, _, rfl, rfl, ?_⟩
      refine lcn nD s1 hD (.refl _) (lt_line (by rw [List.length_map]; omega)) ⟨cs ++ [(17 : Int) + ((0 : Int) + ((i : Nat) : Int))], by rw [List.map_append]; rfl, by simp; omega, fun x hx => ?_⟩
      rcases List.mem_append.mp hx with hx | hx
      · exact hc x hx
      · rw [List.mem_singleton] at hx
        subst hx
        omega
    · rintro H1 acc s1 hD ⟨cs, rfl, hl, hc⟩
      refine ⟨_, rfl, a, _, rfl, s1.seq ha, ?_⟩
      refine for_it (walk_enum (xs := ns.map V.int)) (fun i σ H' => Same H H' ∧ ∃ cs : List Int, H' D = some (.lst (cs.map V.int)) ∧ Rng cs ∧ ∃ o1 o2, σ = [some (.ref a), some (.ref D), o1, o2]) ?_ ?_ ?_ ?_
      · exact ⟨s1, cs, hD, ⟨hl, hc⟩, _, _, rfl⟩
      · rintro i σ H' _ ⟨s2, _⟩
        exact s2.seq ha
      · rintro i x σ H2 H3 hi ⟨s2, cs, hD, hc, o1, o2, rfl⟩ ⟨t, x1, x2, rfl, nt, rfl, h1, h2⟩
        obtain rfl := Option.some.inj h1
        have h2' : (ns.map V.int)[i]? = some x2 := h2
        rw [List.getElem?_map] at h2'
        obtain ⟨z, hz, rfl⟩ := Option.map_eq_some_iff.mp h2'
        have s3 : Same H2 (upd H2 t (.tup [.int (i : Nat), .int z])) := Sm.new nt
        have hD3 := s3 _ _ hD
        have hj : i % 64 < cs.length := by rw [hc.1]; omega
        have e1 : ((i : Nat) : Int) % 64 = ((i % 64 : Nat) : Int) := by omega
        have hx := hc.2 _ (List.getElem_mem hj)
        refine ⟨_, _, rfl, .of upd_same, rfl, _, _, rfl, _, _, rfl, rfl, ?_⟩
        refine ⟨_, rfl, _, rfl, _, _, rfl, rfl, (by show (0 : Int) < 64; decide), D, _, _, _, rfl, rfl, .of hD3, by rw [e1]; exact at_ints hj, ?_⟩
        refine ⟨_, _, rfl, rfl, .inr ⟨by decide, by decide⟩, _, rfl, _, _, rfl, rfl, _, _, rfl, rfl, (by show (0 : Int) < 2147483647; decide), ?_⟩
        refine ⟨_, rfl, _, rfl, _, _, rfl, rfl, (by show (0 : Int) < 64; decide), D, _, _, _, rfl, rfl, hD3, by rw [e1]; exact ixN_at (by rw [List.length_map]; exact hj), ?_⟩
        refine ⟨Sm.put (s2.trans s3) nD, _, ?_, hc.set (i % 64) (cs[i % 64] * 48271 + z), _, _, rfl⟩
        rw [upd_same, List.map_set]
      · rintro σ H2 ⟨s2, cs, hD, hc, o1, o2, rfl⟩
        refine ⟨_, _, rfl, ⟨by decide, by decide, by decide, by decide⟩, ?_⟩
        refine for_it walk_range (fun i σ H' => Same H H' ∧ ∃ cs : List Int, H' D = some (.lst (cs.map V.int)) ∧ Rng cs ∧ ∃ o1 o2, σ = [some (.ref a), some (.ref D), o1, o2]) ?_ ?_ ?_ ?_
        · exact ⟨s2, cs, hD, hc, _, _, rfl⟩
        · intro i σ H' _ _
          trivial
        · rintro i x σ H3 H4 hi ⟨s3, cs, hD, hc, o1, o2, rfl⟩ ⟨rfl, rfl⟩
          have hi' : i < 63 := hi
          have hj : 1 + i < cs.length := by rw [hc.1]; omega
          have hj0 : i < cs.length := by omega
          have e1 : (1 : Int) + (i : Nat) = ((1 + i : Nat) : Int) := by omega
          have e0 : (1 : Int) + (i : Nat) - 1 = ((i : Nat) : Int) := by omega
          refine ⟨_, rfl, _, rfl, D, _, _, _, rfl, rfl, .of hD, by rw [e1]; exact at_ints hj, ?_⟩
          refine ⟨_, rfl, _, rfl, _, _, rfl, rfl, D, _, _, _, rfl, rfl, .of hD, by rw [e0]; exact at_ints hj0, ?_⟩
          refine ⟨_, _, rfl, rfl, .inr ⟨by decide, by decide⟩, _, _, rfl, rfl, _, _, rfl, rfl, (by show (0 : Int) < 2147483647; decide), ?_⟩
          refine ⟨_, rfl, _, rfl, D, _, _, _, rfl, rfl, hD, by rw [e1]; exact ixN_at (by rw [List.length_map]; exact hj), ?_⟩
          refine ⟨Sm.put s3 nD, _, ?_, hc.set (1 + i) (cs[1 + i] + cs[i] * 16807), _, _, rfl⟩
          rw [upd_same, List.map_set]
        · rintro σ H3 ⟨s3, cs, hD, hc, o1, o2, rfl⟩
          exact ⟨_, rfl, q _ D cs s3 nD hD hc⟩
def spBegun (K : PySem.W.Frag) : Sp := fun vs H Q _ => ∃ (a : Addr) (ns : List Int), vs = [.ref a] ∧ SqL K H a (ns.map V.int) ∧ ns.length ≤ 63 ∧ ∀ H' m c l, Same H H' → H m = none → H c = none → H l = none → Drw H' m c l 0 → Q (.ref m) H'
theorem ok_law_begun {k : Nat} (T : Tx w K mg) (c_law_folded : Cal P w K mg base k "_law_folded" (spFolded K)) : Cal P w K mg base (k + 1) "_law_begun" (spBegun K) := by
  refine Tx.cal T.f_law_begun T.g_law_begun T.b_law_begun sc_law_begun ?_ ?_
  · rintro vs H Q E ⟨a, ns, rfl, _⟩
    rfl
  · rintro cdv A outer s0 H vs Q E hr ⟨a, ns, rfl, ha, hl, q⟩
    refine ⟨_, (pss_cons (ps_set (i := 1) sc_law_begun.nd rfl (by first | exact Or.inl rfl | exact Or.inr rfl) (pe_disp (pps_cons pe_str (pe_c c_law_folded hr (Nat.le_refl _) (by rfl) (pa_cons (pv 0) pa_nil)) (pps_cons pe_str (pe_lst pa_nil) (pps_cons pe_str pe_int pps_nil))) (by rfl) (by rfl) (fun z => by cases z) (by decide))) (pss_cons (ps_dput (hu_of hr) (pv 1) pe_str (pe_lc (own := [("_law_cell", 2)]) rfl sc_law_begun.nd (pi_list (pv 0)) (blkOk_by (own := [("_law_cell", 2)]) (N := ["_law_script", "_law_m", "_law_cell"]) (sc := defScope sLawBegun) (by decide +kernel)) (fun _ _ _ _ _ => (pg_name (i := 2) sc_law_begun.nd rfl (by first | exact Or.inl rfl | exact Or.inr rfl))) (fun _ _ _ _ _ => pts_nil) (fun _ _ _ _ _ => (pe_ifExp (pt_cmpR op_ge (pv 2) (pe_op op_pow pe_int pe_int) (nomark _)) (pv 2) pe_int))) rfl) (pss_one (ps_ret (pv 1))))), ?_⟩
    refine fun m nm => ?_
    have s1 : Same H (upd H m (.dK [])) := Sm.new nm
    refine ⟨_, rfl, a, ns, rfl, s1.seq ha, fun H2 c cs s2 nc hc rng => ?_⟩
    have s12 := s1.trans s2
    refine ⟨by decide, fun l0 nl => ?_⟩
    have s3 : Same H2 (upd H2 l0 (.lst [])) := Sm.new nl
    have s13 := s12.trans s3
    have hm3 := (s2.trans s3) _ _ (upd_same (H := H) (a := m) (o := .dK []))
    refine ⟨hm3, dM c l0 0, rfl, by show 3 ≤ 15; decide, ?_⟩
    have em : mergeK [] (dM c l0 0) = dM c l0 0 := rfl
    rw [em]
    generalize hH4 : upd (upd H2 l0 (.lst [])) m (.dK (dM c l0 0)) = H4
    have hm4 : H4 m = some (.dK (dM c l0 0)) := by rw [← hH4]; exact upd_same
    have s14 : Same H H4 := by rw [← hH4]; exact Sm.put s13 nm
    have hcm : c ≠ m := fun e => by
      rw [e, upd_same] at nc
      cases nc
    have hc4 : H4 c = some (.lst (cs.map V.int)) := by rw [← hH4, upd_ne hcm]; exact s3 _ _ hc
    have nc0 : H c = none := s1.free nc
    refine ⟨_, rfl, _, rfl, ⟨_, s14.seq ha⟩, fun D nD => ?_⟩
    refine lc_W (walk_list (xs := ns.map V.int)) nD (fun i H' acc => ∃ ls : List Int, acc = ls.map V.int ∧ ls.length = i) ⟨[], rfl, rfl⟩ (fun H5 s5 => (s14.trans s5).seq ha) ?_ ?_
    · rintro i x H5 H6 acc hi s5 hD ⟨rfl, hx⟩ ⟨ls, rfl, hls⟩
      rw [List.getElem?_map] at hx
      obtain ⟨z, hz, rfl⟩ := Option.map_eq_some_iff.mp hx
      rw [List.length_map] at hi
      refine ⟨rfl, _, rfl, _, _, rfl, rfl, ⟨by decide, by decide, by decide⟩, _, _, rfl, rfl, _, rfl, iD (fun _ => ⟨_, rfl, ?_⟩) fun _ => ?_⟩
      · exact lcn nD s5 hD (.refl _) (lt_line (by rw [List.length_map]; omega)) ⟨ls ++ [z], by rw [List.map_append]; rfl, by simp; omega⟩
      · exact lcn nD s5 hD (.refl _) (lt_line (by rw [List.length_map]; omega)) ⟨ls ++ [0], by rw [List.map_append]; rfl, by simp; omega⟩
    · rintro H5 acc s5 hD ⟨ls, rfl, hls⟩
      rw [List.length_map] at hls
      refine ⟨_, rfl, m, _, rfl, DPut.k (k := Sum.inr "left") (s5 _ _ hm4) (lt_line (by show 3 < 16777216; decide)), ?_⟩
      have ep : putK (dM c l0 0) (Sum.inr "left") (V.ref D) = dM c D 0 := rfl
      rw [ep]
      have nD0 : H D = none := s14.free nD
      have hDm : D ≠ m := fun e => by rw [e, hm4] at nD; cases nD
      have hcD : c ≠ D := fun e => by rw [← e, hc4] at nD; cases nD
      refine ⟨_, rfl, q _ m c D (Sm.put (s14.trans s5) nm) nm nc0 nD0 ⟨0, cs, ls, upd_same, ?_, ?_, rng.1, rng.2, by omega, Nat.le_refl _, hcD⟩⟩
      · rw [upd_ne hcm]
        exact s5 _ _ hc4
      · rw [upd_ne hDm]
        exact hD
end
end Wf
set_option Elab.async false
set_option linter.all false
set_option maxRecDepth 100000
set_option maxHeartbeats 400000
namespace Wf
open PySem PySem.Spec PyProof.Rows L2
section
variable {P : Program} {w : World} {K : PySem.W.Frag} {mg : Str → Option Value} {base : Heap}
theorem Kp.free {S : Addr → Prop} {H H' : Hp} {b : Addr} (k : Kp S H H') (n : H' b = none) (h : ¬ S b) : H b = none := by
  cases e : H b with
  | none => rfl
  | some o => rw [k b o h e] at n; cases n
theorem Drw.ne {H : Hp} {m c l b : Addr} {N : Nat} (d : Drw H m c l N) (h : H b = none) : ¬ two m l b := by
  obtain ⟨n, cs, ls, h1, h2, h3, _⟩ := d.ex
  rintro (rfl | rfl)
  · rw [h1] at h; cases h
  · rw [h3] at h; cases h
def spLeaf1 (K : PySem.W.Frag) : Sp := fun vs H Q _ => ∃ m c l N, vs = [.ref m] ∧ Drw H m c l N ∧ N ≤ 2 ^ 19 ∧ ∀ H' (x : Nat), Kp (two m l) H H' → Drw H' m c l (N + 2) → x ≤ 99 → Q (.int (x : Nat)) H'
theorem ok_law_leaf {k : Nat} (T : Tx w K mg) (c_law_draw : Cal P w K mg base k "_law_draw" (spDraw K)) : Cal P w K mg base (k + 1) "_law_leaf" (spLeaf1 K) := by
  refine Tx.cal T.f_law_leaf T.g_law_leaf T.b_law_leaf sc_law_leaf ?_ ?_
  · rintro vs H Q E ⟨m, c, l, N, rfl, _⟩
    rfl
  · rintro cdv A outer s0 H vs Q E hr ⟨m, c, l, N, rfl, D, hN, q⟩
    refine ⟨_, (pss_one (ps_ret (pe_ix (ixL K) (pe_lst (pa_cons pe_int (pa_cons pe_int (pa_cons pe_int (pa_cons pe_int (pa_cons pe_int (pa_cons pe_int (pa_cons pe_int (pa_cons (pe_c c_law_draw hr (Nat.le_refl _) (by rfl) (pa_cons (pv 0) (pa_cons pe_int pa_nil))) pa_nil))))))))) (pe_c c_law_draw hr (Nat.le_refl _) (by rfl) (pa_cons (pv 0) (pa_cons pe_int pa_nil))) (fun _ _ => rfl)))), ?_⟩
    refine ⟨_, rfl, m, c, l, N, 100, rfl, by decide, by decide, D, by omega, fun H1 x kp1 D1 hx => ⟨le_line (by show 8 ≤ 16777216; decide), fun L nL => ?_⟩⟩
    have s1 : Same H1 (upd H1 L (.lst [.int 0, .int 1, .int 2, .int 1, .int 2, .int 5, .int 99, .int (x : Nat)])) := Sm.new nL
    have hLs := D1.ne nL
    refine ⟨_, rfl, m, c, l, N + 1, 8, rfl, by decide, by decide, D1.sm s1, by omega, fun H2 y kp2 D2 hy => ?_⟩
    have hL2 := kp2 _ _ hLs upd_same
    have kp : Kp (two m l) H H2 := kp1.trans ((Kp.sm s1).trans kp2)
    have hat : ∃ z : Nat, z ≤ 99 ∧ atI [V.int 0, .int 1, .int 2, .int 1, .int 2, .int 5, .int 99, .int (x : Nat)] (y : Int) = some (.int (z : Nat)) := by
      match y, hy with
      | 0, _ => exact ⟨0, by omega, rfl⟩
      | 1, _ => exact ⟨1, by omega, rfl⟩
      | 2, _ => exact ⟨2, by omega, rfl⟩
      | 3, _ => exact ⟨1, by omega, rfl⟩
      | 4, _ => exact ⟨2, by omega, rfl⟩
      | 5, _ => exact ⟨5, by omega, rfl⟩
      | 6, _ => exact ⟨99, by omega, rfl⟩
      | 7, _ => exact ⟨x, by omega, rfl⟩
      | n + 8, h => omega
    obtain ⟨z, hz, hat⟩ := hat
    exact ⟨L, _, _, _, rfl, rfl, .of hL2, hat, q _ z kp D2 hz⟩
def three (m l r : Addr) : Addr → Prop := fun b => b = m ∨ b = l ∨ b = r
theorem two_three {m l r b : Addr} (h : two m l b) : three m l r b := by
  rcases h with h | h
  · exact .inl h
  · exact .inr (.inl h)
theorem Drw.nt3 {H : Hp} {m c l r : Addr} {N : Nat} {xs : List V} (d : Drw H m c l N) (hr : H r = some (.lst xs)) : ∀ b, three m l r b → NoTup (H b) := by
  rintro b (h | h | h)
  · exact d.nt b (.inl h)
  · exact d.nt b (.inr h)
  · rw [h, hr]; trivial
theorem Drw.put {H : Hp} {m c l r : Addr} {N : Nat} {o : HO} (d : Drw H m c l N) (h1 : r ≠ m) (h2 : r ≠ c) (h3 : r ≠ l) : Drw (upd H r o) m c l N := by
  obtain ⟨n, cs, ls, g1, g2, g3, g4⟩ := d.ex
  exact ⟨n, cs, ls, by rw [upd_ne (Ne.symm h1)]; exact g1, by rw [upd_ne (Ne.symm h2)]; exact g2, by rw [upd_ne (Ne.symm h3)]; exact g3, g4⟩
def spWorthL (K : PySem.W.Frag) (n : Nat) : Sp := fun vs H Q _ => ∃ (m c l r : Addr) (N d q : Nat), vs = [.ref m, .int (d : Nat), .ref r] ∧ Drw H m c l N ∧ N + 4 * q ≤ 2 ^ 18 ∧ H r = some (.lst [.int (q : Nat)]) ∧ r ≠ l ∧ r ≠ c ∧ 1 ≤ q ∧ q ≤ 6 ∧ 1 ≤ d ∧ d ≤ n ∧
  ∀ H' v t, Kp (three m l r) H H' → Drw H' m c l (N + 4 * t.sz) → H' r = some (.lst [.int ((q - t.sz : Nat) : Int)]) → t.sz ≤ q → Is K H' v t → t.thg = true → t.dep ≤ d → Q v H'
theorem ok_law_worth {k : Nat} (T : Tx w K mg) (c1 : Cal P w K mg base k "_law_draw" (spDraw K)) (c2 : Cal P w K mg base k "_law_leaf" (spLeaf1 K)) : ∀ n, Cal P w K mg base (k + n) "_law_worth" (spWorthL K n)
  | 0 => Cal.no T.g_law_worth T.f_law_worth.kp T.b_law_worth (by
      rintro vs H Q E ⟨m, c, l, r, N, d, q, _, _, _, _, _, _, _, _, h1, h2, _⟩
      omega)
  | n + 1 => by
    have c_law_worth := ok_law_worth (k := k) T c1 c2 n
    have c_law_draw := c1.up (show k ≤ k + n by omega)
    have c_law_leaf := c2.up (show k ≤ k + n by omega)
    refine Tx.cal T.f_law_worth T.g_law_worth T.b_law_worth sc_law_worth ?_ ?_
    · rintro vs H Q E ⟨m, c, l, r, N, d, q, rfl, _⟩
      rfl
    · rintro cdv A outer s0 H vs Q E hr ⟨m, c, l, r, N, d, q, rfl, D, hN, hrm, hrl, hrc, q1, q6, d1, dn, qq⟩
      refine ⟨_, (pss_cons (ps_par (i := 3) (j := 4) rfl sc_law_worth.nd rfl rfl (by decide) rfl rfl (pa_cons (pe_c c_law_draw hr (Nat.le_refl _) (by rfl) (pa_cons (pv 0) (pa_cons pe_int pa_nil))) (pa_cons (pe_c c_law_draw hr (Nat.le_refl _) (by rfl) (pa_cons (pv 0) (pa_cons pe_int pa_nil))) pa_nil)) rfl) (pss_cons (ps_asg (pe_op op_sub (pe_ix (ixL K) (pv 2) pe_int (fun _ _ => rfl)) pe_int) (pg_sub (pv 2) pe_int set_list)) (pss_cons (ps_if (pw_or (pt_cmpR op_lt (pv 1) pe_int (nomark _)) (pw_or (pt_cmpR op_lt (pe_ix (ixL K) (pv 2) pe_int (fun _ _ => rfl)) pe_int (nomark _)) (pw_or1 (pt_cmpR op_eq (pv 3) pe_int (nomark _))))).pt (pss_one (ps_ret (pe_ifExp (pt_cmpR op_eq (pv 4) pe_int (nomark _)) (pe_tup pa_nil) (pe_c c_law_leaf hr (Nat.le_refl _) (by rfl) (pa_cons (pv 0) pa_nil))))) pss_nil) (pss_cons (ps_set (i := 5) sc_law_worth.nd rfl (by first | exact Or.inl rfl | exact Or.inr rfl) (pe_lst pa_nil)) (pss_cons (ps_for PassesOwn.never rfl (pi_range1 (by rfl) T.z_range (pa_cons (pv 4) pa_nil)) (pg_name (i := 6) sc_law_worth.nd rfl (by first | exact Or.inl rfl | exact Or.inr rfl)) (pss_one (ps_if (pt_cmpR op_gt (pe_ix (ixL K) (pv 2) pe_int (fun _ _ => rfl)) pe_int (nomark _)) (pss_one (ps_expr (pe_bm PySem.F.plainAttrs_list PySem.F.slot_list_append PySem.F.type_list_append mt_append (pv 5) (pa_cons (pe_c c_law_worth hr (Nat.le_refl _) (by rfl) (pa_cons (pv 0) (pa_cons (pe_op op_sub (pv 1) pe_int) (pa_cons (pv 2) pa_nil)))) pa_nil)))) pss_nil))) (pss_one (ps_ret (pe_callTy call_tuple_of (by rfl) T.z_tuple boot_tuple (pa_cons (pv 5) pa_nil))))))))), ?_⟩
      have hrm' : r ≠ m := fun e => by
        obtain ⟨n, cs, ls, g1, _⟩ := D.ex
        rw [e, g1] at hrm
        cases hrm
      have nr : ¬ two m l r := by
        rintro (h | h)
        · exact hrm' h
        · exact hrl h
      refine ⟨_, rfl, m, c, l, N, 3, rfl, by decide, by decide, D, by omega, fun H1 way kp1 D1 hw => ?_⟩
      refine ⟨_, rfl, m, c, l, N + 1, 5, rfl, by decide, by decide, D1, by omega, fun H2 many kp2 D2 hmn => ⟨_, _, rfl, ?_⟩⟩
      have kp12 := kp1.trans kp2
      have hr2 := kp12 _ _ nr hrm
      refine ⟨_, rfl, r, _, _, _, rfl, rfl, .of hr2, rfl, _, _, rfl, rfl, _, rfl, r, _, _, 0, rfl, rfl, hr2, rfl, ?_⟩
      have e1 : ((q : Nat) : Int) - 1 = ((q - 1 : Nat) : Int) := by omega
      refine genH (fun H3 => H3 r = some (.lst [.int ((q - 1 : Nat) : Int)]) ∧ Kp (three m l r) H H3 ∧ Drw H3 m c l (N + 2)) ⟨?_, ?_, ?_⟩ fun H3 h3 => ?_
      · rw [upd_same]
        show some (HO.lst [V.int (((q : Nat) : Int) - 1)]) = _
        rw [e1]
      · intro b o hb h
        rw [upd_ne (fun e => hb (.inr (.inr e)))]
        exact kp12 b o (fun z => hb (two_three z)) h
      · exact D2.put hrm' hrc hrl
      obtain ⟨hr3, kp3, D3⟩ := h3
      have leaf : ∀ v H', Kp (three m l r) H3 H' → Drw H' m c l (N + 4) → H' r = some (.lst [.int ((q - 1 : Nat) : Int)]) → (∃ t : Dt, t.sz = 1 ∧ t.thg = true ∧ t.dep ≤ 1 ∧ Is K H' v t) → Q v H' := by
        rintro v H' kp D' hr' ⟨t, t1, t2, t3, t4⟩
        exact qq H' v t (kp3.trans kp) (by rw [t1]; exact D') (by rw [t1]; exact hr') (by omega) t4 t2 (by omega)
      have small : tIf (tTest (tOp rEq (tVar 4) (tC (.int 4)))) (tTup tNil) (tCall (spLeaf1 K) [] E0 (tCons (tVar 0) tNil)) [some (.ref m), some (.int (d : Nat)), some (.ref r), some (.int (way : Nat)), some (.int (many : Nat)), none, none] H3 Q := by
        refine ⟨_, rfl, rfl, _, rfl, iD (fun _ => ?_) fun _ => ?_⟩
        · refine ⟨by decide, fun e ne => ?_⟩
          have s4 : Same H3 (upd H3 e (.tup [])) := Sm.new ne
          exact leaf _ _ (.sm s4) ((D3.sm s4).mono (by omega)) (s4 _ _ hr3) ⟨.tup [], by simp [Dt.sz, Dt.szs], rfl, by simp [Dt.dep, Dt.deps], Is.new ne .nil⟩
        · refine ⟨_, rfl, m, c, l, N + 2, rfl, D3, by omega, fun H4 x kp4 D4 hx => ?_⟩
          exact leaf _ _ (kp4.mono fun b => two_three) D4 (kp4 _ _ nr hr3) ⟨.int (x : Nat), by simp [Dt.sz], by simp [Dt.thg]; omega, by simp [Dt.dep], .int _⟩
      refine ⟨_, rfl, _, _, rfl, rfl, _, rfl, iD (fun _ => small) fun e2 => ?_⟩
      have hd2 : 2 ≤ d := by have := of_decide_eq_false e2; omega
      refine ⟨_, rfl, r, _, _, _, rfl, rfl, .of hr3, rfl, _, _, rfl, rfl, _, rfl, iD (fun _ => small) fun _ => ?_⟩
      refine ⟨_, rfl, rfl, _, rfl, iD (fun _ => small) fun _ => ?_⟩
      refine ⟨by decide, fun L nL => ?_⟩
      have s4 : Same H3 (upd H3 L (.lst [])) := Sm.new nL
      refine ⟨_, rfl, _, rfl, by omega, by omega, ?_⟩
      rw [Int.toNat_natCast]
      have hLm : ¬ three m l r L := fun h => by
        have : NoTup (H3 L) := trivial |> fun _ => by rw [nL]; trivial
        rcases h with h | h | h
        · exact D3.ne nL (.inl h)
        · exact D3.ne nL (.inr h)
        · rw [h, hr3] at nL; cases nL
      refine for_it walk_range (fun i σ H' => ∃ (ts : List Dt) (acc : List V) (o : Option V), Kp (fun b => three m l r b ∨ b = L) H3 H' ∧ Drw H' m c l (N + 2 + 4 * Dt.szs ts) ∧ H' r = some (.lst [.int ((q - 1 - Dt.szs ts : Nat) : Int)]) ∧ Dt.szs ts ≤ q - 1 ∧ H' L = some (.lst acc) ∧ IsAll K H' acc ts ∧ Dt.thgs ts = true ∧ Dt.deps ts ≤ d - 1 ∧
        σ = [some (.ref m), some (.int (d : Nat)), some (.ref r), some (.int (way : Nat)), some (.int (many : Nat)), some (.ref L), o]) ?_ ?_ ?_ ?_
      · exact ⟨[], [], none, .sm s4, (D3.sm s4).mono (by simp [Dt.szs]), by simp only [Dt.szs, Nat.sub_zero]; exact s4 _ _ hr3, by simp [Dt.szs], upd_same, .nil, rfl, by simp [Dt.deps], rfl⟩
      · intro i σ H' _ _
        trivial
      · rintro i x σ H5 H4 hi ⟨ts, acc, o, kp4, D4, hr4, hs4, hL4, il, tt, td, rfl⟩ ⟨rfl, rfl⟩
        have e0 : ((0 : Nat) : Int) = 0 := rfl
        refine ⟨_, rfl, r, _, _, _, rfl, rfl, .of hr4, rfl, _, _, rfl, rfl, _, rfl, iD (fun e5 => ?_) fun _ => ?_⟩
        · have hpos : 1 ≤ q - 1 - Dt.szs ts := by have := of_decide_eq_true e5; omega
          refine ⟨_, rfl, .inl ⟨rfl, _, .of hL4⟩, _, rfl, _, rfl, _, _, rfl, rfl, _, rfl, ?_⟩
          refine ⟨m, c, l, r, N + 2 + 4 * Dt.szs ts, d - 1, q - 1 - Dt.szs ts, ?_, D4, by omega, hr4, hrl, hrc, hpos, by omega, by omega, by omega, fun H6 v t kp6 D6 hr6 hz6 iv tg dp => ?_⟩
          · show [V.ref m, V.int ((d : Int) - 1), V.ref r] = _
            rw [show ((d : Int) - 1) = ((d - 1 : Nat) : Int) by omega]
          have hL6 := kp6 _ _ hLm hL4
          have up6 : Up K H4 H6 := Kp.up (D4.nt3 hr4) kp6
          have hsz : Dt.szs (ts ++ [t]) = Dt.szs ts + t.sz := by rw [Dt.szs_append]; simp [Dt.szs]
          have hLne : ∀ b, three m l r b → b ≠ L := fun b hb e => hLm (e ▸ hb)
          refine ⟨L, acc, v, rfl, rfl, hL6, lt_line ?_, ?_⟩
          · rw [il.len]
            have := Dt.szs_len ts
            omega
          · have uL : Up K H6 (upd H6 L (.lst (acc ++ [v]))) := .lst hL6
            refine ⟨ts ++ [t], acc ++ [v], _, ?_, ?_, ?_, by omega, upd_same, ((il.up up6).append (.one iv)).up uL, ?_, ?_, rfl⟩
            · intro b o hb h
              have hb1 : ¬ three m l r b := fun z => hb (.inl z)
              rw [upd_ne (fun e => hb (.inr e))]
              exact kp6 b o hb1 (kp4 b o hb h)
            · have := D6.put (r := L) (o := .lst (acc ++ [v])) (fun e => hLm (.inl e)) (fun e => by
                obtain ⟨n, cs, ls, g1, g2, _⟩ := D3.ex
                rw [e, g2] at nL
                cases nL) (fun e => hLm (.inr (.inl e)))
              exact this.mono (by omega)
            · rw [upd_ne (hLne r (.inr (.inr rfl))), hr6, hsz]
              congr 5
              omega
            · exact (Dt.thgs_iff _).mpr fun z hz => by
                rcases List.mem_append.mp hz with hz | hz
                · exact (Dt.thgs_iff ts).mp tt z hz
                · rw [List.mem_singleton] at hz
                  rw [hz]
                  exact tg
            · refine (Dt.deps_le _ _).mpr fun z hz => ?_
              rcases List.mem_append.mp hz with hz | hz
              · exact (Dt.deps_le ts _).mp td z hz
              · rw [List.mem_singleton] at hz
                rw [hz]
                exact dp
        · exact ⟨ts, acc, _, kp4, D4, hr4, hs4, hL4, il, tt, td, rfl⟩
      · rintro σ H4 ⟨ts, acc, o, kp4, D4, hr4, hs4, hL4, il, tt, td, rfl⟩
        refine ⟨_, rfl, L, acc, rfl, .inl ⟨.of hL4, fun p np => ?_⟩⟩
        have s5 : Same H4 (upd H4 p (.tup acc)) := Sm.new np
        have hsz : (Dt.tup ts).sz = 1 + Dt.szs ts := by simp only [Dt.sz]
        refine qq _ (.ref p) (.tup ts) ?_ ?_ ?_ (by omega) (Is.new np il) (by simp only [Dt.thg]; exact tt) (by simp only [Dt.dep]; omega)
        · intro b o hb h
          have h3 := kp3 b o hb h
          exact s5 _ _ (kp4 b o (fun z => by
            rcases z with z | z
            · exact hb z
            · rw [z, nL] at h3; cases h3) h3)
        · exact (D4.sm s5).mono (by rw [hsz]; omega)
        · rw [s5 _ _ hr4, hsz]
          congr 5
          omega
end
end Wf
set_option Elab.async false
set_option linter.all false
set_option maxRecDepth 100000
set_option maxHeartbeats 400000
namespace Wf
open PySem PySem.Spec PyProof.Rows L2
section
variable {P : Program} {w : World} {K : PySem.W.Frag} {mg : Str → Option Value} {base : Heap}
def kdD (k : Knd) : Dt := .tup (k.map fun c => .tup (c.map Dt.int))
def spKind1 (K : PySem.W.Frag) : Sp := fun vs H Q _ => ∃ m c l N, vs = [.ref m] ∧ Drw H m c l N ∧ N ≤ 2 ^ 19 ∧ ∀ H' a kv hv k, Kp (two m l) H H' → Drw H' m c l (N + 4) → KOk k → SqT K H' a [kv, hv] → Is K H' kv (kdD k) → Q (.ref a) H'
theorem pair_in {H : Hp} {p : Addr} (n : H p = none) (a b : Int) : Is K (upd H p (.tup [.int a, .int b])) (.ref p) (.tup [.int a, .int b]) := Is.new n (.cons (.int a) (.one (.int b)))
theorem ok_law_kind {k : Nat} (T : Tx w K mg) (c_law_draw : Cal P w K mg base k "_law_draw" (spDraw K)) : Cal P w K mg base (k + 1) "_law_kind" (spKind1 K) := by
  refine Tx.cal T.f_law_kind T.g_law_kind T.b_law_kind sc_law_kind ?_ ?_
  · rintro vs H Q E ⟨m, c, l, N, rfl, _⟩
    rfl
  · rintro cdv A outer s0 H vs Q E hr ⟨m, c, l, N, rfl, D, hN, q⟩
    refine ⟨_, (pss_cons (ps_par (i := 1) (j := 2) rfl sc_law_kind.nd rfl rfl (by decide) rfl rfl (pa_cons (pe_c c_law_draw hr (Nat.le_refl _) (by rfl) (pa_cons (pv 0) (pa_cons pe_int pa_nil))) (pa_cons (pe_ix (ixL K) (pe_lst (pa_cons pe_str (pa_cons pe_str (pa_cons pe_str (pa_cons pe_str pa_nil))))) (pe_c c_law_draw hr (Nat.le_refl _) (by rfl) (pa_cons (pv 0) (pa_cons pe_int pa_nil))) (fun _ _ => rfl)) pa_nil)) rfl) (pss_cons (ps_par (i := 3) (j := 4) rfl sc_law_kind.nd rfl rfl (by decide) rfl rfl (pa_cons (pe_c c_law_draw hr (Nat.le_refl _) (by rfl) (pa_cons (pv 0) (pa_cons pe_int pa_nil))) (pa_cons (pe_op op_add pe_int (pe_c c_law_draw hr (Nat.le_refl _) (by rfl) (pa_cons (pv 0) (pa_cons pe_int pa_nil)))) pa_nil)) rfl) (pss_cons (ps_set (i := 5) sc_law_kind.nd rfl (by first | exact Or.inl rfl | exact Or.inr rfl) (pe_lst (pa_cons (pe_tup pa_nil) (pa_cons (pe_tup (pa_cons (pe_tup (pa_cons pe_int (pa_cons pe_int pa_nil))) pa_nil)) (pa_cons (pe_tup (pa_cons (pe_tup (pa_cons pe_int (pa_cons pe_int pa_nil))) (pa_cons (pe_tup (pa_cons pe_int (pa_cons pe_int pa_nil))) pa_nil))) (pa_cons (pe_tup (pa_cons (pe_tup (pa_cons (pv 3) (pa_cons (pe_op op_add (pv 3) (pv 4)) pa_nil))) (pa_cons (pe_tup (pa_cons (pe_op op_add (pe_op op_add (pv 3) (pv 4)) pe_int) (pa_cons pe_int pa_nil))) pa_nil))) pa_nil)))))) (pss_one (ps_ret (pe_tup (pa_cons (pe_ifExp (pt_cmpR op_lt (pe_op op_add (pv 3) (pv 4)) pe_int (nomark _)) (pe_ix (ixL K) (pv 5) (pv 1) (fun _ _ => rfl)) (pe_tup pa_nil)) (pa_cons (pv 2) pa_nil)))))))), ?_⟩
    refine ⟨_, rfl, m, c, l, N, 4, rfl, by decide, by decide, D, by omega, fun H1 way kp1 D1 hw => ?_⟩
    refine ⟨le_line (by show 4 ≤ 16777216; decide), fun L nL => ?_⟩
    have s1 : Same H1 (upd H1 L (.lst [.str "rows", .str "rows", .str "lots", .str "turned"])) := Sm.new nL
    have hLs := D1.ne nL
    refine ⟨_, rfl, m, c, l, N + 1, 4, rfl, by decide, by decide, D1.sm s1, by omega, fun H2 y kp2 D2 hy => ?_⟩
    have hL2 := kp2 _ _ hLs upd_same
    have kp12 : Kp (two m l) H H2 := kp1.trans ((Kp.sm s1).trans kp2)
    have hat : ∃ z : Str, atI [V.str "rows", .str "rows", .str "lots", .str "turned"] (y : Int) = some (.str z) := by
      match y, hy with
      | 0, _ => exact ⟨_, rfl⟩
      | 1, _ => exact ⟨_, rfl⟩
      | 2, _ => exact ⟨_, rfl⟩
      | 3, _ => exact ⟨_, rfl⟩
      | n + 4, h => omega
    obtain ⟨how, hat⟩ := hat
    refine ⟨L, _, _, _, rfl, rfl, .of hL2, hat, _, _, rfl, ?_⟩
    refine ⟨_, rfl, m, c, l, N + 1 + 1, 90, rfl, by decide, by decide, D2, by omega, fun H3 one kp3 D3 h1 => ?_⟩
    refine ⟨_, rfl, m, c, l, N + 1 + 1 + 1, 9, rfl, by decide, by decide, D3, by omega, fun H4 oth kp4 D4 h2 => ⟨_, _, rfl, rfl, _, _, rfl, ?_⟩⟩
    have kp14 := kp12.trans (kp3.trans kp4)
    refine ⟨by decide, fun p0 n0 => ?_⟩
    have t1 : Same H4 (upd H4 p0 (.tup [])) := Sm.new n0
    have i0 : Is K (upd H4 p0 (.tup [])) (.ref p0) (kdD []) := Is.new n0 .nil
    refine ⟨line2, fun p1 n1 => ⟨line1, fun p2 n2 => ?_⟩⟩
    have t2 : Same _ (upd _ p1 (.tup [.int 0, .int 1])) := Sm.new n1
    have t3 : Same _ (upd _ p2 (.tup [.ref p1])) := Sm.new n2
    have i2 : Is K _ (.ref p2) (kdD [[0, 1]]) := Is.new n2 (.one (pair_in n1 0 1))
    refine ⟨line2, fun p3 n3 => ⟨line2, fun p4 n4 => ⟨line2, fun p5 n5 => ?_⟩⟩⟩
    have t4 : Same _ (upd _ p3 (.tup [.int 0, .int 5])) := Sm.new n3
    have t5 : Same _ (upd _ p4 (.tup [.int 1, .int 2])) := Sm.new n4
    have t6 : Same _ (upd _ p5 (.tup [.ref p3, .ref p4])) := Sm.new n5
    have i5 : Is K _ (.ref p5) (kdD [[0, 5], [1, 2]]) := Is.new n5 (.cons ((pair_in n3 0 5).sm t5) (.one (pair_in n4 1 2)))
    refine ⟨_, rfl, _, rfl, _, rfl, _, _, rfl, rfl, line2, fun p6 n6 => ?_⟩
    refine ⟨_, rfl, _, rfl, _, _, rfl, rfl, _, _, rfl, rfl, line2, fun p7 n7 => ⟨line2, fun p8 n8 => ?_⟩⟩
    have t7 : Same _ (upd _ p6 (.tup [.int (one : Nat), .int ((one : Nat) + (1 + (oth : Nat)))])) := Sm.new n6
    have t8 : Same _ (upd _ p7 (.tup [.int ((one : Nat) + (1 + (oth : Nat)) + 1), .int 99])) := Sm.new n7
    have t9 : Same _ (upd _ p8 (.tup [.ref p6, .ref p7])) := Sm.new n8
    have i8 : Is K _ (.ref p8) (kdD [[(one : Nat), (one : Nat) + (1 + (oth : Nat))], [(one : Nat) + (1 + (oth : Nat)) + 1, 99]]) := Is.new n8 (.cons ((pair_in n6 _ _).sm t8) (.one (pair_in n7 _ _)))
    refine ⟨le_line (by show 4 ≤ 16777216; decide), fun L2 nL2 => ?_⟩
    have t10 : Same _ (upd _ L2 (.lst [.ref p0, .ref p2, .ref p5, .ref p8])) := Sm.new nL2
    have i0' := i0.sm (t2.trans (t3.trans (t4.trans (t5.trans (t6.trans (t7.trans (t8.trans (t9.trans t10))))))))
    have i2' := i2.sm (t4.trans (t5.trans (t6.trans (t7.trans (t8.trans (t9.trans t10))))))
    have i5' := i5.sm (t7.trans (t8.trans (t9.trans t10)))
    have i8' := i8.sm t10
    have all : Same H4 _ := t1.trans (t2.trans (t3.trans (t4.trans (t5.trans (t6.trans (t7.trans (t8.trans (t9.trans t10))))))))
    refine genH (fun H5 => H5 L2 = some (.lst [.ref p0, .ref p2, .ref p5, .ref p8]) ∧ Same H4 H5 ∧ Is K H5 (.ref p0) (kdD []) ∧ Is K H5 (.ref p2) (kdD [[0, 1]]) ∧ Is K H5 (.ref p5) (kdD [[0, 5], [1, 2]]) ∧ Is K H5 (.ref p8) (kdD [[(one : Nat), (one : Nat) + (1 + (oth : Nat))], [(one : Nat) + (1 + (oth : Nat)) + 1, 99]])) ⟨upd_same, all, i0', i2', i5', i8'⟩ fun H5 h5 => ?_
    obtain ⟨hL5, s5, j0, j2, j5, j8⟩ := h5
    have kp15 := kp14.trans (Kp.sm s5)
    have D5 := D4.sm s5
    refine ⟨_, rfl, _, rfl, _, _, rfl, rfl, _, _, rfl, rfl, _, rfl, iD (fun e => ?_) fun e => ?_⟩
    · have hlt := of_decide_eq_true e
      have hsel : ∃ v k, atI [V.ref p0, .ref p2, .ref p5, .ref p8] (way : Int) = some v ∧ KOk k ∧ Is K H5 v (kdD k) := by
        match way, hw with
        | 0, _ => exact ⟨_, [], rfl, .none, j0⟩
        | 1, _ => exact ⟨_, _, rfl, .one 0 1 (by decide) (by decide) (by decide), j2⟩
        | 2, _ => exact ⟨_, _, rfl, .two 0 5 1 2 (by decide) (by decide) (by decide) (by decide) (by decide) (by decide) (by decide) (by decide), j5⟩
        | 3, _ => exact ⟨_, _, rfl, .two _ _ _ _ (by omega) (by omega) (by omega) (by omega) (by omega) (by omega) (by omega) (by omega), j8⟩
        | n + 4, h => omega
      obtain ⟨v, kk, hv, hk, iv⟩ := hsel
      refine ⟨_, rfl, _, rfl, L2, _, _, v, rfl, rfl, .of hL5, hv, _, rfl, line2, fun p9 n9 => ?_⟩
      have s9 : Same H5 (upd H5 p9 (.tup [v, .str how])) := Sm.new n9
      exact q _ p9 v (.str how) kk (kp15.trans (.sm s9)) (D5.sm s9) hk (.of upd_same) (iv.sm s9)
    · refine ⟨by decide, fun e0 ne0 => ⟨_, rfl, line2, fun p9 n9 => ?_⟩⟩
      have s8 : Same H5 (upd H5 e0 (.tup [])) := Sm.new ne0
      have s9 : Same (upd H5 e0 (.tup [])) (upd (upd H5 e0 (.tup [])) p9 (.tup [.ref e0, .str how])) := Sm.new n9
      exact q _ p9 (.ref e0) (.str how) [] (kp15.trans (.sm (s8.trans s9))) (D5.sm (s8.trans s9)) .none (.of upd_same) ((Is.new ne0 .nil : Is K _ (.ref e0) (kdD [])).sm s9)
def spKBR (K : PySem.W.Frag) : Sp := fun vs H Q _ => ∃ m c l N, vs = [.ref m] ∧ Drw H m c l N ∧ N ≤ 2 ^ 19 ∧ ∀ H' v k, Kp (two m l) H H' → Drw H' m c l (N + 4) → KOk k → Is K H' v (Knd.dt k) → Q v H'
theorem ok_law_kind_by_rows {k : Nat} (T : Tx w K mg) (c_law_kind : Cal P w K mg base k "_law_kind" (spKind1 K)) : Cal P w K mg base (k + 1) "_law_kind_by_rows" (spKBR K) := by
  refine Tx.cal T.f_law_kind_by_rows T.g_law_kind_by_rows T.b_law_kind_by_rows sc_law_kind_by_rows ?_ ?_
  · rintro vs H Q E ⟨m, c, l, N, rfl, _⟩
    rfl
  · rintro cdv A outer s0 H vs Q E hr ⟨m, c, l, N, rfl, D, hN, q⟩
    refine ⟨_, (pss_one (ps_ret (pe_tup (pa_cons (pe_ix ix_tup (pe_c c_law_kind hr (Nat.le_refl _) (by rfl) (pa_cons (pv 0) pa_nil)) pe_int (fun _ _ => rfl)) (pa_cons pe_str pa_nil))))), ?_⟩
    refine ⟨_, rfl, m, c, l, N, rfl, D, hN, fun H1 a kv hv kk kp1 D1 hk sq iv => ?_⟩
    refine ⟨a, _, _, kv, rfl, rfl, sq, rfl, line2, fun p np => ?_⟩
    have s1 : Same H1 (upd H1 p (.tup [kv, .str "rows"])) := Sm.new np
    exact q _ (.ref p) kk (kp1.trans (.sm s1)) (D1.sm s1) hk (Is.new np (.cons iv (.one (.str _))))
end
end Wf
set_option Elab.async false
set_option linter.all false
set_option maxRecDepth 100000
set_option maxHeartbeats 400000
namespace Wf
open PySem PySem.Spec PyProof.Rows L2
section
variable {P : Program} {w : World} {K : PySem.W.Frag} {mg : Str → Option Value} {base : Heap}
theorem tor {ta tb : TT} {σ : L2.St} {H : Hp} {b1 b2 : Bool} {k : Bool → Hp → Prop} (ha : ∀ k : Bool → Hp → Prop, k b1 H → ta σ H k) (hb : ∀ k : Bool → Hp → Prop, k b2 H → tb σ H k) (h : k (b1 || b2) H) : tOr ta tb σ H k :=
  ha _ (by
    cases b1 with
    | true => exact h
    | false => exact hb _ h)
theorem torS {ta tb : TT} {t u v : TS} {D : Ends} {σ : L2.St} {H : Hp} {b1 b2 : Bool} (ha : ∀ k : Bool → Hp → Prop, k b1 H → ta σ H k) (hb : ∀ k : Bool → Hp → Prop, k b2 H → tb σ H k)
    (h : if (b1 || b2) = true then t { D with nx := v D } σ H else u { D with nx := v D } σ H) : tSeq (tIfS (tOr ta tb) t u) v D σ H := tor ha hb h
def Pt.str1 : Pt → Bool
  | .any => true
  | .lone .all _ => true
  | _ => false
mutual
def Pt.pl : Pt → Bool
  | .any => true
  | .is_ _ => true
  | .two _ p q => p.pl && q.pl
  | .lone _ p => p.pl
  | .row s => s.pl
def Its.pl : Its → Bool
  | .nil => true
  | .cons false p s => p.pl && s.pl
  | .cons true p s => p.str1 && (p.pl && s.pl)
end
def Its.snoc : Its → Bool → Pt → Its
  | .nil, b, p => .cons b p .nil
  | .cons a q s, b, p => .cons a q (s.snoc b p)
theorem Its.snoc_dts : ∀ (s : Its) (b : Bool) (p : Pt), (s.snoc b p).dts = s.dts ++ [.tup [.str (itW b), p.dt]]
  | .nil, b, p => by simp [Its.snoc, Its.dts]
  | .cons a q s, b, p => by simp [Its.snoc, Its.dts, Its.snoc_dts s b p]
theorem Its.snoc_ok : ∀ (s : Its) (b : Bool) (p : Pt), s.ok → p.ok → (s.snoc b p).ok
  | .nil, b, p, _, h => by simp only [Its.snoc, Its.ok]; exact ⟨h, trivial⟩
  | .cons a q s, b, p, k, h => by
    simp only [Its.ok] at k
    simp only [Its.snoc, Its.ok]
    exact ⟨k.1, Its.snoc_ok s b p k.2 h⟩
theorem Its.snoc_pl : ∀ (s : Its) (b : Bool) (p : Pt), s.pl = true → p.pl = true → (b = true → p.str1 = true) → (s.snoc b p).pl = true
  | .nil, b, p, _, h, g => by
    cases b with
    | false => simp [Its.snoc, Its.pl, h]
    | true => simp [Its.snoc, Its.pl, h, g rfl]
  | .cons false q s, b, p, k, h, g => by
    simp only [Its.pl, Bool.and_eq_true] at k
    simp only [Its.snoc, Its.pl, Bool.and_eq_true]
    exact ⟨k.1, Its.snoc_pl s b p k.2 h g⟩
  | .cons true q s, b, p, k, h, g => by
    simp only [Its.pl, Bool.and_eq_true] at k
    simp only [Its.snoc, Its.pl, Bool.and_eq_true]
    exact ⟨k.1, k.2.1, Its.snoc_pl s b p k.2.2 h g⟩
theorem Its.snoc_len : ∀ (s : Its) (b : Bool) (p : Pt), (s.snoc b p).len = s.len + 1
  | .nil, b, p => rfl
  | .cons a q s, b, p => by simp [Its.snoc, Its.len, Its.snoc_len s b p]
theorem Its.snoc_dp : ∀ (s : Its) (b : Bool) (p : Pt), (s.snoc b p).dp = max s.dp p.dp
  | .nil, b, p => by simp [Its.snoc, Its.dp]
  | .cons a q s, b, p => by simp only [Its.snoc, Its.dp, Its.snoc_dp s b p]; omega
theorem Its.snoc_pcs : ∀ (s : Its) (b : Bool) (p : Pt), (s.snoc b p).pcs = s.pcs + p.pcs
  | .nil, b, p => by simp [Its.snoc, Its.pcs]
  | .cons a q s, b, p => by simp only [Its.snoc, Its.pcs, Its.snoc_pcs s b p]; omega
def bnd : Nat → Nat
  | 0 => 6
  | 1 => 6
  | d + 1 => 4 + 3 * bnd d
def cdr : Nat → Nat
  | 0 => 8
  | d + 1 => 8 + 3 * cdr d
theorem bnd_step (d : Nat) (h : 1 ≤ d) : bnd (d + 1) = 4 + 3 * bnd d := by
  cases d with
  | zero => omega
  | succ d => simp [bnd]
theorem bnd_pos : ∀ d, 6 ≤ bnd d
  | 0 => by simp [bnd]
  | 1 => by simp [bnd]
  | d + 2 => by have := bnd_pos (d + 1); rw [bnd_step (d + 1) (by omega)]; omega
theorem cdr_mono (d : Nat) : cdr d + 8 ≤ cdr (d + 1) := by simp only [cdr]; omega
structure PlOk (p : Pt) (d : Nat) : Prop where
  ok : p.ok
  pl : p.pl = true
  dp : p.dp ≤ 2 * d
  pcs : p.pcs ≤ bnd d
def spPlain (K : PySem.W.Frag) (n : Nat) : Sp := fun vs H Q _ => ∃ (m c l r : Addr) (N d : Nat) (q : Int), vs = [.ref m, .int (d : Nat), .ref r] ∧ Drw H m c l N ∧ N + cdr d ≤ 2 ^ 18 ∧ H r = some (.lst [.int q]) ∧ r ≠ l ∧ r ≠ c ∧ 1 ≤ d ∧ d ≤ n ∧
  ∀ H' v p q', Kp (three m l r) H H' → Drw H' m c l (N + cdr d) → H' r = some (.lst [.int q']) → Is K H' v (Pt.dt p) → PlOk p d → Q v H'
structure ItOk (s : Bool) (p : Pt) (d : Nat) : Prop where
  ok : p.ok
  pl : p.pl = true
  st : s = true → p.str1 = true
  dp : p.dp ≤ 2 * d + 1
  pcs : p.pcs ≤ bnd d + 1
def spItem (K : PySem.W.Frag) (n : Nat) : Sp := fun vs H Q _ => ∃ (m c l r : Addr) (N d : Nat) (q : Int), vs = [.ref m, .int ((d + 1 : Nat) : Int), .ref r] ∧ Drw H m c l N ∧ N + 1 + cdr d ≤ 2 ^ 18 ∧ H r = some (.lst [.int q]) ∧ r ≠ l ∧ r ≠ c ∧ 1 ≤ d ∧ d ≤ n ∧
  ∀ H' v s p q', Kp (three m l r) H H' → Drw H' m c l (N + 1 + cdr d) → H' r = some (.lst [.int q']) → Is K H' v (.tup [.str (itW s), Pt.dt p]) → ItOk s p d → Q v H'
theorem Drw.nem {H : Hp} {m c l r : Addr} {N : Nat} {xs : List V} (D : Drw H m c l N) (hr : H r = some (.lst xs)) : r ≠ m := fun e => by
  obtain ⟨n, cs, ls, g1, _⟩ := D.ex
  rw [e, g1] at hr
  cases hr
theorem set0 {H : Hp} {m c l r : Addr} {N : Nat} {q : Int} {v : V} (D : Drw H m c l N) (hr : H r = some (.lst [.int q])) (h1 : r ≠ l) (h2 : r ≠ c) (q' : Int) (hv : v = .int q') :
    (upd H r (.lst ([V.int q].set 0 v))) r = some (.lst [.int q']) ∧ Kp (three m l r) H (upd H r (.lst ([V.int q].set 0 v))) ∧ Drw (upd H r (.lst ([V.int q].set 0 v))) m c l N := by
  subst hv
  refine ⟨by rw [upd_same]; rfl, fun b o hb h => ?_, D.put (D.nem hr) h2 h1⟩
  rw [upd_ne (fun e => hb (.inr (.inr e)))]
  exact h
theorem ok_law_plain_item {k n : Nat} (T : Tx w K mg) (c_law_draw : Cal P w K mg base k "_law_draw" (spDraw K)) (c_law_plain_in : Cal P w K mg base k "_law_plain_in" (spPlain K n)) : Cal P w K mg base (k + 1) "_law_plain_item" (spItem K n) := by
  refine Tx.cal T.f_law_plain_item T.g_law_plain_item T.b_law_plain_item sc_law_plain_item ?_ ?_
  · rintro vs H Q E ⟨m, c, l, r, N, d, q, rfl, _⟩
    rfl
  · rintro cdv A outer s0 H vs Q E hr ⟨m, c, l, r, N, d, q, rfl, D, hN, hrm, hrl, hrc, d1, dn, qq⟩
    refine ⟨_, (pss_cons (ps_set (i := 3) sc_law_plain_item.nd rfl (by first | exact Or.inl rfl | exact Or.inr rfl) (pe_c c_law_draw hr (Nat.le_refl _) (by rfl) (pa_cons (pv 0) (pa_cons pe_int pa_nil)))) (pss_cons (ps_if (pt_cmpR op_eq (pv 3) pe_int (nomark _)) (pss_cons (ps_asg (pe_op op_sub (pe_ix (ixL K) (pv 2) pe_int (fun _ _ => rfl)) pe_int) (pg_sub (pv 2) pe_int set_list)) (pss_one (ps_ret (pe_tup (pa_cons pe_str (pa_cons (pe_tup (pa_cons pe_str pa_nil)) pa_nil)))))) pss_nil) (pss_cons (ps_asg (pe_op op_sub (pe_ix (ixL K) (pv 2) pe_int (fun _ _ => rfl)) (pe_callTy call_int1 (by rfl) T.z_int boot_int (pa_cons (pe_cmpR op_eq (pv 3) pe_int (nomark _)) pa_nil))) (pg_sub (pv 2) pe_int set_list)) (pss_cons (ps_set (i := 4) sc_law_plain_item.nd rfl (by first | exact Or.inl rfl | exact Or.inr rfl) (pe_c c_law_plain_in hr (Nat.le_refl _) (by rfl) (pa_cons (pv 0) (pa_cons (pe_op op_sub (pv 1) pe_int) (pa_cons (pv 2) pa_nil))))) (pss_one (ps_ret (pe_ifExp (pt_cmpR op_eq (pv 3) pe_int (nomark _)) (pe_tup (pa_cons pe_str (pa_cons (pe_tup (pa_cons pe_str (pa_cons (pv 4) pa_nil))) pa_nil))) (pe_tup (pa_cons pe_str (pa_cons (pv 4) pa_nil)))))))))), ?_⟩
    have nr : ¬ two m l r := by
      rintro (h | h)
      · exact D.nem hrm h
      · exact hrl h
    refine ⟨_, rfl, m, c, l, N, 4, rfl, by decide, by decide, D, by omega, fun H1 way kp1 D1 hw => ?_⟩
    have hr1 := kp1 _ _ nr hrm
    have kp1' : Kp (three m l r) H H1 := kp1.mono fun b => two_three
    refine ⟨_, rfl, rfl, _, rfl, iD (fun e => ?_) fun e => ?_⟩
    · refine ⟨_, rfl, r, _, _, _, rfl, rfl, .of hr1, rfl, _, _, rfl, rfl, _, rfl, r, _, _, 0, rfl, rfl, hr1, rfl, ?_⟩
      refine genH (fun H2 => H2 r = some (.lst [.int (q - 1)]) ∧ Kp (three m l r) H1 H2 ∧ Drw H2 m c l (N + 1)) (set0 D1 hr1 hrl hrc (q - 1) rfl) fun H2 h2 => ?_
      obtain ⟨hr2, kp2, D2⟩ := h2
      refine ⟨line1, fun p1 n1 => ⟨line2, fun p2 n2 => ?_⟩⟩
      have s1 : Same H2 (upd H2 p1 (.tup [.str "any"])) := Sm.new n1
      have s2 : Same (upd H2 p1 (.tup [.str "any"])) (upd (upd H2 p1 (.tup [.str "any"])) p2 (.tup [.str "stretch", .ref p1])) := Sm.new n2
      have s12 := s1.trans s2
      refine qq _ (.ref p2) true .any (q - 1) (kp1'.trans (kp2.trans (.sm s12))) ((D2.sm s12).mono (by omega)) (s12 _ _ hr2) (Is.new n2 (.cons (.str _) (.one (any_is n1)))) ⟨trivial, rfl, fun _ => rfl, by simp [Pt.dp], by have := bnd_pos d; simp only [Pt.pcs]; omega⟩
    · refine ⟨_, rfl, r, _, _, _, rfl, rfl, .of hr1, rfl, _, rfl, rfl, .inr ⟨_, rfl, _, _, rfl, rfl, _, rfl, r, _, _, 0, rfl, rfl, hr1, rfl, ?_⟩⟩
      generalize hz : (q - if decide (V.int (way : Nat) = V.int 1) = true then 1 else 0) = z
      refine genH (fun H2 => H2 r = some (.lst [.int z]) ∧ Kp (three m l r) H1 H2 ∧ Drw H2 m c l (N + 1)) (set0 D1 hr1 hrl hrc z (by rw [← hz])) fun H2 h2 => ?_
      obtain ⟨hr2, kp2, D2⟩ := h2
      refine ⟨_, rfl, _, rfl, _, _, rfl, rfl, _, rfl, ?_⟩
      refine ⟨m, c, l, r, N + 1, d, z, ?_, D2, by omega, hr2, hrl, hrc, d1, dn, fun H3 v p q' kp3 D3 hr3 iv po => ?_⟩
      · show [V.ref m, V.int (((d + 1 : Nat) : Int) - 1), V.ref r] = _
        rw [show (((d + 1 : Nat) : Int) - 1) = ((d : Nat) : Int) by omega]
      have kp := kp1'.trans (kp2.trans kp3)
      refine ⟨_, rfl, rfl, _, rfl, iD (fun e2 => ?_) fun e2 => ?_⟩
      · refine ⟨_, rfl, line2, fun p1 n1 => ⟨line2, fun p2 n2 => ?_⟩⟩
        have s1 : Same H3 (upd H3 p1 (.tup [.str "all", v])) := Sm.new n1
        have s2 : Same (upd H3 p1 (.tup [.str "all", v])) (upd (upd H3 p1 (.tup [.str "all", v])) p2 (.tup [.str "stretch", .ref p1])) := Sm.new n2
        have s12 := s1.trans s2
        have i1 : Is K (upd H3 p1 (.tup [.str "all", v])) (.ref p1) (Pt.dt (.lone .all p)) := Is.new n1 (.cons (.str _) (.one iv))
        exact qq _ (.ref p2) true (.lone .all p) q' (kp.trans (.sm s12)) (D3.sm s12) (s12 _ _ hr3) (Is.new n2 (.cons (.str _) (.one i1))) ⟨by simp only [Pt.ok]; exact po.ok, by simp only [Pt.pl]; exact po.pl, fun _ => rfl, by have := po.dp; simp only [Pt.dp]; omega, by have := po.pcs; simp only [Pt.pcs]; omega⟩
      · refine ⟨_, rfl, line2, fun p2 n2 => ?_⟩
        have s2 : Same H3 (upd H3 p2 (.tup [.str "one", v])) := Sm.new n2
        exact qq _ (.ref p2) false p q' (kp.trans (.sm s2)) (D3.sm s2) (s2 _ _ hr3) (Is.new n2 (.cons (.str _) (.one iv))) ⟨po.ok, po.pl, (fun h => (nomatch h)), by have := po.dp; omega, by have := po.pcs; omega⟩
theorem IsAll.atI {H : Hp} {xs : List V} {l : List Dt} {j : Nat} {d : Dt} (h : IsAll K H xs l) (e : l[j]? = some d) : ∃ v, atI xs (j : Int) = some v ∧ Is K H v d := by
  obtain ⟨v, h1, h2⟩ := h.get e
  exact ⟨v, atI_nat0 h1, h2⟩
def rowsD (x : Dt) : List Dt := [.tup [], .tup [x], .tup [x, x], .tup [.tup [x], x], .tup [.tup [], .tup [.int 1, .tup [x]]]]
theorem rowsD_good {x : Nat} (hx : x ≤ 99) {y : Nat} (hy : y < 5) : ∃ d, (rowsD (.int (x : Nat)))[y]? = some d ∧ d.good ∧ d.sz ≤ 6 := by
  have h : ((0 : Int) ≤ (x : Nat)) ∧ (((x : Nat) : Int) ≤ 99) := by omega
  match y, hy with
  | 0, _ => exact ⟨_, rfl, ⟨by simp [Dt.thg, Dt.thgs], by simp [Dt.dep, Dt.deps], by simp [Dt.sz, Dt.szs]⟩, by simp [Dt.sz, Dt.szs]⟩
  | 1, _ => exact ⟨_, rfl, ⟨by simp [Dt.thg, Dt.thgs]; omega, by simp [Dt.dep, Dt.deps], by simp [Dt.sz, Dt.szs]⟩, by simp [Dt.sz, Dt.szs]⟩
  | 2, _ => exact ⟨_, rfl, ⟨by simp [Dt.thg, Dt.thgs]; omega, by simp [Dt.dep, Dt.deps], by simp [Dt.sz, Dt.szs]⟩, by simp [Dt.sz, Dt.szs]⟩
  | 3, _ => exact ⟨_, rfl, ⟨by simp [Dt.thg, Dt.thgs]; omega, by simp [Dt.dep, Dt.deps], by simp [Dt.sz, Dt.szs]⟩, by simp [Dt.sz, Dt.szs]⟩
  | 4, _ => exact ⟨_, rfl, ⟨by simp [Dt.thg, Dt.thgs]; omega, by simp [Dt.dep, Dt.deps], by simp [Dt.sz, Dt.szs]⟩, by simp [Dt.sz, Dt.szs]⟩
  | n + 5, h => omega
theorem Drw.upw {H H' : Hp} {m c l : Addr} {N : Nat} (D : Drw H m c l N) (kp : Kp (two m l) H H') : Up K H H' := Kp.up D.nt kp
theorem is_plok {t : Dt} (h : t.good) (h6 : t.sz ≤ 6) {d : Nat} (hd : 1 ≤ d) : PlOk (.is_ t) d := ⟨by simp only [Pt.ok]; exact h, rfl, by simp only [Pt.dp]; omega, by have := bnd_pos d; simp only [Pt.pcs]; omega⟩
theorem ok_law_plain_in {k n : Nat} (T : Tx w K mg) (c_law_draw : Cal P w K mg base k "_law_draw" (spDraw K)) (c_law_leaf : Cal P w K mg base k "_law_leaf" (spLeaf1 K)) (c_law_plain_in : Cal P w K mg base k "_law_plain_in" (spPlain K n)) (c_law_plain_item : Cal P w K mg base k "_law_plain_item" (spItem K n)) :
    Cal P w K mg base (k + 1) "_law_plain_in" (spPlain K (n + 1)) := by
  refine Tx.cal T.f_law_plain_in T.g_law_plain_in T.b_law_plain_in sc_law_plain_in ?_ ?_
  · rintro vs H Q E ⟨m, c, l, r, N, d, q, rfl, _⟩
    rfl
  · rintro cdv A outer s0 H vs Q E hr ⟨m, c, l, r, N, d, q, rfl, D, hN, hrm, hrl, hrc, d1, dn, qq⟩
    refine ⟨_, (pss_cons (ps_set (i := 3) sc_law_plain_in.nd rfl (by first | exact Or.inl rfl | exact Or.inr rfl) (pe_c c_law_draw hr (Nat.le_refl _) (by rfl) (pa_cons (pv 0) (pa_cons pe_int pa_nil)))) (pss_cons (ps_asg (pe_op op_sub (pe_ix (ixL K) (pv 2) pe_int (fun _ _ => rfl)) pe_int) (pg_sub (pv 2) pe_int set_list)) (pss_cons (ps_if (pw_or (pt_cmpR op_lt (pv 1) pe_int (nomark _)) (pw_or (pt_cmpR op_lt (pe_ix (ixL K) (pv 2) pe_int (fun _ _ => rfl)) pe_int (nomark _)) (pw_or1 (pt_cmpR op_lt (pv 3) pe_int (nomark _))))).pt (pss_cons (ps_set (i := 4) sc_law_plain_in.nd rfl (by first | exact Or.inl rfl | exact Or.inr rfl) (pe_ix (ixL K) (pe_lst (pa_cons pe_int (pa_cons pe_int (pa_cons pe_int (pa_cons (pe_c c_law_leaf hr (Nat.le_refl _) (by rfl) (pa_cons (pv 0) pa_nil)) pa_nil))))) (pe_c c_law_draw hr (Nat.le_refl _) (by rfl) (pa_cons (pv 0) (pa_cons pe_int pa_nil))) (fun _ _ => rfl))) (pss_cons (ps_set (i := 5) sc_law_plain_in.nd rfl (by first | exact Or.inl rfl | exact Or.inr rfl) (pe_lst (pa_cons (pe_tup pa_nil) (pa_cons (pe_tup (pa_cons (pv 4) pa_nil)) (pa_cons (pe_tup (pa_cons (pv 4) (pa_cons (pv 4) pa_nil))) (pa_cons (pe_tup (pa_cons (pe_tup (pa_cons (pv 4) pa_nil)) (pa_cons (pv 4) pa_nil))) (pa_cons (pe_tup (pa_cons (pe_tup pa_nil) (pa_cons (pe_tup (pa_cons pe_int (pa_cons (pe_tup (pa_cons (pv 4) pa_nil)) pa_nil))) pa_nil))) pa_nil))))))) (pss_one (ps_ret (pe_ix (ixL K) (pe_lst (pa_cons (pe_tup (pa_cons pe_str pa_nil)) (pa_cons (pe_tup (pa_cons pe_str (pa_cons (pv 4) pa_nil))) (pa_cons (pe_tup (pa_cons pe_str (pa_cons (pv 4) pa_nil))) (pa_cons (pe_tup (pa_cons pe_str (pa_cons (pe_ix (ixL K) (pv 5) (pe_c c_law_draw hr (Nat.le_refl _) (by rfl) (pa_cons (pv 0) (pa_cons pe_int pa_nil))) (fun _ _ => rfl)) pa_nil))) pa_nil))))) (pe_op op_mod (pv 3) pe_int) (fun _ _ => rfl)))))) pss_nil) (pss_cons (ps_if (pt_cmpR op_lt (pv 3) pe_int (nomark _)) (pss_cons (ps_set (i := 6) sc_law_plain_in.nd rfl (by first | exact Or.inl rfl | exact Or.inr rfl) (pe_lst pa_nil)) (pss_cons (ps_for PassesOwn.never rfl (pi_range1 (by rfl) T.z_range (pa_cons (pe_c c_law_draw hr (Nat.le_refl _) (by rfl) (pa_cons (pv 0) (pa_cons pe_int pa_nil))) pa_nil)) (pg_name (i := 7) sc_law_plain_in.nd rfl (by first | exact Or.inl rfl | exact Or.inr rfl)) (pss_one (ps_expr (pe_bm PySem.F.plainAttrs_list PySem.F.slot_list_append PySem.F.type_list_append mt_append (pv 6) (pa_cons (pe_c c_law_plain_item hr (Nat.le_refl _) (by rfl) (pa_cons (pv 0) (pa_cons (pv 1) (pa_cons (pv 2) pa_nil)))) pa_nil))))) (pss_one (ps_ret (pe_tup (pa_cons pe_str (pa_cons (pe_callTy call_tuple_of (by rfl) T.z_tuple boot_tuple (pa_cons (pv 6) pa_nil)) pa_nil))))))) pss_nil) (pss_cons (ps_set (i := 8) sc_law_plain_in.nd rfl (by first | exact Or.inl rfl | exact Or.inr rfl) (pe_c c_law_plain_in hr (Nat.le_refl _) (by rfl) (pa_cons (pv 0) (pa_cons (pe_op op_sub (pv 1) pe_int) (pa_cons (pv 2) pa_nil))))) (pss_cons (ps_if (pt_cmpR op_lt (pv 3) pe_int (nomark _)) (pss_cons (ps_set (i := 9) sc_law_plain_in.nd rfl (by first | exact Or.inl rfl | exact Or.inr rfl) (pe_c c_law_plain_in hr (Nat.le_refl _) (by rfl) (pa_cons (pv 0) (pa_cons (pe_op op_sub (pv 1) pe_int) (pa_cons (pv 2) pa_nil))))) (pss_one (ps_ret (pe_tup (pa_cons (pe_ix (ixL K) (pe_lst (pa_cons pe_str (pa_cons pe_str pa_nil))) (pe_op op_mod (pv 3) pe_int) (fun _ _ => rfl)) (pa_cons (pv 8) (pa_cons (pv 9) pa_nil))))))) pss_nil) (pss_cons (ps_set (i := 10) sc_law_plain_in.nd rfl (by first | exact Or.inl rfl | exact Or.inr rfl) (pe_ix (ixL K) (pe_lst (pa_cons pe_str (pa_cons pe_str (pa_cons pe_str (pa_cons pe_str pa_nil))))) (pe_op op_add (pe_op op_mul pe_int (pe_op op_sub (pv 3) pe_int)) (pe_c c_law_draw hr (Nat.le_refl _) (by rfl) (pa_cons (pv 0) (pa_cons pe_int pa_nil)))) (fun _ _ => rfl))) (pss_one (ps_ret (pe_tup (pa_cons (pv 10) (pa_cons (pv 8) pa_nil)))))))))))), ?_⟩
    have nr : ¬ two m l r := by
      rintro (h | h)
      · exact D.nem hrm h
      · exact hrl h
    have hcd : cdr d = 8 + 3 * cdr (d - 1) := by
      obtain ⟨e, rfl⟩ : ∃ e, d = e + 1 := ⟨d - 1, by omega⟩
      simp [cdr]
    have hcd8 : 8 ≤ cdr (d - 1) := by
      cases d - 1 with
      | zero => simp [cdr]
      | succ e => simp only [cdr]; omega
    refine ⟨_, rfl, m, c, l, N, 14, rfl, by decide, by decide, D, by omega, fun H1 way kp1 D1 hw => ?_⟩
    have hr1 := kp1 _ _ nr hrm
    refine ⟨_, rfl, r, _, _, _, rfl, rfl, .of hr1, rfl, _, _, rfl, rfl, _, rfl, r, _, _, 0, rfl, rfl, hr1, rfl, ?_⟩
    refine genH (fun H2 => H2 r = some (.lst [.int (q - 1)]) ∧ Kp (three m l r) H1 H2 ∧ Drw H2 m c l (N + 1)) (set0 D1 hr1 hrl hrc (q - 1) rfl) fun H2 h2 => ?_
    obtain ⟨hr2, kp2, D2⟩ := h2
    have kp02 : Kp (three m l r) H H2 := (kp1.mono fun b => two_three).trans kp2
    dsimp only
    refine torS (b1 := decide ((d : Int) < 2)) (b2 := (decide ((q - 1) < 3) || decide ((way : Int) < 4))) ?_ ?_ ?_
    · intro k hk
      exact ⟨_, rfl, _, _, rfl, rfl, _, rfl, hk⟩
    · intro k hk
      refine tor (b1 := decide ((q - 1) < 3)) (b2 := decide ((way : Int) < 4)) ?_ ?_ hk
      · intro k hk
        exact ⟨_, rfl, r, _, _, _, rfl, rfl, .of hr2, rfl, _, _, rfl, rfl, _, rfl, hk⟩
      · intro k hk
        exact ⟨_, rfl, _, _, rfl, rfl, _, rfl, hk⟩
    refine iD (fun _ => ?_) fun e => ?_
    · -- a leaf
      refine ⟨_, rfl, m, c, l, N + 1, rfl, D2, by omega, fun H3 x kp3 D3 hx => ⟨le_line (by show 4 ≤ 16777216; decide), fun L nL => ?_⟩⟩
      have sL : Same H3 (upd H3 L (.lst [.int 0, .int 1, .int 2, .int (x : Nat)])) := Sm.new nL
      have hLs := D3.ne nL
      refine ⟨_, rfl, m, c, l, N + 1 + 2, 4, rfl, by decide, by decide, D3.sm sL, by omega, fun H4 y kp4 D4 hy => ?_⟩
      have hL4 := kp4 _ _ hLs upd_same
      have kp34 : Kp (two m l) H2 H4 := kp3.trans ((Kp.sm sL).trans kp4)
      have hr4 := kp34 _ _ nr hr2
      have hat : ∃ z : Nat, z ≤ 99 ∧ atI [V.int 0, .int 1, .int 2, .int (x : Nat)] (y : Int) = some (.int (z : Nat)) := by
        match y, hy with
        | 0, _ => exact ⟨0, by omega, rfl⟩
        | 1, _ => exact ⟨1, by omega, rfl⟩
        | 2, _ => exact ⟨2, by omega, rfl⟩
        | 3, _ => exact ⟨x, by omega, rfl⟩
        | n + 4, h => omega
      obtain ⟨z, hz, hat⟩ := hat
      refine ⟨L, _, _, _, rfl, rfl, .of hL4, hat, ?_⟩
      have kp04 : Kp (three m l r) H H4 := kp02.trans (kp34.mono fun b => two_three)
      refine ⟨by decide, fun a0 n0 => ?_⟩
      refine ⟨_, rfl, line1, fun a1 n1 => ⟨_, rfl, _, rfl, line2, fun a2 n2 => ⟨_, rfl, line1, fun a3 n3 => ⟨_, rfl, line2, fun a4 n4 => ⟨by decide, fun a5 n5 => ⟨_, rfl, line1, fun a6 n6 => ⟨line2, fun a7 n7 => ⟨line2, fun a8 n8 => ⟨le_line (by show 5 ≤ 16777216; decide), fun Lr nr' => ?_⟩⟩⟩⟩⟩⟩⟩⟩⟩
      have t0 : Same _ (upd _ a0 (.tup [])) := Sm.new n0
      have t1 : Same _ (upd _ a1 (.tup [.int (z : Nat)])) := Sm.new n1
      have t2 : Same _ (upd _ a2 (.tup [.int (z : Nat), .int (z : Nat)])) := Sm.new n2
      have t3 : Same _ (upd _ a3 (.tup [.int (z : Nat)])) := Sm.new n3
      have t4 : Same _ (upd _ a4 (.tup [.ref a3, .int (z : Nat)])) := Sm.new n4
      have t5 : Same _ (upd _ a5 (.tup [])) := Sm.new n5
      have t6 : Same _ (upd _ a6 (.tup [.int (z : Nat)])) := Sm.new n6
      have t7 : Same _ (upd _ a7 (.tup [.int 1, .ref a6])) := Sm.new n7
      have t8 : Same _ (upd _ a8 (.tup [.ref a5, .ref a7])) := Sm.new n8
      have t9 : Same _ (upd _ Lr (.lst [.ref a0, .ref a1, .ref a2, .ref a4, .ref a8])) := Sm.new nr'
      have zI : ∀ {H : Hp}, Is K H (.int (z : Nat)) (.int (z : Nat)) := .int _
      have i0 : Is K _ (.ref a0) (.tup []) := Is.new n0 .nil
      have i1 : Is K _ (.ref a1) (.tup [.int (z : Nat)]) := Is.new n1 (.one zI)
      have i2 : Is K _ (.ref a2) (.tup [.int (z : Nat), .int (z : Nat)]) := Is.new n2 (.cons zI (.one zI))
      have i3 : Is K _ (.ref a3) (.tup [.int (z : Nat)]) := Is.new n3 (.one zI)
      have i4 : Is K _ (.ref a4) (.tup [.tup [.int (z : Nat)], .int (z : Nat)]) := Is.new n4 (.cons i3 (.one zI))
      have i5 : Is K _ (.ref a5) (.tup []) := Is.new n5 .nil
      have i6 : Is K _ (.ref a6) (.tup [.int (z : Nat)]) := Is.new n6 (.one zI)
      have i7 : Is K _ (.ref a7) (.tup [.int 1, .tup [.int (z : Nat)]]) := Is.new n7 (.cons (.int 1) (.one i6))
      have i8 : Is K _ (.ref a8) (.tup [.tup [], .tup [.int 1, .tup [.int (z : Nat)]]]) := Is.new n8 (.cons (i5.sm (t6.trans t7)) (.one i7))
      have irows : IsAll K _ [.ref a0, .ref a1, .ref a2, .ref a4, .ref a8] (rowsD (.int (z : Nat))) := .cons (i0.sm (t1.trans (t2.trans (t3.trans (t4.trans (t5.trans (t6.trans (t7.trans (t8.trans t9))))))))) (.cons (i1.sm (t2.trans (t3.trans (t4.trans (t5.trans (t6.trans (t7.trans (t8.trans t9)))))))) (.cons (i2.sm (t3.trans (t4.trans (t5.trans (t6.trans (t7.trans (t8.trans t9))))))) (.cons (i4.sm (t5.trans (t6.trans (t7.trans (t8.trans t9))))) (.one (i8.sm t9)))))
      have all : Same H4 _ := t0.trans (t1.trans (t2.trans (t3.trans (t4.trans (t5.trans (t6.trans (t7.trans (t8.trans t9))))))))
      have nLr : H4 Lr = none := t0.free (t1.free (t2.free (t3.free (t4.free (t5.free (t6.free (t7.free (t8.free nr'))))))))
      refine genH (fun H5 => H5 Lr = some (.lst [.ref a0, .ref a1, .ref a2, .ref a4, .ref a8]) ∧ Same H4 H5 ∧ IsAll K H5 [.ref a0, .ref a1, .ref a2, .ref a4, .ref a8] (rowsD (.int (z : Nat)))) ⟨upd_same, all, irows⟩ fun H5 h5 => ?_
      obtain ⟨hLr5, s45, irows5⟩ := h5
      have D5 := D4.sm s45
      have nLr2 := D4.ne nLr
      refine ⟨line1, fun b0 m0 => ⟨_, rfl, line2, fun b1 m1 => ⟨_, rfl, line2, fun b2 m2 => ?_⟩⟩⟩
      have u0 : Same H5 (upd H5 b0 (.tup [.str "any"])) := Sm.new m0
      have u1 : Same _ (upd _ b1 (.tup [.str "is", .int (z : Nat)])) := Sm.new m1
      have u2 : Same _ (upd _ b2 (.tup [.str "is", .int (z : Nat)])) := Sm.new m2
      have j0 : Is K _ (.ref b0) (Pt.dt .any) := any_is m0
      have j1 : Is K _ (.ref b1) (Pt.dt (.is_ (.int (z : Nat)))) := Is.new m1 (.cons (.str _) (.one zI))
      have j2 : Is K _ (.ref b2) (Pt.dt (.is_ (.int (z : Nat)))) := Is.new m2 (.cons (.str _) (.one zI))
      refine genH (fun H6 => Same H5 H6 ∧ Is K H6 (.ref b0) (Pt.dt .any) ∧ Is K H6 (.ref b1) (Pt.dt (.is_ (.int (z : Nat)))) ∧ Is K H6 (.ref b2) (Pt.dt (.is_ (.int (z : Nat))))) ⟨u0.trans (u1.trans u2), j0.sm (u1.trans u2), j1.sm u2, j2⟩ fun H6 h6 => ?_
      obtain ⟨s56, j0, j1, j2⟩ := h6
      have D6 := D5.sm s56
      refine ⟨_, rfl, _, rfl, m, c, l, _, 5, rfl, by decide, by decide, D6, by omega, fun H7 y2 kp7 D7 hy2 => ?_⟩
      have hLr7 := kp7 _ _ nLr2 (s56 _ _ hLr5)
      have up7 : Up K H6 H7 := D6.upw kp7
      have irows7 := (irows5.sm s56).up up7
      obtain ⟨tR, eR, gR, sR⟩ := rowsD_good hz hy2
      obtain ⟨vR, aR, iR⟩ := irows7.atI eR
      refine ⟨Lr, _, _, vR, rfl, rfl, .of hLr7, aR, line2, fun b3 m3 => ?_⟩
      have u3 : Same H7 (upd H7 b3 (.tup [.str "is", vR])) := Sm.new m3
      have j3 : Is K (upd H7 b3 (.tup [.str "is", vR])) (.ref b3) (Pt.dt (.is_ tR)) := Is.new m3 (.cons (.str _) (.one iR))
      refine ⟨le_line (by show 4 ≤ 16777216; decide), fun Lf nLf => ?_⟩
      have u4 : Same _ (upd _ Lf (.lst [.ref b0, .ref b1, .ref b2, .ref b3])) := Sm.new nLf
      have u34 := u3.trans u4
      have hr7 := kp7 _ _ nr ((s45.trans s56) _ _ hr4)
      have zg : (Dt.int (z : Nat)).good := ⟨by simp [Dt.thg]; omega, by simp [Dt.dep], by simp [Dt.sz]⟩
      have jall : ∃ p v, atI [V.ref b0, .ref b1, .ref b2, .ref b3] ((way : Int) % 4) = some v ∧ Is K (upd (upd H7 b3 (.tup [.str "is", vR])) Lf (.lst [.ref b0, .ref b1, .ref b2, .ref b3])) v (Pt.dt p) ∧ PlOk p d := by
        have e4 : ((way : Int) % 4) = ((way % 4 : Nat) : Int) := by omega
        rw [e4]
        have h4 : way % 4 < 4 := Nat.mod_lt _ (by decide)
        match way % 4, h4 with
        | 0, _ => exact ⟨.any, _, rfl, (j0.up up7).sm u34, ⟨trivial, rfl, by simp only [Pt.dp]; omega, by have := bnd_pos d; simp only [Pt.pcs]; omega⟩⟩
        | 1, _ => exact ⟨.is_ (.int (z : Nat)), _, rfl, (j1.up up7).sm u34, is_plok zg (by simp [Dt.sz]) d1⟩
        | 2, _ => exact ⟨.is_ (.int (z : Nat)), _, rfl, (j2.up up7).sm u34, is_plok zg (by simp [Dt.sz]) d1⟩
        | 3, _ => exact ⟨.is_ tR, _, rfl, j3.sm u4, is_plok gR sR d1⟩
        | n + 4, h => omega
      obtain ⟨p, v, av, iv, po⟩ := jall
      refine ⟨_, rfl, _, _, rfl, rfl, (by show (0 : Int) < 4; decide), Lf, _, _, v, rfl, rfl, .of upd_same, av, ?_⟩
      refine qq _ v p (q - 1) ?_ ((D7.sm u34).mono (by omega)) (u34 _ _ hr7) iv po
      exact kp04.trans ((Kp.sm (s45.trans s56)).trans ((kp7.mono fun b => two_three).trans (.sm u34)))
    · have e' : ¬ ((d : Int) < 2) ∧ ¬ (way : Int) < 4 := by
        simp only [Bool.or_eq_false_iff, decide_eq_false_iff_not] at e
        exact ⟨e.1, e.2.2⟩
      have hd2 : 2 ≤ d := by omega
      have hb : bnd d = 4 + 3 * bnd (d - 1) := by
        have := bnd_step (d - 1) (by omega)
        rw [show d - 1 + 1 = d by omega] at this
        exact this
      refine ⟨_, rfl, _, _, rfl, rfl, _, rfl, iD (fun _ => ?_) fun e8 => ?_⟩
      · -- a row
        refine ⟨by decide, fun L nL => ?_⟩
        have sL : Same H2 (upd H2 L (.lst [])) := Sm.new nL
        refine ⟨_, rfl, m, c, l, N + 1, 4, rfl, by decide, by decide, D2.sm sL, by omega, fun H3 many kp3 D3 hmn => ?_⟩
        refine ⟨_, rfl, by omega, by omega, ?_⟩
        rw [Int.toNat_natCast]
        have hLs := D2.ne nL
        have hL3 := kp3 _ _ hLs upd_same
        have hLm : ¬ three m l r L := fun h => by
          rcases h with h | h | h
          · exact hLs (.inl h)
          · exact hLs (.inr h)
          · rw [h, hr2] at nL; cases nL
        have hr3 := kp3 _ _ nr (sL _ _ hr2)
        have kp23 : Kp (fun b => three m l r b ∨ b = L) H2 H3 := (Kp.sm sL).trans (kp3.mono fun b h => .inl (two_three h))
        refine for_it walk_range (fun i σ H' => ∃ (s : Its) (acc : List V) (o : Option V) (q' : Int), Kp (fun b => three m l r b ∨ b = L) H2 H' ∧ Drw H' m c l (N + 2 + i * (1 + cdr (d - 1))) ∧ H' r = some (.lst [.int q']) ∧ H' L = some (.lst acc) ∧ IsAll K H' acc s.dts ∧
          s.ok ∧ s.pl = true ∧ s.len = i ∧ s.dp ≤ 2 * (d - 1) + 1 ∧ s.pcs ≤ i * (bnd (d - 1) + 1) ∧
          σ = [some (.ref m), some (.int (d : Nat)), some (.ref r), some (.int (way : Nat)), none, none, some (.ref L), o, none, none, none]) ?_ ?_ ?_ ?_
        · exact ⟨.nil, [], none, q - 1, kp23, D3.mono (by omega), hr3, hL3, .nil, trivial, rfl, rfl, by simp [Its.dp], by simp [Its.pcs], rfl⟩
        · intro i σ H' _ _
          trivial
        · rintro i x σ H5 H4 hi ⟨s, acc, o, q', kp4, D4, hr4, hL4, il, so, sp, sl, sd, sc, rfl⟩ ⟨rfl, rfl⟩
          have hib : i * (1 + cdr (d - 1)) ≤ 2 * (1 + cdr (d - 1)) := Nat.mul_le_mul_right _ (by omega)
          refine ⟨_, rfl, .inl ⟨rfl, _, .of hL4⟩, _, rfl, _, rfl, _, rfl, ?_⟩
          refine ⟨m, c, l, r, N + 2 + i * (1 + cdr (d - 1)), d - 1, q', ?_, D4, by omega, hr4, hrl, hrc, by omega, by omega, fun H6 v b p q6 kp6 D6 hr6 iv io => ?_⟩
          · show [V.ref m, V.int (d : Nat), V.ref r] = _
            rw [show ((d : Nat) : Int) = ((d - 1 + 1 : Nat) : Int) by omega]
          have hL6 := kp6 _ _ hLm hL4
          have up6 : Up K H4 H6 := Kp.up (D4.nt3 hr4) kp6
          refine ⟨L, acc, v, rfl, rfl, hL6, lt_line ?_, ?_⟩
          · rw [il.len, Its.dts_len]
            omega
          have uL : Up K H6 (upd H6 L (.lst (acc ++ [v]))) := .lst hL6
          have hsucc : (i + 1) * (1 + cdr (d - 1)) = i * (1 + cdr (d - 1)) + (1 + cdr (d - 1)) := Nat.succ_mul _ _
          have hsucc2 : (i + 1) * (bnd (d - 1) + 1) = i * (bnd (d - 1) + 1) + (bnd (d - 1) + 1) := Nat.succ_mul _ _
          have hdp := io.dp
          have hpc := io.pcs
          refine ⟨s.snoc b p, acc ++ [v], _, q6, ?_, ?_, ?_, upd_same, ?_, s.snoc_ok b p so io.ok, s.snoc_pl b p sp io.pl io.st, by rw [s.snoc_len]; omega, by rw [s.snoc_dp]; omega, by rw [s.snoc_pcs]; omega, rfl⟩
          · intro b' o' hb' h
            rw [upd_ne (fun e => hb' (.inr e))]
            exact kp6 b' o' (fun z => hb' (.inl z)) (kp4 b' o' hb' h)
          · have := D6.put (r := L) (o := .lst (acc ++ [v])) (fun e => hLm (.inl e)) (fun e => by
              obtain ⟨n, cs, ls, g1, g2, _⟩ := D2.ex
              rw [e, g2] at nL
              cases nL) (fun e => hLm (.inr (.inl e)))
            exact this.mono (by omega)
          · rw [upd_ne (fun e => hLm (.inr (.inr e.symm)))]
            exact hr6
          · rw [s.snoc_dts]
            exact ((il.up up6).append (.one iv)).up uL
        · rintro σ H4 ⟨s, acc, o, q', kp4, D4, hr4, hL4, il, so, sp, sl, sd, sc, rfl⟩
          have hm3 : many ≤ 3 := by omega
          have hib : many * (1 + cdr (d - 1)) ≤ 3 * (1 + cdr (d - 1)) := Nat.mul_le_mul_right _ hm3
          have hib2 : many * (bnd (d - 1) + 1) ≤ 3 * (bnd (d - 1) + 1) := Nat.mul_le_mul_right _ hm3
          refine ⟨_, rfl, L, acc, rfl, .inl ⟨.of hL4, fun p np => ⟨line2, fun p2 np2 => ?_⟩⟩⟩
          have s5 : Same H4 (upd H4 p (.tup acc)) := Sm.new np
          have s6 : Same (upd H4 p (.tup acc)) (upd (upd H4 p (.tup acc)) p2 (.tup [.str "row", .ref p])) := Sm.new np2
          have s56 := s5.trans s6
          refine qq _ (.ref p2) (.row s) q' ?_ ((D4.sm s56).mono (by omega)) (s56 _ _ hr4) (Is.new np2 (.cons (.str _) (.one (Is.new np il)))) ⟨by simp only [Pt.ok]; exact ⟨by omega, so⟩, by simp only [Pt.pl]; exact sp, by simp only [Pt.dp]; omega, by simp only [Pt.pcs]; omega⟩
          intro b o hb h
          have h3 := kp02 b o hb h
          exact s56 _ _ (kp4 b o (fun z => by
            rcases z with z | z
            · exact hb z
            · rw [z, nL] at h3; cases h3) h3)
      · have h8 : 8 ≤ way := by have := of_decide_eq_false e8; omega
        refine ⟨_, rfl, _, rfl, _, _, rfl, rfl, _, rfl, ?_⟩
        refine ⟨m, c, l, r, N + 1, d - 1, q - 1, ?_, D2, by omega, hr2, hrl, hrc, by omega, by omega, fun H3 v1 p1 q3 kp3 D3 hr3 iv1 po1 => ?_⟩
        · show [V.ref m, V.int ((d : Int) - 1), V.ref r] = _
          rw [show ((d : Int) - 1) = ((d - 1 : Nat) : Int) by omega]
        have dp1 := po1.dp
        have pc1 := po1.pcs
        refine ⟨_, rfl, _, _, rfl, rfl, _, rfl, iD (fun _ => ?_) fun e12 => ?_⟩
        · refine ⟨_, rfl, _, rfl, _, _, rfl, rfl, _, rfl, ?_⟩
          refine ⟨m, c, l, r, N + 1 + cdr (d - 1), d - 1, q3, ?_, D3, by omega, hr3, hrl, hrc, by omega, by omega, fun H4 v2 p2 q4 kp4 D4 hr4 iv2 po2 => ?_⟩
          · show [V.ref m, V.int ((d : Int) - 1), V.ref r] = _
            rw [show ((d : Int) - 1) = ((d - 1 : Nat) : Int) by omega]
          have dp2 := po2.dp
          have pc2 := po2.pcs
          refine ⟨line2, fun Lw nLw => ?_⟩
          have s5 : Same H4 (upd H4 Lw (.lst [.str "both", .str "either"])) := Sm.new nLw
          have hw2 : ∃ b : Bool, atI [V.str "both", .str "either"] ((way : Int) % 2) = some (.str (twoW b)) := by
            have e2 : ((way : Int) % 2) = ((way % 2 : Nat) : Int) := by omega
            rw [e2]
            have h2 : way % 2 < 2 := Nat.mod_lt _ (by decide)
            match way % 2, h2 with
            | 0, _ => exact ⟨true, rfl⟩
            | 1, _ => exact ⟨false, rfl⟩
            | n + 2, h => omega
          obtain ⟨b, hb2⟩ := hw2
          refine ⟨_, rfl, _, _, rfl, rfl, (by show (0 : Int) < 2; decide), Lw, _, _, _, rfl, rfl, .of upd_same, hb2, _, rfl, _, rfl, line3, fun p np => ?_⟩
          have s6 : Same (upd H4 Lw (.lst [.str "both", .str "either"])) (upd (upd H4 Lw (.lst [.str "both", .str "either"])) p (.tup [.str (twoW b), v1, v2])) := Sm.new np
          have s56 := s5.trans s6
          have up4 : Up K H3 H4 := Kp.up (D3.nt3 hr3) kp4
          exact qq _ (.ref p) (.two b p1 p2) q4 (kp02.trans (kp3.trans (kp4.trans (.sm s56)))) ((D4.sm s56).mono (by omega)) (s56 _ _ hr4) (Is.new np (.cons (.str _) (.cons ((iv1.up up4).sm s5) (.one (iv2.sm s5)))))
            ⟨by simp only [Pt.ok]; exact ⟨po1.ok, po2.ok⟩, by simp only [Pt.pl, Bool.and_eq_true]; exact ⟨po1.pl, po2.pl⟩, by simp only [Pt.dp]; omega, by simp only [Pt.pcs]; omega⟩
        · have h12 : 12 ≤ way := by have := of_decide_eq_false e12; omega
          refine ⟨le_line (by show 4 ≤ 16777216; decide), fun Lw nLw => ?_⟩
          have s5 : Same H3 (upd H3 Lw (.lst [.str "not", .str "first", .str "all", .str "not"])) := Sm.new nLw
          have hLs := D3.ne nLw
          refine ⟨_, rfl, _, _, rfl, rfl, _, _, rfl, rfl, .inl ⟨by decide, by decide⟩, _, rfl, m, c, l, _, 2, rfl, by decide, by decide, D3.sm s5, by omega, fun H4 x kp4 D4 hx => ?_⟩
          have hLw4 := kp4 _ _ hLs upd_same
          have hw2 : ∃ w : Wf.Lw, atI [V.str "not", .str "first", .str "all", .str "not"] (2 * ((way : Int) - 12) + (x : Nat)) = some (.str w.word) := by
            have e2 : (2 * ((way : Int) - 12) + (x : Nat)) = ((2 * (way - 12) + x : Nat) : Int) := by omega
            rw [e2]
            have h2 : 2 * (way - 12) + x < 4 := by omega
            match 2 * (way - 12) + x, h2 with
            | 0, _ => exact ⟨.nt, rfl⟩
            | 1, _ => exact ⟨.first, rfl⟩
            | 2, _ => exact ⟨.all, rfl⟩
            | 3, _ => exact ⟨.nt, rfl⟩
            | n + 4, h => omega
          obtain ⟨lw, hlw⟩ := hw2
          refine ⟨_, _, rfl, rfl, Lw, _, _, _, rfl, rfl, .of hLw4, hlw, _, rfl, _, rfl, line2, fun p np => ?_⟩
          have s6 : Same H4 (upd H4 p (.tup [.str lw.word, v1])) := Sm.new np
          have up4 : Up K _ H4 := (D3.sm s5).upw kp4
          have hr4 := kp4 _ _ nr (s5 _ _ hr3)
          exact qq _ (.ref p) (.lone lw p1) q3 (kp02.trans (kp3.trans ((Kp.sm s5).trans ((kp4.mono fun b => two_three).trans (.sm s6))))) ((D4.sm s6).mono (by omega)) (s6 _ _ hr4) (Is.new np (.cons (.str _) (.one ((iv1.sm s5).up up4))))
            ⟨by simp only [Pt.ok]; exact po1.ok, by simp only [Pt.pl]; exact po1.pl, by simp only [Pt.dp]; omega, by simp only [Pt.pcs]; omega⟩
end
end Wf
set_option Elab.async false
set_option linter.all false
set_option maxRecDepth 100000
set_option maxHeartbeats 400000
namespace Wf
open PySem PySem.Spec PyProof.Rows L2
def Mt (k : Knd) (p : Pt) (t : Dt) : Bool := (wt k p t).isSome
theorem sum2_some (a b : Option Nat) : (sum2 a b).isSome = (a.isSome && b.isSome) := by cases a <;> cases b <;> rfl
theorem least2_some (a b : Option Nat) : (least2 a b).isSome = (a.isSome || b.isSome) := by cases a <;> cases b <;> rfl
theorem least_some (l : List (Option Nat)) : (least l).isSome = l.any Option.isSome := by
  unfold least
  induction l with
  | nil => rfl
  | cons a l ih => rw [List.foldr_cons, least2_some, ih, List.any_cons]
theorem Mt_any (k : Knd) (t : Dt) : Mt k .any t = true := by simp [Mt, wt]
theorem Mt_is (k : Knd) (d t : Dt) : Mt k (.is_ d) t = likeD k d t := by
  unfold Mt
  rw [wt]
  split
  · next h => rw [h]; rfl
  · next h =>
    cases e : likeD k d t with
    | true => exact absurd e h
    | false => rfl
theorem Mt_both (k : Knd) (p q : Pt) (t : Dt) : Mt k (.two true p q) t = (Mt k p t && Mt k q t) := by
  unfold Mt
  rw [wt, sum2_some]
theorem Mt_either (k : Knd) (p q : Pt) (t : Dt) : Mt k (.two false p q) t = (Mt k p t || Mt k q t) := by
  unfold Mt
  rw [wt, least2_some, sum2_some]
  rfl
theorem Mt_first (k : Knd) (p : Pt) (t : Dt) : Mt k (.lone .first p) t = Mt k p t := by
  unfold Mt
  rw [wt]
theorem Mt_all (k : Knd) (p : Pt) (l : List Dt) : Mt k (.lone .all p) (.tup l) = l.all (Mt k p) := by
  unfold Mt
  rw [wt]
  induction l with
  | nil => rfl
  | cons t l ih => rw [List.foldr_cons, sum2_some, ih, List.all_cons]
theorem Mt_all_int (k : Knd) (p : Pt) (i : Int) : Mt k (.lone .all p) (.int i) = false := by simp [Mt, wt]
theorem Mt_row (k : Knd) (s : Its) (l : List Dt) : Mt k (.row s) (.tup l) = (wts k s l).isSome := by
  unfold Mt
  rw [wt]
theorem Mt_row_int (k : Knd) (s : Its) (i : Int) : Mt k (.row s) (.int i) = false := by simp [Mt, wt]
abbrev Itm := Bool × (Dt → Bool)
def mI : List Itm → List Dt → Bool
  | [], l => l.isEmpty
  | (false, _) :: _, [] => false
  | (false, f) :: s, x :: l => f x && mI s l
  | (true, _) :: s, [] => mI s []
  | (true, f) :: s, x :: l => mI s (x :: l) || (f x && mI ((true, f) :: s) l)
termination_by s l => (s.length, l.length)
inductive Rr (I : List Itm) : Nat → List Dt → Prop
  | start : Rr I 0 []
  | skip {s : Nat} {l : List Dt} {f : Dt → Bool} : Rr I s l → I[s]? = some (true, f) → Rr I (s + 1) l
  | stay {s : Nat} {l : List Dt} {f : Dt → Bool} {x : Dt} : Rr I (s + 1) l → I[s]? = some (true, f) → f x = true → Rr I (s + 1) (l ++ [x])
  | one {s : Nat} {l : List Dt} {f : Dt → Bool} {x : Dt} : Rr I s l → I[s]? = some (false, f) → f x = true → Rr I (s + 1) (l ++ [x])
theorem mI_stretch (f : Dt → Bool) (s : List Itm) : ∀ l : List Dt, mI ((true, f) :: s) l = true ↔ ∃ n, n ≤ l.length ∧ (l.take n).all f = true ∧ mI s (l.drop n) = true
  | [] => by
    rw [mI]
    constructor
    · intro h
      exact ⟨0, Nat.zero_le _, rfl, h⟩
    · rintro ⟨n, _, _, h⟩
      simpa using h
  | x :: l => by
    rw [mI, Bool.or_eq_true, Bool.and_eq_true, mI_stretch f s l]
    constructor
    · rintro (h | ⟨hx, n, hn, ha, hm⟩)
      · exact ⟨0, Nat.zero_le _, rfl, h⟩
      · exact ⟨n + 1, by simp; omega, by simp [hx, ha], by simpa using hm⟩
    · rintro ⟨n, hn, ha, hm⟩
      cases n with
      | zero => exact .inl (by simpa using hm)
      | succ n =>
        simp only [List.take_succ_cons, List.all_cons, Bool.and_eq_true] at ha
        exact .inr ⟨ha.1, n, by simpa using hn, ha.2, by simpa using hm⟩
theorem Rr.from_ {I : List Itm} : ∀ (J A : List Itm) (l m : List Dt), I = A ++ J → Rr I A.length m → mI J l = true → Rr I I.length (m ++ l)
  | [], A, l, m, e, h, hm => by
    rw [mI] at hm
    have : l = [] := List.isEmpty_iff.mp hm
    subst this
    rw [List.append_nil] at e ⊢
    rw [e] at h ⊢
    exact h
  | (false, f) :: J, A, [], m, e, h, hm => by
    rw [mI] at hm
    cases hm
  | (false, f) :: J, A, x :: l, m, e, h, hm => by
    rw [mI, Bool.and_eq_true] at hm
    have g : I[A.length]? = some (false, f) := by rw [e]; simp
    have h2 := Rr.one h g hm.1
    have := Rr.from_ (I := I) J (A ++ [(false, f)]) l (m ++ [x]) (by rw [e]; simp) (by rw [List.length_append]; exact h2) hm.2
    simpa using this
  | (true, f) :: J, A, l, m, e, h, hm => by
    obtain ⟨n, hn, ha, hm⟩ := (mI_stretch f J l).mp hm
    have g : I[A.length]? = some (true, f) := by rw [e]; simp
    have st : ∀ (c m : List Dt), Rr I (A.length + 1) m → c.all f = true → Rr I (A.length + 1) (m ++ c) := by
      intro c
      induction c with
      | nil => intro m h _; rw [List.append_nil]; exact h
      | cons x c ih =>
        intro m h hc
        rw [List.all_cons, Bool.and_eq_true] at hc
        have := ih (m ++ [x]) (.stay h g hc.1) hc.2
        simpa using this
    have h2 := st (l.take n) m (.skip h g) ha
    have := Rr.from_ (I := I) J (A ++ [(true, f)]) (l.drop n) (m ++ l.take n) (by rw [e]; simp) (by rw [List.length_append]; exact h2) hm
    rw [List.append_assoc, List.take_append_drop] at this
    exact this
theorem mI_snoc_stretch (f : Dt → Bool) (x : Dt) (hx : f x = true) : ∀ (A : List Itm) (l : List Dt), mI (A ++ [(true, f)]) l = true → mI (A ++ [(true, f)]) (l ++ [x]) = true
  | [], l, h => by
    obtain ⟨n, hn, ha, hm⟩ := (mI_stretch f [] l).mp h
    refine (mI_stretch f [] (l ++ [x])).mpr ⟨l.length + 1, by simp, ?_, by simp [mI]⟩
    rw [mI] at hm
    have hd : l.drop n = [] := List.isEmpty_iff.mp hm
    have : l.take n = l := by
      have := List.take_append_drop n l
      rw [hd, List.append_nil] at this
      exact this
    rw [this] at ha
    rw [List.take_of_length_le (by simp), List.all_append, ha]
    simp [hx]
  | (false, g) :: A, [], h => by
    rw [List.cons_append, mI] at h
    cases h
  | (false, g) :: A, y :: l, h => by
    rw [List.cons_append, mI, Bool.and_eq_true] at h
    rw [List.cons_append, List.cons_append, mI, Bool.and_eq_true]
    exact ⟨h.1, mI_snoc_stretch f x hx A l h.2⟩
  | (true, g) :: A, l, h => by
    rw [List.cons_append] at h ⊢
    obtain ⟨n, hn, ha, hm⟩ := (mI_stretch g _ l).mp h
    refine (mI_stretch g _ (l ++ [x])).mpr ⟨n, by simp; omega, by rw [List.take_append_of_le_length hn]; exact ha, ?_⟩
    rw [List.drop_append_of_le_length hn]
    exact mI_snoc_stretch f x hx A _ hm
theorem mI_snoc_skip (f : Dt → Bool) : ∀ (A : List Itm) (l : List Dt), mI A l = true → mI (A ++ [(true, f)]) l = true
  | [], l, h => by
    rw [mI] at h
    have : l = [] := List.isEmpty_iff.mp h
    subst this
    simp [mI]
  | (false, g) :: A, [], h => by
    rw [mI] at h
    cases h
  | (false, g) :: A, y :: l, h => by
    rw [mI, Bool.and_eq_true] at h
    rw [List.cons_append, mI, Bool.and_eq_true]
    exact ⟨h.1, mI_snoc_skip f A l h.2⟩
  | (true, g) :: A, l, h => by
    obtain ⟨n, hn, ha, hm⟩ := (mI_stretch g _ l).mp h
    rw [List.cons_append]
    exact (mI_stretch g _ l).mpr ⟨n, hn, ha, mI_snoc_skip f A _ hm⟩
theorem mI_snoc_one (f : Dt → Bool) (x : Dt) (hx : f x = true) : ∀ (A : List Itm) (l : List Dt), mI A l = true → mI (A ++ [(false, f)]) (l ++ [x]) = true
  | [], l, h => by
    rw [mI] at h
    have : l = [] := List.isEmpty_iff.mp h
    subst this
    simp [mI, hx]
  | (false, g) :: A, [], h => by
    rw [mI] at h
    cases h
  | (false, g) :: A, y :: l, h => by
    rw [mI, Bool.and_eq_true] at h
    rw [List.cons_append, List.cons_append, mI, Bool.and_eq_true]
    exact ⟨h.1, mI_snoc_one f x hx A l h.2⟩
  | (true, g) :: A, l, h => by
    obtain ⟨n, hn, ha, hm⟩ := (mI_stretch g _ l).mp h
    rw [List.cons_append]
    refine (mI_stretch g _ (l ++ [x])).mpr ⟨n, by simp; omega, by rw [List.take_append_of_le_length hn]; exact ha, ?_⟩
    rw [List.drop_append_of_le_length hn]
    exact mI_snoc_one f x hx A _ hm
theorem Rr.mI {I : List Itm} {s : Nat} {l : List Dt} (h : Rr I s l) : s ≤ I.length ∧ Wf.mI (I.take s) l = true := by
  induction h with
  | start => exact ⟨Nat.zero_le _, by simp [Wf.mI]⟩
  | skip _ g ih =>
    have := (List.getElem?_eq_some_iff.mp g).1
    refine ⟨by omega, ?_⟩
    rw [List.take_add_one, g]
    exact mI_snoc_skip _ _ _ ih.2
  | stay _ g hx ih =>
    refine ⟨ih.1, ?_⟩
    have := ih.2
    rw [List.take_add_one, g] at this ⊢
    exact mI_snoc_stretch _ _ hx _ _ this
  | one _ g hx ih =>
    have := (List.getElem?_eq_some_iff.mp g).1
    refine ⟨by omega, ?_⟩
    rw [List.take_add_one, g]
    exact mI_snoc_one _ _ hx _ _ ih.2
theorem Rr_iff (I : List Itm) (l : List Dt) : Rr I I.length l ↔ mI I l = true := by
  constructor
  · intro h
    have := h.mI.2
    rw [List.take_length] at this
    exact this
  · intro h
    have := Rr.from_ I [] l [] rfl .start h
    simpa using this
def strF (k : Knd) : Pt → Dt → Bool
  | .any, _ => true
  | .lone .all q, t => Mt k q t
  | _, _ => false
def Its.itms (k : Knd) : Its → List Itm
  | .nil => []
  | .cons false p s => (false, Mt k p) :: s.itms k
  | .cons true p s => (true, strF k p) :: s.itms k
theorem strF_all {k : Knd} {p : Pt} (h : p.str1 = true) (l : List Dt) : Mt k p (.tup l) = l.all (strF k p) := by
  cases p with
  | any =>
    rw [Mt_any]
    symm
    rw [List.all_eq_true]
    intro _ _
    rfl
  | is_ d => simp [Pt.str1] at h
  | two b p q => simp [Pt.str1] at h
  | row s => simp [Pt.str1] at h
  | lone w p =>
    cases w with
    | nt => simp [Pt.str1] at h
    | first => simp [Pt.str1] at h
    | all =>
      rw [Mt_all]
      rfl
theorem any_range {n : Nat} {f : Nat → Bool} : ((List.range n).any f = true) ↔ ∃ i, i < n ∧ f i = true := by
  rw [List.any_eq_true]
  constructor
  · rintro ⟨i, hi, h⟩
    exact ⟨i, List.mem_range.mp hi, h⟩
  · rintro ⟨i, hi, h⟩
    exact ⟨i, List.mem_range.mpr hi, h⟩
theorem wts_mI (k : Knd) : ∀ (s : Its) (l : List Dt), s.pl = true → ((wts k s l).isSome = true ↔ mI (s.itms k) l = true)
  | .nil, l, _ => by
    simp only [wts, Its.itms, mI]
    cases l with
    | nil => simp
    | cons x l => simp
  | .cons false p s, [], _ => by simp [wts, Its.itms, mI]
  | .cons false p s, x :: l, h => by
    simp only [Its.pl, Bool.and_eq_true] at h
    simp only [wts, Its.itms, mI, sum2_some, Bool.and_eq_true]
    rw [wts_mI k s l h.2]
    rfl
  | .cons true p .nil, l, h => by
    simp only [Its.pl, Bool.and_eq_true] at h
    simp only [wts, Its.itms]
    rw [mI_stretch]
    have e := strF_all (k := k) h.1 l
    unfold Mt at e
    rw [e]
    constructor
    · intro ha
      exact ⟨l.length, Nat.le_refl _, by rw [List.take_length]; exact ha, by simp [mI]⟩
    · rintro ⟨n, hn, ha, hm⟩
      rw [mI] at hm
      have hd : l.drop n = [] := List.isEmpty_iff.mp hm
      have : l.take n = l := by
        have := List.take_append_drop n l
        rw [hd, List.append_nil] at this
        exact this
      rw [this] at ha
      exact ha
  | .cons true p (.cons b q s), l, h => by
    have h' := h
    simp only [Its.pl, Bool.and_eq_true] at h
    have hr : (Its.cons b q s).pl = true := h.2.2
    rw [show (Its.cons true p (.cons b q s)).itms k = (true, strF k p) :: (Its.cons b q s).itms k by simp [Its.itms]]
    rw [mI_stretch]
    simp only [wts]
    rw [least_some, List.any_map, any_range]
    constructor
    · rintro ⟨n, hn, hh⟩
      simp only [Function.comp, sum2_some, Option.isSome_some, Bool.true_and, Bool.and_eq_true] at hh
      refine ⟨n, by omega, ?_, (wts_mI k (.cons b q s) (l.drop n) hr).mp hh.2⟩
      rw [← strF_all h.1]
      exact hh.1
    · rintro ⟨n, hn, ha, hm⟩
      refine ⟨n, by omega, ?_⟩
      simp only [Function.comp, sum2_some, Option.isSome_some, Bool.true_and, Bool.and_eq_true]
      refine ⟨?_, (wts_mI k (.cons b q s) (l.drop n) hr).mpr hm⟩
      have := strF_all (k := k) h.1 (l.take n)
      unfold Mt at this
      rw [this]
      exact ha
def isItms (k : Knd) (d : List Dt) : List Itm := d.map fun e => (false, fun t => likeD k e t)
theorem like_mI (k : Knd) : ∀ (d l : List Dt), likeDs k d l = mI (isItms k d) l
  | [], [] => by simp [likeDs, isItms, mI]
  | [], _ :: _ => by simp [likeDs, isItms, mI]
  | _ :: _, [] => by simp [likeDs, isItms, mI]
  | e :: d, t :: l => by
    have ih := like_mI k d l
    unfold isItms at ih ⊢
    rw [List.map_cons, likeDs, mI, ih]
theorem likeD_comm (k : Knd) : ∀ a b : Int, likeD k (.int a) (.int b) = likeD k (.int b) (.int a) := by
  intro a b
  simp only [likeD]
  congr 1
  · by_cases h : a = b
    · simp [h]
    · have h' : ¬ b = a := fun e => h e.symm
      simp [h, h']
  · congr 1
    funext c
    rw [Bool.and_comm]
end Wf
set_option Elab.async false
set_option linter.all false
set_option maxRecDepth 100000
set_option maxHeartbeats 400000
namespace Wf
open PySem PySem.Spec PyProof.Rows L2
section
variable {P : Program} {w : World} {K : PySem.W.Frag} {mg : Str → Option Value} {base : Heap}
theorem ok_plains {k : Nat} (T : Tx w K mg) (c1 : Cal P w K mg base k "_law_draw" (spDraw K)) (c2 : Cal P w K mg base k "_law_leaf" (spLeaf1 K)) : ∀ n, Cal P w K mg base (k + 2 * n) "_law_plain_in" (spPlain K n)
  | 0 => Cal.no T.g_law_plain_in T.f_law_plain_in.kp T.b_law_plain_in (by
      rintro vs H Q E ⟨m, c, l, r, N, d, q, _, _, _, _, _, _, h1, h2, _⟩
      omega)
  | n + 1 => by
    have f := ok_plains T c1 c2 n
    have it := ok_law_plain_item T (c1.up (show k ≤ k + 2 * n by omega)) f
    exact ok_law_plain_in T (c1.up (show k ≤ k + 2 * n + 1 by omega)) (c2.up (show k ≤ k + 2 * n + 1 by omega)) (f.up (show k + 2 * n ≤ k + 2 * n + 1 by omega)) it
mutual
def Pt.lv : Pt → Nat
  | .any => 1
  | .is_ d => 1 + d.dep
  | .two _ p q => 1 + max p.lv q.lv
  | .lone _ p => 1 + p.lv
  | .row l => 1 + l.lv
def Its.lv : Its → Nat
  | .nil => 0
  | .cons _ p l => max p.lv l.lv
end
mutual
theorem Pt.lv_le : ∀ p : Pt, p.ok → p.lv ≤ p.dp + 5
  | .any, _ => by simp [Pt.lv, Pt.dp]
  | .is_ d, h => by
    simp only [Pt.ok] at h
    have := h.dep
    simp only [Pt.lv, Pt.dp]
    omega
  | .two _ p q, h => by
    simp only [Pt.ok] at h
    have := Pt.lv_le p h.1
    have := Pt.lv_le q h.2
    simp only [Pt.lv, Pt.dp]
    omega
  | .lone _ p, h => by
    simp only [Pt.ok] at h
    have := Pt.lv_le p h
    simp only [Pt.lv, Pt.dp]
    omega
  | .row l, h => by
    simp only [Pt.ok] at h
    have := Its.lv_le l h.2
    simp only [Pt.lv, Pt.dp]
    omega
theorem Its.lv_le : ∀ l : Its, l.ok → l.lv ≤ l.dp + 5
  | .nil, _ => by simp [Its.lv]
  | .cons _ p l, h => by
    simp only [Its.ok] at h
    have := Pt.lv_le p h.1
    have := Its.lv_le l h.2
    simp only [Its.lv, Its.dp]
    omega
end
theorem Its.lv_mem : ∀ {l : Its} {p : Pt}, p ∈ l.pats → p.lv ≤ l.lv
  | .nil, _, h => by cases h
  | .cons _ q l, p, h => by
    simp only [Its.lv]
    rcases List.mem_cons.mp h with rfl | h
    · omega
    · have := Its.lv_mem h
      omega
theorem Its.pcs_pats : ∀ l : Its, l.pcs = sumN (l.pats.map Pt.pcs)
  | .nil => by simp [Its.pcs, Its.pats, sumN]
  | .cons _ p l => by simp [Its.pcs, Its.pats, sumN, Its.pcs_pats l]
def spPcs (K : PySem.W.Frag) (n : Nat) : Sp := fun vs H Q _ => ∃ v p, vs = [v] ∧ Is K H v (Pt.dt p) ∧ p.ok ∧ p.lv ≤ n ∧ p.pcs ≤ 1000 ∧ ∀ H' a (xs : List V), Same H H' → H a = none → H' a = some (.lst xs) → xs.length = p.pcs → Q (.ref a) H'
theorem ok_law_pieces {k : Nat} (T : Tx w K mg) : ∀ n, Cal P w K mg base (k + n) "_law_pieces" (spPcs K n)
  | 0 => Cal.no T.g_law_pieces T.f_law_pieces.kp T.b_law_pieces (by
      rintro vs H Q E ⟨v, p, _, _, _, h, _⟩
      cases p <;> simp [Pt.lv] at h)
  | n + 1 => by
    have c_law_pieces := ok_law_pieces (k := k) T n
    refine Tx.cal T.f_law_pieces T.g_law_pieces T.b_law_pieces sc_law_pieces ?_ ?_
    · rintro vs H Q E ⟨v, p, rfl, _⟩
      rfl
    · rintro cdv A outer s0 H vs Q E hr ⟨v, p, rfl, hv, hok, hlv, hpc, q⟩
      refine ⟨_, (pss_cons (ps_set (i := 1) sc_law_pieces.nd rfl (by first | exact Or.inl rfl | exact Or.inr rfl) (pe_lst (pa_cons (pv 0) pa_nil))) (pss_cons (ps_if (pw_and (pt_cmpR op_eq (pe_ix (ixD K) (pv 0) pe_int (fun _ _ => rfl)) pe_str (nomark _)) (pw_and1 (pt_val (pe_callB (isD K "tuple" (by simp)) (by rfl) T.z_isinstance PyProof.Rows.boot_isinstance (pa_cons (pe_ix (ixD K) (pv 0) pe_int (fun _ _ => rfl)) (pa_cons (pe_bltn (v := .ty "tuple") (by rfl) T.z_tuple boot_tuple rfl) pa_nil)))))).pt (pss_one (ps_for PassesOwn.never rfl (pi_tup (pe_ix (ixD K) (pv 0) pe_int (fun _ _ => rfl))) (pg_name (i := 2) sc_law_pieces.nd rfl (by first | exact Or.inl rfl | exact Or.inr rfl)) (pss_one (ps_set (i := 1) sc_law_pieces.nd rfl (by first | exact Or.inl rfl | exact Or.inr rfl) (pe_op op_cat (pv 1) (pe_c c_law_pieces hr (Nat.le_refl _) (by rfl) (pa_cons (pe_tup (pa_cons pe_str (pa_cons (pv 2) pa_nil))) pa_nil))))))) (pss_one (ps_if (pt_cmpR op_eq (pe_ix (ixD K) (pv 0) pe_int (fun _ _ => rfl)) pe_str (nomark _)) (pss_one (ps_for PassesOwn.never rfl (pi_tup (pe_ix (ixD K) (pv 0) pe_int (fun _ _ => rfl))) (pg_name (i := 3) sc_law_pieces.nd rfl (by first | exact Or.inl rfl | exact Or.inr rfl)) (pss_one (ps_set (i := 1) sc_law_pieces.nd rfl (by first | exact Or.inl rfl | exact Or.inr rfl) (pe_op op_cat (pv 1) (pe_c c_law_pieces hr (Nat.le_refl _) (by rfl) (pa_cons (pe_ix (ixD K) (pv 3) pe_int (fun _ _ => rfl)) pa_nil))))))) (pss_one (ps_if (pt_cmpR (notInT K) (pe_ix (ixD K) (pv 0) pe_int (fun _ _ => rfl)) (pe_tup (pa_cons pe_str (pa_cons pe_str pa_nil))) (by rfl)) (pss_one (ps_for PassesOwn.never rfl (pi_tup (pe_slice (slD K) (pv 0) (po_some pe_int) po_none)) (pg_name (i := 2) sc_law_pieces.nd rfl (by first | exact Or.inl rfl | exact Or.inr rfl)) (pss_one (ps_set (i := 1) sc_law_pieces.nd rfl (by first | exact Or.inl rfl | exact Or.inr rfl) (pe_op op_cat (pv 1) (pe_c c_law_pieces hr (Nat.le_refl _) (by rfl) (pa_cons (pv 2) pa_nil))))))) pss_nil))))) (pss_one (ps_ret (pv 1))))), ?_⟩
      refine ⟨_, rfl, line1, fun L nL => ?_⟩
      have s1 : Same H (upd H L (.lst [v])) := Sm.new nL
      have hL : (upd H L (.lst [v])) L = some (.lst [v]) := upd_same
      generalize upd H L (.lst [v]) = H1 at *
      have hv1 := hv.sm s1
      cases p with
      | any =>
        have hp : Is K H1 v (.tup [.str "any"]) := hv1
        refine ⟨_, rfl, _, 0, _, hp, rfl, rfl, fun v0 h0 => ?_⟩
        rw [h0.strD]
        refine ⟨rfl, _, rfl, ?_⟩
        rw [show decide (V.str "any" = V.str "is") = false from strN rfl]
        refine ⟨_, rfl, _, 0, _, hp, rfl, rfl, fun v0 h0 => ?_⟩
        rw [h0.strD]
        refine ⟨rfl, _, rfl, iN (strN rfl) ?_⟩
        refine ⟨_, rfl, _, 0, _, hp, rfl, rfl, fun v0 h0 => ⟨line2, fun p2 n2 => ⟨_, [.str "is", .str "any"], h0.sm (Sm.new n2), Is.new n2 (.cons (.str _) (.cons (.str _) .nil)), rfl, rfl, _, rfl, iN (by decide +kernel) ?_⟩⟩⟩
        exact ⟨_, rfl, q _ L [v] (s1.trans (Sm.new n2)) nL ((Sm.new n2) _ _ hL) rfl⟩
      | is_ d =>
        have hp : Is K H1 v (.tup [.str "is", d]) := hv1
        have hdg : d.good := by simpa only [Pt.ok] using hok
        refine ⟨_, rfl, _, 0, _, hp, rfl, rfl, fun v0 h0 => ?_⟩
        rw [h0.strD]
        refine ⟨rfl, _, rfl, ?_⟩
        rw [show decide (V.str "is" = V.str "is") = true from strE rfl]
        refine ⟨_, rfl, _, 1, _, hp, rfl, rfl, fun v1 h1 => ⟨_, _, rfl, h1, _, rfl, ?_⟩⟩
        cases d with
        | str x =>
          have := hdg.thg
          simp [Dt.thg] at this
        | int i =>
          rw [isT_int]
          refine ⟨_, rfl, _, 0, _, hp, rfl, rfl, fun v0 h0 => ?_⟩
          rw [h0.strD]
          refine ⟨rfl, _, rfl, iN (strN rfl) ?_⟩
          refine ⟨_, rfl, _, 0, _, hp, rfl, rfl, fun v0 h0 => ⟨line2, fun p2 n2 => ⟨_, [.str "is", .str "any"], h0.sm (Sm.new n2), Is.new n2 (.cons (.str _) (.cons (.str _) .nil)), rfl, rfl, _, rfl, iN (by decide +kernel) ?_⟩⟩⟩
          exact ⟨_, rfl, q _ L [v] (s1.trans (Sm.new n2)) nL ((Sm.new n2) _ _ hL) (by simp [Pt.pcs, Dt.sz])⟩
        | tup l =>
          rw [isT_tup]
          refine iY rfl ?_
          refine ⟨_, rfl, _, 1, _, hp, rfl, rfl, fun v1 h1 => ?_⟩
          obtain ⟨a, xs, rfl, sq, il⟩ := h1.tupD
          refine ⟨_, rfl, ⟨_, sq⟩, ?_⟩
          refine for_D (walk_tup (xs := xs)) il (fun i σ H' => Same H1 H' ∧ ∃ (M : Addr) (acc : List V) (o1 : Option V), H M = none ∧ H' M = some (.lst acc) ∧ acc.length = 1 + Dt.szs (l.take i) ∧ σ = [some v, some (.ref M), o1, none]) ?_ ?_ ?_ ?_
          · exact ⟨.refl _, L, [v], none, nL, hL, by simp [Dt.szs], rfl⟩
          · rintro i σ H' ⟨s2, _⟩
            exact ⟨sq_up s2 sq, .sm s2⟩
          · rintro i x d σ H2 hi hx ⟨s2, M, acc, o1, nM, hM, hacc, rfl⟩
            have hmem : d ∈ l := List.mem_of_getElem? hi
            have hsz := szs_take hi
            have hle := szs_take_le l (i + 1)
            simp only [Pt.lv, Pt.pcs, Dt.dep, Dt.sz] at hlv hpc
            have hdp := (Dt.deps_le l (Dt.deps l)).mp (Nat.le_refl _) d hmem
            refine ⟨_, rfl, _, rfl, line2, fun p2 n2 => ?_⟩
            have s3 : Same H2 (upd H2 p2 (.tup [.str "is", x])) := Sm.new n2
            refine ⟨_, .is_ d, rfl, Is.new n2 (.cons (.str _) (.one hx)), by simp only [Pt.ok]; exact hdg.mem hmem, by simp only [Pt.lv]; omega, by simp only [Pt.pcs]; omega, fun H4 b ys s4 nb hb hys => ?_⟩
            have hM4 := (s3.trans s4) _ _ hM
            simp only [Pt.pcs] at hys
            refine ⟨M, b, acc, ys, rfl, rfl, hM4, hb, le_line (by omega), fun M2 nM2 => ?_⟩
            have s5 : Same H4 (upd H4 M2 (.lst (acc ++ ys))) := Sm.new nM2
            have s25 := s2.trans (s3.trans (s4.trans s5))
            exact ⟨s25, M2, _, _, s1.free (s2.free (s3.free (s4.free nM2))), upd_same, by rw [List.length_append]; omega, rfl⟩
          · rintro σ H2 ⟨s2, M, acc, o1, nM, hM, hacc, rfl⟩
            rw [List.take_length] at hacc
            exact ⟨_, rfl, q _ M acc (s1.trans s2) nM hM (by simp only [Pt.pcs, Dt.sz]; exact hacc)⟩
      | row its =>
        have hp : Is K H1 v (.tup [.str "row", .tup its.dts]) := hv1
        have ho : its.len ≤ 3 ∧ its.ok := by simpa only [Pt.ok] using hok
        refine ⟨_, rfl, _, 0, _, hp, rfl, rfl, fun v0 h0 => ?_⟩
        rw [h0.strD]
        refine ⟨rfl, _, rfl, ?_⟩
        rw [show decide (V.str "row" = V.str "is") = false from strN rfl]
        refine ⟨_, rfl, _, 0, _, hp, rfl, rfl, fun v0 h0 => ?_⟩
        rw [h0.strD]
        refine ⟨rfl, _, rfl, iY (strE rfl) ?_⟩
        refine ⟨_, rfl, _, 1, _, hp, rfl, rfl, fun v1 h1 => ?_⟩
        obtain ⟨a, xs, rfl, sq, il⟩ := h1.tupD
        refine ⟨_, rfl, ⟨_, sq⟩, ?_⟩
        refine for_D (walk_tup (xs := xs)) il (fun i σ H' => Same H1 H' ∧ ∃ (M : Addr) (acc : List V) (o1 : Option V), H M = none ∧ H' M = some (.lst acc) ∧ acc.length = 1 + sumN ((its.pats.map Pt.pcs).take i) ∧ σ = [some v, some (.ref M), none, o1]) ?_ ?_ ?_ ?_
        · exact ⟨.refl _, L, [v], none, nL, hL, by simp [sumN], rfl⟩
        · rintro i σ H' ⟨s2, _⟩
          exact ⟨sq_up s2 sq, .sm s2⟩
        · rintro i x d σ H2 hi hx ⟨s2, M, acc, o1, nM, hM, hacc, rfl⟩
          obtain ⟨b', p', e, hp'⟩ := its_nth hi
          subst e
          have hmem := List.mem_of_getElem? hp'
          have hsz : sumN ((its.pats.map Pt.pcs).take (i + 1)) = sumN ((its.pats.map Pt.pcs).take i) + p'.pcs := sumN_take (by rw [List.getElem?_map, hp']; rfl)
          have hle := sumN_take_le (its.pats.map Pt.pcs) (i + 1)
          have hlm := Its.lv_mem hmem
          simp only [Pt.lv, Pt.pcs, Its.pcs_pats] at hlv hpc
          refine ⟨_, rfl, _, rfl, _, 1, _, hx, rfl, rfl, fun y hy => ?_⟩
          refine ⟨_, p', rfl, hy, Its.ok_mem ho.2 hmem, by omega, by omega, fun H4 b ys s4 nb hb hys => ?_⟩
          have hM4 := s4 _ _ hM
          refine ⟨M, b, acc, ys, rfl, rfl, hM4, hb, le_line (by omega), fun M2 nM2 => ?_⟩
          have s5 : Same H4 (upd H4 M2 (.lst (acc ++ ys))) := Sm.new nM2
          exact ⟨s2.trans (s4.trans s5), M2, _, _, s1.free (s2.free (s4.free nM2)), upd_same, by rw [List.length_append]; omega, rfl⟩
        · rintro σ H2 ⟨s2, M, acc, o1, nM, hM, hacc, rfl⟩
          have e : (its.pats.map Pt.pcs).take its.dts.length = its.pats.map Pt.pcs := by rw [Its.dts_len, ← Its.pats_len, ← List.length_map (f := Pt.pcs), List.take_length]
          rw [e, ← Its.pcs_pats] at hacc
          exact ⟨_, rfl, q _ M acc (s1.trans s2) nM hM (by simp only [Pt.pcs]; exact hacc)⟩
      | two b p1 p2 =>
        have hp : Is K H1 v (.tup (.str (twoW b) :: [p1, p2].map Pt.dt)) := hv1
        have ho : p1.ok ∧ p2.ok := by simpa only [Pt.ok] using hok
        simp only [Pt.lv] at hlv
        have hsum : (Pt.two b p1 p2).pcs = 1 + sumN ([p1, p2].map Pt.pcs) := by simp [Pt.pcs, sumN]
        have hps : ∀ z ∈ [p1, p2], z.ok ∧ z.lv ≤ n := by
          intro z hz
          simp only [List.mem_cons, List.not_mem_nil, or_false] at hz
          rcases hz with rfl | rfl
          · exact ⟨ho.1, by omega⟩
          · exact ⟨ho.2, by omega⟩
        rw [hsum] at hpc
        cases b
        · skip
          refine ⟨_, rfl, _, 0, _, hp, rfl, rfl, fun v0 h0 => ?_⟩
          rw [h0.strD]
          refine ⟨rfl, _, rfl, ?_⟩
          rw [show decide (V.str (twoW false) = V.str "is") = false from strN rfl]
          refine ⟨_, rfl, _, 0, _, hp, rfl, rfl, fun v0 h0 => ?_⟩
          rw [h0.strD]
          refine ⟨rfl, _, rfl, iN (strN rfl) ?_⟩
          refine ⟨_, rfl, _, 0, _, hp, rfl, rfl, fun v0 h0 => ⟨line2, fun p2' n2 => ⟨_, [.str "is", .str "any"], h0.sm (Sm.new n2), Is.new n2 (.cons (.str _) (.cons (.str _) .nil)), rfl, rfl, _, rfl, iY (by decide +kernel) ?_⟩⟩⟩
          have s2 : Same H1 (upd H1 p2' (.tup [.str "is", .str "any"])) := Sm.new n2
          refine ⟨_, rfl, _, rfl, _, hp.sm s2, fun x H2 s3 hx => ?_⟩
          have e1 : cutD (.str (twoW false) :: [p1, p2].map Pt.dt) (some 1) none = [p1, p2].map Pt.dt := cutD_drop _ 1
          have hx' : Is K H2 x (.tup ([p1, p2].map Pt.dt)) := by rw [← e1]; exact hx
          obtain ⟨a, xs, rfl, sq, il⟩ := hx'.tupD
          have s23 := s2.trans s3
          refine ⟨_, rfl, ⟨_, sq⟩, ?_⟩
          refine for_D (walk_tup (xs := xs)) il (fun i σ H' => Same H2 H' ∧ ∃ (M : Addr) (acc : List V) (o1 : Option V), H M = none ∧ H' M = some (.lst acc) ∧ acc.length = 1 + sumN (([p1, p2].map Pt.pcs).take i) ∧ σ = [some v, some (.ref M), o1, none]) ?_ ?_ ?_ ?_
          · exact ⟨.refl _, L, [v], none, nL, s23 _ _ hL, by simp [sumN], rfl⟩
          · rintro i σ H' ⟨s4, _⟩
            exact ⟨sq_up s4 sq, .sm s4⟩
          · rintro i x d σ H3 hi hx3 ⟨s4, M, acc, o1, nM, hM, hacc, rfl⟩
            rw [List.getElem?_map] at hi
            obtain ⟨p', hp', rfl⟩ := Option.map_eq_some_iff.mp hi
            have hmem := List.mem_of_getElem? hp'
            have hsz : sumN (([p1, p2].map Pt.pcs).take (i + 1)) = sumN (([p1, p2].map Pt.pcs).take i) + p'.pcs := sumN_take (by rw [List.getElem?_map, hp']; rfl)
            have hle := sumN_take_le ([p1, p2].map Pt.pcs) (i + 1)
            have hz := hps p' hmem
            refine ⟨_, rfl, _, rfl, _, p', rfl, hx3, hz.1, hz.2, by omega, fun H4 b' ys s5 nb hb hys => ?_⟩
            have hM4 := s5 _ _ hM
            refine ⟨M, b', acc, ys, rfl, rfl, hM4, hb, le_line (by omega), fun M2 nM2 => ?_⟩
            have s6 : Same H4 (upd H4 M2 (.lst (acc ++ ys))) := Sm.new nM2
            exact ⟨s4.trans (s5.trans s6), M2, _, _, s1.free (s23.free (s4.free (s5.free nM2))), upd_same, by rw [List.length_append]; omega, rfl⟩
          · rintro σ H3 ⟨s4, M, acc, o1, nM, hM, hacc, rfl⟩
            have e : ([p1, p2].map Pt.pcs).take ([p1, p2].map Pt.dt).length = [p1, p2].map Pt.pcs := by rw [List.length_map, ← List.length_map (f := Pt.pcs), List.take_length]
            rw [e] at hacc
            exact ⟨_, rfl, q _ M acc (s1.trans (s23.trans s4)) nM hM (by rw [hsum]; exact hacc)⟩
        · skip
          refine ⟨_, rfl, _, 0, _, hp, rfl, rfl, fun v0 h0 => ?_⟩
          rw [h0.strD]
          refine ⟨rfl, _, rfl, ?_⟩
          rw [show decide (V.str (twoW true) = V.str "is") = false from strN rfl]
          refine ⟨_, rfl, _, 0, _, hp, rfl, rfl, fun v0 h0 => ?_⟩
          rw [h0.strD]
          refine ⟨rfl, _, rfl, iN (strN rfl) ?_⟩
          refine ⟨_, rfl, _, 0, _, hp, rfl, rfl, fun v0 h0 => ⟨line2, fun p2' n2 => ⟨_, [.str "is", .str "any"], h0.sm (Sm.new n2), Is.new n2 (.cons (.str _) (.cons (.str _) .nil)), rfl, rfl, _, rfl, iY (by decide +kernel) ?_⟩⟩⟩
          have s2 : Same H1 (upd H1 p2' (.tup [.str "is", .str "any"])) := Sm.new n2
          refine ⟨_, rfl, _, rfl, _, hp.sm s2, fun x H2 s3 hx => ?_⟩
          have e1 : cutD (.str (twoW true) :: [p1, p2].map Pt.dt) (some 1) none = [p1, p2].map Pt.dt := cutD_drop _ 1
          have hx' : Is K H2 x (.tup ([p1, p2].map Pt.dt)) := by rw [← e1]; exact hx
          obtain ⟨a, xs, rfl, sq, il⟩ := hx'.tupD
          have s23 := s2.trans s3
          refine ⟨_, rfl, ⟨_, sq⟩, ?_⟩
          refine for_D (walk_tup (xs := xs)) il (fun i σ H' => Same H2 H' ∧ ∃ (M : Addr) (acc : List V) (o1 : Option V), H M = none ∧ H' M = some (.lst acc) ∧ acc.length = 1 + sumN (([p1, p2].map Pt.pcs).take i) ∧ σ = [some v, some (.ref M), o1, none]) ?_ ?_ ?_ ?_
          · exact ⟨.refl _, L, [v], none, nL, s23 _ _ hL, by simp [sumN], rfl⟩
          · rintro i σ H' ⟨s4, _⟩
            exact ⟨sq_up s4 sq, .sm s4⟩
          · rintro i x d σ H3 hi hx3 ⟨s4, M, acc, o1, nM, hM, hacc, rfl⟩
            rw [List.getElem?_map] at hi
            obtain ⟨p', hp', rfl⟩ := Option.map_eq_some_iff.mp hi
            have hmem := List.mem_of_getElem? hp'
            have hsz : sumN (([p1, p2].map Pt.pcs).take (i + 1)) = sumN (([p1, p2].map Pt.pcs).take i) + p'.pcs := sumN_take (by rw [List.getElem?_map, hp']; rfl)
            have hle := sumN_take_le ([p1, p2].map Pt.pcs) (i + 1)
            have hz := hps p' hmem
            refine ⟨_, rfl, _, rfl, _, p', rfl, hx3, hz.1, hz.2, by omega, fun H4 b' ys s5 nb hb hys => ?_⟩
            have hM4 := s5 _ _ hM
            refine ⟨M, b', acc, ys, rfl, rfl, hM4, hb, le_line (by omega), fun M2 nM2 => ?_⟩
            have s6 : Same H4 (upd H4 M2 (.lst (acc ++ ys))) := Sm.new nM2
            exact ⟨s4.trans (s5.trans s6), M2, _, _, s1.free (s23.free (s4.free (s5.free nM2))), upd_same, by rw [List.length_append]; omega, rfl⟩
          · rintro σ H3 ⟨s4, M, acc, o1, nM, hM, hacc, rfl⟩
            have e : ([p1, p2].map Pt.pcs).take ([p1, p2].map Pt.dt).length = [p1, p2].map Pt.pcs := by rw [List.length_map, ← List.length_map (f := Pt.pcs), List.take_length]
            rw [e] at hacc
            exact ⟨_, rfl, q _ M acc (s1.trans (s23.trans s4)) nM hM (by rw [hsum]; exact hacc)⟩
      | lone k1 p1 =>
        have hp : Is K H1 v (.tup (.str k1.word :: [p1].map Pt.dt)) := hv1
        have ho : p1.ok := by simpa only [Pt.ok] using hok
        simp only [Pt.lv] at hlv
        have hsum : (Pt.lone k1 p1).pcs = 1 + sumN ([p1].map Pt.pcs) := by simp [Pt.pcs, sumN]
        have hps : ∀ z ∈ [p1], z.ok ∧ z.lv ≤ n := by
          intro z hz
          rw [List.mem_singleton] at hz
          subst hz
          exact ⟨ho, by omega⟩
        rw [hsum] at hpc
        cases k1
        · skip
          refine ⟨_, rfl, _, 0, _, hp, rfl, rfl, fun v0 h0 => ?_⟩
          rw [h0.strD]
          refine ⟨rfl, _, rfl, ?_⟩
          rw [show decide (V.str (Lw.word .nt) = V.str "is") = false from strN rfl]
          refine ⟨_, rfl, _, 0, _, hp, rfl, rfl, fun v0 h0 => ?_⟩
          rw [h0.strD]
          refine ⟨rfl, _, rfl, iN (strN rfl) ?_⟩
          refine ⟨_, rfl, _, 0, _, hp, rfl, rfl, fun v0 h0 => ⟨line2, fun p2' n2 => ⟨_, [.str "is", .str "any"], h0.sm (Sm.new n2), Is.new n2 (.cons (.str _) (.cons (.str _) .nil)), rfl, rfl, _, rfl, iY (by decide +kernel) ?_⟩⟩⟩
          have s2 : Same H1 (upd H1 p2' (.tup [.str "is", .str "any"])) := Sm.new n2
          refine ⟨_, rfl, _, rfl, _, hp.sm s2, fun x H2 s3 hx => ?_⟩
          have e1 : cutD (.str (Lw.word .nt) :: [p1].map Pt.dt) (some 1) none = [p1].map Pt.dt := cutD_drop _ 1
          have hx' : Is K H2 x (.tup ([p1].map Pt.dt)) := by rw [← e1]; exact hx
          obtain ⟨a, xs, rfl, sq, il⟩ := hx'.tupD
          have s23 := s2.trans s3
          refine ⟨_, rfl, ⟨_, sq⟩, ?_⟩
          refine for_D (walk_tup (xs := xs)) il (fun i σ H' => Same H2 H' ∧ ∃ (M : Addr) (acc : List V) (o1 : Option V), H M = none ∧ H' M = some (.lst acc) ∧ acc.length = 1 + sumN (([p1].map Pt.pcs).take i) ∧ σ = [some v, some (.ref M), o1, none]) ?_ ?_ ?_ ?_
          · exact ⟨.refl _, L, [v], none, nL, s23 _ _ hL, by simp [sumN], rfl⟩
          · rintro i σ H' ⟨s4, _⟩
            exact ⟨sq_up s4 sq, .sm s4⟩
          · rintro i x d σ H3 hi hx3 ⟨s4, M, acc, o1, nM, hM, hacc, rfl⟩
            rw [List.getElem?_map] at hi
            obtain ⟨p', hp', rfl⟩ := Option.map_eq_some_iff.mp hi
            have hmem := List.mem_of_getElem? hp'
            have hsz : sumN (([p1].map Pt.pcs).take (i + 1)) = sumN (([p1].map Pt.pcs).take i) + p'.pcs := sumN_take (by rw [List.getElem?_map, hp']; rfl)
            have hle := sumN_take_le ([p1].map Pt.pcs) (i + 1)
            have hz := hps p' hmem
            refine ⟨_, rfl, _, rfl, _, p', rfl, hx3, hz.1, hz.2, by omega, fun H4 b' ys s5 nb hb hys => ?_⟩
            have hM4 := s5 _ _ hM
            refine ⟨M, b', acc, ys, rfl, rfl, hM4, hb, le_line (by omega), fun M2 nM2 => ?_⟩
            have s6 : Same H4 (upd H4 M2 (.lst (acc ++ ys))) := Sm.new nM2
            exact ⟨s4.trans (s5.trans s6), M2, _, _, s1.free (s23.free (s4.free (s5.free nM2))), upd_same, by rw [List.length_append]; omega, rfl⟩
          · rintro σ H3 ⟨s4, M, acc, o1, nM, hM, hacc, rfl⟩
            have e : ([p1].map Pt.pcs).take ([p1].map Pt.dt).length = [p1].map Pt.pcs := by rw [List.length_map, ← List.length_map (f := Pt.pcs), List.take_length]
            rw [e] at hacc
            exact ⟨_, rfl, q _ M acc (s1.trans (s23.trans s4)) nM hM (by rw [hsum]; exact hacc)⟩
        · skip
          refine ⟨_, rfl, _, 0, _, hp, rfl, rfl, fun v0 h0 => ?_⟩
          rw [h0.strD]
          refine ⟨rfl, _, rfl, ?_⟩
          rw [show decide (V.str (Lw.word .first) = V.str "is") = false from strN rfl]
          refine ⟨_, rfl, _, 0, _, hp, rfl, rfl, fun v0 h0 => ?_⟩
          rw [h0.strD]
          refine ⟨rfl, _, rfl, iN (strN rfl) ?_⟩
          refine ⟨_, rfl, _, 0, _, hp, rfl, rfl, fun v0 h0 => ⟨line2, fun p2' n2 => ⟨_, [.str "is", .str "any"], h0.sm (Sm.new n2), Is.new n2 (.cons (.str _) (.cons (.str _) .nil)), rfl, rfl, _, rfl, iY (by decide +kernel) ?_⟩⟩⟩
          have s2 : Same H1 (upd H1 p2' (.tup [.str "is", .str "any"])) := Sm.new n2
          refine ⟨_, rfl, _, rfl, _, hp.sm s2, fun x H2 s3 hx => ?_⟩
          have e1 : cutD (.str (Lw.word .first) :: [p1].map Pt.dt) (some 1) none = [p1].map Pt.dt := cutD_drop _ 1
          have hx' : Is K H2 x (.tup ([p1].map Pt.dt)) := by rw [← e1]; exact hx
          obtain ⟨a, xs, rfl, sq, il⟩ := hx'.tupD
          have s23 := s2.trans s3
          refine ⟨_, rfl, ⟨_, sq⟩, ?_⟩
          refine for_D (walk_tup (xs := xs)) il (fun i σ H' => Same H2 H' ∧ ∃ (M : Addr) (acc : List V) (o1 : Option V), H M = none ∧ H' M = some (.lst acc) ∧ acc.length = 1 + sumN (([p1].map Pt.pcs).take i) ∧ σ = [some v, some (.ref M), o1, none]) ?_ ?_ ?_ ?_
          · exact ⟨.refl _, L, [v], none, nL, s23 _ _ hL, by simp [sumN], rfl⟩
          · rintro i σ H' ⟨s4, _⟩
            exact ⟨sq_up s4 sq, .sm s4⟩
          · rintro i x d σ H3 hi hx3 ⟨s4, M, acc, o1, nM, hM, hacc, rfl⟩
            rw [List.getElem?_map] at hi
            obtain ⟨p', hp', rfl⟩ := Option.map_eq_some_iff.mp hi
            have hmem := List.mem_of_getElem? hp'
            have hsz : sumN (([p1].map Pt.pcs).take (i + 1)) = sumN (([p1].map Pt.pcs).take i) + p'.pcs := sumN_take (by rw [List.getElem?_map, hp']; rfl)
            have hle := sumN_take_le ([p1].map Pt.pcs) (i + 1)
            have hz := hps p' hmem
            refine ⟨_, rfl, _, rfl, _, p', rfl, hx3, hz.1, hz.2, by omega, fun H4 b' ys s5 nb hb hys => ?_⟩
            have hM4 := s5 _ _ hM
            refine ⟨M, b', acc, ys, rfl, rfl, hM4, hb, le_line (by omega), fun M2 nM2 => ?_⟩
            have s6 : Same H4 (upd H4 M2 (.lst (acc ++ ys))) := Sm.new nM2
            exact ⟨s4.trans (s5.trans s6), M2, _, _, s1.free (s23.free (s4.free (s5.free nM2))), upd_same, by rw [List.length_append]; omega, rfl⟩
          · rintro σ H3 ⟨s4, M, acc, o1, nM, hM, hacc, rfl⟩
            have e : ([p1].map Pt.pcs).take ([p1].map Pt.dt).length = [p1].map Pt.pcs := by rw [List.length_map, ← List.length_map (f := Pt.pcs), List.take_length]
            rw [e] at hacc
            exact ⟨_, rfl, q _ M acc (s1.trans (s23.trans s4)) nM hM (by rw [hsum]; exact hacc)⟩
        · skip
          refine ⟨_, rfl, _, 0, _, hp, rfl, rfl, fun v0 h0 => ?_⟩
          rw [h0.strD]
          refine ⟨rfl, _, rfl, ?_⟩
          rw [show decide (V.str (Lw.word .all) = V.str "is") = false from strN rfl]
          refine ⟨_, rfl, _, 0, _, hp, rfl, rfl, fun v0 h0 => ?_⟩
          rw [h0.strD]
          refine ⟨rfl, _, rfl, iN (strN rfl) ?_⟩
          refine ⟨_, rfl, _, 0, _, hp, rfl, rfl, fun v0 h0 => ⟨line2, fun p2' n2 => ⟨_, [.str "is", .str "any"], h0.sm (Sm.new n2), Is.new n2 (.cons (.str _) (.cons (.str _) .nil)), rfl, rfl, _, rfl, iY (by decide +kernel) ?_⟩⟩⟩
          have s2 : Same H1 (upd H1 p2' (.tup [.str "is", .str "any"])) := Sm.new n2
          refine ⟨_, rfl, _, rfl, _, hp.sm s2, fun x H2 s3 hx => ?_⟩
          have e1 : cutD (.str (Lw.word .all) :: [p1].map Pt.dt) (some 1) none = [p1].map Pt.dt := cutD_drop _ 1
          have hx' : Is K H2 x (.tup ([p1].map Pt.dt)) := by rw [← e1]; exact hx
          obtain ⟨a, xs, rfl, sq, il⟩ := hx'.tupD
          have s23 := s2.trans s3
          refine ⟨_, rfl, ⟨_, sq⟩, ?_⟩
          refine for_D (walk_tup (xs := xs)) il (fun i σ H' => Same H2 H' ∧ ∃ (M : Addr) (acc : List V) (o1 : Option V), H M = none ∧ H' M = some (.lst acc) ∧ acc.length = 1 + sumN (([p1].map Pt.pcs).take i) ∧ σ = [some v, some (.ref M), o1, none]) ?_ ?_ ?_ ?_
          · exact ⟨.refl _, L, [v], none, nL, s23 _ _ hL, by simp [sumN], rfl⟩
          · rintro i σ H' ⟨s4, _⟩
            exact ⟨sq_up s4 sq, .sm s4⟩
          · rintro i x d σ H3 hi hx3 ⟨s4, M, acc, o1, nM, hM, hacc, rfl⟩
            rw [List.getElem?_map] at hi
            obtain ⟨p', hp', rfl⟩ := Option.map_eq_some_iff.mp hi
            have hmem := List.mem_of_getElem? hp'
            have hsz : sumN (([p1].map Pt.pcs).take (i + 1)) = sumN (([p1].map Pt.pcs).take i) + p'.pcs := sumN_take (by rw [List.getElem?_map, hp']; rfl)
            have hle := sumN_take_le ([p1].map Pt.pcs) (i + 1)
            have hz := hps p' hmem
            refine ⟨_, rfl, _, rfl, _, p', rfl, hx3, hz.1, hz.2, by omega, fun H4 b' ys s5 nb hb hys => ?_⟩
            have hM4 := s5 _ _ hM
            refine ⟨M, b', acc, ys, rfl, rfl, hM4, hb, le_line (by omega), fun M2 nM2 => ?_⟩
            have s6 : Same H4 (upd H4 M2 (.lst (acc ++ ys))) := Sm.new nM2
            exact ⟨s4.trans (s5.trans s6), M2, _, _, s1.free (s23.free (s4.free (s5.free nM2))), upd_same, by rw [List.length_append]; omega, rfl⟩
          · rintro σ H3 ⟨s4, M, acc, o1, nM, hM, hacc, rfl⟩
            have e : ([p1].map Pt.pcs).take ([p1].map Pt.dt).length = [p1].map Pt.pcs := by rw [List.length_map, ← List.length_map (f := Pt.pcs), List.take_length]
            rw [e] at hacc
            exact ⟨_, rfl, q _ M acc (s1.trans (s23.trans s4)) nM hM (by rw [hsum]; exact hacc)⟩
end
end Wf
set_option Elab.async false
set_option linter.all false
set_option maxRecDepth 100000
set_option maxHeartbeats 400000
namespace Wf
open PySem PySem.Spec PyProof.Rows L2
def iOr (t t' : TI) : TI := fun σ H R => t σ H R ∨ t' σ H R
theorem piOr {X : Cx} {tg e : Expr} {t t' : TI} (h : PI X tg e t) (h' : PI X tg e t') : PI X tg e (iOr t t') := ⟨fun pins s σ H R I z => z.elim (h.run pins s σ H R I) (h'.run pins s σ H R I)⟩
def mx (l : List Nat) : Nat := l.foldr max 0
theorem mx_is {l : List Nat} {m : Int} (hm : m ∈ (0 : Int) :: l.map fun (n : Nat) => (n : Int)) (hy : ∀ y ∈ (0 : Int) :: l.map (fun (n : Nat) => (n : Int)), y ≤ m) : m = (mx l : Nat) := by
  have h1 : ∀ l : List Nat, ∀ b : Nat, (∀ n ∈ l, n ≤ b) → mx l ≤ b := by
    intro l
    induction l with
    | nil => intro b _; exact Nat.zero_le _
    | cons a l ih =>
      intro b h
      have := ih b fun n hn => h n (List.mem_cons_of_mem _ hn)
      have := h a (List.mem_cons_self ..)
      show max a (mx l) ≤ b
      omega
  have h2 : ∀ l : List Nat, ∀ n ∈ l, n ≤ mx l := by
    intro l
    induction l with
    | nil => intro n hn; cases hn
    | cons a l ih =>
      intro n hn
      show n ≤ max a (mx l)
      rcases List.mem_cons.mp hn with rfl | hn
      · omega
      · have := ih n hn
        omega
  have h0 := hy 0 (List.mem_cons_self ..)
  have up : m ≤ (mx l : Nat) := by
    rcases List.mem_cons.mp hm with rfl | hm
    · omega
    · obtain ⟨n, hn, rfl⟩ := List.mem_map.mp hm
      have := h2 l n hn
      omega
  have dn : mx l ≤ m.toNat := h1 l m.toNat fun n hn => by
    have := hy (n : Int) (List.mem_cons_of_mem _ (List.mem_map.mpr ⟨n, hn, rfl⟩))
    omega
  omega
theorem Its.dp_pats : ∀ l : Its, l.dp = mx (l.pats.map Pt.dp)
  | .nil => rfl
  | .cons _ p l => by
    simp only [Its.dp, Its.pats, List.map_cons, Its.dp_pats l]
    rfl
section
variable {P : Program} {w : World} {K : PySem.W.Frag} {mg : Str → Option Value} {base : Heap}
def spDepth (K : PySem.W.Frag) (n : Nat) : Sp := fun vs H Q _ => ∃ v p, vs = [v] ∧ Is K H v (Pt.dt p) ∧ p.ok ∧ p.dp ≤ n ∧ ∀ H', Same H H' → Q (.int (p.dp : Nat)) H'
theorem ok_law_depth {k : Nat} (T : Tx w K mg) : ∀ n, Cal P w K mg base (k + n) "_law_depth" (spDepth K n)
  | 0 => Cal.no T.g_law_depth T.f_law_depth.kp T.b_law_depth (by
      rintro vs H Q E ⟨v, p, _, _, _, h, _⟩
      have := p.dp_pos
      omega)
  | n + 1 => by
    have c_law_depth := ok_law_depth (k := k) T n
    refine Tx.cal T.f_law_depth T.g_law_depth T.b_law_depth sc_law_depth ?_ ?_
    · rintro vs H Q E ⟨v, p, rfl, _⟩
      rfl
    · rintro cdv A outer s0 H vs Q E hr ⟨v, p, rfl, hv, hok, hdp, q⟩
      refine ⟨_, (pss_cons (ps_set (i := 1) sc_law_depth.nd rfl (by first | exact Or.inl rfl | exact Or.inr rfl) (pe_ifExp (pt_cmpR (notInT K) (pe_ix (ixD K) (pv 0) pe_int (fun _ _ => rfl)) (pe_tup (pa_cons pe_str (pa_cons pe_str (pa_cons pe_str pa_nil)))) (by rfl)) (pe_slice (slD K) (pv 0) (po_some pe_int) po_none) (pe_tup pa_nil))) (pss_cons (ps_if (pt_cmpR op_eq (pe_ix (ixD K) (pv 0) pe_int (fun _ _ => rfl)) pe_str (nomark _)) (pss_one (ps_setLc (i := 1) (own := [("_law_item", 2)]) rfl sc_law_depth.nd rfl rfl (sw_true rfl rfl rfl (by decide +kernel)) (pi_tup (pe_ix (ixD K) (pv 0) pe_int (fun _ _ => rfl))) (blkOk_by (own := [("_law_item", 2)]) (N := ["_law_pattern", "_law_inner", "_law_item", "_law_one"]) (sc := defScope sLawDepth) (by decide +kernel)) (fun _ _ _ _ _ => (pg_name (i := 2) sc_law_depth.nd rfl (by first | exact Or.inl rfl | exact Or.inr rfl))) (fun _ _ _ _ _ => pts_nil) (fun _ _ _ _ _ => (pe_ix (ixD K) (pv 2) pe_int (fun _ _ => rfl))))) pss_nil) (pss_one (ps_ret (pe_op op_add pe_int (pe_callB (cr_max rfl) (by rfl) T.z_max boot_max (pa_cons (pe_op op_cat (pe_lst (pa_cons pe_int pa_nil)) (pe_lc (own := [("_law_one", 3)]) rfl sc_law_depth.nd (piOr (pi_list (pv 1)) (pi_tup (pv 1))) (blkOk_by (own := [("_law_one", 3)]) (N := ["_law_pattern", "_law_inner", "_law_item", "_law_one"]) (sc := defScope sLawDepth) (by decide +kernel)) (fun _ _ _ _ _ => (pg_name (i := 3) sc_law_depth.nd rfl (by first | exact Or.inl rfl | exact Or.inr rfl))) (fun _ _ _ _ _ => pts_nil) (fun _ _ _ _ _ => (pe_c c_law_depth hr (Nat.le_refl _) (by rfl) (pa_cons (pv 3) pa_nil))))) pa_nil))))))), ?_⟩
      cases p with
      | any =>
        have hp : Is K H v (.tup [.str "any"]) := hv
        have hps : ∀ z ∈ ([] : List Pt), z.ok ∧ z.dp ≤ n := fun z hz => (nomatch hz)
        have hlen : (([] : List Pt)).length ≤ 10 := Nat.zero_le _
        have hmx : Pt.any.dp = 1 + mx ((([] : List Pt)).map Pt.dp) := rfl
        refine ⟨_, rfl, _, 0, _, hp, rfl, rfl, fun v0 h0 => ⟨line3, fun p3 n3 => ⟨_, [.str "is", .str "row", .str "any"], h0.sm (Sm.new n3), Is.new n3 (.cons (.str _) (.cons (.str _) (.cons (.str _) .nil))), rfl, rfl, _, rfl, iN (by decide +kernel) ?_⟩⟩⟩
        have s3 : Same H (upd H p3 (.tup [.str "is", .str "row", .str "any"])) := Sm.new n3
        refine ⟨by decide, fun e ne => ?_⟩
        have s4 : Same _ (upd _ e (.tup [])) := Sm.new ne
        have sc := s3.trans s4
        have hvi : Is K _ (.ref e) (.tup (([] : List Pt).map Pt.dt)) := Is.new ne .nil
        refine ⟨_, rfl, _, 0, _, hp.sm sc, rfl, rfl, fun v0 h0 => ?_⟩
        rw [h0.strD]
        refine ⟨rfl, _, rfl, iN (strN rfl) ?_⟩
        generalize upd (upd H p3 (.tup [.str "is", .str "row", .str "any"])) e (.tup []) = Hc at *
        refine ⟨line1, fun Z nZ => ?_⟩
        have sZ : Same Hc (upd Hc Z (.lst [.int 0])) := Sm.new nZ
        have hZ : (upd Hc Z (.lst [.int 0])) Z = some (.lst [.int 0]) := upd_same
        generalize upd Hc Z (.lst [.int 0]) = Hz at *
        obtain ⟨a, xs, ea, sq, il⟩ := (hvi.sm sZ).tupD
        cases ea
        refine .inr ⟨_, rfl, _, rfl, ⟨_, sq⟩, fun D nD => ?_⟩
        refine lc_D (walk_tup (xs := xs)) il nD (fun i H' acc => acc = (((([] : List Pt)).take i).map fun z => V.int (z.dp : Nat))) rfl (fun H2 s2 => sq_up s2 sq) ?_ ?_
        · rintro i x d H2 acc hi s2 hD hx rfl
          rw [List.getElem?_map] at hi
          obtain ⟨z, hz, rfl⟩ := Option.map_eq_some_iff.mp hi
          have hzp := hps z (List.mem_of_getElem? hz)
          refine ⟨rfl, _, rfl, _, z, rfl, hx, hzp.1, hzp.2, fun H3 s3 => ?_⟩
          refine lcn nD s2 hD s3 (lt_line (by rw [List.length_map, List.length_take]; have := hlen; omega)) ?_
          show _ = (((([] : List Pt)).take (i + 1)).map fun z => V.int (z.dp : Nat))
          rw [List.take_add_one, hz, List.map_append]
          rfl
        · rintro H2 acc s2 hD rfl
          rw [List.length_map, List.take_length] at hD
          refine ⟨Z, D, _, _, rfl, rfl, s2 _ _ hZ, hD, le_line (by have h9 := hlen; simp only [List.length_map, List.length_cons, List.length_nil] at *; omega), fun M nM => ?_⟩
          refine ⟨M, (0 : Int) :: ((([] : List Pt)).map Pt.dp).map (fun (n : Nat) => (n : Int)), rfl, .of (by rw [upd_same]; simp [List.map_map, Function.comp_def]), by simp, fun m hm hy => ?_⟩
          have em := mx_is hm hy
          subst em
          exact ⟨_, _, rfl, rfl, qI (by rw [hmx]; omega) (q _ (sc.trans (sZ.trans (s2.trans (Sm.new nM)))))⟩
      | is_ d =>
        have hp : Is K H v (.tup [.str "is", d]) := hv
        have hps : ∀ z ∈ ([] : List Pt), z.ok ∧ z.dp ≤ n := fun z hz => (nomatch hz)
        have hlen : (([] : List Pt)).length ≤ 10 := Nat.zero_le _
        have hmx : (Pt.is_ d).dp = 1 + mx ((([] : List Pt)).map Pt.dp) := rfl
        refine ⟨_, rfl, _, 0, _, hp, rfl, rfl, fun v0 h0 => ⟨line3, fun p3 n3 => ⟨_, [.str "is", .str "row", .str "any"], h0.sm (Sm.new n3), Is.new n3 (.cons (.str _) (.cons (.str _) (.cons (.str _) .nil))), rfl, rfl, _, rfl, iN (by decide +kernel) ?_⟩⟩⟩
        have s3 : Same H (upd H p3 (.tup [.str "is", .str "row", .str "any"])) := Sm.new n3
        refine ⟨by decide, fun e ne => ?_⟩
        have s4 : Same _ (upd _ e (.tup [])) := Sm.new ne
        have sc := s3.trans s4
        have hvi : Is K _ (.ref e) (.tup (([] : List Pt).map Pt.dt)) := Is.new ne .nil
        refine ⟨_, rfl, _, 0, _, hp.sm sc, rfl, rfl, fun v0 h0 => ?_⟩
        rw [h0.strD]
        refine ⟨rfl, _, rfl, iN (strN rfl) ?_⟩
        generalize upd (upd H p3 (.tup [.str "is", .str "row", .str "any"])) e (.tup []) = Hc at *
        refine ⟨line1, fun Z nZ => ?_⟩
        have sZ : Same Hc (upd Hc Z (.lst [.int 0])) := Sm.new nZ
        have hZ : (upd Hc Z (.lst [.int 0])) Z = some (.lst [.int 0]) := upd_same
        generalize upd Hc Z (.lst [.int 0]) = Hz at *
        obtain ⟨a, xs, ea, sq, il⟩ := (hvi.sm sZ).tupD
        cases ea
        refine .inr ⟨_, rfl, _, rfl, ⟨_, sq⟩, fun D nD => ?_⟩
        refine lc_D (walk_tup (xs := xs)) il nD (fun i H' acc => acc = (((([] : List Pt)).take i).map fun z => V.int (z.dp : Nat))) rfl (fun H2 s2 => sq_up s2 sq) ?_ ?_
        · rintro i x d H2 acc hi s2 hD hx rfl
          rw [List.getElem?_map] at hi
          obtain ⟨z, hz, rfl⟩ := Option.map_eq_some_iff.mp hi
          have hzp := hps z (List.mem_of_getElem? hz)
          refine ⟨rfl, _, rfl, _, z, rfl, hx, hzp.1, hzp.2, fun H3 s3 => ?_⟩
          refine lcn nD s2 hD s3 (lt_line (by rw [List.length_map, List.length_take]; have := hlen; omega)) ?_
          show _ = (((([] : List Pt)).take (i + 1)).map fun z => V.int (z.dp : Nat))
          rw [List.take_add_one, hz, List.map_append]
          rfl
        · rintro H2 acc s2 hD rfl
          rw [List.length_map, List.take_length] at hD
          refine ⟨Z, D, _, _, rfl, rfl, s2 _ _ hZ, hD, le_line (by have h9 := hlen; simp only [List.length_map, List.length_cons, List.length_nil] at *; omega), fun M nM => ?_⟩
          refine ⟨M, (0 : Int) :: ((([] : List Pt)).map Pt.dp).map (fun (n : Nat) => (n : Int)), rfl, .of (by rw [upd_same]; simp [List.map_map, Function.comp_def]), by simp, fun m hm hy => ?_⟩
          have em := mx_is hm hy
          subst em
          exact ⟨_, _, rfl, rfl, qI (by rw [hmx]; omega) (q _ (sc.trans (sZ.trans (s2.trans (Sm.new nM)))))⟩
      | two b p1 p2 =>
        have hp : Is K H v (.tup (.str (twoW b) :: [p1, p2].map Pt.dt)) := hv
        have ho : p1.ok ∧ p2.ok := by simpa only [Pt.ok] using hok
        have hmx : (Pt.two b p1 p2).dp = 1 + mx (([p1, p2]).map Pt.dp) := by simp [Pt.dp, mx]
        simp only [Pt.dp] at hdp
        have hps : ∀ z ∈ [p1, p2], z.ok ∧ z.dp ≤ n := by
          intro z hz
          simp only [List.mem_cons, List.not_mem_nil, or_false] at hz
          rcases hz with rfl | rfl
          · exact ⟨ho.1, by omega⟩
          · exact ⟨ho.2, by omega⟩
        have hlen : ([p1, p2]).length ≤ 10 := by simp
        cases b
        · skip
          refine ⟨_, rfl, _, 0, _, hp, rfl, rfl, fun v0 h0 => ⟨line3, fun p3 n3 => ⟨_, [.str "is", .str "row", .str "any"], h0.sm (Sm.new n3), Is.new n3 (.cons (.str _) (.cons (.str _) (.cons (.str _) .nil))), rfl, rfl, _, rfl, iY (by decide +kernel) ?_⟩⟩⟩
          have s3 : Same H (upd H p3 (.tup [.str "is", .str "row", .str "any"])) := Sm.new n3
          have e1 : cutD (.str (twoW false) :: [p1, p2].map Pt.dt) (some 1) none = [p1, p2].map Pt.dt := cutD_drop _ 1
          refine ⟨_, rfl, _, rfl, _, hp.sm s3, fun vi Hc s4 hvi => ?_⟩
          have sc := s3.trans s4
          have hvi : Is K Hc vi (.tup ([p1, p2].map Pt.dt)) := by rw [← e1]; exact hvi
          refine ⟨_, rfl, _, 0, _, hp.sm sc, rfl, rfl, fun v0 h0 => ?_⟩
          rw [h0.strD]
          refine ⟨rfl, _, rfl, iN (strN rfl) ?_⟩
          refine ⟨line1, fun Z nZ => ?_⟩
          have sZ : Same Hc (upd Hc Z (.lst [.int 0])) := Sm.new nZ
          have hZ : (upd Hc Z (.lst [.int 0])) Z = some (.lst [.int 0]) := upd_same
          generalize upd Hc Z (.lst [.int 0]) = Hz at *
          obtain ⟨a, xs, ea, sq, il⟩ := (hvi.sm sZ).tupD
          cases ea
          refine .inr ⟨_, rfl, _, rfl, ⟨_, sq⟩, fun D nD => ?_⟩
          refine lc_D (walk_tup (xs := xs)) il nD (fun i H' acc => acc = ((([p1, p2]).take i).map fun z => V.int (z.dp : Nat))) rfl (fun H2 s2 => sq_up s2 sq) ?_ ?_
          · rintro i x d H2 acc hi s2 hD hx rfl
            rw [List.getElem?_map] at hi
            obtain ⟨z, hz, rfl⟩ := Option.map_eq_some_iff.mp hi
            have hzp := hps z (List.mem_of_getElem? hz)
            refine ⟨rfl, _, rfl, _, z, rfl, hx, hzp.1, hzp.2, fun H3 s3 => ?_⟩
            refine lcn nD s2 hD s3 (lt_line (by rw [List.length_map, List.length_take]; have := hlen; omega)) ?_
            show _ = ((([p1, p2]).take (i + 1)).map fun z => V.int (z.dp : Nat))
            rw [List.take_add_one, hz, List.map_append]
            rfl
          · rintro H2 acc s2 hD rfl
            rw [List.length_map, List.take_length] at hD
            refine ⟨Z, D, _, _, rfl, rfl, s2 _ _ hZ, hD, le_line (by have h9 := hlen; simp only [List.length_map, List.length_cons, List.length_nil] at *; omega), fun M nM => ?_⟩
            refine ⟨M, (0 : Int) :: (([p1, p2]).map Pt.dp).map (fun (n : Nat) => (n : Int)), rfl, .of (by rw [upd_same]; simp [List.map_map, Function.comp_def]), by simp, fun m hm hy => ?_⟩
            have em := mx_is hm hy
            subst em
            exact ⟨_, _, rfl, rfl, qI (by rw [hmx]; omega) (q _ (sc.trans (sZ.trans (s2.trans (Sm.new nM)))))⟩
        · skip
          refine ⟨_, rfl, _, 0, _, hp, rfl, rfl, fun v0 h0 => ⟨line3, fun p3 n3 => ⟨_, [.str "is", .str "row", .str "any"], h0.sm (Sm.new n3), Is.new n3 (.cons (.str _) (.cons (.str _) (.cons (.str _) .nil))), rfl, rfl, _, rfl, iY (by decide +kernel) ?_⟩⟩⟩
          have s3 : Same H (upd H p3 (.tup [.str "is", .str "row", .str "any"])) := Sm.new n3
          have e1 : cutD (.str (twoW true) :: [p1, p2].map Pt.dt) (some 1) none = [p1, p2].map Pt.dt := cutD_drop _ 1
          refine ⟨_, rfl, _, rfl, _, hp.sm s3, fun vi Hc s4 hvi => ?_⟩
          have sc := s3.trans s4
          have hvi : Is K Hc vi (.tup ([p1, p2].map Pt.dt)) := by rw [← e1]; exact hvi
          refine ⟨_, rfl, _, 0, _, hp.sm sc, rfl, rfl, fun v0 h0 => ?_⟩
          rw [h0.strD]
          refine ⟨rfl, _, rfl, iN (strN rfl) ?_⟩
          refine ⟨line1, fun Z nZ => ?_⟩
          have sZ : Same Hc (upd Hc Z (.lst [.int 0])) := Sm.new nZ
          have hZ : (upd Hc Z (.lst [.int 0])) Z = some (.lst [.int 0]) := upd_same
          generalize upd Hc Z (.lst [.int 0]) = Hz at *
          obtain ⟨a, xs, ea, sq, il⟩ := (hvi.sm sZ).tupD
          cases ea
          refine .inr ⟨_, rfl, _, rfl, ⟨_, sq⟩, fun D nD => ?_⟩
          refine lc_D (walk_tup (xs := xs)) il nD (fun i H' acc => acc = ((([p1, p2]).take i).map fun z => V.int (z.dp : Nat))) rfl (fun H2 s2 => sq_up s2 sq) ?_ ?_
          · rintro i x d H2 acc hi s2 hD hx rfl
            rw [List.getElem?_map] at hi
            obtain ⟨z, hz, rfl⟩ := Option.map_eq_some_iff.mp hi
            have hzp := hps z (List.mem_of_getElem? hz)
            refine ⟨rfl, _, rfl, _, z, rfl, hx, hzp.1, hzp.2, fun H3 s3 => ?_⟩
            refine lcn nD s2 hD s3 (lt_line (by rw [List.length_map, List.length_take]; have := hlen; omega)) ?_
            show _ = ((([p1, p2]).take (i + 1)).map fun z => V.int (z.dp : Nat))
            rw [List.take_add_one, hz, List.map_append]
            rfl
          · rintro H2 acc s2 hD rfl
            rw [List.length_map, List.take_length] at hD
            refine ⟨Z, D, _, _, rfl, rfl, s2 _ _ hZ, hD, le_line (by have h9 := hlen; simp only [List.length_map, List.length_cons, List.length_nil] at *; omega), fun M nM => ?_⟩
            refine ⟨M, (0 : Int) :: (([p1, p2]).map Pt.dp).map (fun (n : Nat) => (n : Int)), rfl, .of (by rw [upd_same]; simp [List.map_map, Function.comp_def]), by simp, fun m hm hy => ?_⟩
            have em := mx_is hm hy
            subst em
            exact ⟨_, _, rfl, rfl, qI (by rw [hmx]; omega) (q _ (sc.trans (sZ.trans (s2.trans (Sm.new nM)))))⟩
      | lone k1 p1 =>
        have hp : Is K H v (.tup (.str k1.word :: [p1].map Pt.dt)) := hv
        have ho : p1.ok := by simpa only [Pt.ok] using hok
        have hmx : (Pt.lone k1 p1).dp = 1 + mx (([p1]).map Pt.dp) := by simp [Pt.dp, mx]
        simp only [Pt.dp] at hdp
        have hps : ∀ z ∈ [p1], z.ok ∧ z.dp ≤ n := by
          intro z hz
          rw [List.mem_singleton] at hz
          subst hz
          exact ⟨ho, by omega⟩
        have hlen : ([p1]).length ≤ 10 := by simp
        cases k1
        · skip
          refine ⟨_, rfl, _, 0, _, hp, rfl, rfl, fun v0 h0 => ⟨line3, fun p3 n3 => ⟨_, [.str "is", .str "row", .str "any"], h0.sm (Sm.new n3), Is.new n3 (.cons (.str _) (.cons (.str _) (.cons (.str _) .nil))), rfl, rfl, _, rfl, iY (by decide +kernel) ?_⟩⟩⟩
          have s3 : Same H (upd H p3 (.tup [.str "is", .str "row", .str "any"])) := Sm.new n3
          have e1 : cutD (.str (Lw.word .nt) :: [p1].map Pt.dt) (some 1) none = [p1].map Pt.dt := cutD_drop _ 1
          refine ⟨_, rfl, _, rfl, _, hp.sm s3, fun vi Hc s4 hvi => ?_⟩
          have sc := s3.trans s4
          have hvi : Is K Hc vi (.tup ([p1].map Pt.dt)) := by rw [← e1]; exact hvi
          refine ⟨_, rfl, _, 0, _, hp.sm sc, rfl, rfl, fun v0 h0 => ?_⟩
          rw [h0.strD]
          refine ⟨rfl, _, rfl, iN (strN rfl) ?_⟩
          refine ⟨line1, fun Z nZ => ?_⟩
          have sZ : Same Hc (upd Hc Z (.lst [.int 0])) := Sm.new nZ
          have hZ : (upd Hc Z (.lst [.int 0])) Z = some (.lst [.int 0]) := upd_same
          generalize upd Hc Z (.lst [.int 0]) = Hz at *
          obtain ⟨a, xs, ea, sq, il⟩ := (hvi.sm sZ).tupD
          cases ea
          refine .inr ⟨_, rfl, _, rfl, ⟨_, sq⟩, fun D nD => ?_⟩
          refine lc_D (walk_tup (xs := xs)) il nD (fun i H' acc => acc = ((([p1]).take i).map fun z => V.int (z.dp : Nat))) rfl (fun H2 s2 => sq_up s2 sq) ?_ ?_
          · rintro i x d H2 acc hi s2 hD hx rfl
            rw [List.getElem?_map] at hi
            obtain ⟨z, hz, rfl⟩ := Option.map_eq_some_iff.mp hi
            have hzp := hps z (List.mem_of_getElem? hz)
            refine ⟨rfl, _, rfl, _, z, rfl, hx, hzp.1, hzp.2, fun H3 s3 => ?_⟩
            refine lcn nD s2 hD s3 (lt_line (by rw [List.length_map, List.length_take]; have := hlen; omega)) ?_
            show _ = ((([p1]).take (i + 1)).map fun z => V.int (z.dp : Nat))
            rw [List.take_add_one, hz, List.map_append]
            rfl
          · rintro H2 acc s2 hD rfl
            rw [List.length_map, List.take_length] at hD
            refine ⟨Z, D, _, _, rfl, rfl, s2 _ _ hZ, hD, le_line (by have h9 := hlen; simp only [List.length_map, List.length_cons, List.length_nil] at *; omega), fun M nM => ?_⟩
            refine ⟨M, (0 : Int) :: (([p1]).map Pt.dp).map (fun (n : Nat) => (n : Int)), rfl, .of (by rw [upd_same]; simp [List.map_map, Function.comp_def]), by simp, fun m hm hy => ?_⟩
            have em := mx_is hm hy
            subst em
            exact ⟨_, _, rfl, rfl, qI (by rw [hmx]; omega) (q _ (sc.trans (sZ.trans (s2.trans (Sm.new nM)))))⟩
        · skip
          refine ⟨_, rfl, _, 0, _, hp, rfl, rfl, fun v0 h0 => ⟨line3, fun p3 n3 => ⟨_, [.str "is", .str "row", .str "any"], h0.sm (Sm.new n3), Is.new n3 (.cons (.str _) (.cons (.str _) (.cons (.str _) .nil))), rfl, rfl, _, rfl, iY (by decide +kernel) ?_⟩⟩⟩
          have s3 : Same H (upd H p3 (.tup [.str "is", .str "row", .str "any"])) := Sm.new n3
          have e1 : cutD (.str (Lw.word .first) :: [p1].map Pt.dt) (some 1) none = [p1].map Pt.dt := cutD_drop _ 1
          refine ⟨_, rfl, _, rfl, _, hp.sm s3, fun vi Hc s4 hvi => ?_⟩
          have sc := s3.trans s4
          have hvi : Is K Hc vi (.tup ([p1].map Pt.dt)) := by rw [← e1]; exact hvi
          refine ⟨_, rfl, _, 0, _, hp.sm sc, rfl, rfl, fun v0 h0 => ?_⟩
          rw [h0.strD]
          refine ⟨rfl, _, rfl, iN (strN rfl) ?_⟩
          refine ⟨line1, fun Z nZ => ?_⟩
          have sZ : Same Hc (upd Hc Z (.lst [.int 0])) := Sm.new nZ
          have hZ : (upd Hc Z (.lst [.int 0])) Z = some (.lst [.int 0]) := upd_same
          generalize upd Hc Z (.lst [.int 0]) = Hz at *
          obtain ⟨a, xs, ea, sq, il⟩ := (hvi.sm sZ).tupD
          cases ea
          refine .inr ⟨_, rfl, _, rfl, ⟨_, sq⟩, fun D nD => ?_⟩
          refine lc_D (walk_tup (xs := xs)) il nD (fun i H' acc => acc = ((([p1]).take i).map fun z => V.int (z.dp : Nat))) rfl (fun H2 s2 => sq_up s2 sq) ?_ ?_
          · rintro i x d H2 acc hi s2 hD hx rfl
            rw [List.getElem?_map] at hi
            obtain ⟨z, hz, rfl⟩ := Option.map_eq_some_iff.mp hi
            have hzp := hps z (List.mem_of_getElem? hz)
            refine ⟨rfl, _, rfl, _, z, rfl, hx, hzp.1, hzp.2, fun H3 s3 => ?_⟩
            refine lcn nD s2 hD s3 (lt_line (by rw [List.length_map, List.length_take]; have := hlen; omega)) ?_
            show _ = ((([p1]).take (i + 1)).map fun z => V.int (z.dp : Nat))
            rw [List.take_add_one, hz, List.map_append]
            rfl
          · rintro H2 acc s2 hD rfl
            rw [List.length_map, List.take_length] at hD
            refine ⟨Z, D, _, _, rfl, rfl, s2 _ _ hZ, hD, le_line (by have h9 := hlen; simp only [List.length_map, List.length_cons, List.length_nil] at *; omega), fun M nM => ?_⟩
            refine ⟨M, (0 : Int) :: (([p1]).map Pt.dp).map (fun (n : Nat) => (n : Int)), rfl, .of (by rw [upd_same]; simp [List.map_map, Function.comp_def]), by simp, fun m hm hy => ?_⟩
            have em := mx_is hm hy
            subst em
            exact ⟨_, _, rfl, rfl, qI (by rw [hmx]; omega) (q _ (sc.trans (sZ.trans (s2.trans (Sm.new nM)))))⟩
        · skip
          refine ⟨_, rfl, _, 0, _, hp, rfl, rfl, fun v0 h0 => ⟨line3, fun p3 n3 => ⟨_, [.str "is", .str "row", .str "any"], h0.sm (Sm.new n3), Is.new n3 (.cons (.str _) (.cons (.str _) (.cons (.str _) .nil))), rfl, rfl, _, rfl, iY (by decide +kernel) ?_⟩⟩⟩
          have s3 : Same H (upd H p3 (.tup [.str "is", .str "row", .str "any"])) := Sm.new n3
          have e1 : cutD (.str (Lw.word .all) :: [p1].map Pt.dt) (some 1) none = [p1].map Pt.dt := cutD_drop _ 1
          refine ⟨_, rfl, _, rfl, _, hp.sm s3, fun vi Hc s4 hvi => ?_⟩
          have sc := s3.trans s4
          have hvi : Is K Hc vi (.tup ([p1].map Pt.dt)) := by rw [← e1]; exact hvi
          refine ⟨_, rfl, _, 0, _, hp.sm sc, rfl, rfl, fun v0 h0 => ?_⟩
          rw [h0.strD]
          refine ⟨rfl, _, rfl, iN (strN rfl) ?_⟩
          refine ⟨line1, fun Z nZ => ?_⟩
          have sZ : Same Hc (upd Hc Z (.lst [.int 0])) := Sm.new nZ
          have hZ : (upd Hc Z (.lst [.int 0])) Z = some (.lst [.int 0]) := upd_same
          generalize upd Hc Z (.lst [.int 0]) = Hz at *
          obtain ⟨a, xs, ea, sq, il⟩ := (hvi.sm sZ).tupD
          cases ea
          refine .inr ⟨_, rfl, _, rfl, ⟨_, sq⟩, fun D nD => ?_⟩
          refine lc_D (walk_tup (xs := xs)) il nD (fun i H' acc => acc = ((([p1]).take i).map fun z => V.int (z.dp : Nat))) rfl (fun H2 s2 => sq_up s2 sq) ?_ ?_
          · rintro i x d H2 acc hi s2 hD hx rfl
            rw [List.getElem?_map] at hi
            obtain ⟨z, hz, rfl⟩ := Option.map_eq_some_iff.mp hi
            have hzp := hps z (List.mem_of_getElem? hz)
            refine ⟨rfl, _, rfl, _, z, rfl, hx, hzp.1, hzp.2, fun H3 s3 => ?_⟩
            refine lcn nD s2 hD s3 (lt_line (by rw [List.length_map, List.length_take]; have := hlen; omega)) ?_
            show _ = ((([p1]).take (i + 1)).map fun z => V.int (z.dp : Nat))
            rw [List.take_add_one, hz, List.map_append]
            rfl
          · rintro H2 acc s2 hD rfl
            rw [List.length_map, List.take_length] at hD
            refine ⟨Z, D, _, _, rfl, rfl, s2 _ _ hZ, hD, le_line (by have h9 := hlen; simp only [List.length_map, List.length_cons, List.length_nil] at *; omega), fun M nM => ?_⟩
            refine ⟨M, (0 : Int) :: (([p1]).map Pt.dp).map (fun (n : Nat) => (n : Int)), rfl, .of (by rw [upd_same]; simp [List.map_map, Function.comp_def]), by simp, fun m hm hy => ?_⟩
            have em := mx_is hm hy
            subst em
            exact ⟨_, _, rfl, rfl, qI (by rw [hmx]; omega) (q _ (sc.trans (sZ.trans (s2.trans (Sm.new nM)))))⟩
      | row its =>
        have hp : Is K H v (.tup [.str "row", .tup its.dts]) := hv
        have ho : its.len ≤ 3 ∧ its.ok := by simpa only [Pt.ok] using hok
        have hmx : (Pt.row its).dp = 1 + mx (its.pats.map Pt.dp) := by simp only [Pt.dp, Its.dp_pats]
        simp only [Pt.dp] at hdp
        have hps : ∀ z ∈ its.pats, z.ok ∧ z.dp ≤ n := fun z hz => ⟨Its.ok_mem ho.2 hz, by have := Its.dp_le hz; omega⟩
        have hlen : its.pats.length ≤ 10 := by rw [Its.pats_len]; omega
        refine ⟨_, rfl, _, 0, _, hp, rfl, rfl, fun v0 h0 => ⟨line3, fun p3 n3 => ⟨_, [.str "is", .str "row", .str "any"], h0.sm (Sm.new n3), Is.new n3 (.cons (.str _) (.cons (.str _) (.cons (.str _) .nil))), rfl, rfl, _, rfl, iN (by decide +kernel) ?_⟩⟩⟩
        have s3 : Same H (upd H p3 (.tup [.str "is", .str "row", .str "any"])) := Sm.new n3
        refine ⟨by decide, fun e ne => ?_⟩
        have s4 : Same _ (upd _ e (.tup [])) := Sm.new ne
        have s34 := s3.trans s4
        refine ⟨_, rfl, _, 0, _, hp.sm s34, rfl, rfl, fun v0 h0 => ?_⟩
        rw [h0.strD]
        refine ⟨rfl, _, rfl, iY (strE rfl) ?_⟩
        generalize upd (upd H p3 (.tup [.str "is", .str "row", .str "any"])) e (.tup []) = Hb at *
        refine ⟨_, rfl, _, 1, _, hp.sm s34, rfl, rfl, fun v1 h1 => ?_⟩
        obtain ⟨a, xs, rfl, sq, il⟩ := h1.tupD
        refine ⟨_, rfl, ⟨_, sq⟩, fun Di nDi => ?_⟩
        refine lc_D (walk_tup (xs := xs)) il nDi (fun i H' acc => IsAll K H' acc ((its.pats.take i).map Pt.dt)) .nil (fun H2 s2 => sq_up s2 sq) ?_ ?_
        · rintro i x d H2 acc hi s1 hD hx f
          obtain ⟨b, p', e', hp'⟩ := its_nth hi
          subst e'
          refine ⟨rfl, _, rfl, _, 1, _, hx, rfl, rfl, fun y hy => ?_⟩
          refine lcn nDi s1 hD (.refl _) (lt_line (by rw [f.len, List.length_map, List.length_take]; omega)) ?_
          show IsAll K _ _ ((its.pats.take (i + 1)).map Pt.dt)
          rw [List.take_add_one, hp', List.map_append]
          exact (f.append (.one hy)).up (.lst hD)
        intro Hc xsi s5 hDi ili
        rw [Its.dts_len, ← Its.pats_len, List.take_length] at ili
        have sc := s34.trans s5
        refine ⟨line1, fun Z nZ => ?_⟩
        have sZ : Same Hc (upd Hc Z (.lst [.int 0])) := Sm.new nZ
        have hZ : (upd Hc Z (.lst [.int 0])) Z = some (.lst [.int 0]) := upd_same
        generalize upd Hc Z (.lst [.int 0]) = Hz at *
        refine .inl ⟨_, rfl, Di, rfl, ⟨xsi, .of (sZ _ _ hDi)⟩, fun D nD => ?_⟩
        refine lc_D (walk_list (xs := xsi)) (ili.sm sZ) nD (fun i H' acc => acc = (((its.pats).take i).map fun z => V.int (z.dp : Nat))) rfl (fun H2 s2 => .of (s2 _ _ (sZ _ _ hDi))) ?_ ?_
        · rintro i x d H2 acc hi s2 hD hx rfl
          rw [List.getElem?_map] at hi
          obtain ⟨z, hz, rfl⟩ := Option.map_eq_some_iff.mp hi
          have hzp := hps z (List.mem_of_getElem? hz)
          refine ⟨rfl, _, rfl, _, z, rfl, hx, hzp.1, hzp.2, fun H3 s3 => ?_⟩
          refine lcn nD s2 hD s3 (lt_line (by rw [List.length_map, List.length_take]; have := hlen; omega)) ?_
          show _ = (((its.pats).take (i + 1)).map fun z => V.int (z.dp : Nat))
          rw [List.take_add_one, hz, List.map_append]
          rfl
        · rintro H2 acc s2 hD rfl
          rw [List.length_map, List.take_length] at hD
          refine ⟨Z, D, _, _, rfl, rfl, s2 _ _ hZ, hD, le_line (by have h9 := hlen; simp only [List.length_map, List.length_cons, List.length_nil] at *; omega), fun M nM => ?_⟩
          refine ⟨M, (0 : Int) :: ((its.pats).map Pt.dp).map (fun (n : Nat) => (n : Int)), rfl, .of (by rw [upd_same]; simp [List.map_map, Function.comp_def]), by simp, fun m hm hy => ?_⟩
          have em := mx_is hm hy
          subst em
          exact ⟨_, _, rfl, rfl, qI (by rw [hmx]; omega) (q _ (sc.trans (sZ.trans (s2.trans (Sm.new nM)))))⟩
end
end Wf
set_option Elab.async false
set_option linter.all false
set_option maxRecDepth 100000
set_option maxHeartbeats 400000
namespace Wf
open PySem PySem.Spec PyProof.Rows L2
section
variable {P : Program} {w : World} {K : PySem.W.Frag} {mg : Str → Option Value} {base : Heap}
def spPl (K : PySem.W.Frag) : Sp := fun vs H Q _ => ∃ (m c l r : Addr) (N : Nat) (q : Int), vs = [.ref m, .int 4, .ref r] ∧ Drw H m c l N ∧ N ≤ 2 ^ 17 ∧ H r = some (.lst [.int q]) ∧ r ≠ l ∧ r ≠ c ∧
  ∀ H' v p, Kp (three m l r) H H' → Drw H' m c l (N + 1000) → Is K H' v (Pt.dt p) → p.ok → p.pl = true → p.pcs ≤ 16 → p.dp ≤ 7 → Q v H'
theorem ok_law_plain {k : Nat} (T : Tx w K mg) (c_law_draw : Cal P w K mg base k "_law_draw" (spDraw K)) (c_law_plain_in : Cal P w K mg base k "_law_plain_in" (spPlain K 4)) (c_law_pieces : Cal P w K mg base k "_law_pieces" (spPcs K 13)) (c_law_depth : Cal P w K mg base k "_law_depth" (spDepth K 8)) :
    Cal P w K mg base (k + 1) "_law_plain" (spPl K) := by
  refine Tx.cal T.f_law_plain T.g_law_plain T.b_law_plain sc_law_plain ?_ ?_
  · rintro vs H Q E ⟨m, c, l, r, N, q, rfl, _⟩
    rfl
  · rintro cdv A outer s0 H vs Q E hr ⟨m, c, l, r, N, q, rfl, D, hN, hrm, hrl, hrc, qq⟩
    refine ⟨_, (pss_cons (ps_set (i := 3) sc_law_plain.nd rfl (by first | exact Or.inl rfl | exact Or.inr rfl) (pe_c c_law_plain_in hr (Nat.le_refl _) (by rfl) (pa_cons (pv 0) (pa_cons (pv 1) (pa_cons (pv 2) pa_nil))))) (pss_one (ps_ret (pe_ifExp (pw_and (pt_cmpR op_lt (pe_callB call_len_seq (by rfl) T.z_len boot_len (pa_cons (pe_c c_law_pieces hr (Nat.le_refl _) (by rfl) (pa_cons (pv 3) pa_nil)) pa_nil)) pe_int (nomark _)) (pw_and1 (pt_cmpR op_lt (pe_c c_law_depth hr (Nat.le_refl _) (by rfl) (pa_cons (pv 3) pa_nil)) pe_int (nomark _)))).pt (pv 3) (pe_tup (pa_cons pe_str (pa_cons (pe_c c_law_draw hr (Nat.le_refl _) (by rfl) (pa_cons (pv 0) (pa_cons pe_int pa_nil))) pa_nil))))))), ?_⟩
    have ec : cdr 4 = 968 := by decide
    have eb : bnd 4 = 214 := by decide
    refine ⟨_, rfl, _, rfl, _, rfl, m, c, l, r, N, 4, q, rfl, D, by omega, hrm, hrl, hrc, by omega, by omega, fun H1 v p q' kp1 D1 hr1 iv po => ?_⟩
    have h1 := po.dp
    have h2 := po.pcs
    have h3 := p.lv_le po.ok
    have small : ∀ H2, Same H1 H2 → (tTup (tCons (tC (.str "is")) (tCons (tCall (spDraw K) [] E0 (tCons (tVar 0) (tCons (tC (.int 3)) tNil))) tNil))) [some (.ref m), some (.int 4), some (.ref r), some v] H2 Q := by
      intro H2 s2
      refine ⟨_, rfl, m, c, l, N + cdr 4, 3, rfl, by decide, by decide, D1.sm s2, by omega, fun H3 x kp3 D3 hx => ⟨line2, fun p3 n3 => ?_⟩⟩
      have s4 : Same H3 (upd H3 p3 (.tup [.str "is", .int (x : Nat)])) := Sm.new n3
      have hg : (Dt.int (x : Nat)).good := ⟨by simp [Dt.thg]; omega, by simp [Dt.dep], by simp [Dt.sz]⟩
      exact qq _ (.ref p3) (.is_ (.int (x : Nat))) (kp1.trans ((Kp.sm s2).trans ((kp3.mono fun b => two_three).trans (.sm s4)))) ((D3.sm s4).mono (by omega)) (Is.new n3 (.cons (.str _) (.one (.int _)))) (by simp only [Pt.ok]; exact hg) rfl (by simp [Pt.pcs, Dt.sz]) (by simp [Pt.dp])
    refine ⟨_, rfl, v, p, rfl, iv, po.ok, by omega, by omega, fun H2 a xs s2 na ha hl => ?_⟩
    refine ⟨a, xs, rfl, .inl (.of ha), _, _, rfl, rfl, _, rfl, iD (fun e => ?_) fun _ => small H2 s2⟩
    refine ⟨_, rfl, v, p, rfl, iv.sm s2, po.ok, by omega, fun H3 s3 => ?_⟩
    refine ⟨_, _, rfl, rfl, _, rfl, iD (fun e2 => ?_) fun _ => small H3 (s2.trans s3)⟩
    have s23 := s2.trans s3
    refine ⟨_, rfl, qq _ v p (kp1.trans (.sm s23)) ((D1.sm s23).mono (by omega)) (iv.sm s23) po.ok po.pl ?_ ?_⟩
    · have := of_decide_eq_true e
      omega
    · have := of_decide_eq_true e2
      omega
mutual
def Pt.nnp : Pt → Pt
  | .any => .any
  | .is_ d => .is_ d
  | .two b p q => .two b p.nnp q.nnp
  | .lone .nt p => .lone .first p.nnp
  | .lone .first p => .lone .first p.nnp
  | .lone .all p => .lone .all p.nnp
  | .row s => .row s.nnp
def Its.nnp : Its → Its
  | .nil => .nil
  | .cons b p s => .cons b p.nnp s.nnp
end
theorem Its.nnp_len : ∀ s : Its, s.nnp.len = s.len
  | .nil => rfl
  | .cons b p s => by simp [Its.nnp, Its.len, Its.nnp_len s]
mutual
theorem Pt.nnp_ok : ∀ p : Pt, p.ok → p.nnp.ok
  | .any, h => h
  | .is_ d, h => h
  | .two b p q, h => by
    simp only [Pt.ok] at h
    simp only [Pt.nnp, Pt.ok]
    exact ⟨Pt.nnp_ok p h.1, Pt.nnp_ok q h.2⟩
  | .lone .nt p, h => by simp only [Pt.ok] at h; simp only [Pt.nnp, Pt.ok]; exact Pt.nnp_ok p h
  | .lone .first p, h => by simp only [Pt.ok] at h; simp only [Pt.nnp, Pt.ok]; exact Pt.nnp_ok p h
  | .lone .all p, h => by simp only [Pt.ok] at h; simp only [Pt.nnp, Pt.ok]; exact Pt.nnp_ok p h
  | .row s, h => by
    simp only [Pt.ok] at h
    simp only [Pt.nnp, Pt.ok, Its.nnp_len]
    exact ⟨h.1, Its.nnp_ok s h.2⟩
theorem Its.nnp_ok : ∀ s : Its, s.ok → s.nnp.ok
  | .nil, h => h
  | .cons b p s, h => by
    simp only [Its.ok] at h
    simp only [Its.nnp, Its.ok]
    exact ⟨Pt.nnp_ok p h.1, Its.nnp_ok s h.2⟩
end
mutual
theorem Pt.nnp_nn : ∀ p : Pt, p.nnp.nn = true
  | .any => rfl
  | .is_ d => rfl
  | .two b p q => by simp [Pt.nnp, Pt.nn, Pt.nnp_nn p, Pt.nnp_nn q]
  | .lone .nt p => by simp [Pt.nnp, Pt.nn, Pt.nnp_nn p]
  | .lone .first p => by simp [Pt.nnp, Pt.nn, Pt.nnp_nn p]
  | .lone .all p => by simp [Pt.nnp, Pt.nn, Pt.nnp_nn p]
  | .row s => by simp [Pt.nnp, Pt.nn, Its.nnp_nn s]
theorem Its.nnp_nn : ∀ s : Its, s.nnp.nn = true
  | .nil => rfl
  | .cons b p s => by simp [Its.nnp, Its.nn, Pt.nnp_nn p, Its.nnp_nn s]
end
theorem Pt.nnp_str : ∀ p : Pt, p.str1 = true → p.nnp.str1 = true
  | .any, _ => rfl
  | .lone .all p, _ => by simp [Pt.nnp, Pt.str1]
  | .lone .nt p, h => by simp [Pt.str1] at h
  | .lone .first p, h => by simp [Pt.str1] at h
  | .is_ d, h => by simp [Pt.str1] at h
  | .two b p q, h => by simp [Pt.str1] at h
  | .row s, h => by simp [Pt.str1] at h
mutual
theorem Pt.nnp_pl : ∀ p : Pt, p.pl = true → p.nnp.pl = true
  | .any, h => rfl
  | .is_ d, h => rfl
  | .two b p q, h => by
    simp only [Pt.pl, Bool.and_eq_true] at h
    simp only [Pt.nnp, Pt.pl, Bool.and_eq_true]
    exact ⟨Pt.nnp_pl p h.1, Pt.nnp_pl q h.2⟩
  | .lone .nt p, h => by simp only [Pt.pl] at h; simp only [Pt.nnp, Pt.pl]; exact Pt.nnp_pl p h
  | .lone .first p, h => by simp only [Pt.pl] at h; simp only [Pt.nnp, Pt.pl]; exact Pt.nnp_pl p h
  | .lone .all p, h => by simp only [Pt.pl] at h; simp only [Pt.nnp, Pt.pl]; exact Pt.nnp_pl p h
  | .row s, h => by simp only [Pt.pl] at h; simp only [Pt.nnp, Pt.pl]; exact Its.nnp_pl s h
theorem Its.nnp_pl : ∀ s : Its, s.pl = true → s.nnp.pl = true
  | .nil, h => rfl
  | .cons false p s, h => by
    simp only [Its.pl, Bool.and_eq_true] at h
    simp only [Its.nnp, Its.pl, Bool.and_eq_true]
    exact ⟨Pt.nnp_pl p h.1, Its.nnp_pl s h.2⟩
  | .cons true p s, h => by
    simp only [Its.pl, Bool.and_eq_true] at h
    simp only [Its.nnp, Its.pl, Bool.and_eq_true]
    exact ⟨Pt.nnp_str p h.1, Pt.nnp_pl p h.2.1, Its.nnp_pl s h.2.2⟩
end
mutual
theorem Pt.nnp_pcs : ∀ p : Pt, p.nnp.pcs = p.pcs
  | .any => rfl
  | .is_ d => rfl
  | .two b p q => by simp [Pt.nnp, Pt.pcs, Pt.nnp_pcs p, Pt.nnp_pcs q]
  | .lone .nt p => by simp [Pt.nnp, Pt.pcs, Pt.nnp_pcs p]
  | .lone .first p => by simp [Pt.nnp, Pt.pcs, Pt.nnp_pcs p]
  | .lone .all p => by simp [Pt.nnp, Pt.pcs, Pt.nnp_pcs p]
  | .row s => by simp [Pt.nnp, Pt.pcs, Its.nnp_pcs s]
theorem Its.nnp_pcs : ∀ s : Its, s.nnp.pcs = s.pcs
  | .nil => rfl
  | .cons b p s => by simp [Its.nnp, Its.pcs, Pt.nnp_pcs p, Its.nnp_pcs s]
end
mutual
theorem Pt.nnp_dp : ∀ p : Pt, p.nnp.dp = p.dp
  | .any => rfl
  | .is_ d => rfl
  | .two b p q => by simp [Pt.nnp, Pt.dp, Pt.nnp_dp p, Pt.nnp_dp q]
  | .lone .nt p => by simp [Pt.nnp, Pt.dp, Pt.nnp_dp p]
  | .lone .first p => by simp [Pt.nnp, Pt.dp, Pt.nnp_dp p]
  | .lone .all p => by simp [Pt.nnp, Pt.dp, Pt.nnp_dp p]
  | .row s => by simp [Pt.nnp, Pt.dp, Its.nnp_dp s]
theorem Its.nnp_dp : ∀ s : Its, s.nnp.dp = s.dp
  | .nil => rfl
  | .cons b p s => by simp [Its.nnp, Its.dp, Pt.nnp_dp p, Its.nnp_dp s]
end
end
end Wf
set_option Elab.async false
set_option linter.all false
set_option maxRecDepth 100000
set_option maxHeartbeats 400000
namespace Wf
open PySem PySem.Spec PyProof.Rows L2
section
variable {P : Program} {w : World} {K : PySem.W.Frag} {mg : Str → Option Value} {base : Heap}
theorem Its.nnp_pats : ∀ s : Its, s.nnp.pats = s.pats.map Pt.nnp
  | .nil => rfl
  | .cons b p s => by simp [Its.nnp, Its.pats, Its.nnp_pats s]
theorem nnp_nth : ∀ {l : Its} {i : Nat} {d : Dt}, l.dts[i]? = some d → ∃ s p, d = .tup [.str (itW s), p.dt] ∧ l.pats[i]? = some p ∧ l.nnp.dts[i]? = some (.tup [.str (itW s), p.nnp.dt])
  | .nil, _, _, h => by simp [Its.dts] at h
  | .cons s p l, 0, d, h => by
    simp only [Its.dts, List.getElem?_cons_zero, Option.some.injEq] at h
    exact ⟨s, p, h.symm, rfl, rfl⟩
  | .cons s p l, i + 1, d, h => by
    simp only [Its.dts, List.getElem?_cons_succ] at h
    obtain ⟨s', p', e, m, m2⟩ := nnp_nth h
    exact ⟨s', p', e, m, by simp only [Its.nnp, Its.dts, List.getElem?_cons_succ]; exact m2⟩
def spNN (K : PySem.W.Frag) (n : Nat) : Sp := fun vs H Q _ => ∃ v p, vs = [v] ∧ Is K H v (Pt.dt p) ∧ p.ok ∧ p.dp ≤ n ∧ ∀ v' H', Same H H' → Is K H' v' (Pt.dt p.nnp) → Q v' H'
theorem ok_law_no_nots {k : Nat} (T : Tx w K mg) : ∀ n, Cal P w K mg base (k + n) "_law_no_nots" (spNN K n)
  | 0 => Cal.no T.g_law_no_nots T.f_law_no_nots.kp T.b_law_no_nots (by
      rintro vs H Q E ⟨v, p, _, _, _, h, _⟩
      have := p.dp_pos
      omega)
  | n + 1 => by
    have c_law_no_nots := ok_law_no_nots (k := k) T n
    refine Tx.cal T.f_law_no_nots T.g_law_no_nots T.b_law_no_nots sc_law_no_nots ?_ ?_
    · rintro vs H Q E ⟨v, p, rfl, _⟩
      rfl
    · rintro cdv A outer s0 H vs Q E hr ⟨v, p, rfl, hv, hok, hdp, q⟩
      refine ⟨_, (pss_cons (ps_set (i := 1) sc_law_no_nots.nd rfl (by first | exact Or.inl rfl | exact Or.inr rfl) (pe_ix (ixD K) (pv 0) pe_int (fun _ _ => rfl))) (pss_cons (ps_if (pt_cmpR (inT K) (pv 1) (pe_tup (pa_cons pe_str (pa_cons pe_str pa_nil))) (by rfl)) (pss_one (ps_ret (pv 0))) pss_nil) (pss_cons (ps_if (pt_cmpR op_eq (pv 1) pe_str (nomark _)) (pss_one (ps_ret (pe_tup (pa_cons (pv 1) (pa_cons (pe_callTy call_tuple_of (by rfl) T.z_tuple boot_tuple (pa_cons (pe_lc (own := [("_law_item", 2)]) rfl sc_law_no_nots.nd (pi_tup (pe_ix (ixD K) (pv 0) pe_int (fun _ _ => rfl))) (blkOk_by (own := [("_law_item", 2)]) (N := ["_law_pattern", "_law_word", "_law_item", "_law_one"]) (sc := defScope sLawNoNots) (by decide +kernel)) (fun _ _ _ _ _ => (pg_name (i := 2) sc_law_no_nots.nd rfl (by first | exact Or.inl rfl | exact Or.inr rfl))) (fun _ _ _ _ _ => pts_nil) (fun _ _ _ _ _ => (pe_tup (pa_cons (pe_ix (ixD K) (pv 2) pe_int (fun _ _ => rfl)) (pa_cons (pe_c c_law_no_nots hr (Nat.le_refl _) (by rfl) (pa_cons (pe_ix (ixD K) (pv 2) pe_int (fun _ _ => rfl)) pa_nil)) pa_nil))))) pa_nil)) pa_nil))))) pss_nil) (pss_one (ps_ret (pe_op (catD K) (pe_tup (pa_cons (pe_dget2 (hu_of hr) (pe_disp (pps_cons pe_str pe_str pps_nil) (by rfl) (by rfl) (fun z => by cases z) (by decide)) (pv 1) (pv 1) ⟨rfl, rfl, rfl, rfl⟩) pa_nil)) (pe_callTy call_tuple_of (by rfl) T.z_tuple boot_tuple (pa_cons (pe_lc (own := [("_law_one", 3)]) rfl sc_law_no_nots.nd (pi_tup (pe_slice (slD K) (pv 0) (po_some pe_int) po_none)) (blkOk_by (own := [("_law_one", 3)]) (N := ["_law_pattern", "_law_word", "_law_item", "_law_one"]) (sc := defScope sLawNoNots) (by decide +kernel)) (fun _ _ _ _ _ => (pg_name (i := 3) sc_law_no_nots.nd rfl (by first | exact Or.inl rfl | exact Or.inr rfl))) (fun _ _ _ _ _ => pts_nil) (fun _ _ _ _ _ => (pe_c c_law_no_nots hr (Nat.le_refl _) (by rfl) (pa_cons (pv 3) pa_nil)))) pa_nil)))))))), ?_⟩
      cases p with
      | any =>
        have hp : Is K H v (.tup [.str "any"]) := hv
        refine ⟨_, rfl, _, 0, _, hp, rfl, rfl, fun v0 h0 => ?_⟩
        rw [h0.strD]
        refine ⟨_, rfl, line2, fun p2 n2 => ⟨_, [.str "any", .str "is"], .str _, Is.new n2 (.cons (.str _) (.cons (.str _) .nil)), rfl, rfl, _, rfl, iY (by decide +kernel) ?_⟩⟩
        exact ⟨_, rfl, q _ _ (Sm.new n2) (hv.sm (Sm.new n2))⟩
      | is_ d =>
        have hp : Is K H v (.tup [.str "is", d]) := hv
        refine ⟨_, rfl, _, 0, _, hp, rfl, rfl, fun v0 h0 => ?_⟩
        rw [h0.strD]
        refine ⟨_, rfl, line2, fun p2 n2 => ⟨_, [.str "any", .str "is"], .str _, Is.new n2 (.cons (.str _) (.cons (.str _) .nil)), rfl, rfl, _, rfl, iY (by decide +kernel) ?_⟩⟩
        exact ⟨_, rfl, q _ _ (Sm.new n2) (hv.sm (Sm.new n2))⟩
      | row its =>
        have hp : Is K H v (.tup [.str "row", .tup its.dts]) := hv
        have ho : its.len ≤ 3 ∧ its.ok := by simpa only [Pt.ok] using hok
        simp only [Pt.dp] at hdp
        refine ⟨_, rfl, _, 0, _, hp, rfl, rfl, fun v0 h0 => ?_⟩
        rw [h0.strD]
        refine ⟨_, rfl, line2, fun p2 n2 => ⟨_, [.str "any", .str "is"], .str _, Is.new n2 (.cons (.str _) (.cons (.str _) .nil)), rfl, rfl, _, rfl, iN (by decide +kernel) ?_⟩⟩
        have s2 : Same H (upd H p2 (.tup [.str "any", .str "is"])) := Sm.new n2
        refine ⟨_, rfl, rfl, _, rfl, iY (strE rfl) ?_⟩
        generalize upd H p2 (.tup [.str "any", .str "is"]) = H2 at *
        refine ⟨_, rfl, _, rfl, _, 1, _, hp.sm s2, rfl, rfl, fun v1 h1 => ?_⟩
        obtain ⟨a, xs, rfl, sq, il⟩ := h1.tupD
        refine ⟨_, rfl, ⟨_, sq⟩, fun D nD => ?_⟩
        refine lc_D (walk_tup (xs := xs)) il nD (fun i H' acc => IsAll K H' acc (its.nnp.dts.take i)) .nil (fun H3 s3 => sq_up s3 sq) ?_ ?_
        · rintro i x d H3 acc hi s3 hD hx f
          obtain ⟨b, p', e, hp', hn'⟩ := nnp_nth hi
          subst e
          have hmem := List.mem_of_getElem? hp'
          have hlen := its.dts_len
          have hdm := Its.dp_le hmem
          refine ⟨rfl, _, rfl, _, 0, _, hx, rfl, rfl, fun y0 hy0 => ⟨_, rfl, _, 1, _, hx, rfl, rfl, fun y1 hy1 => ?_⟩⟩
          refine ⟨_, p', rfl, hy1, Its.ok_mem ho.2 hmem, by omega, fun z H4 s4 hz => ⟨line2, fun p4 n4 => ?_⟩⟩
          have s5 : Same H4 (upd H4 p4 (.tup [y0, z])) := Sm.new n4
          have i4 : Is K (upd H4 p4 (.tup [y0, z])) (.ref p4) (.tup [.str (itW b), p'.nnp.dt]) := Is.new n4 (.cons (hy0.sm s4) (.one hz))
          have s45 := s4.trans s5
          refine lcn nD s3 hD s45 (lt_line ?_) ?_
          · rw [f.len, List.length_take, Its.dts_len, Its.nnp_len]
            omega
          · show IsAll K _ _ (its.nnp.dts.take (i + 1))
            rw [List.take_add_one, hn']
            exact ((f.sm s45).append (.one i4)).up (.lst (s45 _ _ hD))
        · intro H3 acc s3 hD f
          have e : its.nnp.dts.take its.dts.length = its.nnp.dts := by rw [Its.dts_len, ← Its.nnp_len, ← Its.dts_len, List.take_length]
          rw [e] at f
          refine ⟨D, acc, rfl, .inl ⟨.of hD, fun p4 n4 => ⟨line2, fun p5 n5 => ?_⟩⟩⟩
          have s4 : Same H3 (upd H3 p4 (.tup acc)) := Sm.new n4
          have s5 : Same (upd H3 p4 (.tup acc)) (upd (upd H3 p4 (.tup acc)) p5 (.tup [.str "row", .ref p4])) := Sm.new n5
          exact q _ _ (s2.trans (s3.trans (s4.trans s5))) (Is.new n5 (.cons (.str _) (.one (Is.new n4 f))))
      | two b p1 p2 =>
        have hp : Is K H v (.tup (.str (twoW b) :: [p1, p2].map Pt.dt)) := hv
        have ho : p1.ok ∧ p2.ok := by simpa only [Pt.ok] using hok
        simp only [Pt.dp] at hdp
        have hps : ∀ z ∈ [p1, p2], z.ok ∧ z.dp ≤ n := by
          intro z hz
          simp only [List.mem_cons, List.not_mem_nil, or_false] at hz
          rcases hz with rfl | rfl
          · exact ⟨ho.1, by omega⟩
          · exact ⟨ho.2, by omega⟩
        have hlen : ([p1, p2]).length ≤ 10 := by simp
        cases b
        · skip
          refine ⟨_, rfl, _, 0, _, hp, rfl, rfl, fun v0 h0 => ?_⟩
          rw [h0.strD]
          refine ⟨_, rfl, line2, fun p2' n2 => ⟨_, [.str "any", .str "is"], .str _, Is.new n2 (.cons (.str _) (.cons (.str _) .nil)), rfl, rfl, _, rfl, iN (by decide +kernel) ?_⟩⟩
          have s2 : Same H (upd H p2' (.tup [.str "any", .str "is"])) := Sm.new n2
          refine ⟨_, rfl, rfl, _, rfl, iN (strN rfl) ?_⟩
          generalize upd H p2' (.tup [.str "any", .str "is"]) = H2 at *
          refine fun pd nd => ⟨upd_same, [(.inr "not", .str "first")], rfl, by decide, ?_⟩
          have sd : Same H2 (upd (upd H2 pd (.dK [])) pd (.dK (mergeK [] [(.inr "not", .str "first")]))) := Sm.put (Sm.new nd) nd
          have hd : (upd (upd H2 pd (.dK [])) pd (.dK (mergeK [] [(.inr "not", .str "first")]))) pd = some (.dK [(.inr "not", .str "first")]) := upd_same
          generalize upd (upd H2 pd (.dK [])) pd (.dK (mergeK [] [(.inr "not", .str "first")])) = H3 at *
          refine ⟨pd, rfl, .inl ⟨_, .inl hd⟩, _, rfl, _, rfl, none, DGet.k (k := Sum.inr (twoW false)) hd, line1, fun p3 n3 => ?_⟩
          have s3 : Same H3 (upd H3 p3 (.tup [.str (twoW false)])) := Sm.new n3
          have i3 : Is K (upd H3 p3 (.tup [.str (twoW false)])) (.ref p3) (.tup [.str (twoW false)]) := Is.new n3 (.one (.str _))
          have s23 := s2.trans (sd.trans s3)
          have e1 : cutD (.str (twoW false) :: [p1, p2].map Pt.dt) (some 1) none = [p1, p2].map Pt.dt := cutD_drop _ 1
          refine ⟨_, rfl, _, rfl, _, hp.sm s23, fun vi Hc s4 hvi => ?_⟩
          have hvi : Is K Hc vi (.tup ([p1, p2].map Pt.dt)) := by rw [← e1]; exact hvi
          obtain ⟨a, xs, rfl, sq, il⟩ := hvi.tupD
          refine ⟨_, rfl, ⟨_, sq⟩, fun D nD => ?_⟩
          refine lc_D (walk_tup (xs := xs)) il nD (fun i H' acc => IsAll K H' acc (([p1, p2].take i).map fun z => z.nnp.dt)) .nil (fun H5 s5 => sq_up s5 sq) ?_ ?_
          · rintro i x d H5 acc hi s5 hD hx f
            rw [List.getElem?_map] at hi
            obtain ⟨z, hz, rfl⟩ := Option.map_eq_some_iff.mp hi
            have hzp := hps z (List.mem_of_getElem? hz)
            refine ⟨rfl, _, rfl, _, z, rfl, hx, hzp.1, hzp.2, fun z' H6 s6 hz' => ?_⟩
            refine lcn nD s5 hD s6 (lt_line (by rw [f.len, List.length_map, List.length_take]; have := hlen; omega)) ?_
            show IsAll K _ _ (([p1, p2].take (i + 1)).map fun z => z.nnp.dt)
            rw [List.take_add_one, hz, List.map_append]
            exact ((f.sm s6).append (.one hz')).up (.lst (s6 _ _ hD))
          · intro H5 acc s5 hD f
            rw [List.length_map, List.take_length] at f
            refine ⟨D, acc, rfl, .inl ⟨.of hD, fun p6 n6 => ?_⟩⟩
            have s6 : Same H5 (upd H5 p6 (.tup acc)) := Sm.new n6
            have s456 := s4.trans (s5.trans s6)
            exact ⟨[.str (twoW false)], _, i3.sm s456, Is.new n6 f, le_line (by simp), fun v' H' s7 hv' => q _ _ (s23.trans (s456.trans s7)) hv'⟩
        · skip
          refine ⟨_, rfl, _, 0, _, hp, rfl, rfl, fun v0 h0 => ?_⟩
          rw [h0.strD]
          refine ⟨_, rfl, line2, fun p2' n2 => ⟨_, [.str "any", .str "is"], .str _, Is.new n2 (.cons (.str _) (.cons (.str _) .nil)), rfl, rfl, _, rfl, iN (by decide +kernel) ?_⟩⟩
          have s2 : Same H (upd H p2' (.tup [.str "any", .str "is"])) := Sm.new n2
          refine ⟨_, rfl, rfl, _, rfl, iN (strN rfl) ?_⟩
          generalize upd H p2' (.tup [.str "any", .str "is"]) = H2 at *
          refine fun pd nd => ⟨upd_same, [(.inr "not", .str "first")], rfl, by decide, ?_⟩
          have sd : Same H2 (upd (upd H2 pd (.dK [])) pd (.dK (mergeK [] [(.inr "not", .str "first")]))) := Sm.put (Sm.new nd) nd
          have hd : (upd (upd H2 pd (.dK [])) pd (.dK (mergeK [] [(.inr "not", .str "first")]))) pd = some (.dK [(.inr "not", .str "first")]) := upd_same
          generalize upd (upd H2 pd (.dK [])) pd (.dK (mergeK [] [(.inr "not", .str "first")])) = H3 at *
          refine ⟨pd, rfl, .inl ⟨_, .inl hd⟩, _, rfl, _, rfl, none, DGet.k (k := Sum.inr (twoW true)) hd, line1, fun p3 n3 => ?_⟩
          have s3 : Same H3 (upd H3 p3 (.tup [.str (twoW true)])) := Sm.new n3
          have i3 : Is K (upd H3 p3 (.tup [.str (twoW true)])) (.ref p3) (.tup [.str (twoW true)]) := Is.new n3 (.one (.str _))
          have s23 := s2.trans (sd.trans s3)
          have e1 : cutD (.str (twoW true) :: [p1, p2].map Pt.dt) (some 1) none = [p1, p2].map Pt.dt := cutD_drop _ 1
          refine ⟨_, rfl, _, rfl, _, hp.sm s23, fun vi Hc s4 hvi => ?_⟩
          have hvi : Is K Hc vi (.tup ([p1, p2].map Pt.dt)) := by rw [← e1]; exact hvi
          obtain ⟨a, xs, rfl, sq, il⟩ := hvi.tupD
          refine ⟨_, rfl, ⟨_, sq⟩, fun D nD => ?_⟩
          refine lc_D (walk_tup (xs := xs)) il nD (fun i H' acc => IsAll K H' acc (([p1, p2].take i).map fun z => z.nnp.dt)) .nil (fun H5 s5 => sq_up s5 sq) ?_ ?_
          · rintro i x d H5 acc hi s5 hD hx f
            rw [List.getElem?_map] at hi
            obtain ⟨z, hz, rfl⟩ := Option.map_eq_some_iff.mp hi
            have hzp := hps z (List.mem_of_getElem? hz)
            refine ⟨rfl, _, rfl, _, z, rfl, hx, hzp.1, hzp.2, fun z' H6 s6 hz' => ?_⟩
            refine lcn nD s5 hD s6 (lt_line (by rw [f.len, List.length_map, List.length_take]; have := hlen; omega)) ?_
            show IsAll K _ _ (([p1, p2].take (i + 1)).map fun z => z.nnp.dt)
            rw [List.take_add_one, hz, List.map_append]
            exact ((f.sm s6).append (.one hz')).up (.lst (s6 _ _ hD))
          · intro H5 acc s5 hD f
            rw [List.length_map, List.take_length] at f
            refine ⟨D, acc, rfl, .inl ⟨.of hD, fun p6 n6 => ?_⟩⟩
            have s6 : Same H5 (upd H5 p6 (.tup acc)) := Sm.new n6
            have s456 := s4.trans (s5.trans s6)
            exact ⟨[.str (twoW true)], _, i3.sm s456, Is.new n6 f, le_line (by simp), fun v' H' s7 hv' => q _ _ (s23.trans (s456.trans s7)) hv'⟩
      | lone k1 p1 =>
        have hp : Is K H v (.tup (.str k1.word :: [p1].map Pt.dt)) := hv
        have ho : p1.ok := by simpa only [Pt.ok] using hok
        simp only [Pt.dp] at hdp
        have hps : ∀ z ∈ [p1], z.ok ∧ z.dp ≤ n := by
          intro z hz
          rw [List.mem_singleton] at hz
          subst hz
          exact ⟨ho, by omega⟩
        have hlen : ([p1]).length ≤ 10 := by simp
        cases k1
        · skip
          refine ⟨_, rfl, _, 0, _, hp, rfl, rfl, fun v0 h0 => ?_⟩
          rw [h0.strD]
          refine ⟨_, rfl, line2, fun p2' n2 => ⟨_, [.str "any", .str "is"], .str _, Is.new n2 (.cons (.str _) (.cons (.str _) .nil)), rfl, rfl, _, rfl, iN (by decide +kernel) ?_⟩⟩
          have s2 : Same H (upd H p2' (.tup [.str "any", .str "is"])) := Sm.new n2
          refine ⟨_, rfl, rfl, _, rfl, iN (strN rfl) ?_⟩
          generalize upd H p2' (.tup [.str "any", .str "is"]) = H2 at *
          refine fun pd nd => ⟨upd_same, [(.inr "not", .str "first")], rfl, by decide, ?_⟩
          have sd : Same H2 (upd (upd H2 pd (.dK [])) pd (.dK (mergeK [] [(.inr "not", .str "first")]))) := Sm.put (Sm.new nd) nd
          have hd : (upd (upd H2 pd (.dK [])) pd (.dK (mergeK [] [(.inr "not", .str "first")]))) pd = some (.dK [(.inr "not", .str "first")]) := upd_same
          generalize upd (upd H2 pd (.dK [])) pd (.dK (mergeK [] [(.inr "not", .str "first")])) = H3 at *
          refine ⟨pd, rfl, .inl ⟨_, .inl hd⟩, _, rfl, _, rfl, some (V.str (Lw.word .first)), DGet.k (k := Sum.inr (Lw.word .nt)) hd, line1, fun p3 n3 => ?_⟩
          have s3 : Same H3 (upd H3 p3 (.tup [.str (Lw.word .first)])) := Sm.new n3
          have i3 : Is K (upd H3 p3 (.tup [.str (Lw.word .first)])) (.ref p3) (.tup [.str (Lw.word .first)]) := Is.new n3 (.one (.str _))
          have s23 := s2.trans (sd.trans s3)
          have e1 : cutD (.str (Lw.word .nt) :: [p1].map Pt.dt) (some 1) none = [p1].map Pt.dt := cutD_drop _ 1
          refine ⟨_, rfl, _, rfl, _, hp.sm s23, fun vi Hc s4 hvi => ?_⟩
          have hvi : Is K Hc vi (.tup ([p1].map Pt.dt)) := by rw [← e1]; exact hvi
          obtain ⟨a, xs, rfl, sq, il⟩ := hvi.tupD
          refine ⟨_, rfl, ⟨_, sq⟩, fun D nD => ?_⟩
          refine lc_D (walk_tup (xs := xs)) il nD (fun i H' acc => IsAll K H' acc (([p1].take i).map fun z => z.nnp.dt)) .nil (fun H5 s5 => sq_up s5 sq) ?_ ?_
          · rintro i x d H5 acc hi s5 hD hx f
            rw [List.getElem?_map] at hi
            obtain ⟨z, hz, rfl⟩ := Option.map_eq_some_iff.mp hi
            have hzp := hps z (List.mem_of_getElem? hz)
            refine ⟨rfl, _, rfl, _, z, rfl, hx, hzp.1, hzp.2, fun z' H6 s6 hz' => ?_⟩
            refine lcn nD s5 hD s6 (lt_line (by rw [f.len, List.length_map, List.length_take]; have := hlen; omega)) ?_
            show IsAll K _ _ (([p1].take (i + 1)).map fun z => z.nnp.dt)
            rw [List.take_add_one, hz, List.map_append]
            exact ((f.sm s6).append (.one hz')).up (.lst (s6 _ _ hD))
          · intro H5 acc s5 hD f
            rw [List.length_map, List.take_length] at f
            refine ⟨D, acc, rfl, .inl ⟨.of hD, fun p6 n6 => ?_⟩⟩
            have s6 : Same H5 (upd H5 p6 (.tup acc)) := Sm.new n6
            have s456 := s4.trans (s5.trans s6)
            exact ⟨[.str (Lw.word .first)], _, i3.sm s456, Is.new n6 f, le_line (by simp), fun v' H' s7 hv' => q _ _ (s23.trans (s456.trans s7)) hv'⟩
        · skip
          refine ⟨_, rfl, _, 0, _, hp, rfl, rfl, fun v0 h0 => ?_⟩
          rw [h0.strD]
          refine ⟨_, rfl, line2, fun p2' n2 => ⟨_, [.str "any", .str "is"], .str _, Is.new n2 (.cons (.str _) (.cons (.str _) .nil)), rfl, rfl, _, rfl, iN (by decide +kernel) ?_⟩⟩
          have s2 : Same H (upd H p2' (.tup [.str "any", .str "is"])) := Sm.new n2
          refine ⟨_, rfl, rfl, _, rfl, iN (strN rfl) ?_⟩
          generalize upd H p2' (.tup [.str "any", .str "is"]) = H2 at *
          refine fun pd nd => ⟨upd_same, [(.inr "not", .str "first")], rfl, by decide, ?_⟩
          have sd : Same H2 (upd (upd H2 pd (.dK [])) pd (.dK (mergeK [] [(.inr "not", .str "first")]))) := Sm.put (Sm.new nd) nd
          have hd : (upd (upd H2 pd (.dK [])) pd (.dK (mergeK [] [(.inr "not", .str "first")]))) pd = some (.dK [(.inr "not", .str "first")]) := upd_same
          generalize upd (upd H2 pd (.dK [])) pd (.dK (mergeK [] [(.inr "not", .str "first")])) = H3 at *
          refine ⟨pd, rfl, .inl ⟨_, .inl hd⟩, _, rfl, _, rfl, none, DGet.k (k := Sum.inr (Lw.word .first)) hd, line1, fun p3 n3 => ?_⟩
          have s3 : Same H3 (upd H3 p3 (.tup [.str (Lw.word .first)])) := Sm.new n3
          have i3 : Is K (upd H3 p3 (.tup [.str (Lw.word .first)])) (.ref p3) (.tup [.str (Lw.word .first)]) := Is.new n3 (.one (.str _))
          have s23 := s2.trans (sd.trans s3)
          have e1 : cutD (.str (Lw.word .first) :: [p1].map Pt.dt) (some 1) none = [p1].map Pt.dt := cutD_drop _ 1
          refine ⟨_, rfl, _, rfl, _, hp.sm s23, fun vi Hc s4 hvi => ?_⟩
          have hvi : Is K Hc vi (.tup ([p1].map Pt.dt)) := by rw [← e1]; exact hvi
          obtain ⟨a, xs, rfl, sq, il⟩ := hvi.tupD
          refine ⟨_, rfl, ⟨_, sq⟩, fun D nD => ?_⟩
          refine lc_D (walk_tup (xs := xs)) il nD (fun i H' acc => IsAll K H' acc (([p1].take i).map fun z => z.nnp.dt)) .nil (fun H5 s5 => sq_up s5 sq) ?_ ?_
          · rintro i x d H5 acc hi s5 hD hx f
            rw [List.getElem?_map] at hi
            obtain ⟨z, hz, rfl⟩ := Option.map_eq_some_iff.mp hi
            have hzp := hps z (List.mem_of_getElem? hz)
            refine ⟨rfl, _, rfl, _, z, rfl, hx, hzp.1, hzp.2, fun z' H6 s6 hz' => ?_⟩
            refine lcn nD s5 hD s6 (lt_line (by rw [f.len, List.length_map, List.length_take]; have := hlen; omega)) ?_
            show IsAll K _ _ (([p1].take (i + 1)).map fun z => z.nnp.dt)
            rw [List.take_add_one, hz, List.map_append]
            exact ((f.sm s6).append (.one hz')).up (.lst (s6 _ _ hD))
          · intro H5 acc s5 hD f
            rw [List.length_map, List.take_length] at f
            refine ⟨D, acc, rfl, .inl ⟨.of hD, fun p6 n6 => ?_⟩⟩
            have s6 : Same H5 (upd H5 p6 (.tup acc)) := Sm.new n6
            have s456 := s4.trans (s5.trans s6)
            exact ⟨[.str (Lw.word .first)], _, i3.sm s456, Is.new n6 f, le_line (by simp), fun v' H' s7 hv' => q _ _ (s23.trans (s456.trans s7)) hv'⟩
        · skip
          refine ⟨_, rfl, _, 0, _, hp, rfl, rfl, fun v0 h0 => ?_⟩
          rw [h0.strD]
          refine ⟨_, rfl, line2, fun p2' n2 => ⟨_, [.str "any", .str "is"], .str _, Is.new n2 (.cons (.str _) (.cons (.str _) .nil)), rfl, rfl, _, rfl, iN (by decide +kernel) ?_⟩⟩
          have s2 : Same H (upd H p2' (.tup [.str "any", .str "is"])) := Sm.new n2
          refine ⟨_, rfl, rfl, _, rfl, iN (strN rfl) ?_⟩
          generalize upd H p2' (.tup [.str "any", .str "is"]) = H2 at *
          refine fun pd nd => ⟨upd_same, [(.inr "not", .str "first")], rfl, by decide, ?_⟩
          have sd : Same H2 (upd (upd H2 pd (.dK [])) pd (.dK (mergeK [] [(.inr "not", .str "first")]))) := Sm.put (Sm.new nd) nd
          have hd : (upd (upd H2 pd (.dK [])) pd (.dK (mergeK [] [(.inr "not", .str "first")]))) pd = some (.dK [(.inr "not", .str "first")]) := upd_same
          generalize upd (upd H2 pd (.dK [])) pd (.dK (mergeK [] [(.inr "not", .str "first")])) = H3 at *
          refine ⟨pd, rfl, .inl ⟨_, .inl hd⟩, _, rfl, _, rfl, none, DGet.k (k := Sum.inr (Lw.word .all)) hd, line1, fun p3 n3 => ?_⟩
          have s3 : Same H3 (upd H3 p3 (.tup [.str (Lw.word .all)])) := Sm.new n3
          have i3 : Is K (upd H3 p3 (.tup [.str (Lw.word .all)])) (.ref p3) (.tup [.str (Lw.word .all)]) := Is.new n3 (.one (.str _))
          have s23 := s2.trans (sd.trans s3)
          have e1 : cutD (.str (Lw.word .all) :: [p1].map Pt.dt) (some 1) none = [p1].map Pt.dt := cutD_drop _ 1
          refine ⟨_, rfl, _, rfl, _, hp.sm s23, fun vi Hc s4 hvi => ?_⟩
          have hvi : Is K Hc vi (.tup ([p1].map Pt.dt)) := by rw [← e1]; exact hvi
          obtain ⟨a, xs, rfl, sq, il⟩ := hvi.tupD
          refine ⟨_, rfl, ⟨_, sq⟩, fun D nD => ?_⟩
          refine lc_D (walk_tup (xs := xs)) il nD (fun i H' acc => IsAll K H' acc (([p1].take i).map fun z => z.nnp.dt)) .nil (fun H5 s5 => sq_up s5 sq) ?_ ?_
          · rintro i x d H5 acc hi s5 hD hx f
            rw [List.getElem?_map] at hi
            obtain ⟨z, hz, rfl⟩ := Option.map_eq_some_iff.mp hi
            have hzp := hps z (List.mem_of_getElem? hz)
            refine ⟨rfl, _, rfl, _, z, rfl, hx, hzp.1, hzp.2, fun z' H6 s6 hz' => ?_⟩
            refine lcn nD s5 hD s6 (lt_line (by rw [f.len, List.length_map, List.length_take]; have := hlen; omega)) ?_
            show IsAll K _ _ (([p1].take (i + 1)).map fun z => z.nnp.dt)
            rw [List.take_add_one, hz, List.map_append]
            exact ((f.sm s6).append (.one hz')).up (.lst (s6 _ _ hD))
          · intro H5 acc s5 hD f
            rw [List.length_map, List.take_length] at f
            refine ⟨D, acc, rfl, .inl ⟨.of hD, fun p6 n6 => ?_⟩⟩
            have s6 : Same H5 (upd H5 p6 (.tup acc)) := Sm.new n6
            have s456 := s4.trans (s5.trans s6)
            exact ⟨[.str (Lw.word .all)], _, i3.sm s456, Is.new n6 f, le_line (by simp), fun v' H' s7 hv' => q _ _ (s23.trans (s456.trans s7)) hv'⟩
end
end Wf
set_option Elab.async false
set_option linter.all false
set_option maxRecDepth 100000
set_option maxHeartbeats 400000
namespace Wf
open PySem PySem.Spec PyProof.Rows L2
section
variable {P : Program} {w : World} {K : PySem.W.Frag} {mg : Str → Option Value} {base : Heap}
theorem any_fit : (Dt.tup [.str "any"]).fit := Pt.fit (p := .any) trivial (by simp [Pt.dp])
theorem any_iff (p : Pt) : decide (p.dt = .tup [.str "any"]) = (match p with | .any => true | _ => false) := by
  cases p with
  | any => exact decide_eq_true rfl
  | is_ d => exact decide_eq_false (by simp [Pt.dt])
  | two b p q => exact decide_eq_false (by simp [Pt.dt])
  | lone k p => exact decide_eq_false (by simp [Pt.dt])
  | row s => exact decide_eq_false (by simp [Pt.dt])
def spPI (K : PySem.W.Frag) : Sp := fun vs H Q _ => ∃ v s p, vs = [v] ∧ Is K H v (.tup [.str (itW s), Pt.dt p]) ∧ p.ok ∧ p.dp ≤ 10 ∧ (s = true → p.str1 = true) ∧ Q (.bl true) H
theorem ok_is_plain_item {k : Nat} (T : Tx w K mg) : Cal P w K mg base (k + 1) "is_plain_item" (spPI K) := by
  refine Tx.cal T.f_is_plain_item T.g_is_plain_item T.b_is_plain_item sc_is_plain_item ?_ ?_
  · rintro vs H Q E ⟨v, s, p, rfl, _⟩
    rfl
  · rintro cdv A outer s0 H vs Q E hr ⟨v, s, p, rfl, hv, ok, dp, st, q⟩
    refine ⟨_, (pss_one (ps_ret (pe_or (pe_cmpR op_eq (pe_ix (ixD K) (pv 0) pe_int (fun _ _ => rfl)) pe_str (nomark _)) (pe_or (pe_cmpR (eqT K hr.units) (pe_ix (ixD K) (pv 0) pe_int (fun _ _ => rfl)) (pe_gv (by rfl) T.v_ANY) (nomark _)) (pe_one (pe_cmpR op_eq (pe_ix (ixD K) (pe_ix (ixD K) (pv 0) pe_int (fun _ _ => rfl)) pe_int (fun _ _ => rfl)) pe_str (nomark _))))))), ?_⟩
    refine ⟨_, rfl, _, 0, _, hv, rfl, rfl, fun v0 h0 => ?_⟩
    rw [h0.strD]
    refine ⟨rfl, _, rfl, ?_⟩
    cases s with
    | false => exact iY (strE rfl) q
    | true =>
      refine iN (strN rfl) ?_
      refine ⟨_, rfl, _, 1, _, hv, rfl, rfl, fun v1 h1 => ⟨_, _, h1, T.d_ANY H, p.fit ok dp, any_fit, _, rfl, ?_⟩⟩
      rw [any_iff]
      have st' := st rfl
      cases p with
      | any => exact q
      | is_ d => simp [Pt.str1] at st'
      | two b p q => simp [Pt.str1] at st'
      | row s => simp [Pt.str1] at st'
      | lone k1 p1 =>
        cases k1 with
        | nt => simp [Pt.str1] at st'
        | first => simp [Pt.str1] at st'
        | all =>
          refine ⟨_, rfl, _, 1, _, hv, rfl, rfl, fun v1 h1 => ⟨_, 0, _, h1, rfl, rfl, fun v2 h2 => ?_⟩⟩
          rw [h2.strD]
          exact ⟨rfl, qB (strE rfl) q⟩
def Pt.inner : Pt → List Pt
  | .any => []
  | .is_ (.tup l) => l.map Pt.is_
  | .is_ _ => []
  | .two _ p q => [p, q]
  | .lone _ p => [p]
  | .row s => s.pats
theorem its_plain : ∀ {l : Its} {i : Nat} {d : Dt}, l.dts[i]? = some d → l.pl = true → ∃ s p, d = .tup [.str (itW s), p.dt] ∧ l.pats[i]? = some p ∧ (s = true → p.str1 = true)
  | .nil, _, _, h, _ => by simp [Its.dts] at h
  | .cons s p l, 0, d, h, hp => by
    simp only [Its.dts, List.getElem?_cons_zero, Option.some.injEq] at h
    refine ⟨s, p, h.symm, rfl, fun e => ?_⟩
    subst e
    simp only [Its.pl, Bool.and_eq_true] at hp
    exact hp.1
  | .cons s p l, i + 1, d, h, hp => by
    simp only [Its.dts, List.getElem?_cons_succ] at h
    have hp' : l.pl = true := by
      cases s <;> simp only [Its.pl, Bool.and_eq_true] at hp
      · exact hp.2
      · exact hp.2.2
    obtain ⟨s', p', e, m, m2⟩ := its_plain h hp'
    exact ⟨s', p', e, m, m2⟩
def spInner (K : PySem.W.Frag) : Sp := fun vs H Q _ => ∃ v p, vs = [v] ∧ Is K H v (Pt.dt p) ∧ p.ok ∧ p.pl = true ∧ p.dp ≤ 10 ∧ NewL K H (p.inner.map Pt.dt) Q
theorem ok_inner_of {k : Nat} (T : Tx w K mg) (c_is_plain_item : Cal P w K mg base k "is_plain_item" (spPI K)) : Cal P w K mg base (k + 1) "inner_of" (spInner K) := by
  refine Tx.cal T.f_inner_of T.g_inner_of T.b_inner_of sc_inner_of ?_ ?_
  · rintro vs H Q E ⟨v, p, rfl, _⟩
    rfl
  · rintro cdv A outer s0 H vs Q E hr ⟨v, p, rfl, hv, ok, pl, dp, q⟩
    refine ⟨_, (pss_cons (ps_set (i := 1) sc_inner_of.nd rfl (by first | exact Or.inl rfl | exact Or.inr rfl) (pe_ix (ixD K) (pv 0) pe_int (fun _ _ => rfl))) (pss_cons (ps_if (pt_cmpR op_eq (pv 1) pe_str (nomark _)) (pss_one (ps_ret (pe_ifExp (pt_val (pe_callB (isD K "tuple" (by simp)) (by rfl) T.z_isinstance PyProof.Rows.boot_isinstance (pa_cons (pe_ix (ixD K) (pv 0) pe_int (fun _ _ => rfl)) (pa_cons (pe_bltn (v := .ty "tuple") (by rfl) T.z_tuple boot_tuple rfl) pa_nil)))) (pe_lc (own := [("one", 2)]) rfl sc_inner_of.nd (pi_tup (pe_ix (ixD K) (pv 0) pe_int (fun _ _ => rfl))) (blkOk_by (own := [("one", 2)]) (N := ["pattern", "word", "one", "item"]) (sc := defScope sInnerOf) (by decide +kernel)) (fun _ _ _ _ _ => (pg_name (i := 2) sc_inner_of.nd rfl (by first | exact Or.inl rfl | exact Or.inr rfl))) (fun _ _ _ _ _ => pts_nil) (fun _ _ _ _ _ => (pe_tup (pa_cons pe_str (pa_cons (pv 2) pa_nil))))) (pe_lst pa_nil)))) pss_nil) (pss_cons (ps_if (pt_cmpR (inT K) (pv 1) (pe_tup (pa_cons pe_str (pa_cons pe_str (pa_cons pe_str (pa_cons pe_str (pa_cons pe_str (pa_cons pe_str pa_nil))))))) (by rfl)) (pss_one (ps_ret (pe_callTy call_list_of (by rfl) T.z_list boot_list (pa_cons (pe_slice (slD K) (pv 0) (po_some pe_int) po_none) pa_nil)))) pss_nil) (pss_cons (ps_if (pw_and (pt_cmpR op_eq (pv 1) pe_str (nomark _)) (pw_and1 (pt_val (pe_callB (cr_all rfl) (by rfl) T.z_all boot_all (pa_cons (pe_lc (own := [("item", 3)]) rfl sc_inner_of.nd (pi_tup (pe_ix (ixD K) (pv 0) pe_int (fun _ _ => rfl))) (blkOk_by (own := [("item", 3)]) (N := ["pattern", "word", "one", "item"]) (sc := defScope sInnerOf) (by decide +kernel)) (fun _ _ _ _ _ => (pg_name (i := 3) sc_inner_of.nd rfl (by first | exact Or.inl rfl | exact Or.inr rfl))) (fun _ _ _ _ _ => pts_nil) (fun _ _ _ _ _ => (pe_c c_is_plain_item hr (Nat.le_refl _) (by rfl) (pa_cons (pv 3) pa_nil)))) pa_nil))))).pt (pss_one (ps_ret (pe_lc (own := [("item", 3)]) rfl sc_inner_of.nd (pi_tup (pe_ix (ixD K) (pv 0) pe_int (fun _ _ => rfl))) (blkOk_by (own := [("item", 3)]) (N := ["pattern", "word", "one", "item"]) (sc := defScope sInnerOf) (by decide +kernel)) (fun _ _ _ _ _ => (pg_name (i := 3) sc_inner_of.nd rfl (by first | exact Or.inl rfl | exact Or.inr rfl))) (fun _ _ _ _ _ => pts_nil) (fun _ _ _ _ _ => (pe_ix (ixD K) (pv 3) pe_int (fun _ _ => rfl)))))) pss_nil) (pss_one (ps_ret pe_non)))))), ?_⟩
    have six : ∀ {H : Hp} {p6 : Addr}, H p6 = none → Is K (upd H p6 (.tup [.str "any", .str "both", .str "either", .str "not", .str "first", .str "all"])) (.ref p6) (.tup [.str "any", .str "both", .str "either", .str "not", .str "first", .str "all"]) := fun n6 => Is.new n6 (.cons (.str _) (.cons (.str _) (.cons (.str _) (.cons (.str _) (.cons (.str _) (.one (.str _)))))))
    cases p with
    | any =>
      have hp : Is K H v (.tup [.str "any"]) := hv
      refine ⟨_, rfl, _, 0, _, hp, rfl, rfl, fun v0 h0 => ?_⟩
      rw [h0.strD]
      refine ⟨_, rfl, rfl, _, rfl, iN (strN rfl) ?_⟩
      refine ⟨_, rfl, le_line (by show 6 ≤ 16777216; decide), fun p6 n6 => ⟨_, _, .str _, six n6, rfl, rfl, _, rfl, iY (by decide +kernel) ?_⟩⟩
      have s1 : Same H (upd H p6 (.tup [.str "any", .str "both", .str "either", .str "not", .str "first", .str "all"])) := Sm.new n6
      refine ⟨_, rfl, _, rfl, _, hp.sm s1, fun x H2 s2 hx => ?_⟩
      have e1 : cutD [Dt.str "any"] (some 1) none = [] := cutD_drop _ 1
      rw [e1] at hx
      obtain ⟨a, xs, rfl, sq, il⟩ := hx.tupD
      have s12 := s1.trans s2
      exact ⟨a, xs, rfl, .inr sq, fun a2 n2 => q _ a2 xs (s12.trans (Sm.new n2)) (s12.free n2) upd_same (il.sm (Sm.new n2))⟩
    | is_ d =>
      have hp : Is K H v (.tup [.str "is", d]) := hv
      have hdg : d.good := by simpa only [Pt.ok] using ok
      refine ⟨_, rfl, _, 0, _, hp, rfl, rfl, fun v0 h0 => ?_⟩
      rw [h0.strD]
      refine ⟨_, rfl, rfl, _, rfl, iY (strE rfl) ?_⟩
      refine ⟨_, rfl, _, 1, _, hp, rfl, rfl, fun v1 h1 => ⟨_, _, rfl, h1, _, rfl, ?_⟩⟩
      cases d with
      | str x =>
        have := hdg.thg
        simp [Dt.thg] at this
      | int i =>
        rw [isT_int]
        exact iN rfl ⟨by decide, fun a na => q _ a [] (Sm.new na) na upd_same .nil⟩
      | tup l =>
        rw [isT_tup]
        refine iY rfl ?_
        refine ⟨_, rfl, _, 1, _, hp, rfl, rfl, fun v1 h1 => ?_⟩
        obtain ⟨a, xs, rfl, sq, il⟩ := h1.tupD
        have hl := Dt.szs_len l
        have hz := hdg.sz
        simp only [Dt.sz] at hz
        refine ⟨_, rfl, ⟨_, sq⟩, fun D nD => ?_⟩
        refine lc_D (walk_tup (xs := xs)) il nD (fun i H' acc => IsAll K H' acc ((l.take i).map fun z => (Pt.is_ z).dt)) .nil (fun H2 s2 => sq_up s2 sq) ?_ ?_
        · rintro i x d H2 acc hi s1 hD hx f
          refine ⟨rfl, _, rfl, line2, fun p2 n2 => ?_⟩
          have s2 : Same H2 (upd H2 p2 (.tup [.str "is", x])) := Sm.new n2
          refine lcn nD s1 hD s2 (lt_line (by rw [f.len, List.length_map, List.length_take]; omega)) ?_
          show IsAll K _ _ ((l.take (i + 1)).map fun z => (Pt.is_ z).dt)
          rw [List.take_add_one, hi, List.map_append]
          exact ((f.sm s2).append (.one (Is.new n2 (.cons (.str _) (.one hx))))).up (.lst (s2 _ _ hD))
        · intro H2 acc s1 hD f
          rw [List.take_length] at f
          refine q _ D acc s1 nD hD ?_
          show IsAll K _ _ ((l.map Pt.is_).map Pt.dt)
          rw [List.map_map]
          exact f
    | two b p1 p2 =>
      have hp : Is K H v (.tup (.str (twoW b) :: [p1, p2].map Pt.dt)) := hv
      refine ⟨_, rfl, _, 0, _, hp, rfl, rfl, fun v0 h0 => ?_⟩
      rw [h0.strD]
      have e1 : cutD (.str (twoW b) :: [p1, p2].map Pt.dt) (some 1) none = [p1, p2].map Pt.dt := cutD_drop _ 1
      have hw : decide (V.str (twoW b) = V.str "is") = false := by cases b <;> exact strN rfl
      have hi : decide (Dt.str (twoW b) ∈ [Dt.str "any", .str "both", .str "either", .str "not", .str "first", .str "all"]) = true := by cases b <;> decide +kernel
      refine ⟨_, rfl, rfl, _, rfl, iN hw ?_⟩
      refine ⟨_, rfl, le_line (by show 6 ≤ 16777216; decide), fun p6 n6 => ⟨_, _, .str _, six n6, rfl, rfl, _, rfl, iY hi ?_⟩⟩
      have s1 : Same H (upd H p6 (.tup [.str "any", .str "both", .str "either", .str "not", .str "first", .str "all"])) := Sm.new n6
      refine ⟨_, rfl, _, rfl, _, hp.sm s1, fun x H2 s2 hx => ?_⟩
      have hx' : Is K H2 x (.tup ([p1, p2].map Pt.dt)) := by rw [← e1]; exact hx
      obtain ⟨a, xs, rfl, sq, il⟩ := hx'.tupD
      have s12 := s1.trans s2
      exact ⟨a, xs, rfl, .inr sq, fun a2 n2 => q _ a2 xs (s12.trans (Sm.new n2)) (s12.free n2) upd_same (il.sm (Sm.new n2))⟩
    | lone k1 p1 =>
      have hp : Is K H v (.tup (.str k1.word :: [p1].map Pt.dt)) := hv
      refine ⟨_, rfl, _, 0, _, hp, rfl, rfl, fun v0 h0 => ?_⟩
      rw [h0.strD]
      have e1 : cutD (.str k1.word :: [p1].map Pt.dt) (some 1) none = [p1].map Pt.dt := cutD_drop _ 1
      have hw : decide (V.str k1.word = V.str "is") = false := by cases k1 <;> exact strN rfl
      have hi : decide (Dt.str k1.word ∈ [Dt.str "any", .str "both", .str "either", .str "not", .str "first", .str "all"]) = true := by cases k1 <;> decide +kernel
      refine ⟨_, rfl, rfl, _, rfl, iN hw ?_⟩
      refine ⟨_, rfl, le_line (by show 6 ≤ 16777216; decide), fun p6 n6 => ⟨_, _, .str _, six n6, rfl, rfl, _, rfl, iY hi ?_⟩⟩
      have s1 : Same H (upd H p6 (.tup [.str "any", .str "both", .str "either", .str "not", .str "first", .str "all"])) := Sm.new n6
      refine ⟨_, rfl, _, rfl, _, hp.sm s1, fun x H2 s2 hx => ?_⟩
      have hx' : Is K H2 x (.tup ([p1].map Pt.dt)) := by rw [← e1]; exact hx
      obtain ⟨a, xs, rfl, sq, il⟩ := hx'.tupD
      have s12 := s1.trans s2
      exact ⟨a, xs, rfl, .inr sq, fun a2 n2 => q _ a2 xs (s12.trans (Sm.new n2)) (s12.free n2) upd_same (il.sm (Sm.new n2))⟩
    | row its =>
      have hp : Is K H v (.tup [.str "row", .tup its.dts]) := hv
      have ho : its.len ≤ 3 ∧ its.ok := by simpa only [Pt.ok] using ok
      have hpl : its.pl = true := by simpa only [Pt.pl] using pl
      simp only [Pt.dp] at dp
      refine ⟨_, rfl, _, 0, _, hp, rfl, rfl, fun v0 h0 => ?_⟩
      rw [h0.strD]
      refine ⟨_, rfl, rfl, _, rfl, iN (strN rfl) ?_⟩
      refine ⟨_, rfl, le_line (by show 6 ≤ 16777216; decide), fun p6 n6 => ⟨_, _, .str _, six n6, rfl, rfl, _, rfl, iN (by decide +kernel) ?_⟩⟩
      have s1 : Same H (upd H p6 (.tup [.str "any", .str "both", .str "either", .str "not", .str "first", .str "all"])) := Sm.new n6
      refine ⟨_, rfl, rfl, _, rfl, iY (strE rfl) ?_⟩
      generalize upd H p6 (.tup [.str "any", .str "both", .str "either", .str "not", .str "first", .str "all"]) = H1 at *
      refine ⟨_, rfl, _, 1, _, hp.sm s1, rfl, rfl, fun v1 h1 => ?_⟩
      obtain ⟨a, xs, rfl, sq, il⟩ := h1.tupD
      refine ⟨_, rfl, ⟨_, sq⟩, fun D nD => ?_⟩
      refine lc_D (walk_tup (xs := xs)) il nD (fun i H' acc => acc = List.replicate i (.bl true)) rfl (fun H2 s2 => sq_up s2 sq) ?_ ?_
      · rintro i x d H2 acc hi s2 hD hx rfl
        obtain ⟨b, p', e, hp', hst⟩ := its_plain hi hpl
        subst e
        have hmem := List.mem_of_getElem? hp'
        have hdm := Its.dp_le hmem
        have hlen := (List.getElem?_eq_some_iff.mp hp').1
        rw [Its.pats_len] at hlen
        refine ⟨rfl, _, rfl, _, b, p', rfl, hx, Its.ok_mem ho.2 hmem, by omega, hst, ?_⟩
        exact lcn nD s2 hD (.refl _) (lt_line (by rw [List.length_replicate]; omega)) (List.replicate_succ' ..).symm
      · rintro H2 acc s2 hD rfl
        refine ⟨D, List.replicate _ true, rfl, .of (by rw [hD, List.map_replicate]), _, rfl, iY (bls_true _) ?_⟩
        have s12 := s1.trans s2
        refine ⟨_, rfl, _, 1, _, hp.sm s12, rfl, rfl, fun v1 h1 => ?_⟩
        obtain ⟨a, xs, rfl, sq, il⟩ := h1.tupD
        refine ⟨_, rfl, ⟨_, sq⟩, fun D2 nD2 => ?_⟩
        refine lc_D (walk_tup (xs := xs)) il nD2 (fun i H' acc => IsAll K H' acc ((its.pats.take i).map Pt.dt)) .nil (fun H3 s3 => sq_up s3 sq) ?_ ?_
        · rintro i x d H3 acc hi s3 hD3 hx f
          obtain ⟨b, p', e', hp'⟩ := its_nth hi
          subst e'
          refine ⟨rfl, _, rfl, _, 1, _, hx, rfl, rfl, fun y hy => ?_⟩
          refine lcn nD2 s3 hD3 (.refl _) (lt_line (by rw [f.len, List.length_map, List.length_take, Its.pats_len]; omega)) ?_
          show IsAll K _ _ ((its.pats.take (i + 1)).map Pt.dt)
          rw [List.take_add_one, hp', List.map_append]
          exact (f.append (.one hy)).up (.lst hD3)
        · intro H3 acc s3 hD3 f
          rw [Its.dts_len, ← Its.pats_len, List.take_length] at f
          exact q _ D2 acc (s12.trans s3) (s12.free nD2) hD3 f
end
end Wf
set_option Elab.async false
set_option linter.all false
set_option maxRecDepth 100000
set_option maxHeartbeats 400000
namespace Wf
open PySem PySem.Spec PyProof.Rows L2
section
variable {P : Program} {w : World} {K : PySem.W.Frag} {mg : Str → Option Value} {base : Heap}
theorem szs_is (l : List Dt) : sumN ((l.map Pt.is_).map Pt.pcs) = Dt.szs l := by
  induction l with
  | nil => rfl
  | cons d l ih => simp only [List.map_cons, sumN, ih, Dt.szs, Pt.pcs]
theorem Pt.pcs_inner (p : Pt) : p.pcs = 1 + sumN (p.inner.map Pt.pcs) := by
  cases p with
  | any => rfl
  | is_ d =>
    cases d with
    | int i => rfl
    | str x => rfl
    | tup l => simp only [Pt.inner, szs_is, Pt.pcs, Dt.sz]
  | two b p q => simp [Pt.inner, Pt.pcs, sumN]
  | lone k p => simp [Pt.inner, Pt.pcs, sumN]
  | row s => simp only [Pt.inner, Pt.pcs, Its.pcs_pats]
theorem Its.pl_mem : ∀ {l : Its} {p : Pt}, l.pl = true → p ∈ l.pats → p.pl = true
  | .nil, _, _, h => by cases h
  | .cons s q l, p, k, h => by
    have hk : q.pl = true ∧ l.pl = true := by
      cases s <;> simp only [Its.pl, Bool.and_eq_true] at k
      · exact k
      · exact k.2
    rcases List.mem_cons.mp h with rfl | h
    · exact hk.1
    · exact Its.pl_mem hk.2 h
theorem Pt.inner_ok {p q : Pt} (ok : p.ok) (pl : p.pl = true) (h : q ∈ p.inner) : q.ok ∧ q.pl = true ∧ q.dp ≤ p.dp := by
  cases p with
  | any => cases h
  | is_ d =>
    cases d with
    | int i => cases h
    | str x => cases h
    | tup l =>
      simp only [Pt.ok] at ok
      obtain ⟨z, hz, rfl⟩ := List.mem_map.mp h
      exact ⟨by simp only [Pt.ok]; exact ok.mem hz, rfl, Nat.le_refl _⟩
  | two b p1 p2 =>
    simp only [Pt.inner, List.mem_cons, List.not_mem_nil, or_false] at h
    simp only [Pt.ok] at ok
    simp only [Pt.pl, Bool.and_eq_true] at pl
    simp only [Pt.dp]
    rcases h with rfl | rfl
    · exact ⟨ok.1, pl.1, by omega⟩
    · exact ⟨ok.2, pl.2, by omega⟩
  | lone k p1 =>
    simp only [Pt.inner, List.mem_cons, List.not_mem_nil, or_false] at h
    subst h
    simp only [Pt.ok] at ok
    simp only [Pt.pl] at pl
    simp only [Pt.dp]
    exact ⟨ok, pl, by omega⟩
  | row s =>
    simp only [Pt.ok] at ok
    simp only [Pt.pl] at pl
    have := Its.dp_le h
    simp only [Pt.dp]
    exact ⟨Its.ok_mem ok.2 h, Its.pl_mem pl h, by omega⟩
theorem len_le_sum (l : List Pt) : l.length ≤ sumN (l.map Pt.pcs) := by
  induction l with
  | nil => exact Nat.zero_le _
  | cons p l ih =>
    have := p.pcs_inner
    simp only [List.length_cons, List.map_cons, sumN]
    omega
theorem shaped_list {l : List Dt} (h : Dt.soks l = true) (d : Dt.deps l ≤ 63) : SeqAt.shaped (.list (Dt.toPs l)) = true := by
  unfold SeqAt.shaped
  simp only [PyData.canLay0, PyData.depth, Dt.lays, Dt.depPs, h]
  simp
  omega
def spPt (K : PySem.W.Frag) (x : V) : Sp := fun vs H Q _ => ∃ v p, vs = [v] ∧ Is K H v (Pt.dt p) ∧ p.ok ∧ p.pl = true ∧ p.dp ≤ 10 ∧ p.nd ≤ 40 ∧ p.pcs ≤ 1000 ∧ ∀ H', Same H H' → Q x H'
theorem spPt_len {x : V} : ∀ vs H Q E, spPt K x vs H Q E → vs.length = 1 := by
  rintro vs H Q E ⟨v, p, rfl, _⟩
  rfl
theorem pats_fit {ws : List Pt} (h : ∀ z ∈ ws, z.ok ∧ z.dp ≤ 10) : SeqAt.shaped (.list (Dt.toPs (ws.map Pt.dt))) = true := by
  refine shaped_list ((Dt.soks_iff _).mpr fun d hd => ?_) ((Dt.deps_le _ _).mpr fun d hd => ?_)
  · obtain ⟨z, hz, rfl⟩ := List.mem_map.mp hd
    exact z.sok (h z hz).1
  · obtain ⟨z, hz, rfl⟩ := List.mem_map.mp hd
    have := z.dtdep (h z hz).1
    have := (h z hz).2
    omega
theorem ok_is_plain {k : Nat} (T : Tx w K mg) (c_is_pattern : Cal P w K mg base k "is_pattern" (spP K (.bl true))) (c_inner_of : Cal P w K mg base k "inner_of" (spInner K)) : Cal P w K mg base (k + 1) "is_plain" (spPt K (.bl true)) := by
  refine Tx.cal T.f_is_plain T.g_is_plain T.b_is_plain sc_is_plain spPt_len ?_
  rintro cdv A outer s0 H vs Q E hr ⟨v, p, rfl, hv, ok, pl, dp, nd, pc, q⟩
  refine ⟨_, (pss_cons (ps_if (pt_not (pt_val (pe_c c_is_pattern hr (Nat.le_refl _) (by rfl) (pa_cons (pv 0) pa_nil)))) pss_never pss_nil) (pss_cons (ps_set (i := 1) sc_is_plain.nd rfl (by first | exact Or.inl rfl | exact Or.inr rfl) (pe_lst (pa_cons (pv 0) pa_nil))) (pss_cons (ps_while PassesOwn.never (pt_cmpR (neN K hr.units) (pv 1) (pe_lst pa_nil) (nomark _)) (pss_cons (ps_set (i := 2) sc_is_plain.nd rfl (by first | exact Or.inl rfl | exact Or.inr rfl) (pe_c c_inner_of hr (Nat.le_refl _) (by rfl) (pa_cons (pe_bm0 PySem.F.plainAttrs_list PySem.F.slot_list_pop PySem.F.type_list_pop mt_pop (pv 1)) pa_nil))) (pss_cons (ps_if (pt_cmpR op_isN (pv 2) pe_non (nomark _)) (pss_one (ps_ret pe_bl)) pss_nil) (pss_one (ps_expr (pe_bm PySem.F.plainAttrs_list PySem.F.slot_list_extend PySem.F.type_list_extend mt_extend (pv 1) (pa_cons (pv 2) pa_nil))))))) (pss_one (ps_ret pe_bl))))), ?_⟩
  refine ⟨_, rfl, _, p, rfl, hv, ok, dp, nd, fun H1 s1 => ⟨_, rfl, ?_⟩⟩
  refine ⟨_, rfl, line1, fun W nW => ?_⟩
  have s2 : Same H1 (upd H1 W (.lst [v])) := Sm.new nW
  refine ⟨fun m σ H' => ∃ (ws : List Pt) (acc : List V) (o : Option V), m = sumN (ws.map Pt.pcs) ∧ Same H1 H' ∧ H' W = some (.lst acc) ∧ IsAll K H' acc (ws.map Pt.dt) ∧ (∀ z ∈ ws, z.ok ∧ z.pl = true ∧ z.dp ≤ 10) ∧ m ≤ 1000 ∧ σ = [some v, some (.ref W), o], ⟨_, [p], [v], none, rfl, s2, upd_same, .one (hv.sm (s1.trans s2)), fun z hz => ?_, by simp [sumN]; omega, rfl⟩, ?_⟩
  · rw [List.mem_singleton] at hz
    subst hz
    exact ⟨ok, pl, dp⟩
  rintro m σ H2 ⟨ws, acc, o, rfl, s3, hW, il, hws, hm, rfl⟩
  refine ⟨_, rfl, by decide, fun e0 n0 => ?_⟩
  have hne : W ≠ e0 := ne_of_none hW n0
  have s4 : Same H2 (upd H2 e0 (.lst [])) := Sm.new n0
  have hW4 := s4 _ _ hW
  refine ⟨W, e0, acc, Dt.toPs (ws.map Pt.dt), rfl, rfl, .of hW4, .of upd_same, (il.sm s4).dp, pats_fit fun z hz => ⟨(hws z hz).1, (hws z hz).2.2⟩, _, rfl, ?_⟩
  generalize upd H2 e0 (.lst []) = H3 at *
  have s13 := s3.trans s4
  cases hw : ws with
  | nil =>
    rw [hw] at il
    cases il
    refine iN rfl ?_
    exact q _ (s1.trans s13)
  | cons w0 wr =>
    rw [← hw]
    have hne0 : ws ≠ [] := by rw [hw]; simp
    have hacc : acc.length = ws.length := by rw [il.len, List.length_map]
    have hpos : 0 < ws.length := List.length_pos_iff.mpr hne0
    have hiy : (!acc.isEmpty) = true := by
      cases acc with
      | nil => simp at hacc; omega
      | cons a r => rfl
    refine iY hiy ?_
    have hlast : ws = ws.dropLast ++ [ws.getLast hne0] := (List.dropLast_concat_getLast hne0).symm
    have hget : ws[ws.length - 1]? = some (ws.getLast hne0) := by
      rw [List.getLast_eq_getElem]
      exact List.getElem?_eq_getElem (by omega)
    generalize hz : ws.getLast hne0 = z at *
    have hzm : z ∈ ws := by rw [← hz]; exact List.getLast_mem hne0
    obtain ⟨z1, z2, z3⟩ := hws z hzm
    have hsum : sumN (ws.map Pt.pcs) = sumN (ws.dropLast.map Pt.pcs) + z.pcs := by
      rw [hlast, List.map_append, sumN_append, List.dropLast_concat]
      simp [sumN]
    have zi := z.pcs_inner
    obtain ⟨y, hy, iy⟩ := (il.sm s4).get (i := ws.length - 1) (d := z.dt) (by rw [List.getElem?_map, hget]; rfl)
    have ild : IsAll K H3 acc.dropLast (ws.dropLast.map Pt.dt) := by
      have := (il.sm s4).take (ws.length - 1)
      rw [← List.map_take, ← List.dropLast_eq_take, ← hacc, ← List.dropLast_eq_take] at this
      exact this
    refine ⟨fun σ' H' => ∃ m', m' < sumN (ws.map Pt.pcs) ∧ ∃ (ws : List Pt) (acc : List V) (o : Option V), m' = sumN (ws.map Pt.pcs) ∧ Same H1 H' ∧ H' W = some (.lst acc) ∧ IsAll K H' acc (ws.map Pt.dt) ∧ (∀ z ∈ ws, z.ok ∧ z.pl = true ∧ z.dp ≤ 10) ∧ m' ≤ 1000 ∧ σ' = [some v, some (.ref W), o], fun _ _ h => h, ?_⟩
    refine ⟨_, rfl, .inl ⟨rfl, _, .of hW4⟩, W, acc, y, rfl, rfl, hW4, by rw [hacc]; exact hy, ?_⟩
    have uW : Up K H3 (upd H3 W (.lst acc.dropLast)) := .lst hW4
    have s5 : Same H1 (upd H3 W (.lst acc.dropLast)) := Sm.put s13 nW
    have hW5 : (upd H3 W (.lst acc.dropLast)) W = some (.lst acc.dropLast) := upd_same
    have iy5 := iy.up uW
    have ild5 := ild.up uW
    generalize upd H3 W (.lst acc.dropLast) = H4 at *
    refine ⟨y, z, rfl, iy5, z1, z2, z3, fun H5 a xs s6 na ha ilx => ?_⟩
    refine ⟨_, rfl, rfl, _, rfl, ?_⟩
    have hW6 := s6 _ _ hW5
    have hlx := ilx.len
    rw [List.length_map] at hlx
    have hl2 := len_le_sum z.inner
    have hl3 := len_le_sum ws.dropLast
    have hl4 := ild5.len
    rw [List.length_map] at hl4
    refine iN rfl ⟨_, rfl, .inl ⟨rfl, _, .of hW6⟩, _, rfl, W, a, _, xs, rfl, rfl, hW6, ha, le_line (by omega), ?_⟩
    have u6 : Up K H5 (upd H5 W (.lst (acc.dropLast ++ xs))) := .lst hW6
    refine ⟨sumN ((ws.dropLast ++ z.inner).map Pt.pcs), by rw [List.map_append, sumN_append]; omega, ws.dropLast ++ z.inner, _, _, rfl, Sm.put (s5.trans s6) nW, upd_same, ?_, fun u hu => ?_, by rw [List.map_append, sumN_append]; omega, rfl⟩
    · rw [List.map_append]
      exact ((ild5.sm s6).append ilx).up u6
    · rcases List.mem_append.mp hu with hu | hu
      · exact hws u ((List.dropLast_sublist ws).subset hu)
      · obtain ⟨x1, x2, x3⟩ := Pt.inner_ok z1 z2 hu
        exact ⟨x1, x2, by omega⟩
theorem ok_need_plain {k : Nat} (T : Tx w K mg) (c_is_plain : Cal P w K mg base k "is_plain" (spPt K (.bl true))) : Cal P w K mg base (k + 1) "need_plain" (spPt K .non) := by
  refine Tx.cal T.f_need_plain T.g_need_plain T.b_need_plain sc_need_plain spPt_len ?_
  rintro cdv A outer s0 H vs Q E hr ⟨v, p, rfl, hv, ok, pl, dp, nd, pc, q⟩
  refine ⟨_, (pss_one (ps_if (pt_not (pt_val (pe_c c_is_plain hr (Nat.le_refl _) (by rfl) (pa_cons (pv 0) pa_nil)))) pss_never pss_nil)), ?_⟩
  exact ⟨_, rfl, _, p, rfl, hv, ok, pl, dp, nd, pc, fun H1 s1 => ⟨_, rfl, q _ s1⟩⟩
end
end Wf
set_option Elab.async false
set_option linter.all false
set_option maxRecDepth 100000
set_option maxHeartbeats 400000
namespace Wf
open PySem PySem.Spec PyProof.Rows L2
section
variable {P : Program} {w : World} {K : PySem.W.Frag} {mg : Str → Option Value} {base : Heap}
def Dt.isTup : Dt → Bool
  | .tup _ => true
  | _ => false
def Dt.kids : Dt → List Dt
  | .tup l => l
  | _ => []
def rowsOf (l : List Dt) : List Dt := l.filter Dt.isTup
def kidsOf (l : List Dt) : List Dt := (rowsOf l).flatMap Dt.kids
theorem kidsOf_sz : ∀ l : List Dt, Dt.thgs l = true → Dt.szs (kidsOf l) + l.length = Dt.szs l
  | [], _ => rfl
  | d :: l, h => by
    simp only [Dt.thgs, Bool.and_eq_true] at h
    have ih := kidsOf_sz l h.2
    cases d with
    | str x => simp [Dt.thg] at h
    | int i =>
      simp only [kidsOf, rowsOf, List.filter_cons, Dt.isTup, Bool.false_eq_true, if_false, List.length_cons, Dt.szs, Dt.sz] at ih ⊢
      omega
    | tup m =>
      simp only [kidsOf, rowsOf, List.filter_cons, Dt.isTup, if_true, List.flatMap_cons, Dt.kids, Dt.szs_append, List.length_cons, Dt.szs, Dt.sz] at ih ⊢
      omega
theorem kidsOf_thg {l : List Dt} (h : Dt.thgs l = true) : Dt.thgs (kidsOf l) = true := by
  refine (Dt.thgs_iff _).mpr fun d hd => ?_
  obtain ⟨r, hr, hd⟩ := List.mem_flatMap.mp hd
  have hr' := (Dt.thgs_iff l).mp h r ((List.mem_filter.mp hr).1)
  cases r with
  | int i => cases hd
  | str x => cases hd
  | tup m =>
    simp only [Dt.thg] at hr'
    exact (Dt.thgs_iff m).mp hr' d hd
theorem deps_szs (l : List Dt) : Dt.deps l ≤ Dt.szs l := Dt.deps_lt l
def spWide (K : PySem.W.Frag) (x : V) : Sp := fun vs H Q _ => ∃ v t, vs = [v] ∧ Is K H v t ∧ t.thg = true ∧ t.sz ≤ 10 ∧ ∀ H', Same H H' → Q x H'
theorem spWide_len {x : V} : ∀ vs H Q E, spWide K x vs H Q E → vs.length = 1 := by
  rintro vs H Q E ⟨v, p, rfl, _⟩
  rfl
theorem ok_is_wide {k : Nat} (T : Tx w K mg) (c_is_among : Cal P w K mg base k "is_among" (spIsAmong K)) : Cal P w K mg base (k + 1) "is_wide" (spWide K (.bl true)) := by
  refine Tx.cal T.f_is_wide T.g_is_wide T.b_is_wide sc_is_wide spWide_len ?_
  rintro cdv A outer s0 H vs Q E hr ⟨v, t, rfl, hv, tg, tz, q⟩
  refine ⟨_, (pss_cons (ps_set (i := 1) sc_is_wide.nd rfl (by first | exact Or.inl rfl | exact Or.inr rfl) (pe_lst (pa_cons (pv 0) pa_nil))) (pss_cons (ps_set (i := 2) sc_is_wide.nd rfl (by first | exact Or.inl rfl | exact Or.inr rfl) pe_int) (pss_cons (ps_set (i := 3) sc_is_wide.nd rfl (by first | exact Or.inl rfl | exact Or.inr rfl) pe_int) (pss_cons (ps_while PassesOwn.never (pt_cmpR (neN K hr.units) (pv 1) (pe_lst pa_nil) (nomark _)) (pss_cons (ps_aug (i := 2) sc_is_wide.nd rfl (by first | exact Or.inl rfl | exact Or.inr rfl) (pe_callB call_len_seq (by rfl) T.z_len boot_len (pa_cons (pv 1) pa_nil)) in_add) (pss_cons (ps_aug (i := 3) sc_is_wide.nd rfl (by first | exact Or.inl rfl | exact Or.inr rfl) pe_int in_add) (pss_cons (ps_if (pw_or (pt_cmpR op_gt (pv 2) (pe_gv (by rfl) T.i_MOST_SIZE_plain) (nomark _)) (pw_or1 (pt_cmpR op_gt (pv 3) (pe_gv (by rfl) T.i_MOST_DEEP_plain) (nomark _)))).pt (pss_one (ps_ret pe_bl)) pss_nil) (pss_cons (ps_setLc (i := 4) (own := [("one", 6)]) rfl sc_is_wide.nd rfl rfl (sw_true rfl rfl rfl (by decide +kernel)) (pi_list (pv 1)) (blkOk_by (own := [("one", 6)]) (N := ["thing", "layer", "many", "deep", "rows", "row", "one"]) (sc := defScope sIsWide) (by decide +kernel)) (fun _ _ _ _ _ => (pg_name (i := 6) sc_is_wide.nd rfl (by first | exact Or.inl rfl | exact Or.inr rfl))) (fun _ _ _ _ _ => (pts_one (pt_not (pt_val (pe_c c_is_among hr (Nat.le_refl _) (by rfl) (pa_cons (pv 6) (pa_cons pe_int (pa_cons (pe_gv (by rfl) T.i_MOST_LEAF_plain) pa_nil)))))))) (fun _ _ _ _ _ => (pv 6))) (pss_cons (ps_if (pw_or (pt_not (pt_val (pe_callB (cr_all rfl) (by rfl) T.z_all boot_all (pa_cons (pe_lc (own := [("row", 5)]) rfl sc_is_wide.nd (pi_list (pv 4)) (blkOk_by (own := [("row", 5)]) (N := ["thing", "layer", "many", "deep", "rows", "row", "one"]) (sc := defScope sIsWide) (by decide +kernel)) (fun _ _ _ _ _ => (pg_name (i := 5) sc_is_wide.nd rfl (by first | exact Or.inl rfl | exact Or.inr rfl))) (fun _ _ _ _ _ => pts_nil) (fun _ _ _ _ _ => (pe_callB (isD K "tuple" (by simp)) (by rfl) T.z_isinstance PyProof.Rows.boot_isinstance (pa_cons (pv 5) (pa_cons (pe_bltn (v := .ty "tuple") (by rfl) T.z_tuple boot_tuple rfl) pa_nil))))) pa_nil)))) (pw_or1 (pt_cmpR op_gt (pe_callB (cr_sum rfl) (by rfl) T.z_sum boot_sum (pa_cons (pe_lc (own := [("row", 5)]) rfl sc_is_wide.nd (pi_list (pv 4)) (blkOk_by (own := [("row", 5)]) (N := ["thing", "layer", "many", "deep", "rows", "row", "one"]) (sc := defScope sIsWide) (by decide +kernel)) (fun _ _ _ _ _ => (pg_name (i := 5) sc_is_wide.nd rfl (by first | exact Or.inl rfl | exact Or.inr rfl))) (fun _ _ _ _ _ => pts_nil) (fun _ _ _ _ _ => (pe_callB (lenD K) (by rfl) T.z_len boot_len (pa_cons (pv 5) pa_nil)))) pa_nil)) (pe_gv (by rfl) T.i_MOST_SIZE_plain) (nomark _)))).pt (pss_one (ps_ret pe_bl)) pss_nil) (pss_cons (ps_set (i := 1) sc_is_wide.nd rfl (by first | exact Or.inl rfl | exact Or.inr rfl) (pe_lst pa_nil)) (pss_one (ps_for PassesOwn.never rfl (pi_list (pv 4)) (pg_name (i := 5) sc_is_wide.nd rfl (by first | exact Or.inl rfl | exact Or.inr rfl)) (pss_one (ps_expr (pe_bm PySem.F.plainAttrs_list PySem.F.slot_list_extend PySem.F.type_list_extend mt_extT (pv 1) (pa_cons (pv 5) pa_nil))))))))))))) (pss_one (ps_ret pe_bl)))))), ?_⟩
  refine ⟨_, rfl, line1, fun L0 nL0 => ?_⟩
  have s1 : Same H (upd H L0 (.lst [v])) := Sm.new nL0
  refine ⟨fun m σ H' => ∃ (ls : List Dt) (acc : List V) (La : Addr) (mN dN : Nat) (o1 o2 o3 : Option V), m = Dt.szs ls ∧ Same H H' ∧ H La = none ∧ H' La = some (.lst acc) ∧ IsAll K H' acc ls ∧ Dt.thgs ls = true ∧ mN + Dt.szs ls ≤ 10 ∧ dN ≤ mN ∧ σ = [some v, some (.ref La), some (.int (mN : Nat)), some (.int (dN : Nat)), o1, o2, o3], ⟨_, [t], [v], L0, 0, 0, none, none, none, rfl, s1, nL0, upd_same, .one (hv.sm s1), by simp [Dt.thgs, tg], by simp [Dt.szs]; omega, Nat.le_refl _, rfl⟩, ?_⟩
  rintro m σ H2 ⟨ls, acc, La, mN, dN, o1, o2, o3, rfl, s2, nLa, hLa, il, lg, hm, hd, rfl⟩
  refine ⟨_, rfl, by decide, fun e0 n0 => ?_⟩
  have s4 : Same H2 (upd H2 e0 (.lst [])) := Sm.new n0
  have hLa4 := s4 _ _ hLa
  have hdp := deps_szs ls
  refine ⟨La, e0, acc, Dt.toPs ls, rfl, rfl, .of hLa4, .of upd_same, (il.sm s4).dp, shaped_list (Dt.soks_thgs ls lg) (by omega), _, rfl, ?_⟩
  generalize upd H2 e0 (.lst []) = H3 at *
  have s13 := s2.trans s4
  have il3 := il.sm s4
  have hacc := il.len
  cases hls : ls with
  | nil =>
    rw [hls] at il
    cases il
    exact iN rfl (q _ s13)
  | cons d0 dr =>
    rw [← hls]
    have hpos : 0 < ls.length := by rw [hls]; simp
    have hiy : (!acc.isEmpty) = true := by
      cases acc with
      | nil => simp at hacc; omega
      | cons a r => rfl
    refine iY hiy ?_
    have hks := kidsOf_sz ls lg
    have hlz := Dt.szs_len ls
    refine ⟨fun σ' H' => ∃ m', m' < Dt.szs ls ∧ ∃ (ls : List Dt) (acc : List V) (La : Addr) (mN dN : Nat) (o1 o2 o3 : Option V), m' = Dt.szs ls ∧ Same H H' ∧ H La = none ∧ H' La = some (.lst acc) ∧ IsAll K H' acc ls ∧ Dt.thgs ls = true ∧ mN + Dt.szs ls ≤ 10 ∧ dN ≤ mN ∧ σ' = [some v, some (.ref La), some (.int (mN : Nat)), some (.int (dN : Nat)), o1, o2, o3], fun _ _ h => h, ?_⟩
    refine ⟨_, rfl, _, rfl, La, acc, rfl, .inl (.of hLa4), _, _, rfl, rfl, ?_⟩
    refine ⟨_, rfl, _, _, rfl, rfl, ?_⟩
    refine ⟨_, rfl, _, _, rfl, rfl, _, rfl, ?_⟩
    rw [show decide ((3000 : Int) < ((mN : Nat) : Int) + ((acc.length : Nat) : Int)) = false from decide_eq_false (by omega)]
    refine ⟨_, rfl, _, _, rfl, rfl, _, rfl, iN (decide_eq_false (by omega)) ?_⟩
    refine ⟨_, rfl, La, rfl, ⟨acc, .of hLa4⟩, fun D nD => ?_⟩
    refine lc_D (walk_list (xs := acc)) il3 nD (fun i H' a' => IsAll K H' a' (rowsOf (ls.take i))) .nil (fun H4 s5 => .of (s5 _ _ hLa4)) ?_ ?_
    · rintro i x d H4 a' hi s5 hD hx f
      have hfl : (rowsOf (ls.take i)).length ≤ i := Nat.le_trans (List.length_filter_le ..) (by rw [List.length_take]; omega)
      have hil := (List.getElem?_eq_some_iff.mp hi).1
      refine ⟨rfl, _, rfl, _, d, 0, 99, rfl, hx, _, rfl, ?_⟩
      cases d with
      | str x =>
        have := (Dt.thgs_iff ls).mp lg _ (List.mem_of_getElem? hi)
        simp [Dt.thg] at this
      | int z =>
        have hz := (Dt.thgs_iff ls).mp lg _ (List.mem_of_getElem? hi)
        have e : amg (.int z) 0 99 = true := by simpa [amg, Dt.thg] using hz
        rw [e]
        refine iN rfl ⟨s5, a', hD, ?_⟩
        show IsAll K _ _ (rowsOf (ls.take (i + 1)))
        rw [List.take_add_one, hi]
        unfold rowsOf at f ⊢
        rw [List.filter_append]
        simpa [Dt.isTup] using f
      | tup m =>
        refine iY rfl ⟨_, rfl, ?_⟩
        refine lcn nD s5 hD (.refl _) (lt_line (by rw [f.len]; omega)) ?_
        show IsAll K _ _ (rowsOf (ls.take (i + 1)))
        rw [List.take_add_one, hi]
        unfold rowsOf at f ⊢
        rw [List.filter_append]
        have := (f.append (.one hx)).up (Up.lst (o := .lst (a' ++ [x])) hD)
        exact this
    rintro H4 rv s5 hD ir
    rw [List.take_length] at ir
    have hrl : (rowsOf ls).length ≤ ls.length := List.length_filter_le ..
    refine ⟨_, rfl, D, rfl, ⟨rv, .of hD⟩, fun D2 nD2 => ?_⟩
    refine lc_D (walk_list (xs := rv)) ir nD2 (fun i H' a' => a' = List.replicate i (.bl true)) rfl (fun H5 s6 => .of (s6 _ _ hD)) ?_ ?_
    · rintro i x d H5 a' hi s6 hD2 hx rfl
      have hil := (List.getElem?_eq_some_iff.mp hi).1
      have hd : d.isTup = true := (List.mem_filter.mp (List.mem_of_getElem? hi)).2
      refine ⟨rfl, _, rfl, _, d, rfl, hx, ?_⟩
      cases d with
      | str x => cases hd
      | int z => cases hd
      | tup m =>
        rw [isT_tup]
        exact lcn nD2 s6 hD2 (.refl _) (lt_line (by rw [List.length_replicate]; omega)) (List.replicate_succ' ..).symm
    rintro H5 a5 s6 hD2 rfl
    refine ⟨D2, List.replicate _ true, rfl, .of (by rw [hD2, List.map_replicate]), _, rfl, ?_⟩
    rw [bls_true]
    have hD5 := s6 _ _ hD
    refine ⟨_, rfl, D, rfl, ⟨rv, .of hD5⟩, fun D3 nD3 => ?_⟩
    have ir5 := ir.sm s6
    refine lc_D (walk_list (xs := rv)) ir5 nD3 (fun i H' a' => a' = (((rowsOf ls).take i).map fun d => V.int (d.kids.length : Nat))) rfl (fun H6 s7 => .of (s7 _ _ hD5)) ?_ ?_
    · rintro i x d H6 a' hi s7 hD3 hx rfl
      have hil := (List.getElem?_eq_some_iff.mp hi).1
      have hd : d.isTup = true := (List.mem_filter.mp (List.mem_of_getElem? hi)).2
      cases d with
      | str x => cases hd
      | int z => cases hd
      | tup m =>
        refine ⟨rfl, _, rfl, _, m, rfl, hx, ?_⟩
        refine lcn nD3 s7 hD3 (.refl _) (lt_line (by rw [List.length_map, List.length_take]; omega)) ?_
        show _ = (((rowsOf ls).take (i + 1)).map fun d => V.int (d.kids.length : Nat))
        rw [List.take_add_one, hi, List.map_append]
        rfl
    rintro H6 a6 s7 hD3 rfl
    rw [List.take_length] at hD3
    have hks2 := Dt.szs_len (kidsOf ls)
    have hsum : (((rowsOf ls).map fun d => ((d.kids.length : Nat) : Int))).sum = ((kidsOf ls).length : Nat) := by
      unfold kidsOf
      generalize rowsOf ls = rs
      induction rs with
      | nil => rfl
      | cons d rs ih =>
        rw [List.map_cons, List.sum_cons, ih, List.flatMap_cons, List.length_append]
        omega
    refine ⟨D3, (rowsOf ls).map fun d => ((d.kids.length : Nat) : Int), rfl, .of (by rw [hD3, List.map_map]; rfl), _, _, rfl, rfl, _, rfl, iN (decide_eq_false (by rw [hsum]; omega)) ?_⟩
    have hD6 := s7 _ _ hD5
    have ir6 := ir5.sm s7
    refine ⟨by decide, fun M nM => ?_⟩
    have s8 : Same H6 (upd H6 M (.lst [])) := Sm.new nM
    have s06 := s13.trans (s5.trans (s6.trans s7))
    have nM0 := s06.free nM
    refine ⟨_, rfl, D, rfl, ⟨rv, .of (s8 _ _ hD6)⟩, ?_⟩
    refine for_D (walk_list (xs := rv)) ir6 (fun i σ H' => Same H H' ∧ Same H6 H' ∧ ∃ (a' : List V) (o : Option V), H' M = some (.lst a') ∧ IsAll K H' a' (((rowsOf ls).take i).flatMap Dt.kids) ∧
      σ = [some v, some (.ref M), some (.int ((mN : Nat) + (acc.length : Nat))), some (.int ((dN : Nat) + 1)), some (.ref D), o, o3]) ?_ ?_ ?_ ?_
    · exact ⟨s06.trans s8, s8, [], o2, upd_same, .nil, rfl⟩
    · rintro i σ H' ⟨_, s9, _⟩
      exact ⟨.of (s9 _ _ hD6), .sm s9⟩
    · rintro i x d σ H7 hi hx ⟨s9, s9', a', o, hM, f, rfl⟩
      have hd : d.isTup = true := (List.mem_filter.mp (List.mem_of_getElem? hi)).2
      have hpre : (((rowsOf ls).take (i + 1)).flatMap Dt.kids).length ≤ (kidsOf ls).length := by
        have e : kidsOf ls = ((rowsOf ls).take (i + 1)).flatMap Dt.kids ++ ((rowsOf ls).drop (i + 1)).flatMap Dt.kids := by
          unfold kidsOf
          rw [← List.flatMap_append, List.take_append_drop]
        rw [e, List.length_append]
        omega
      rw [List.take_add_one, hi, List.flatMap_append, List.length_append] at hpre
      cases d with
      | str x => cases hd
      | int z => cases hd
      | tup m =>
        obtain ⟨ax, ys, rfl, sqx, ilx⟩ := hx.tupD
        simp only [Option.toList_some, List.flatMap_cons, List.flatMap_nil, List.append_nil, Dt.kids] at hpre
        refine ⟨_, rfl, .inl ⟨rfl, _, .of hM⟩, _, rfl, M, ax, a', ys, rfl, rfl, hM, sqx, le_line (by rw [f.len, ilx.len]; omega), ?_⟩
        have uM : Up K H7 (upd H7 M (.lst (a' ++ ys))) := .lst hM
        refine ⟨Sm.put s9 nM0, Sm.put s9' nM, _, _, upd_same, ?_, rfl⟩
        rw [List.take_add_one, hi, List.flatMap_append]
        have := (f.append ilx).up uM
        simpa [Dt.kids] using this
    · rintro σ H7 ⟨s9, s9', a', o, hM, f, rfl⟩
      rw [List.take_length] at f
      refine ⟨Dt.szs (kidsOf ls), by omega, kidsOf ls, a', M, mN + acc.length, dN + 1, some (.ref D), o, o3, rfl, s9, nM0, hM, f, kidsOf_thg lg, by omega, by omega, ?_⟩
      rw [show (((mN + acc.length : Nat) : Int)) = ((mN : Nat) : Int) + ((acc.length : Nat) : Int) by omega, show (((dN + 1 : Nat) : Int)) = ((dN : Nat) : Int) + 1 by omega]
theorem ok_need_wide {k : Nat} (T : Tx w K mg) (c_is_wide : Cal P w K mg base k "is_wide" (spWide K (.bl true))) : Cal P w K mg base (k + 1) "need_wide" (spWide K .non) := by
  refine Tx.cal T.f_need_wide T.g_need_wide T.b_need_wide sc_need_wide spWide_len ?_
  rintro cdv A outer s0 H vs Q E hr ⟨v, t, rfl, hv, tg, tz, q⟩
  refine ⟨_, (pss_one (ps_if (pt_not (pt_val (pe_c c_is_wide hr (Nat.le_refl _) (by rfl) (pa_cons (pv 0) pa_nil)))) pss_never pss_nil)), ?_⟩
  exact ⟨_, rfl, _, t, rfl, hv, tg, tz, fun H1 s1 => ⟨_, rfl, q _ s1⟩⟩
end
end Wf
set_option Elab.async false
set_option linter.all false
set_option maxRecDepth 100000
set_option maxHeartbeats 400000
namespace Wf
open PySem PySem.Spec PyProof.Rows L2
section
variable {P : Program} {w : World} {K : PySem.W.Frag} {mg : Str → Option Value} {base : Heap}
def Pt.rd : Pt → Bool
  | .row _ => true
  | .lone .all _ => true
  | .is_ (.tup _) => true
  | _ => false
def spBR (K : PySem.W.Frag) : Sp := fun vs H Q _ => ∃ v p, vs = [v] ∧ Is K H v (Pt.dt p) ∧ p.ok ∧ ∀ H', Same H H' → Q (.bl p.rd) H'
theorem ok_is_by_reading {k : Nat} (T : Tx w K mg) : Cal P w K mg base (k + 1) "is_by_reading" (spBR K) := by
  refine Tx.cal T.f_is_by_reading T.g_is_by_reading T.b_is_by_reading sc_is_by_reading ?_ ?_
  · rintro vs H Q E ⟨v, p, rfl, _⟩
    rfl
  · rintro cdv A outer s0 H vs Q E hr ⟨v, p, rfl, hv, ok, q⟩
    refine ⟨_, (pss_one (ps_ret (pe_or (pe_cmpR (inT K) (pe_ix (ixD K) (pv 0) pe_int (fun _ _ => rfl)) (pe_tup (pa_cons pe_str (pa_cons pe_str pa_nil))) (by rfl)) (pe_one (pe_and (pe_cmpR op_eq (pe_ix (ixD K) (pv 0) pe_int (fun _ _ => rfl)) pe_str (nomark _)) (pe_one (pe_callB (isD K "tuple" (by simp)) (by rfl) T.z_isinstance PyProof.Rows.boot_isinstance (pa_cons (pe_ix (ixD K) (pv 0) pe_int (fun _ _ => rfl)) (pa_cons (pe_bltn (v := .ty "tuple") (by rfl) T.z_tuple boot_tuple rfl) pa_nil))))))))), ?_⟩
    obtain ⟨l, el, l0, ll1, ll3⟩ := p.dt_len
    have hd := hv
    rw [el] at hd
    refine ⟨_, rfl, _, 0, _, hd, rfl, l0, fun v0 h0 => ⟨line2, fun p2 n2 => ⟨_, [.str "row", .str "all"], h0.sm (Sm.new n2), Is.new n2 (.cons (.str _) (.cons (.str _) .nil)), rfl, rfl, _, rfl, ?_⟩⟩⟩
    have s1 : Same H (upd H p2 (.tup [.str "row", .str "all"])) := Sm.new n2
    have q1 := q _ s1
    cases p with
    | any =>
      refine iN (inN rfl) ?_
      refine ⟨_, rfl, _, 0, _, hd.sm s1, rfl, l0, fun v0 h0 => ?_⟩
      rw [h0.strD]
      exact ⟨rfl, _, rfl, iN (strN rfl) q1⟩
    | is_ d =>
      obtain rfl := Dt.tup.inj el
      have hdg : d.good := by simpa only [Pt.ok] using ok
      refine iN (inN rfl) ?_
      refine ⟨_, rfl, _, 0, _, hd.sm s1, rfl, l0, fun v0 h0 => ?_⟩
      rw [h0.strD]
      refine ⟨rfl, _, rfl, iY (strE rfl) ?_⟩
      refine ⟨_, rfl, _, 1, _, hd.sm s1, rfl, rfl, fun v1 h1 => ⟨_, _, rfl, h1, ?_⟩⟩
      cases d with
      | str x =>
        have := hdg.thg
        simp [Dt.thg] at this
      | int i =>
        rw [isT_int]
        exact q1
      | tup l =>
        rw [isT_tup]
        exact q1
    | two b p1 p2 =>
      have hw : decide (V.str (Pt.two b p1 p2).word = V.str "is") = false := by cases b <;> exact strN rfl
      have hi : decide (Dt.str (Pt.two b p1 p2).word ∈ [Dt.str "row", .str "all"]) = false := by cases b <;> exact inN rfl
      refine iN hi ?_
      refine ⟨_, rfl, _, 0, _, hd.sm s1, rfl, l0, fun v0 h0 => ?_⟩
      rw [h0.strD]
      exact ⟨rfl, _, rfl, iN hw q1⟩
    | lone k1 p1 =>
      cases k1 with
      | all => exact iY (inE rfl) q1
      | nt =>
        refine iN (inN rfl) ?_
        refine ⟨_, rfl, _, 0, _, hd.sm s1, rfl, l0, fun v0 h0 => ?_⟩
        rw [h0.strD]
        exact ⟨rfl, _, rfl, iN (strN rfl) q1⟩
      | first =>
        refine iN (inN rfl) ?_
        refine ⟨_, rfl, _, 0, _, hd.sm s1, rfl, l0, fun v0 h0 => ?_⟩
        rw [h0.strD]
        exact ⟨rfl, _, rfl, iN (strN rfl) q1⟩
    | row its => exact iY (inE rfl) q1
def spLv (K : PySem.W.Frag) : Sp := fun vs H Q _ => ∃ (kv : V) (a b : Int) (k : Knd), vs = [kv, .int a, .int b] ∧ Is K H kv (Knd.dt k) ∧ k.length ≤ 1000 ∧ ∀ H', Same H H' → Q (.bl (likeD k (.int a) (.int b))) H'
theorem ok_like_leaves {k : Nat} (T : Tx w K mg) : Cal P w K mg base (k + 1) "like_leaves" (spLv K) := by
  refine Tx.cal T.f_like_leaves T.g_like_leaves T.b_like_leaves sc_like_leaves ?_ ?_
  · rintro vs H Q E ⟨kv, a, b, k, rfl, _⟩
    rfl
  · rintro cdv A outer s0 H vs Q E hr ⟨kv, a, b, k, rfl, hkv, hkl, q⟩
    refine ⟨_, (pss_one (ps_ret (pe_or (pe_cmpR op_eq (pv 1) (pv 2) (nomark _)) (pe_one (pe_callB (cr_any rfl) (by rfl) T.z_any boot_any (pa_cons (pe_lc (own := [("some", 3)]) rfl sc_like_leaves.nd (pi_tup (pe_ix (ixD K) (pv 0) pe_int (fun _ _ => rfl))) (blkOk_by (own := [("some", 3)]) (N := ["kind", "one", "other", "some"]) (sc := defScope sLikeLeaves) (by decide +kernel)) (fun _ _ _ _ _ => (pg_name (i := 3) sc_like_leaves.nd rfl (by first | exact Or.inl rfl | exact Or.inr rfl))) (fun _ _ _ _ _ => pts_nil) (fun _ _ _ _ _ => (pe_and (pe_cmpR (inT K) (pv 1) (pv 3) (by rfl)) (pe_one (pe_cmpR (inT K) (pv 2) (pv 3) (by rfl)))))) pa_nil)))))), ?_⟩
    refine ⟨_, rfl, _, rfl, rfl, _, rfl, iD (fun e => ?_) fun e => ?_⟩
    · have hab : a = b := V.int.inj (of_decide_eq_true e)
      have := q _ (.refl _)
      simp only [likeD, decide_eq_true hab, Bool.true_or] at this
      exact this
    · have hab : ¬ a = b := fun z => of_decide_eq_false e (congrArg V.int z)
      have hdk : Knd.dt k = .tup [.tup (k.map fun c => .tup (c.map Dt.int)), .str "rows"] := rfl
      rw [hdk] at hkv
      refine ⟨_, rfl, _, 0, _, hkv, rfl, rfl, fun v0 h0 => ?_⟩
      obtain ⟨p, xs, rfl, sq, il⟩ := h0.tupD
      refine ⟨_, rfl, ⟨_, sq⟩, fun D nD => ?_⟩
      refine lc_D (walk_tup (xs := xs)) il nD (fun i H' acc => acc = ((k.take i).map fun c => V.bl (decide (a ∈ c) && decide (b ∈ c)))) rfl (fun H2 s2 => sq_up s2 sq) ?_ ?_
      · rintro i x d H2 acc hi s1 hD hx rfl
        rw [List.getElem?_map] at hi
        obtain ⟨c, hc, rfl⟩ := Option.map_eq_some_iff.mp hi
        have hil := (List.getElem?_eq_some_iff.mp hc).1
        have hflat : (c.map Dt.int).all Dt.flat = true := by
          rw [List.all_map, List.all_eq_true]
          intro z _
          rfl
        have hin : ∀ z : Int, decide (Dt.int z ∈ c.map Dt.int) = decide (z ∈ c) := fun z => by
          congr 1
          rw [List.mem_map]
          exact propext ⟨fun ⟨a, h1, h2⟩ => Dt.int.inj h2 ▸ h1, fun h => ⟨z, h, rfl⟩⟩
        have fin : ∀ r : Bool, r = (decide (a ∈ c) && decide (b ∈ c)) → LcN H D (fun i H' acc => acc = ((k.take i).map fun c => V.bl (decide (a ∈ c) && decide (b ∈ c)))) (i + 1) (.bl r) H2 := by
          rintro r rfl
          refine lcn nD s1 hD (.refl _) (lt_line (by rw [List.length_map, List.length_take]; omega)) ?_
          rw [List.take_add_one, hc, List.map_append]
          rfl
        refine ⟨rfl, _, rfl, _, rfl, _, _, .int a, hx, rfl, hflat, _, rfl, ?_⟩
        rw [hin]
        by_cases h1 : a ∈ c
        · rw [decide_eq_true h1]
          refine ⟨_, rfl, _, rfl, _, _, .int b, hx, rfl, hflat, ?_⟩
          exact fin _ (by rw [hin, decide_eq_true h1, Bool.true_and])
        · rw [decide_eq_false h1]
          exact fin _ (by rw [decide_eq_false h1, Bool.false_and])
      · rintro H2 acc s1 hD rfl
        rw [List.length_map, List.take_length] at hD
        refine ⟨D, k.map fun c => decide (a ∈ c) && decide (b ∈ c), rfl, .of (by rw [hD, List.map_map]; rfl), ?_⟩
        have := q _ s1
        simp only [likeD, decide_eq_false hab, Bool.false_or] at this
        rw [List.any_map]
        exact this
end
end Wf
set_option Elab.async false
set_option linter.all false
set_option maxRecDepth 100000
set_option maxHeartbeats 400000
namespace Wf
open PySem PySem.Spec PyProof.Rows L2
section
variable {P : Program} {w : World} {K : PySem.W.Frag} {mg : Str → Option Value} {base : Heap}
abbrev Ent := Pt × List Nat × Addr
def nI (ks : List Nat) : List V := ks.map fun (n : Nat) => V.int (n : Int)
structure Pcs (K : PySem.W.Frag) (H : Hp) (F : Addr) (E : List Ent) : Prop where
  ex : ∃ xs : List V, H F = some (.lst xs) ∧ xs.length = E.length ∧ ∀ (i : Nat) (e : Ent), E[i]? = some e → ∃ (a : Addr) (pv : V), xs[i]? = some (.ref a) ∧ SqT K H a [pv, .ref e.2.2] ∧ Is K H pv e.1.dt ∧ H e.2.2 = some (.lst (nI e.2.1))
  nd : (E.map (·.2.2)).Nodup
  nf : F ∉ E.map (·.2.2)
theorem Pcs.sm {H H' : Hp} {F : Addr} {E : List Ent} (s : Same H H') (p : Pcs K H F E) : Pcs K H' F E := by
  obtain ⟨⟨xs, h1, h2, h3⟩, h4, h5⟩ := p
  refine ⟨⟨xs, s _ _ h1, h2, fun i e he => ?_⟩, h4, h5⟩
  obtain ⟨a, pv, g1, g2, g3, g4⟩ := h3 i e he
  exact ⟨a, pv, g1, sq_up s g2, g3.sm s, s _ _ g4⟩
def Loc (b : Nat) (E : List Ent) : Prop := ∀ (i : Nat) (p : Pt) (ks : List Nat) (kr : Addr), b ≤ i → E[i]? = some (p, ks, kr) → p.ok ∧ (p.pl = true ∧ p.nn = true) ∧ p.dp ≤ 10 ∧ ks.length = p.inner.length ∧ ∀ (j n : Nat), ks[j]? = some n → i < n ∧ ∃ (q : Pt) (ks' : List Nat) (kr' : Addr), E[n]? = some (q, ks', kr') ∧ p.inner[j]? = some q
theorem Pcs.push {H : Hp} {F a kr : Addr} {E : List Ent} {p : Pt} {pv : V} {xs : List V} (h : Pcs K H F E) (hF : H F = some (.lst xs)) (hk : H kr = some (.lst [])) (hn : kr ∉ E.map (·.2.2)) (hkF : kr ≠ F) (ht : SqT K H a [pv, .ref kr]) (hp : Is K H pv p.dt) :
    Pcs K (upd H F (.lst (xs ++ [.ref a]))) F (E ++ [(p, [], kr)]) := by
  obtain ⟨⟨ys, h1, h2, h3⟩, h4, h5⟩ := h
  rw [hF] at h1
  cases h1
  have u : Up K H (upd H F (.lst (xs ++ [.ref a]))) := .lst hF
  refine ⟨⟨_, upd_same, by simp [h2], fun i e he => ?_⟩, ?_, ?_⟩
  · rcases Nat.lt_or_ge i E.length with z | z
    · rw [List.getElem?_append_left z] at he
      obtain ⟨b, qv, g1, g2, g3, g4⟩ := h3 i e he
      refine ⟨b, qv, by rw [List.getElem?_append_left (by omega)]; exact g1, u _ _ g2, g3.up u, ?_⟩
      rw [upd_ne (fun e' => h5 (by rw [← e']; exact List.mem_map.mpr ⟨e, List.mem_of_getElem? he, rfl⟩))]
      exact g4
    · rw [List.getElem?_append_right z] at he
      have hi : i = E.length := by
        have := (List.getElem?_eq_some_iff.mp he).1
        simp at this
        omega
      subst hi
      simp at he
      subst he
      refine ⟨a, pv, by rw [← h2]; simp, u _ _ ht, hp.up u, ?_⟩
      rw [upd_ne hkF]
      exact hk
  · rw [List.map_append, List.nodup_append]
    refine ⟨h4, by simp, ?_⟩
    intro x hx y hy e
    simp at hy
    rw [e, hy] at hx
    exact hn hx
  · rw [List.map_append, List.mem_append]
    rintro (z | z)
    · exact h5 z
    · simp at z
      exact hkF z.symm
theorem map_set_same {E : List Ent} {b : Nat} {p : Pt} {ks ks' : List Nat} {kr : Addr} (he : E[b]? = some (p, ks, kr)) : (E.set b (p, ks', kr)).map (·.2.2) = E.map (·.2.2) := by
  apply List.ext_getElem?
  intro i
  rw [List.getElem?_map, List.getElem?_map, List.getElem?_set]
  by_cases h : b = i
  · subst h
    rw [he]
    have := (List.getElem?_eq_some_iff.mp he).1
    simp [this]
  · simp [h]
theorem Pcs.kid {H : Hp} {F kr : Addr} {E : List Ent} {b n : Nat} {p : Pt} {ks : List Nat} (h : Pcs K H F E) (he : E[b]? = some (p, ks, kr)) : Pcs K (upd H kr (.lst (nI ks ++ [V.int (n : Int)]))) F (E.set b (p, ks ++ [n], kr)) := by
  obtain ⟨⟨xs, h1, h2, h3⟩, h4, h5⟩ := h
  obtain ⟨a0, pv0, f1, f2, f3, f4⟩ := h3 b _ he
  have hkF : F ≠ kr := fun e => h5 (by rw [e]; exact List.mem_map.mpr ⟨_, List.mem_of_getElem? he, rfl⟩)
  have u : Up K H (upd H kr (.lst (nI ks ++ [V.int (n : Int)]))) := .lst f4
  refine ⟨⟨xs, by rw [upd_ne hkF]; exact h1, by rw [List.length_set]; exact h2, fun i e hi => ?_⟩, by rw [map_set_same he]; exact h4, by rw [map_set_same he]; exact h5⟩
  rw [List.getElem?_set] at hi
  by_cases hb : b = i
  · subst hb
    have hlt := (List.getElem?_eq_some_iff.mp he).1
    rw [if_pos rfl, if_pos hlt] at hi
    obtain rfl := Option.some.inj hi
    exact ⟨a0, pv0, f1, u _ _ f2, f3.up u, by rw [upd_same]; simp [nI]⟩
  · rw [if_neg hb] at hi
    obtain ⟨a, pv, g1, g2, g3, g4⟩ := h3 i e hi
    refine ⟨a, pv, g1, u _ _ g2, g3.up u, ?_⟩
    rw [upd_ne (fun e' => ?_)]
    · exact g4
    · have hib := (List.getElem?_eq_some_iff.mp he).1
      have hii := (List.getElem?_eq_some_iff.mp hi).1
      have e1 : (E.map (·.2.2))[b]? = some kr := by rw [List.getElem?_map, he]; rfl
      have e2 : (E.map (·.2.2))[i]? = some kr := by rw [List.getElem?_map, hi, ← e']; rfl
      have l1 : b < (E.map (·.2.2)).length := by rw [List.length_map]; exact hib
      have l2 : i < (E.map (·.2.2)).length := by rw [List.length_map]; exact hii
      rw [List.getElem?_eq_getElem l1] at e1
      rw [List.getElem?_eq_getElem l2] at e2
      have e3 := (Option.some.inj e1).trans (Option.some.inj e2).symm
      rcases Nat.lt_or_gt_of_ne hb with z | z
      · exact List.pairwise_iff_getElem.mp h4 b i l1 l2 z e3
      · exact List.pairwise_iff_getElem.mp h4 i b l2 l1 z e3.symm
end
end Wf
set_option Elab.async false
set_option linter.all false
set_option maxRecDepth 100000
set_option maxHeartbeats 400000
namespace Wf
open PySem PySem.Spec PyProof.Rows L2
section
variable {P : Program} {w : World} {K : PySem.W.Frag} {mg : Str → Option Value} {base : Heap}
def spAdd (K : PySem.W.Frag) (n : Nat) : Sp := fun vs H Q _ => ∃ (F : Addr) (v : V) (p : Pt) (E : List Ent), vs = [.ref F, v] ∧ Pcs K H F E ∧ Is K H v p.dt ∧ p.ok ∧ (p.pl = true ∧ p.nn = true) ∧ p.dp ≤ 10 ∧ p.lv ≤ n ∧ E.length + p.pcs ≤ 1000 ∧
  ∀ (H' : Hp) (ks : List Nat) (kr : Addr) (R : List Ent), Kp (fun b => b = F) H H' → Pcs K H' F (E ++ (p, ks, kr) :: R) → R.length + 1 = p.pcs → Loc E.length (E ++ (p, ks, kr) :: R) → H kr = none → (∀ e ∈ R, H e.2.2 = none) → Q (.int (E.length : Nat)) H'
theorem Its.nn_mem : ∀ {l : Its} {p : Pt}, l.nn = true → p ∈ l.pats → p.nn = true
  | .nil, _, _, h => by cases h
  | .cons s q l, p, k, h => by
    simp only [Its.nn, Bool.and_eq_true] at k
    rcases List.mem_cons.mp h with rfl | h
    · exact k.1
    · exact Its.nn_mem k.2 h
theorem nn_inner {p q : Pt} (nn : p.nn = true) (h : q ∈ p.inner) : q.nn = true := by
  cases p with
  | any => cases h
  | is_ d =>
    cases d with
    | int i => cases h
    | str x => cases h
    | tup l =>
      obtain ⟨z, hz, rfl⟩ := List.mem_map.mp h
      rfl
  | two b p1 p2 =>
    simp only [Pt.inner, List.mem_cons, List.not_mem_nil, or_false] at h
    simp only [Pt.nn, Bool.and_eq_true] at nn
    rcases h with rfl | rfl
    · exact nn.1
    · exact nn.2
  | lone k p1 =>
    simp only [Pt.inner, List.mem_cons, List.not_mem_nil, or_false] at h
    subst h
    cases k with
    | nt => simp [Pt.nn] at nn
    | first => simpa only [Pt.nn] using nn
    | all => simpa only [Pt.nn] using nn
  | row s => exact Its.nn_mem (by simpa only [Pt.nn] using nn) h
theorem lv_inner {p q : Pt} (h : q ∈ p.inner) : q.lv + 1 ≤ p.lv := by
  cases p with
  | any => cases h
  | is_ d =>
    cases d with
    | int i => cases h
    | str x => cases h
    | tup l =>
      obtain ⟨z, hz, rfl⟩ := List.mem_map.mp h
      have := (Dt.deps_le l (Dt.deps l)).mp (Nat.le_refl _) z hz
      simp only [Pt.lv, Dt.dep]
      omega
  | two b p1 p2 =>
    simp only [Pt.inner, List.mem_cons, List.not_mem_nil, or_false] at h
    simp only [Pt.lv]
    rcases h with rfl | rfl <;> omega
  | lone k p1 =>
    simp only [Pt.inner, List.mem_cons, List.not_mem_nil, or_false] at h
    subst h
    simp only [Pt.lv]
    omega
  | row s =>
    have := Its.lv_mem h
    simp only [Pt.lv]
    omega
theorem ok_add_pieces {k : Nat} (T : Tx w K mg) (c1 : Cal P w K mg base k "inner_of" (spInner K)) : ∀ n, Cal P w K mg base (k + n) "add_pieces" (spAdd K n)
  | 0 => Cal.no T.g_add_pieces T.f_add_pieces.kp T.b_add_pieces (by
      rintro vs H Q E ⟨F, v, p, E', _, _, _, _, _, _, h, _⟩
      cases p <;> simp [Pt.lv] at h)
  | n + 1 => by
    have c_add_pieces := ok_add_pieces (k := k) T c1 n
    have c_inner_of := c1.up (Nat.le_add_right k n)
    refine Tx.cal T.f_add_pieces T.g_add_pieces T.b_add_pieces sc_add_pieces ?_ ?_
    · rintro vs H Q E ⟨F, v, p, E', rfl, _⟩
      rfl
    · rintro cdv A outer s0 H vs Q Ex hr ⟨F, v, p, E, rfl, pc, hv, ok, pl, dp, lv, hlen, q⟩
      refine ⟨_, (pss_cons (ps_set (i := 2) sc_add_pieces.nd rfl (by first | exact Or.inl rfl | exact Or.inr rfl) (pe_callB call_len_seq (by rfl) T.z_len boot_len (pa_cons (pv 0) pa_nil))) (pss_cons (ps_expr (pe_bm PySem.F.plainAttrs_list PySem.F.slot_list_append PySem.F.type_list_append mt_append (pv 0) (pa_cons (pe_tup (pa_cons (pv 1) (pa_cons (pe_lst pa_nil) pa_nil))) pa_nil))) (pss_cons (ps_for PassesOwn.never rfl (pi_list (pe_c c_inner_of hr (Nat.le_refl _) (by rfl) (pa_cons (pv 1) pa_nil))) (pg_name (i := 3) sc_add_pieces.nd rfl (by first | exact Or.inl rfl | exact Or.inr rfl)) (pss_one (ps_expr (pe_bm PySem.F.plainAttrs_list PySem.F.slot_list_append PySem.F.type_list_append mt_append (pe_ix ix_tup (pe_ix (ixL K) (pv 0) (pv 2) (fun _ _ => rfl)) pe_int (fun _ _ => rfl)) (pa_cons (pe_c c_add_pieces hr (Nat.le_refl _) (by rfl) (pa_cons (pv 0) (pa_cons (pv 3) pa_nil))) pa_nil))))) (pss_one (ps_ret (pv 2)))))), ?_⟩
      obtain ⟨xs, hF, hxl, hxe⟩ := pc.ex
      have hpp := p.pcs_inner
      refine ⟨_, rfl, F, xs, rfl, .inl (.of hF), ?_⟩
      refine ⟨_, rfl, .inl ⟨rfl, _, .of hF⟩, _, rfl, by decide, fun kr nk => ⟨line2, fun a na => ?_⟩⟩
      have s1 : Same H (upd H kr (.lst [])) := Sm.new nk
      have s2 : Same (upd H kr (.lst [])) (upd (upd H kr (.lst [])) a (.tup [v, .ref kr])) := Sm.new na
      have s12 := s1.trans s2
      have hk2 : (upd (upd H kr (.lst [])) a (.tup [v, .ref kr])) kr = some (.lst []) := s2 _ _ upd_same
      have ht2 : SqT K (upd (upd H kr (.lst [])) a (.tup [v, .ref kr])) a [v, .ref kr] := .of upd_same
      have hF2 := s12 _ _ hF
      have pc2 := pc.sm s12
      have hv2 := hv.sm s12
      have hkF : kr ≠ F := fun e => by rw [e, hF] at nk; cases nk
      have hkn : kr ∉ E.map (·.2.2) := by
        intro hm
        obtain ⟨e, he, hek⟩ := List.mem_map.mp hm
        obtain ⟨i, hi, hie⟩ := List.getElem_of_mem he
        obtain ⟨_, _, _, _, _, g4⟩ := hxe i e (by rw [List.getElem?_eq_getElem hi, hie])
        rw [hek, nk] at g4
        cases g4
      have pc3 := pc2.push hF2 hk2 hkn hkF ht2 hv2
      refine ⟨F, xs, _, rfl, rfl, hF2, lt_line (by omega), ?_⟩
      have kp3 : Kp (fun b => b = F) H (upd (upd (upd H kr (.lst [])) a (.tup [v, .ref kr])) F (.lst (xs ++ [.ref a]))) := fun b o hb h => by
        rw [upd_ne hb]
        exact s12 b o h
      have up3 : Up K (upd (upd H kr (.lst [])) a (.tup [v, .ref kr])) (upd (upd (upd H kr (.lst [])) a (.tup [v, .ref kr])) F (.lst (xs ++ [.ref a]))) := .lst hF2
      have hv3 := hv2.up up3
      generalize upd (upd (upd H kr (.lst [])) a (.tup [v, .ref kr])) F (.lst (xs ++ [.ref a])) = H3 at *
      refine ⟨_, rfl, _, p, rfl, hv3, ok, pl.1, dp, fun H4 ai ys s4 nai hai ili => ?_⟩
      have pc4 := pc3.sm s4
      refine ⟨ai, rfl, ⟨ys, .of hai⟩, ?_⟩
      have haiF : ai ≠ F := fun e => by
        obtain ⟨⟨zs, g1, _⟩, _, _⟩ := pc3
        rw [← e, nai] at g1
        cases g1
      have haik : ai ≠ kr := fun e => by
        obtain ⟨⟨zs, g1, g2, g3⟩, _, _⟩ := pc3
        obtain ⟨_, _, _, _, _, g4⟩ := g3 E.length (p, [], kr) (by simp)
        rw [← e, nai] at g4
        cases g4
      refine for_D (walk_list (xs := ys)) ili (fun i σ H' => ∃ (ks : List Nat) (R : List Ent) (o : Option V), Kp (fun b => b = F) H H' ∧ H' ai = some (.lst ys) ∧ Up K H4 H' ∧ Pcs K H' F (E ++ (p, ks, kr) :: R) ∧ ks.length = i ∧ R.length = sumN ((p.inner.map Pt.pcs).take i) ∧
        Loc (E.length + 1) (E ++ (p, ks, kr) :: R) ∧ (∀ (j m : Nat), ks[j]? = some m → E.length < m ∧ ∃ (q : Pt) (ks' : List Nat) (kr' : Addr), (E ++ (p, ks, kr) :: R)[m]? = some (q, ks', kr') ∧ p.inner[j]? = some q) ∧ (∀ e ∈ R, H e.2.2 = none) ∧
        σ = [some (.ref F), some v, some (.int (E.length : Nat)), o]) ?_ ?_ ?_ ?_
      · refine ⟨[], [], none, kp3.trans (.sm s4), hai, .refl, pc4, rfl, by simp [sumN], ?_, fun j m h => by simp at h, fun e he => (nomatch he), by rw [hxl]; rfl⟩
        intro i p' ks' kr' hi he
        have := (List.getElem?_eq_some_iff.mp he).1
        simp at this
        omega
      · rintro i σ H' ⟨ks, R, o, _, h1, u, _⟩
        exact ⟨.of h1, u⟩
      · rintro i x d σ H5 hi hx ⟨ks, R, o, kp5, h5, u5, pc5, hks, hR, loc, kid, fr, rfl⟩
        rw [List.getElem?_map] at hi
        obtain ⟨q', hq, rfl⟩ := Option.map_eq_some_iff.mp hi
        have hmem := List.mem_of_getElem? hq
        have hin := Pt.inner_ok ok pl.1 hmem
        have hlv := lv_inner hmem
        have hsz : sumN ((p.inner.map Pt.pcs).take (i + 1)) = sumN ((p.inner.map Pt.pcs).take i) + q'.pcs := sumN_take (by rw [List.getElem?_map, hq]; rfl)
        have hle := sumN_take_le (p.inner.map Pt.pcs) (i + 1)
        obtain ⟨⟨zs, g1, g2, g3⟩, gnd, gnf⟩ := id pc5
        have hEi : (E ++ (p, ks, kr) :: R)[E.length]? = some (p, ks, kr) := by simp
        obtain ⟨a0, pv0, f1, f2, f3, f4⟩ := g3 E.length (p, ks, kr) hEi
        refine ⟨_, rfl, _, rfl, F, zs, _, .ref a0, rfl, rfl, .of g1, atI_nat0 f1, a0, _, _, .ref kr, rfl, rfl, f2, rfl, .inl ⟨rfl, _, .of f4⟩, _, rfl, _, rfl, ?_⟩
        refine ⟨F, x, q', _, rfl, pc5, hx, hin.1, ⟨hin.2.1, nn_inner pl.2 hmem⟩, by omega, by omega, by simp; omega, fun H6 ks6 kr6 R6 kp6 pc6 hR6 loc6 nk6 fr6 => ?_⟩
        have e6 : (E ++ (p, ks, kr) :: R) ++ (q', ks6, kr6) :: R6 = E ++ (p, ks, kr) :: (R ++ (q', ks6, kr6) :: R6) := by simp
        have hm0 : (E ++ (p, ks, kr) :: R).length = E.length + 1 + R.length := by simp; omega
        have pc6' := pc6
        rw [e6] at pc6'
        have hE6 : (E ++ (p, ks, kr) :: (R ++ (q', ks6, kr6) :: R6))[E.length]? = some (p, ks, kr) := by simp
        obtain ⟨a6, pv6, _, _, _, k6⟩ := pc6'.ex.choose_spec.2.2 E.length (p, ks, kr) hE6
        have pc7 := pc6'.kid (n := (E ++ (p, ks, kr) :: R).length) hE6
        have eset : (E ++ (p, ks, kr) :: (R ++ (q', ks6, kr6) :: R6)).set E.length (p, ks ++ [(E ++ (p, ks, kr) :: R).length], kr) = E ++ (p, ks ++ [(E ++ (p, ks, kr) :: R).length], kr) :: (R ++ (q', ks6, kr6) :: R6) := by
          rw [List.set_append_right _ _ (Nat.le_refl _)]
          simp
        rw [eset] at pc7
        have hne5 : ∀ b, H5 b = none → b ≠ F := fun b hb e => by rw [e, g1] at hb; cases hb
        have same : ∀ i, i ≠ E.length → (E ++ (p, ks ++ [(E ++ (p, ks, kr) :: R).length], kr) :: (R ++ (q', ks6, kr6) :: R6))[i]? = ((E ++ (p, ks, kr) :: R) ++ (q', ks6, kr6) :: R6)[i]? := fun i hi => by
          rw [← eset, e6, List.getElem?_set_ne (Ne.symm hi)]
        have old : ∀ i e, (E ++ (p, ks, kr) :: R)[i]? = some e → ((E ++ (p, ks, kr) :: R) ++ (q', ks6, kr6) :: R6)[i]? = some e := fun i e he => by
          rw [List.getElem?_append_left (List.getElem?_eq_some_iff.mp he).1]
          exact he
        refine ⟨kr, nI ks, _, rfl, rfl, k6, lt_line (by unfold nI; rw [List.length_map]; have := List.length_take (i := i) (l := p.inner); have := (List.getElem?_eq_some_iff.mp hq).1; have := len_le_sum p.inner; omega), ?_⟩
        refine ⟨ks ++ [(E ++ (p, ks, kr) :: R).length], R ++ (q', ks6, kr6) :: R6, _, ?_, ?_, ?_, pc7, by simp [hks], by simp; omega, ?_, ?_, ?_, rfl⟩
        · intro b o hb h
          rw [upd_ne (ne_of_none h nk)]
          exact (kp5.trans kp6) b o hb h
        · rw [upd_ne haik]
          exact kp6 _ _ haiF h5
        · exact u5.trans ((Kp.up (fun b hb => by rw [hb, g1]; trivial) kp6).trans (.lst k6))
        · intro i' p' ks' kr' hi' he'
          rw [same i' (by omega)] at he'
          rcases Nat.lt_or_ge i' (E ++ (p, ks, kr) :: R).length with z | z
          · rw [List.getElem?_append_left z] at he'
            obtain ⟨x1, x2, x3, x4, x5⟩ := loc i' p' ks' kr' hi' he'
            refine ⟨x1, x2, x3, x4, fun j m hj => ?_⟩
            obtain ⟨y1, q2, ks2, kr2, y2, y3⟩ := x5 j m hj
            exact ⟨y1, q2, ks2, kr2, by rw [same m (by omega)]; exact old m _ y2, y3⟩
          · obtain ⟨x1, x2, x3, x4, x5⟩ := loc6 i' p' ks' kr' z he'
            refine ⟨x1, x2, x3, x4, fun j m hj => ?_⟩
            obtain ⟨y1, q2, ks2, kr2, y2, y3⟩ := x5 j m hj
            exact ⟨y1, q2, ks2, kr2, by rw [same m (by omega)]; exact y2, y3⟩
        · intro j m hj
          rcases Nat.lt_or_ge j ks.length with z | z
          · rw [List.getElem?_append_left z] at hj
            obtain ⟨y1, q2, ks2, kr2, y2, y3⟩ := kid j m hj
            exact ⟨y1, q2, ks2, kr2, by rw [same m (by omega)]; exact old m _ y2, y3⟩
          · have hj' : j = ks.length := by
              have := (List.getElem?_eq_some_iff.mp hj).1
              simp at this
              omega
            subst hj'
            simp only [List.getElem?_concat_length, Option.some.injEq] at hj
            subst hj
            refine ⟨by omega, q', ks6, kr6, ?_, by rw [hks]; exact hq⟩
            rw [same _ (by omega)]
            simp
        · intro e he
          rcases List.mem_append.mp he with he | he
          · exact fr e he
          · rcases List.mem_cons.mp he with rfl | he
            · exact kp5.free nk6 (hne5 _ nk6)
            · exact kp5.free (fr6 e he) (hne5 _ (fr6 e he))
      · rintro σ H5 ⟨ks, R, o, kp5, h5, u5, pc5, hks, hR, loc, kid, fr, rfl⟩
        rw [List.length_map, ← List.length_map (f := Pt.pcs), List.take_length] at hR
        rw [List.length_map] at hks
        refine ⟨_, rfl, q H5 ks kr R kp5 pc5 (by omega) ?_ nk fr⟩
        intro i p' ks' kr' hi he
        rcases Nat.lt_or_ge E.length i with z | z
        · exact loc i p' ks' kr' (by omega) he
        · have : i = E.length := by omega
          subst this
          simp at he
          obtain ⟨rfl, rfl, rfl⟩ := he
          exact ⟨ok, pl, dp, hks, kid⟩
end
end Wf
set_option Elab.async false
set_option linter.all false
set_option maxRecDepth 100000
set_option maxHeartbeats 400000
namespace Wf
open PySem PySem.Spec PyProof.Rows L2
section
variable {P : Program} {w : World} {K : PySem.W.Frag} {mg : Str → Option Value} {base : Heap}
def spBy (K : PySem.W.Frag) : Sp := fun vs H Q _ => ∃ (a : Addr) (v : V) (p : Pt), vs = [.ref a] ∧ H a = some (.lst [v]) ∧ Is K H v p.dt ∧ p.ok ∧ (p.pl = true ∧ p.nn = true) ∧ p.dp ≤ 10 ∧ p.pcs ≤ 900 ∧
  ∀ (H' : Hp) (F : Addr) (ks : List Nat) (kr : Addr) (R : List Ent), Same H H' → H F = none → Pcs K H' F ((p, ks, kr) :: R) → R.length + 1 = p.pcs → Loc 0 ((p, ks, kr) :: R) → Q (.ref F) H'
theorem ok_pieces_by {k : Nat} (T : Tx w K mg) (c_add_pieces : Cal P w K mg base k "add_pieces" (spAdd K 15)) : Cal P w K mg base (k + 1) "pieces_by" (spBy K) := by
  refine Tx.cal T.f_pieces_by T.g_pieces_by T.b_pieces_by sc_pieces_by ?_ ?_
  · rintro vs H Q E ⟨a, v, p, rfl, _⟩
    rfl
  · rintro cdv A outer s0 H vs Q Ex hr ⟨a, v, p, rfl, ha, hv, ok, pl, dp, hpc, q⟩
    refine ⟨_, (pss_cons (ps_set (i := 1) sc_pieces_by.nd rfl (by first | exact Or.inl rfl | exact Or.inr rfl) (pe_lst pa_nil)) (pss_cons (ps_for PassesOwn.never rfl (pi_list (pv 0)) (pg_name (i := 2) sc_pieces_by.nd rfl (by first | exact Or.inl rfl | exact Or.inr rfl)) (pss_one (ps_expr (pe_c c_add_pieces hr (Nat.le_refl _) (by rfl) (pa_cons (pv 1) (pa_cons (pv 2) pa_nil)))))) (pss_one (ps_ret (pv 1))))), ?_⟩
    refine ⟨by decide, fun F nF => ?_⟩
    have s1 : Same H (upd H F (.lst [])) := Sm.new nF
    have hlv := p.lv_le ok
    refine ⟨_, rfl, a, rfl, ⟨[v], .of (s1 _ _ ha)⟩, ?_⟩
    refine for_D (walk_list (xs := [v])) (l := [p.dt]) (.one (hv.sm s1)) (fun i σ H' => Same H H' ∧ Up K (upd H F (.lst [])) H' ∧ (∃ o, σ = [some (.ref a), some (.ref F), o]) ∧ ((i = 0 ∧ Pcs K H' F []) ∨ (i = 1 ∧ ∃ ks kr R, Pcs K H' F ((p, ks, kr) :: R) ∧ R.length + 1 = p.pcs ∧ Loc 0 ((p, ks, kr) :: R)))) ?_ ?_ ?_ ?_
    · exact ⟨s1, .refl, ⟨none, rfl⟩, .inl ⟨rfl, ⟨⟨[], upd_same, rfl, fun i e he => by simp at he⟩, by simp, by simp⟩⟩⟩
    · rintro i σ H' ⟨s2, u, _⟩
      exact ⟨.of (s2 _ _ ha), u⟩
    · rintro i x d σ H2 hi hx ⟨s2, u, ⟨o, rfl⟩, hc⟩
      have hi0 : i = 0 := by
        have := (List.getElem?_eq_some_iff.mp hi).1
        simp at this
        exact this
      subst hi0
      simp only [List.getElem?_cons_zero, Option.some.injEq] at hi
      subst hi
      have pc : Pcs K H2 F [] := by
        rcases hc with ⟨_, h⟩ | ⟨h, _⟩
        · exact h
        · cases h
      obtain ⟨⟨zs, g1, _⟩, _, _⟩ := id pc
      refine ⟨_, rfl, _, rfl, F, x, p, [], rfl, pc, hx, ok, pl, dp, by omega, by simp; omega, fun H3 ks kr R kp pc3 hR loc nk fr => ?_⟩
      refine ⟨fun b o' h => kp b o' (fun e => by rw [e, nF] at h; cases h) (s2 b o' h), u.trans (Kp.up (fun b hb => by rw [hb, g1]; trivial) kp), ⟨_, rfl⟩, .inr ⟨rfl, ks, kr, R, pc3, hR, loc⟩⟩
    · rintro σ H2 ⟨s2, u, ⟨o, rfl⟩, hc⟩
      rcases hc with ⟨h, _⟩ | ⟨_, ks, kr, R, pc3, hR, loc⟩
      · cases h
      · exact ⟨_, rfl, q H2 F ks kr R s2 nF pc3 hR loc⟩
end
end Wf
set_option Elab.async false
set_option linter.all false
set_option maxRecDepth 100000
set_option maxHeartbeats 400000
namespace Wf
open PySem PySem.Spec PyProof.Rows L2
section
variable {P : Program} {w : World} {K : PySem.W.Frag} {mg : Str → Option Value} {base : Heap}
def Pt.bs : Pt → Bool
  | .row _ => true
  | .lone .all _ => true
  | .is_ _ => true
  | _ => false
def TS (k : Knd) (t : Dt) (E : List Ent) (ts : List Nat) : Prop := ts.Nodup ∧ ∀ n, n ∈ ts ↔ ∃ e, E[n]? = some e ∧ Mt k e.1 t = true
def BS (k : Knd) (t : Dt) (E : List Ent) (ts : List Nat) : Prop := ts.Nodup ∧ ∀ n, n ∈ ts ↔ ∃ e, E[n]? = some e ∧ e.1.bs = true ∧ Mt k e.1 t = true
theorem nodup_lt : ∀ (n : Nat) {ts : List Nat}, ts.Nodup → (∀ x ∈ ts, x < n) → ts.length ≤ n
  | 0, ts, _, hm => by
    cases ts with
    | nil => exact Nat.le_refl _
    | cons x ts => exact absurd (hm x (List.mem_cons_self ..)) (Nat.not_lt_zero _)
  | n + 1, ts, h, hm => by
    have h2 : (ts.erase n).Nodup := h.erase n
    have h3 := nodup_lt n h2 fun x hx => by
      have h4 := (List.Nodup.mem_erase_iff h).mp hx
      have := hm x h4.2
      omega
    by_cases hn : n ∈ ts
    · rw [List.length_erase_of_mem hn] at h3
      omega
    · rw [List.erase_of_not_mem hn] at h3
      omega
theorem nodup_le {E : List Ent} {ts : List Nat} (h : ts.Nodup) (hm : ∀ n ∈ ts, ∃ e, E[n]? = some e) : ts.length ≤ E.length := nodup_lt E.length h fun n hn => by
  obtain ⟨e, he⟩ := hm n hn
  exact (List.getElem?_eq_some_iff.mp he).1
theorem in_nI {n : Nat} : ∀ ts : List Nat, inV (.int (n : Int)) (nI ts) = decide (n ∈ ts)
  | [] => by simp [inV, nI]
  | m :: ts => by
    have ih := in_nI (n := n) ts
    unfold inV nI at ih ⊢
    rw [List.map_cons, List.any_cons, ih]
    by_cases h : n = m
    · subst h
      simp [eqV]
    · have h' : ¬ ((m : Int) = (n : Int)) := by omega
      simp [eqV, h, h']
theorem flat_nI (ts : List Nat) : (nI ts).all flatV = true := by
  unfold nI
  rw [List.all_map, List.all_eq_true]
  intro n _
  rfl
theorem Pt.inner_len {p : Pt} (h : p.ok) : p.inner.length ≤ 10 := by
  cases p with
  | any => exact Nat.zero_le _
  | is_ d =>
    cases d with
    | int i => exact Nat.zero_le _
    | str x => exact Nat.zero_le _
    | tup l =>
      simp only [Pt.ok] at h
      have h1 := h.sz
      have h2 := Dt.szs_len l
      simp only [Dt.sz] at h1
      simp only [Pt.inner, List.length_map]
      omega
  | two b p q => simp [Pt.inner]
  | lone k p => simp [Pt.inner]
  | row s =>
    simp only [Pt.ok] at h
    simp only [Pt.inner, Its.pats_len]
    omega
def FS (k : Knd) (t : Dt) (E : List Ent) (i : Nat) (fs : List Nat) : Prop := fs.Nodup ∧ ∀ n, n ∈ fs ↔ ∃ e, E[n]? = some e ∧ (e.1.bs = true ∨ E.length - i ≤ n) ∧ Mt k e.1 t = true
theorem FS.stay {k : Knd} {t : Dt} {E : List Ent} {i nb : Nat} {fs : List Nat} {e : Ent} (h : FS k t E i fs) (hi : i < E.length) (hn : E.length - 1 - i = nb) (he : E[nb]? = some e) (hb : e.1.bs = true ∨ Mt k e.1 t = false) : FS k t E (i + 1) fs := by
  refine ⟨h.1, fun n => ?_⟩
  rw [h.2 n]
  constructor
  · rintro ⟨x, h1, h2, h3⟩
    exact ⟨x, h1, h2.imp id fun z => by omega, h3⟩
  · rintro ⟨x, h1, h2, h3⟩
    by_cases z : n = nb
    · subst z
      rw [he] at h1
      obtain rfl := Option.some.inj h1
      rcases hb with hb | hb
      · exact ⟨e, he, .inl hb, h3⟩
      · rw [hb] at h3
        cases h3
    · exact ⟨x, h1, h2.imp id fun y => by omega, h3⟩
theorem FS.add {k : Knd} {t : Dt} {E : List Ent} {i nb : Nat} {fs : List Nat} {e : Ent} (h : FS k t E i fs) (hi : i < E.length) (hn : E.length - 1 - i = nb) (he : E[nb]? = some e) (hb : e.1.bs = false) (hm : Mt k e.1 t = true) : FS k t E (i + 1) (fs ++ [nb]) := by
  have hnot : nb ∉ fs := fun hin => by
    obtain ⟨x, h1, h2, h3⟩ := (h.2 nb).mp hin
    rw [he] at h1
    obtain rfl := Option.some.inj h1
    rcases h2 with h2 | h2
    · rw [hb] at h2
      cases h2
    · omega
  refine ⟨List.nodup_append.mpr ⟨h.1, by simp, fun x hx y hy e' => by
    simp at hy
    rw [e', hy] at hx
    exact hnot hx⟩, fun n => ?_⟩
  rw [List.mem_append, List.mem_singleton, h.2 n]
  constructor
  · rintro (⟨x, h1, h2, h3⟩ | rfl)
    · exact ⟨x, h1, h2.imp id fun z => by omega, h3⟩
    · exact ⟨e, he, .inr (by omega), hm⟩
  · rintro ⟨x, h1, h2, h3⟩
    by_cases z : n = nb
    · exact .inr z
    · exact .inl ⟨x, h1, h2.imp id fun y => by omega, h3⟩
theorem FS.kid {k : Knd} {t : Dt} {E : List Ent} {i nb : Nat} {fs : List Nat} (h : FS k t E i fs) (hn : E.length - 1 - i = nb) {m : Nat} (hm : nb < m) {q : Pt} {ks : List Nat} {kr : Addr} (he : E[m]? = some (q, ks, kr)) : decide (m ∈ fs) = Mt k q t := by
  have hlt := (List.getElem?_eq_some_iff.mp he).1
  cases z : Mt k q t with
  | true => exact decide_eq_true ((h.2 m).mpr ⟨_, he, .inr (by omega), z⟩)
  | false =>
    refine decide_eq_false fun hin => ?_
    obtain ⟨x, h1, _, h3⟩ := (h.2 m).mp hin
    rw [he] at h1
    obtain rfl := Option.some.inj h1
    rw [z] at h3
    cases h3
theorem perm_nat {ns : List Int} {fs : List Nat} (h : ns.Perm (asI fs)) : ∃ ts : List Nat, ns = asI ts ∧ ts.Perm fs := by
  have e : ns = asI (ns.map Int.toNat) := by
    have hm : ∀ x ∈ ns, (0 : Int) ≤ x := fun x hx => by
      obtain ⟨n, _, rfl⟩ := List.mem_map.mp (h.mem_iff.mp hx)
      omega
    unfold asI
    rw [List.map_map]
    clear h
    induction ns with
    | nil => rfl
    | cons x ns ih =>
      rw [List.map_cons, ← ih fun y hy => hm y (List.mem_cons_of_mem _ hy)]
      have := hm x (List.mem_cons_self ..)
      show x :: ns = ((x.toNat : Nat) : Int) :: ns
      rw [Int.toNat_of_nonneg this]
  refine ⟨ns.map Int.toNat, e, ?_⟩
  have h2 := h.map Int.toNat
  have e2 : (asI fs).map Int.toNat = fs := by
    unfold asI
    rw [List.map_map]
    clear h h2
    induction fs with
    | nil => rfl
    | cons x fs ih => rw [List.map_cons, ih]; rfl
  rw [e2] at h2
  exact h2
theorem nI_is {H : Hp} : ∀ ts : List Nat, IsAll K H ((asI ts).map V.int) (ts.map fun (n : Nat) => Dt.int (n : Int))
  | [] => .nil
  | n :: ts => .cons (.int _) (nI_is ts)
def spPut2 (K : PySem.W.Frag) : Sp := fun vs H Q _ => ∃ (F b : Addr) (E : List Ent) (bs : List Nat) (k : Knd) (t : Dt), vs = [.ref F, .ref b] ∧ Pcs K H F E ∧ Loc 0 E ∧ E.length ≤ 40 ∧ H b = some (.lst (nI bs)) ∧ BS k t E bs ∧ (∀ (H' : Hp) (v : V) (ts : List Nat), Same H H' → Is K H' v (ctD ts) → TS k t E ts → Q v H')
theorem ok_put_together {k : Nat} (T : Tx w K mg) : Cal P w K mg base (k + 1) "put_together" (spPut2 K) := by
  refine Tx.cal T.f_put_together T.g_put_together T.b_put_together sc_put_together ?_ ?_
  · rintro vs H Q E ⟨F, b, E', bs, k, t, rfl, _⟩
    rfl
  · rintro cdv A outer s0 H vs Q Ex hr ⟨F, b, E, bs, k, t, rfl, pc, loc, h40, hb, hbs, q⟩
    refine ⟨_, (pss_cons (ps_set (i := 2) sc_put_together.nd rfl (by first | exact Or.inl rfl | exact Or.inr rfl) (pe_callTy call_list_of (by rfl) T.z_list boot_list (pa_cons (pv 1) pa_nil))) (pss_cons (ps_for PassesOwn.never rfl (pi_range3 (by rfl) T.z_range (pa_cons (pe_op op_sub (pe_callB call_len_seq (by rfl) T.z_len boot_len (pa_cons (pv 0) pa_nil)) pe_int) (pa_cons (pe_un un_neg pe_int) (pa_cons (pe_un un_neg pe_int) pa_nil)))) (pg_name (i := 3) sc_put_together.nd rfl (by first | exact Or.inl rfl | exact Or.inr rfl)) (pss_cons (ps_asg (pe_ix (ixL K) (pv 0) (pv 3) (fun _ _ => rfl)) (pgTup K (n := 2) rfl (pgs_cons (pg_name (i := 4) sc_put_together.nd rfl (by first | exact Or.inl rfl | exact Or.inr rfl)) (pgs_cons (pg_name (i := 5) sc_put_together.nd rfl (by first | exact Or.inl rfl | exact Or.inr rfl)) pgs_nil)))) (pss_cons (ps_setLc (i := 6) (own := [("kid", 8)]) rfl sc_put_together.nd rfl rfl (sw_true rfl rfl rfl (by decide +kernel)) (pi_list (pv 5)) (blkOk_by (own := [("kid", 8)]) (N := ["pieces", "told", "found", "number", "pattern", "kids", "are", "is_so", "kid"]) (sc := defScope sPutTogether) (by decide +kernel)) (fun _ _ _ _ _ => (pg_name (i := 8) sc_put_together.nd rfl (by first | exact Or.inl rfl | exact Or.inr rfl))) (fun _ _ _ _ _ => pts_nil) (fun _ _ _ _ _ => (pe_cmpR (inS K) (pv 8) (pv 2) (by rfl)))) (pss_cons (ps_set (i := 7) sc_put_together.nd rfl (by first | exact Or.inl rfl | exact Or.inr rfl) (pe_cmpR (eqT K hr.units) (pv 4) (pe_gv (by rfl) T.v_ANY) (nomark _))) (pss_cons (ps_if (pw_or (pt_cmpR op_eq (pe_ix (ixD K) (pv 4) pe_int (fun _ _ => rfl)) pe_str (nomark _)) (pw_or1 (pt_cmpR op_eq (pe_ix (ixD K) (pv 4) pe_int (fun _ _ => rfl)) pe_str (nomark _)))).pt (pss_one (ps_set (i := 7) sc_put_together.nd rfl (by first | exact Or.inl rfl | exact Or.inr rfl) (pe_callB (cr_all rfl) (by rfl) T.z_all boot_all (pa_cons (pv 6) pa_nil)))) (pss_one (ps_if (pt_cmpR op_eq (pe_ix (ixD K) (pv 4) pe_int (fun _ _ => rfl)) pe_str (nomark _)) (pss_one (ps_set (i := 7) sc_put_together.nd rfl (by first | exact Or.inl rfl | exact Or.inr rfl) (pe_callB (cr_any rfl) (by rfl) T.z_any boot_any (pa_cons (pv 6) pa_nil)))) (pss_one (ps_if (pt_cmpR op_eq (pe_ix (ixD K) (pv 4) pe_int (fun _ _ => rfl)) pe_str (nomark _)) (pss_one ps_never) pss_nil))))) (pss_one (ps_if (pt_val (pv 7)) (pss_one (ps_expr (pe_bm PySem.F.plainAttrs_list PySem.F.slot_list_append PySem.F.type_list_append mt_append (pv 2) (pa_cons (pv 3) pa_nil)))) pss_nil))))))) (pss_one (ps_ret (pe_callTy call_tuple_of (by rfl) T.z_tuple boot_tuple (pa_cons (pe_callB cr_sorted (by rfl) T.z_sorted boot_sorted (pa_cons (pv 2) pa_nil)) pa_nil)))))), ?_⟩
    refine ⟨_, rfl, b, _, rfl, .inl (.of hb), fun L nL => ?_⟩
    have s1 : Same H (upd H L (.lst (nI bs))) := Sm.new nL
    obtain ⟨xs, hF, hxl, hxe⟩ := pc.ex
    refine ⟨_, rfl, F, xs, rfl, .inl (.of (s1 _ _ hF)), _, _, rfl, rfl, _, rfl, _, rfl, ?_⟩
    refine ⟨((xs.length : Nat) : Int) - 1, -1, -1, E.length, rfl, ?_, ?_⟩
    · have := RgC.neg (i := ((xs.length : Nat) : Int) - 1) (j := -1) (by omega) (by omega) (by omega) (by omega)
      rw [show ((((xs.length : Nat) : Int) - 1) - -1).toNat = E.length by omega] at this
      exact this
    refine for_rangeC (fun i σ H' => Same H H' ∧ (∃ fs : List Nat, H' L = some (.lst (nI fs)) ∧ fs.Nodup ∧ ∀ n, n ∈ fs ↔ ∃ e, E[n]? = some e ∧ (e.1.bs = true ∨ E.length - i ≤ n) ∧ Mt k e.1 t = true) ∧
      ∃ o1 o2 o3 o4 o5 o6, σ = [some (.ref F), some (.ref b), some (.ref L), o1, o2, o3, o4, o5, o6]) ?_ ?_ ?_
    · refine ⟨s1, ⟨bs, upd_same, hbs.1, fun n => ?_⟩, _, _, _, _, _, _, rfl⟩
      rw [hbs.2 n]
      constructor
      · rintro ⟨e, h1, h2, h3⟩
        exact ⟨e, h1, .inl h2, h3⟩
      · rintro ⟨e, h1, h2, h3⟩
        have := (List.getElem?_eq_some_iff.mp h1).1
        exact ⟨e, h1, h2.resolve_right (by omega), h3⟩
    · rintro i σ H2 hi ⟨s2, ⟨fs, hL, hnd, hfs⟩, o1, o2, o3, o4, o5, o6, rfl⟩
      have enb : ((xs.length : Nat) : Int) - 1 + (i : Nat) * (-1) = ((E.length - 1 - i : Nat) : Int) := by omega
      generalize hnb : E.length - 1 - i = nb at enb
      have hnbl : nb < E.length := by omega
      obtain ⟨⟨p, ks, kr⟩, hE⟩ : ∃ e, E[nb]? = some e := ⟨_, List.getElem?_eq_getElem hnbl⟩
      obtain ⟨a, pv, g1, g2, g3, g4⟩ := hxe nb _ hE
      obtain ⟨ok, ⟨pl, nn⟩, dp, hkl, hkid⟩ := loc nb p ks kr (Nat.zero_le _) hE
      have hks40 : ks.length ≤ 1000 := by have := Pt.inner_len ok; omega
      refine ⟨_, rfl, _, rfl, F, xs, _, .ref a, rfl, rfl, .of (s2 _ _ hF), by rw [enb]; exact atI_nat0 g1, ?_⟩
      refine ⟨a, _, rfl, sq_up s2 g2, rfl, _, _, rfl, _, _, rfl, rfl, ?_⟩
      refine ⟨_, rfl, kr, rfl, ⟨_, .of (s2 _ _ g4)⟩, fun D nD => ?_⟩
      refine lc_W (walk_list (xs := nI ks)) nD (fun j H' acc => acc = ((ks.take j).map fun n => V.bl (decide (n ∈ fs)))) rfl (fun H3 s3 => .of (s3 _ _ (s2 _ _ g4))) ?_ ?_
      · rintro j x H3 H4 acc hj s3 hD ⟨rfl, hx⟩ rfl
        unfold nI at hx
        rw [List.getElem?_map] at hx
        obtain ⟨n, hn, rfl⟩ := Option.map_eq_some_iff.mp hx
        have hjl := (List.getElem?_eq_some_iff.mp hn).1
        refine ⟨rfl, _, rfl, _, rfl, L, _, rfl, .inl (.of (s3 _ _ hL)), rfl, flat_nI fs, ?_⟩
        show LcN H2 D _ (j + 1) (V.bl (inV (.int (n : Int)) (nI fs))) _
        rw [in_nI]
        refine lcn nD s3 hD (.refl _) (lt_line (by rw [List.length_map, List.length_take]; omega)) ?_
        show _ = ((ks.take (j + 1)).map fun n => V.bl (decide (n ∈ fs)))
        rw [List.take_add_one, hn, List.map_append]
        rfl
      rintro H3 acc s3 hD rfl
      have e4 : ks.take (nI ks).length = ks := by unfold nI; rw [List.length_map, List.take_length]
      rw [e4] at hD
      have s23 := s2.trans s3
      have hp3 := g3.sm s23
      refine ⟨_, rfl, _, _, hp3, T.d_ANY _, p.fit ok dp, any_fit, ?_⟩
      rw [any_iff]
      have fsi : FS k t E i fs := ⟨hnd, hfs⟩
      have hL3 := s3 _ _ hL
      obtain ⟨l, el, l0, ll1, ll3⟩ := p.dt_len
      have hp3' := hp3
      rw [el] at hp3'
      have hlen := nodup_le hnd fun n hn => by
        obtain ⟨e, he, _⟩ := (hfs n).mp hn
        exact ⟨e, he⟩
      have hadd : some (HO.lst (nI fs ++ [V.int (((xs.length : Nat) : Int) - 1 + (i : Nat) * (-1))])) = some (HO.lst (nI (fs ++ [nb]))) := by
        rw [enb]
        simp [nI]
      have hnl : (nI fs).length < sizeLine := lt_line (by unfold nI; rw [List.length_map]; omega)
      cases p with
      | any =>
        have ad := fsi.add hi hnb hE rfl (Mt_any k t)
        refine ⟨_, rfl, _, 0, _, hp3', rfl, l0, fun v0 h0 => ?_⟩
        rw [h0.strD]
        refine ⟨rfl, _, rfl, iN (strN rfl) ?_⟩
        refine ⟨_, rfl, _, 0, _, hp3', rfl, l0, fun v0 h0 => ?_⟩
        rw [h0.strD]
        refine ⟨rfl, _, rfl, iN (strN rfl) ?_⟩
        refine ⟨_, rfl, _, 0, _, hp3', rfl, l0, fun v0 h0 => ?_⟩
        rw [h0.strD]
        refine ⟨rfl, _, rfl, iN (strN rfl) ?_⟩
        refine ⟨_, rfl, _, 0, _, hp3', rfl, l0, fun v0 h0 => ?_⟩
        rw [h0.strD]
        refine ⟨rfl, _, rfl, iN (strN rfl) ?_⟩
        refine ⟨_, rfl, _, rfl, iY rfl ?_⟩
        exact ⟨_, rfl, .inl ⟨rfl, _, .of hL3⟩, _, rfl, L, _, _, rfl, rfl, hL3, hnl, Sm.put s23 nL, ⟨_, by rw [upd_same]; exact hadd, ad.1, ad.2⟩, _, _, _, _, _, _, rfl⟩
      | is_ d =>
        have st := fsi.stay hi hnb hE (.inl rfl)
        refine ⟨_, rfl, _, 0, _, hp3', rfl, l0, fun v0 h0 => ?_⟩
        rw [h0.strD]
        refine ⟨rfl, _, rfl, iN (strN rfl) ?_⟩
        refine ⟨_, rfl, _, 0, _, hp3', rfl, l0, fun v0 h0 => ?_⟩
        rw [h0.strD]
        refine ⟨rfl, _, rfl, iN (strN rfl) ?_⟩
        refine ⟨_, rfl, _, 0, _, hp3', rfl, l0, fun v0 h0 => ?_⟩
        rw [h0.strD]
        refine ⟨rfl, _, rfl, iN (strN rfl) ?_⟩
        refine ⟨_, rfl, _, 0, _, hp3', rfl, l0, fun v0 h0 => ?_⟩
        rw [h0.strD]
        refine ⟨rfl, _, rfl, iN (strN rfl) ?_⟩
        exact ⟨_, rfl, _, rfl, iN rfl ⟨s23, ⟨fs, hL3, st.1, st.2⟩, _, _, _, _, _, _, rfl⟩⟩
      | two b p1 p2 =>
        cases b with
        | true =>
          obtain ⟨m, m2, rfl⟩ : ∃ m m2, ks = [m, m2] := by
            match ks, hkl with
            | [m, m2], _ => exact ⟨m, m2, rfl⟩
          obtain ⟨z1, q1', k1', r1', z2, z3⟩ := hkid 0 m rfl
          obtain rfl : p1 = q1' := by simpa [Pt.inner] using z3
          obtain ⟨y1, q2', k2', r2', y2, y3⟩ := hkid 1 m2 rfl
          obtain rfl : p2 = q2' := by simpa [Pt.inner] using y3
          have d1 := fsi.kid hnb z1 z2
          have d2 := fsi.kid hnb y1 y2
          refine ⟨_, rfl, _, 0, _, hp3', rfl, l0, fun v0 h0 => ?_⟩
          rw [h0.strD]
          refine ⟨rfl, _, rfl, iY (strE rfl) ?_⟩
          refine ⟨_, rfl, D, [decide (m ∈ fs), decide (m2 ∈ fs)], rfl, .of hD, ?_⟩
          cases hm : (Mt k p1 t && Mt k p2 t) with
          | true =>
            have ad := fsi.add hi hnb hE rfl (by rw [Mt_both]; exact hm)
            refine ⟨_, rfl, _, rfl, iY (by rw [← hm, ← d1, ← d2]; simp [List.all]) ?_⟩
            exact ⟨_, rfl, .inl ⟨rfl, _, .of hL3⟩, _, rfl, L, _, _, rfl, rfl, hL3, hnl, Sm.put s23 nL, ⟨_, by rw [upd_same]; exact hadd, ad.1, ad.2⟩, _, _, _, _, _, _, rfl⟩
          | false =>
            have st := fsi.stay hi hnb hE (.inr (by rw [Mt_both]; exact hm))
            exact ⟨_, rfl, _, rfl, iN (by rw [← hm, ← d1, ← d2]; simp [List.all]) ⟨s23, ⟨fs, hL3, st.1, st.2⟩, _, _, _, _, _, _, rfl⟩⟩
        | false =>
          obtain ⟨m, m2, rfl⟩ : ∃ m m2, ks = [m, m2] := by
            match ks, hkl with
            | [m, m2], _ => exact ⟨m, m2, rfl⟩
          obtain ⟨z1, q1', k1', r1', z2, z3⟩ := hkid 0 m rfl
          obtain rfl : p1 = q1' := by simpa [Pt.inner] using z3
          obtain ⟨y1, q2', k2', r2', y2, y3⟩ := hkid 1 m2 rfl
          obtain rfl : p2 = q2' := by simpa [Pt.inner] using y3
          have d1 := fsi.kid hnb z1 z2
          have d2 := fsi.kid hnb y1 y2
          refine ⟨_, rfl, _, 0, _, hp3', rfl, l0, fun v0 h0 => ?_⟩
          rw [h0.strD]
          refine ⟨rfl, _, rfl, iN (strN rfl) ?_⟩
          refine ⟨_, rfl, _, 0, _, hp3', rfl, l0, fun v0 h0 => ?_⟩
          rw [h0.strD]
          refine ⟨rfl, _, rfl, iN (strN rfl) ?_⟩
          refine ⟨_, rfl, _, 0, _, hp3', rfl, l0, fun v0 h0 => ?_⟩
          rw [h0.strD]
          refine ⟨rfl, _, rfl, iY (strE rfl) ?_⟩
          refine ⟨_, rfl, D, [decide (m ∈ fs), decide (m2 ∈ fs)], rfl, .of hD, ?_⟩
          cases hm : (Mt k p1 t || Mt k p2 t) with
          | true =>
            have ad := fsi.add hi hnb hE rfl (by rw [Mt_either]; exact hm)
            refine ⟨_, rfl, _, rfl, iY (by rw [← hm, ← d1, ← d2]; simp [List.any]) ?_⟩
            exact ⟨_, rfl, .inl ⟨rfl, _, .of hL3⟩, _, rfl, L, _, _, rfl, rfl, hL3, hnl, Sm.put s23 nL, ⟨_, by rw [upd_same]; exact hadd, ad.1, ad.2⟩, _, _, _, _, _, _, rfl⟩
          | false =>
            have st := fsi.stay hi hnb hE (.inr (by rw [Mt_either]; exact hm))
            exact ⟨_, rfl, _, rfl, iN (by rw [← hm, ← d1, ← d2]; simp [List.any]) ⟨s23, ⟨fs, hL3, st.1, st.2⟩, _, _, _, _, _, _, rfl⟩⟩
      | lone k1 p1 =>
        cases k1 with
        | nt => simp [Pt.nn] at nn
        | all =>
          have st := fsi.stay hi hnb hE (.inl rfl)
          refine ⟨_, rfl, _, 0, _, hp3', rfl, l0, fun v0 h0 => ?_⟩
          rw [h0.strD]
          refine ⟨rfl, _, rfl, iN (strN rfl) ?_⟩
          refine ⟨_, rfl, _, 0, _, hp3', rfl, l0, fun v0 h0 => ?_⟩
          rw [h0.strD]
          refine ⟨rfl, _, rfl, iN (strN rfl) ?_⟩
          refine ⟨_, rfl, _, 0, _, hp3', rfl, l0, fun v0 h0 => ?_⟩
          rw [h0.strD]
          refine ⟨rfl, _, rfl, iN (strN rfl) ?_⟩
          refine ⟨_, rfl, _, 0, _, hp3', rfl, l0, fun v0 h0 => ?_⟩
          rw [h0.strD]
          refine ⟨rfl, _, rfl, iN (strN rfl) ?_⟩
          exact ⟨_, rfl, _, rfl, iN rfl ⟨s23, ⟨fs, hL3, st.1, st.2⟩, _, _, _, _, _, _, rfl⟩⟩
        | first =>
          obtain ⟨m, rfl⟩ : ∃ m, ks = [m] := by
            match ks, hkl with
            | [m], _ => exact ⟨m, rfl⟩
          obtain ⟨z1, q1', k1', r1', z2, z3⟩ := hkid 0 m rfl
          obtain rfl : p1 = q1' := by simpa [Pt.inner] using z3
          have d1 := fsi.kid hnb z1 z2
          refine ⟨_, rfl, _, 0, _, hp3', rfl, l0, fun v0 h0 => ?_⟩
          rw [h0.strD]
          refine ⟨rfl, _, rfl, iN (strN rfl) ?_⟩
          refine ⟨_, rfl, _, 0, _, hp3', rfl, l0, fun v0 h0 => ?_⟩
          rw [h0.strD]
          refine ⟨rfl, _, rfl, iY (strE rfl) ?_⟩
          refine ⟨_, rfl, D, [decide (m ∈ fs)], rfl, .of hD, ?_⟩
          cases hm : (Mt k p1 t) with
          | true =>
            have ad := fsi.add hi hnb hE rfl (by rw [Mt_first]; exact hm)
            refine ⟨_, rfl, _, rfl, iY (by rw [← hm, ← d1]; simp [List.all]) ?_⟩
            exact ⟨_, rfl, .inl ⟨rfl, _, .of hL3⟩, _, rfl, L, _, _, rfl, rfl, hL3, hnl, Sm.put s23 nL, ⟨_, by rw [upd_same]; exact hadd, ad.1, ad.2⟩, _, _, _, _, _, _, rfl⟩
          | false =>
            have st := fsi.stay hi hnb hE (.inr (by rw [Mt_first]; exact hm))
            exact ⟨_, rfl, _, rfl, iN (by rw [← hm, ← d1]; simp [List.all]) ⟨s23, ⟨fs, hL3, st.1, st.2⟩, _, _, _, _, _, _, rfl⟩⟩
      | row its =>
        have st := fsi.stay hi hnb hE (.inl rfl)
        refine ⟨_, rfl, _, 0, _, hp3', rfl, l0, fun v0 h0 => ?_⟩
        rw [h0.strD]
        refine ⟨rfl, _, rfl, iN (strN rfl) ?_⟩
        refine ⟨_, rfl, _, 0, _, hp3', rfl, l0, fun v0 h0 => ?_⟩
        rw [h0.strD]
        refine ⟨rfl, _, rfl, iN (strN rfl) ?_⟩
        refine ⟨_, rfl, _, 0, _, hp3', rfl, l0, fun v0 h0 => ?_⟩
        rw [h0.strD]
        refine ⟨rfl, _, rfl, iN (strN rfl) ?_⟩
        refine ⟨_, rfl, _, 0, _, hp3', rfl, l0, fun v0 h0 => ?_⟩
        rw [h0.strD]
        refine ⟨rfl, _, rfl, iN (strN rfl) ?_⟩
        exact ⟨_, rfl, _, rfl, iN rfl ⟨s23, ⟨fs, hL3, st.1, st.2⟩, _, _, _, _, _, _, rfl⟩⟩
    · rintro σ H2 ⟨s2, ⟨fs, hL, hnd, hfs⟩, o1, o2, o3, o4, o5, o6, rfl⟩
      have hle := nodup_le hnd fun n hn => by
        obtain ⟨e, he, _⟩ := (hfs n).mp hn
        exact ⟨e, he⟩
      refine ⟨_, rfl, L, asI fs, rfl, .of (by rw [hL]; unfold asI nI; rw [List.map_map]; rfl), by unfold asI; rw [List.length_map]; omega, fun ns' p2 hp _ n2 => ?_⟩
      obtain ⟨ts, rfl, hpt⟩ := perm_nat hp
      have s3 : Same H2 (upd H2 p2 (.lst ((asI ts).map V.int))) := Sm.new n2
      refine ⟨p2, _, rfl, .inl ⟨.of upd_same, fun p3 n3 => ?_⟩⟩
      refine q _ _ ts (s2.trans (s3.trans (Sm.new n3))) (Is.new n3 (nI_is ts)) ⟨hpt.symm.nodup hnd, fun n => ?_⟩
      rw [hpt.mem_iff, hfs n]
      constructor
      · rintro ⟨e, h1, _, h3⟩
        exact ⟨e, h1, h3⟩
      · rintro ⟨e, h1, h3⟩
        exact ⟨e, h1, .inr (by omega), h3⟩
end
end Wf
set_option Elab.async false
set_option linter.all false
set_option maxRecDepth 100000
set_option maxHeartbeats 400000
namespace Wf
open PySem PySem.Spec PyProof.Rows L2
def Pt.itm (k : Knd) : Pt → List Itm
  | .row s => s.itms k
  | .is_ (.tup d) => isItms k d
  | _ => []
abbrev ItC := Bool × Int
def ICOk (k : Knd) (E : List Ent) (c : ItC) (I : Itm) : Prop := c.1 = I.1 ∧ ((c.1 = true ∧ c.2 = -1 ∧ ∀ x, I.2 x = true) ∨ ∃ (m : Nat) (e : Ent), c.2 = (m : Int) ∧ E[m]? = some e ∧ ∀ x, I.2 x = Mt k e.1 x)
structure ItsOk (k : Knd) (E : List Ent) (cs : List ItC) (Is : List Itm) : Prop where
  len : cs.length = Is.length
  at_ : ∀ (j : Nat) (c : ItC), cs[j]? = some c → ∃ I, Is[j]? = some I ∧ ICOk k E c I
theorem ItsOk.back {k : Knd} {E : List Ent} {cs : List ItC} {Is : List Itm} (h : ItsOk k E cs Is) {j : Nat} {I : Itm} (hj : Is[j]? = some I) : ∃ c, cs[j]? = some c ∧ ICOk k E c I := by
  have hl := (List.getElem?_eq_some_iff.mp hj).1
  have hc : j < cs.length := by rw [h.len]; exact hl
  obtain ⟨I', h1, h2⟩ := h.at_ j _ (List.getElem?_eq_getElem hc)
  rw [hj] at h1
  obtain rfl := Option.some.inj h1
  exact ⟨_, List.getElem?_eq_getElem hc, h2⟩
theorem its_itm (k : Knd) : ∀ {l : Its} {i : Nat} {d : Dt}, l.dts[i]? = some d → l.pl = true → ∃ s p, d = .tup [.str (itW s), p.dt] ∧ l.pats[i]? = some p ∧ (s = true → p.str1 = true) ∧ (l.itms k)[i]? = some (s, if s = true then strF k p else Mt k p)
  | .nil, _, _, h, _ => by simp [Its.dts] at h
  | .cons s p l, 0, d, h, hp => by
    simp only [Its.dts, List.getElem?_cons_zero, Option.some.injEq] at h
    subst h
    cases s with
    | false => exact ⟨false, p, rfl, rfl, (fun e => by cases e), by simp [Its.itms]⟩
    | true =>
      simp only [Its.pl, Bool.and_eq_true] at hp
      exact ⟨true, p, rfl, rfl, fun _ => hp.1, by simp [Its.itms]⟩
  | .cons s p l, i + 1, d, h, hp => by
    simp only [Its.dts, List.getElem?_cons_succ] at h
    have hp' : l.pl = true := by
      cases s with
      | false =>
        simp only [Its.pl, Bool.and_eq_true] at hp
        exact hp.2
      | true =>
        simp only [Its.pl, Bool.and_eq_true] at hp
        exact hp.2.2
    obtain ⟨s', p', h1, h2, h3, h4⟩ := its_itm k h hp'
    refine ⟨s', p', h1, by simpa [Its.pats] using h2, h3, ?_⟩
    cases s <;> simpa [Its.itms] using h4
theorem Its.itms_len (k : Knd) : ∀ l : Its, (l.itms k).length = l.len
  | .nil => rfl
  | .cons s p l => by cases s <;> simp [Its.itms, Its.len, Its.itms_len k l]
def Pt.rw_ : Pt → Bool
  | .row _ => true
  | .is_ (.tup _) => true
  | _ => false
def Pt.isAll : Pt → Bool
  | .lone .all _ => true
  | _ => false
theorem Pt.rd_eq (p : Pt) : p.rd = (p.isAll || p.rw_) := by
  cases p with
  | any => rfl
  | is_ d => cases d <;> rfl
  | two b p q => rfl
  | lone w p => cases w <;> rfl
  | row s => rfl
theorem Pt.itm_len {p : Pt} (k : Knd) (h : p.ok) : (p.itm k).length ≤ 10 := by
  cases p with
  | any => exact Nat.zero_le _
  | is_ d =>
    cases d with
    | int i => exact Nat.zero_le _
    | str x => exact Nat.zero_le _
    | tup l =>
      simp only [Pt.ok] at h
      have h1 := h.sz
      have h2 := Dt.szs_len l
      simp only [Dt.sz] at h1
      simp only [Pt.itm, isItms, List.length_map]
      omega
  | two b p q => exact Nat.zero_le _
  | lone k p => exact Nat.zero_le _
  | row s =>
    simp only [Pt.ok] at h
    simp only [Pt.itm, Its.itms_len]
    omega
def stA (cs : List ItC) (n : Nat) : Bool := (cs[n]?.map (·.1)).getD false
inductive Cl (cs : List ItC) (S : List Nat) : Nat → Prop
  | base {n : Nat} : n ∈ S → Cl cs S n
  | skip {n : Nat} : Cl cs S n → stA cs n = true → Cl cs S (n + 1)
theorem stA_lt {cs : List ItC} {n : Nat} (h : stA cs n = true) : n < cs.length := by
  unfold stA at h
  cases e : cs[n]? with
  | none => rw [e] at h; cases h
  | some c => exact (List.getElem?_eq_some_iff.mp e).1
theorem Cl.le {cs : List ItC} {S : List Nat} (hS : ∀ n ∈ S, n ≤ cs.length) {n : Nat} (h : Cl cs S n) : n ≤ cs.length := by
  induction h with
  | base h => exact hS _ h
  | skip _ h _ => exact stA_lt h
theorem Cl_start {k : Knd} {E : List Ent} {cs : List ItC} {Is : List Itm} (h : ItsOk k E cs Is) (n : Nat) : Cl cs [0] n ↔ Rr Is n [] := by
  have st : ∀ {n f}, Is[n]? = some (true, f) → stA cs n = true := fun {n f} e => by
    obtain ⟨c, h1, h2, _⟩ := h.back e
    unfold stA
    rw [h1]
    exact h2
  have ts : ∀ {n}, stA cs n = true → ∃ f, Is[n]? = some (true, f) := fun {n} e => by
    unfold stA at e
    cases e' : cs[n]? with
    | none => rw [e'] at e; cases e
    | some c =>
      rw [e'] at e
      obtain ⟨I, h1, h2, _⟩ := h.at_ n c e'
      have : I.1 = true := by rw [← h2]; exact e
      exact ⟨I.2, by rw [h1, ← this]⟩
  constructor
  · intro z
    induction z with
    | base z =>
      rw [List.mem_singleton] at z
      subst z
      exact .start
    | skip _ e ih =>
      obtain ⟨f, hf⟩ := ts e
      exact .skip ih hf
  · intro z
    generalize hl : ([] : List Dt) = l at z
    induction z with
    | start => exact .base (List.mem_singleton.mpr rfl)
    | skip _ g ih => exact .skip (ih hl) (st g)
    | stay _ _ _ _ => simp at hl
    | one _ _ _ _ => simp at hl
def NextOf (k : Knd) (E : List Ent) (cs : List ItC) (S : List Nat) (x : Dt) (n : Nat) : Prop :=
  (n ∈ S ∧ 0 < n ∧ ∃ c, cs[n - 1]? = some c ∧ c.1 = true ∧ (c.2 = -1 ∨ ∃ m e, c.2 = ((m : Nat) : Int) ∧ E[m]? = some e ∧ Mt k e.1 x = true)) ∨
  (∃ s, n = s + 1 ∧ s ∈ S ∧ ∃ c, cs[s]? = some c ∧ c.1 = false ∧ ∃ m e, c.2 = ((m : Nat) : Int) ∧ E[m]? = some e ∧ Mt k e.1 x = true)
theorem Cl_next {k : Knd} {E : List Ent} {cs : List ItC} {Is : List Itm} (h : ItsOk k E cs Is) {S F : List Nat} {l : List Dt} {x : Dt} (hS : ∀ n, n ∈ S ↔ Rr Is n l) (hF : ∀ n, n ∈ F ↔ NextOf k E cs S x n) (n : Nat) : Cl cs F n ↔ Rr Is n (l ++ [x]) := by
  have st : ∀ {n f}, Is[n]? = some (true, f) → stA cs n = true := fun {n f} e => by
    obtain ⟨c, h1, h2, _⟩ := h.back e
    unfold stA
    rw [h1]
    exact h2
  have ts : ∀ {n}, stA cs n = true → ∃ f, Is[n]? = some (true, f) := fun {n} e => by
    unfold stA at e
    cases e' : cs[n]? with
    | none => rw [e'] at e; cases e
    | some c =>
      rw [e'] at e
      obtain ⟨I, h1, h2, _⟩ := h.at_ n c e'
      have : I.1 = true := by rw [← h2]; exact e
      exact ⟨I.2, by rw [h1, ← this]⟩
  constructor
  · intro z
    induction z with
    | base z =>
      rcases (hF _).mp z with ⟨h1, h2, c, h3, h4, h5⟩ | ⟨s, rfl, h1, c, h3, h4, m, e, h5, h6, h7⟩
      · rename_i n
        obtain ⟨I, g1, g2, g3⟩ := h.at_ _ _ h3
        obtain ⟨s, rfl⟩ : ∃ s, n = s + 1 := ⟨n - 1, by omega⟩
        rw [Nat.add_sub_cancel] at g1
        have hI : Is[s]? = some (true, I.2) := by rw [g1, ← g2.symm.trans h4]
        refine .stay ((hS _).mp h1) hI ?_
        rcases g3 with ⟨_, _, g3⟩ | ⟨m', e', g4, g5, g6⟩
        · exact g3 x
        · rw [g6]
          rcases h5 with h5 | ⟨m, e, h5, h6, h7⟩
          · rw [h5] at g4
            omega
          · have : m = m' := by omega
            subst this
            rw [h6] at g5
            obtain rfl := Option.some.inj g5
            exact h7
      · obtain ⟨I, g1, g2, g3⟩ := h.at_ _ _ h3
        have hI : Is[s]? = some (false, I.2) := by rw [g1, ← g2.symm.trans h4]
        refine .one ((hS _).mp h1) hI ?_
        rcases g3 with ⟨g3, _⟩ | ⟨m', e', g4, g5, g6⟩
        · rw [h4] at g3
          cases g3
        · rw [g6]
          have : m = m' := by omega
          subst this
          rw [h6] at g5
          obtain rfl := Option.some.inj g5
          exact h7
    | skip _ e ih =>
      obtain ⟨f, hf⟩ := ts e
      exact .skip ih hf
  · intro z
    generalize hl : l ++ [x] = l' at z
    induction z with
    | start => simp at hl
    | skip _ g ih => exact .skip (ih hl) (st g)
    | stay z g hx _ =>
      obtain ⟨rfl, e2⟩ := List.append_inj_left' hl rfl, List.append_inj_right' hl rfl
      obtain rfl := (List.cons.inj e2).1
      obtain ⟨c, h1, h2, h3⟩ := h.back g
      refine .base ((hF _).mpr (.inl ⟨(hS _).mpr z, Nat.succ_pos _, c, by simpa using h1, h2, ?_⟩))
      rcases h3 with ⟨_, h3, _⟩ | ⟨m, e, h4, h5, h6⟩
      · exact .inl h3
      · exact .inr ⟨m, e, h4, h5, by rw [← h6]; exact hx⟩
    | one z g hx _ =>
      obtain ⟨rfl, e2⟩ := List.append_inj_left' hl rfl, List.append_inj_right' hl rfl
      obtain rfl := (List.cons.inj e2).1
      obtain ⟨c, h1, h2, h3⟩ := h.back g
      refine .base ((hF _).mpr (.inr ⟨_, rfl, (hS _).mpr z, c, h1, h2, ?_⟩))
      rcases h3 with ⟨h3, _⟩ | ⟨m, e, h4, h5, h6⟩
      · rw [h2] at h3
        cases h3
      · exact ⟨m, e, h4, h5, by rw [← h6]; exact hx⟩
def RdOk (k : Knd) (p : Pt) (l : List Dt) (S : List Nat) : Prop :=
  (∀ q, p = .lone .all q → S = if l.all (Mt k q) = true then [0] else []) ∧ (p.rw_ = true → S.length ≤ 11 ∧ ∀ n, n ∈ S ↔ Rr (p.itm k) n l)
def cRd (E : List Ent) (i : Nat) : Nat := (E.take i).countP fun e => e.1.rd
theorem cRd_zero (E : List Ent) : cRd E 0 = 0 := rfl
theorem cRd_succ {E : List Ent} {i : Nat} {e : Ent} (h : E[i]? = some e) : cRd E (i + 1) = cRd E i + if e.1.rd = true then 1 else 0 := by
  unfold cRd
  rw [List.take_add_one, h, List.countP_append]
  show _ = _
  by_cases z : e.1.rd = true <;> simp [z]
theorem cRd_le (E : List Ent) (i : Nat) : cRd E i ≤ i := by
  unfold cRd
  have := List.countP_le_length (p := fun e : Ent => e.1.rd) (l := E.take i)
  rw [List.length_take] at this
  omega
theorem cRd_mono (E : List Ent) {i j : Nat} (h : i ≤ j) : cRd E i ≤ cRd E j := by
  unfold cRd
  exact (List.take_sublist_take_left h).countP_le
structure RdUp (k : Knd) (E : List Ent) (l : List Dt) (i : Nat) (rs : List (List Nat)) : Prop where
  len : rs.length = cRd E i
  at_ : ∀ (j : Nat) (e : Ent), j < i → E[j]? = some e → e.1.rd = true → ∃ S, rs[cRd E j]? = some S ∧ RdOk k e.1 l S
theorem RdUp.zero (k : Knd) (E : List Ent) (l : List Dt) : RdUp k E l 0 [] := ⟨rfl, fun j e h => absurd h (Nat.not_lt_zero j)⟩
theorem RdUp.no {k : Knd} {E : List Ent} {l : List Dt} {i : Nat} {rs : List (List Nat)} {e : Ent} (h : RdUp k E l i rs) (he : E[i]? = some e) (hr : e.1.rd = false) : RdUp k E l (i + 1) rs := by
  refine ⟨by rw [cRd_succ he, hr]; simpa using h.len, fun j e' hj he' hr' => ?_⟩
  by_cases z : j = i
  · subst z
    rw [he] at he'
    obtain rfl := Option.some.inj he'
    rw [hr] at hr'
    cases hr'
  · exact h.at_ j e' (by omega) he' hr'
theorem RdUp.add {k : Knd} {E : List Ent} {l : List Dt} {i : Nat} {rs : List (List Nat)} {e : Ent} {S : List Nat} (h : RdUp k E l i rs) (he : E[i]? = some e) (hr : e.1.rd = true) (hS : RdOk k e.1 l S) : RdUp k E l (i + 1) (rs ++ [S]) := by
  refine ⟨by rw [cRd_succ he, hr, List.length_append, h.len]; rfl, fun j e' hj he' hr' => ?_⟩
  by_cases z : j = i
  · subst z
    rw [he] at he'
    obtain rfl := Option.some.inj he'
    exact ⟨S, by rw [← h.len]; simp, hS⟩
  · obtain ⟨S', h1, h2⟩ := h.at_ j e' (by omega) he' hr'
    refine ⟨S', ?_, h2⟩
    rw [List.getElem?_append_left (List.getElem?_eq_some_iff.mp h1).1]
    exact h1
def Rdg (k : Knd) (E : List Ent) (l : List Dt) (rs : List (List Nat)) : Prop := RdUp k E l E.length rs
def rdD (rs : List (List Nat)) : Dt := .tup (rs.map ctD)
theorem rd_mt {k : Knd} {p : Pt} {l : List Dt} {S : List Nat} (h : RdOk k p l S) (hr : p.rd = true) (pl : p.pl = true) : decide ((if p.isAll = true then 0 else (p.itm k).length) ∈ S) = Mt k p (.tup l) := by
  cases p with
  | any => cases hr
  | two b p q => cases hr
  | lone w q =>
    cases w with
    | nt => cases hr
    | first => cases hr
    | all =>
      have e := h.1 q rfl
      rw [Mt_all, e]
      cases l.all (Mt k q) <;> simp [Pt.isAll]
  | row s =>
    obtain ⟨_, h2⟩ := h.2 rfl
    simp only [Pt.isAll, Bool.false_eq_true, if_false, Pt.itm] at h2 ⊢
    rw [Mt_row]
    have e1 := wts_mI k s l (by simpa only [Pt.pl] using pl)
    have e2 := Rr_iff (s.itms k) l
    have e3 := h2 (s.itms k).length
    cases z : (wts k s l).isSome with
    | true => exact decide_eq_true (e3.mpr (e2.mpr (e1.mp z)))
    | false =>
      refine decide_eq_false fun hin => ?_
      have := e1.mpr (e2.mp (e3.mp hin))
      rw [z] at this
      cases this
  | is_ d =>
    cases d with
    | int i => cases hr
    | str x => cases hr
    | tup d =>
      obtain ⟨_, h2⟩ := h.2 rfl
      simp only [Pt.isAll, Bool.false_eq_true, if_false, Pt.itm] at h2 ⊢
      rw [Mt_is]
      simp only [likeD]
      rw [like_mI]
      have e2 := Rr_iff (isItms k d) l
      have e3 := h2 (isItms k d).length
      cases z : mI (isItms k d) l with
      | true => exact decide_eq_true (e3.mpr (e2.mpr z))
      | false =>
        refine decide_eq_false fun hin => ?_
        have := e2.mp (e3.mp hin)
        rw [z] at this
        cases this
theorem asI_nat {ns : List Int} (h : ∀ x ∈ ns, (0 : Int) ≤ x) : ∃ ts : List Nat, ns = asI ts := by
  refine ⟨ns.map Int.toNat, ?_⟩
  unfold asI
  rw [List.map_map]
  induction ns with
  | nil => rfl
  | cons x ns ih =>
    rw [List.map_cons, ← ih fun y hy => h y (List.mem_cons_of_mem _ hy)]
    have := h x (List.mem_cons_self ..)
    show x :: ns = ((x.toNat : Nat) : Int) :: ns
    rw [Int.toNat_of_nonneg this]
theorem mem_asI {n : Nat} {ts : List Nat} : (n : Int) ∈ asI ts ↔ n ∈ ts := by
  unfold asI
  rw [List.mem_map]
  constructor
  · rintro ⟨a, h, e⟩
    have : a = n := by omega
    exact this ▸ h
  · intro h
    exact ⟨n, h, rfl⟩
theorem asI_lt {ts : List Nat} (h : (asI ts).Pairwise (· < ·)) : ts.Pairwise (· < ·) := by
  unfold asI at h
  rw [List.pairwise_map] at h
  exact h.imp fun h => by omega
theorem asI_le {ts : List Nat} (h : (asI ts).Pairwise (· ≤ ·)) : ts.Pairwise (· ≤ ·) := by
  unfold asI at h
  rw [List.pairwise_map] at h
  exact h.imp fun h => by omega
theorem nI_asI (ts : List Nat) : (asI ts).map V.int = nI ts := by
  unfold asI nI
  rw [List.map_map]
  rfl
theorem asI_len (ts : List Nat) : (asI ts).length = ts.length := by
  unfold asI
  rw [List.length_map]
theorem nI_len (ts : List Nat) : (nI ts).length = ts.length := by
  unfold nI
  rw [List.length_map]
theorem nI_append (a b : List Nat) : nI a ++ nI b = nI (a ++ b) := by
  unfold nI
  rw [List.map_append]
theorem nI_get {ts : List Nat} {i n : Nat} (h : ts[i]? = some n) : (nI ts)[i]? = some (V.int (n : Int)) := by
  unfold nI
  rw [List.getElem?_map, h]
  rfl
theorem lt_nodup {ts : List Nat} (h : ts.Pairwise (· < ·)) : ts.Nodup := h.imp fun h => Nat.ne_of_lt h
theorem ins_sorted {l l' : List Nat} {i s : Nat} (hl : l.Pairwise (· < ·)) (hi : l[i]? = some s) (hn : s + 1 ∉ l) (hp : l'.Perm (l ++ [s + 1])) (hs : l'.Pairwise (· ≤ ·)) : l' = l.take (i + 1) ++ (s + 1) :: l.drop (i + 1) := by
  have hil := (List.getElem?_eq_some_iff.mp hi).1
  have hp2 : (l.take (i + 1) ++ (s + 1) :: l.drop (i + 1)).Perm (l ++ [s + 1]) := by
    have h1 : (l.take (i + 1) ++ (s + 1) :: l.drop (i + 1)).Perm ((s + 1) :: (l.take (i + 1) ++ l.drop (i + 1))) := List.perm_middle
    rw [List.take_append_drop] at h1
    exact h1.trans (List.perm_append_singleton (s + 1) l).symm
  have hs2 : (l.take (i + 1) ++ (s + 1) :: l.drop (i + 1)).Pairwise (· ≤ ·) := by
    have hdec : ∀ (a b : Nat) (x y : Nat), a < b → l[a]? = some x → l[b]? = some y → x < y := fun a b x y hab ha hb => by
      have ha' := List.getElem?_eq_some_iff.mp ha
      have hb' := List.getElem?_eq_some_iff.mp hb
      have := List.pairwise_iff_getElem.mp hl a b ha'.1 hb'.1 hab
      rw [ha'.2, hb'.2] at this
      exact this
    rw [List.pairwise_append]
    refine ⟨(hl.sublist (List.take_sublist _ _)).imp Nat.le_of_lt, ?_, ?_⟩
    · rw [List.pairwise_cons]
      refine ⟨fun y hy => ?_, (hl.sublist (List.drop_sublist _ _)).imp Nat.le_of_lt⟩
      obtain ⟨j, hj⟩ := List.mem_iff_getElem?.mp hy
      rw [List.getElem?_drop] at hj
      have := hdec i (i + 1 + j) s y (by omega) hi hj
      omega
    · intro x hx y hy
      obtain ⟨j, hj⟩ := List.mem_iff_getElem?.mp hx
      rw [List.getElem?_take] at hj
      by_cases hji : j < i + 1
      · rw [if_pos hji] at hj
        have hxs : x ≤ s := by
          by_cases e : j = i
          · subst e
            rw [hi] at hj
            have := Option.some.inj hj
            omega
          · exact Nat.le_of_lt (hdec j i x s (by omega) hj hi)
        rcases List.mem_cons.mp hy with rfl | hy
        · omega
        · obtain ⟨j2, hj2⟩ := List.mem_iff_getElem?.mp hy
          rw [List.getElem?_drop] at hj2
          exact Nat.le_of_lt (hdec j (i + 1 + j2) x y (by omega) hj hj2)
      · rw [if_neg hji] at hj
        cases hj
  exact List.Perm.eq_of_pairwise (fun a b _ _ h1 h2 => Nat.le_antisymm h1 h2) hs hs2 (hp.trans hp2.symm)
end Wf
set_option Elab.async false
set_option linter.all false
set_option maxRecDepth 100000
set_option maxHeartbeats 400000
namespace Wf
open PySem PySem.Spec PyProof.Rows L2
section
variable {P : Program} {w : World} {K : PySem.W.Frag} {mg : Str → Option Value} {base : Heap}
def ItV (K : PySem.W.Frag) (H : Hp) (ys : List V) (cs : List ItC) : Prop := ys.length = cs.length ∧ ∀ (j : Nat) (c : ItC), cs[j]? = some c → ∃ q, ys[j]? = some (.ref q) ∧ SqT K H q [.bl c.1, .int c.2]
def ItL (K : PySem.W.Frag) (H : Hp) (a : Addr) (cs : List ItC) : Prop := ∃ ys, H a = some (.lst ys) ∧ ItV K H ys cs
theorem ItV.up {H H' : Hp} {ys : List V} {cs : List ItC} (u : Up K H H') (h : ItV K H ys cs) : ItV K H' ys cs := ⟨h.1, fun j c hc => by
  obtain ⟨q, h1, h2⟩ := h.2 j c hc
  exact ⟨q, h1, u _ _ h2⟩⟩
theorem ItL.sm {H H' : Hp} {a : Addr} {cs : List ItC} (s : Same H H') (h : ItL K H a cs) : ItL K H' a cs := by
  obtain ⟨ys, h1, h2⟩ := h
  exact ⟨ys, s _ _ h1, h2.up (.sm s)⟩
theorem ItV.nil {H : Hp} : ItV K H [] [] := ⟨rfl, fun j c h => by simp at h⟩
theorem ItV.add {H : Hp} {ys : List V} {cs : List ItC} {q : Addr} {c : ItC} (h : ItV K H ys cs) (hq : SqT K H q [.bl c.1, .int c.2]) : ItV K H (ys ++ [.ref q]) (cs ++ [c]) := by
  refine ⟨by simp [h.1], fun j d hd => ?_⟩
  rcases Nat.lt_or_ge j cs.length with z | z
  · rw [List.getElem?_append_left z] at hd
    obtain ⟨q', h1, h2⟩ := h.2 j d hd
    exact ⟨q', by rw [List.getElem?_append_left (by rw [h.1]; exact z)]; exact h1, h2⟩
  · have hj : j = cs.length := by
      have := (List.getElem?_eq_some_iff.mp hd).1
      simp at this
      omega
    subst hj
    simp at hd
    subst hd
    exact ⟨q, by rw [← h.1]; simp, hq⟩
def spItm (K : PySem.W.Frag) : Sp := fun vs H Q _ => ∃ (F : Addr) (n : Nat) (kd : Knd) (E : List Ent) (p : Pt) (ks : List Nat) (kr : Addr), vs = [.ref F, .int (n : Nat)] ∧ Pcs K H F E ∧ Loc 0 E ∧ E[n]? = some (p, ks, kr) ∧ p.rw_ = true ∧
  ∀ (H' : Hp) (a : Addr) (cs : List ItC), Same H H' → H a = none → ItL K H' a cs → ItsOk kd E cs (p.itm kd) → Q (.ref a) H'
structure ItI (K : PySem.W.Frag) (H : Hp) (L : Addr) (kd : Knd) (E : List Ent) (Is : List Itm) (i : Nat) (H' : Hp) : Prop where
  sm : Same H H'
  up : Up K (upd H L (.lst [])) H'
  ex : ∃ acc cs, H' L = some (.lst acc) ∧ ItV K H' acc cs ∧ cs.length = i ∧ ∀ (j : Nat) (c : ItC), cs[j]? = some c → ∃ I, Is[j]? = some I ∧ ICOk kd E c I
theorem ItI.add {H H2 H3 : Hp} {L q0 : Addr} {kd : Knd} {E : List Ent} {Is : List Itm} {i : Nat} {acc : List V} {c : ItC} {I : Itm} (nL : H L = none) (h : ItI K H L kd E Is i H2) (hL : H2 L = some (.lst acc)) (s : Same H2 H3) (nq : H3 q0 = none) (hI : Is[i]? = some I) (hc : ICOk kd E c I) :
    ItI K H L kd E Is (i + 1) (upd (upd H3 q0 (.tup [.bl c.1, .int c.2])) L (.lst (acc ++ [.ref q0]))) := by
  obtain ⟨s1, u1, acc', cs, h1, h2, h3, h4⟩ := h
  rw [hL] at h1
  obtain rfl := HO.lst.inj (Option.some.inj h1)
  have s4 : Same H2 (upd H3 q0 (.tup [.bl c.1, .int c.2])) := s.trans (Sm.new nq)
  have u5 : Up K (upd H3 q0 (.tup [.bl c.1, .int c.2])) (upd (upd H3 q0 (.tup [.bl c.1, .int c.2])) L (.lst (acc ++ [.ref q0]))) := .lst (s4 _ _ hL)
  refine ⟨Sm.put (s1.trans s4) nL, (u1.trans (.sm s4)).trans u5, _, cs ++ [c], upd_same, ((h2.up (.sm s4)).add (c := c) (.of upd_same)).up u5, by simp [h3], fun j d hd => ?_⟩
  rcases Nat.lt_or_ge j cs.length with z | z
  · rw [List.getElem?_append_left z] at hd
    exact h4 j d hd
  · have hj : j = i := by
      have := (List.getElem?_eq_some_iff.mp hd).1
      simp at this
      omega
    subst hj
    rw [← h3] at hd hI ⊢
    simp at hd
    subst hd
    exact ⟨I, hI, hc⟩
theorem ok_items_of {k : Nat} (T : Tx w K mg) : Cal P w K mg base (k + 1) "items_of" (spItm K) := by
  refine Tx.cal T.f_items_of T.g_items_of T.b_items_of sc_items_of ?_ ?_
  · rintro vs H Q E ⟨F, n, kd, E', p, ks, kr, rfl, _⟩
    rfl
  · rintro cdv A outer s0 H vs Q Ex hr ⟨F, n, kd, E, p, ks, kr, rfl, pc, loc, hE, hrw, q⟩
    refine ⟨_, (pss_cons (ps_asg (pe_ix (ixL K) (pv 0) (pv 1) (fun _ _ => rfl)) (pgTup K (n := 2) rfl (pgs_cons (pg_name (i := 2) sc_items_of.nd rfl (by first | exact Or.inl rfl | exact Or.inr rfl)) (pgs_cons (pg_name (i := 3) sc_items_of.nd rfl (by first | exact Or.inl rfl | exact Or.inr rfl)) pgs_nil)))) (pss_cons (ps_if (pt_cmpR op_eq (pe_ix (ixD K) (pv 2) pe_int (fun _ _ => rfl)) pe_str (nomark _)) (pss_one (ps_ret (pe_lc (own := [("kid", 6)]) rfl sc_items_of.nd (pi_list (pv 3)) (blkOk_by (own := [("kid", 6)]) (N := ["pieces", "number", "pattern", "kids", "found", "item", "kid"]) (sc := defScope sItemsOf) (by decide +kernel)) (fun _ _ _ _ _ => (pg_name (i := 6) sc_items_of.nd rfl (by first | exact Or.inl rfl | exact Or.inr rfl))) (fun _ _ _ _ _ => pts_nil) (fun _ _ _ _ _ => (pe_tup (pa_cons pe_bl (pa_cons (pv 6) pa_nil))))))) pss_nil) (pss_cons (ps_set (i := 4) sc_items_of.nd rfl (by first | exact Or.inl rfl | exact Or.inr rfl) (pe_lst pa_nil)) (pss_cons (ps_for PassesOwn.never rfl (pi_zipM (by rfl) T.z_zip (pa_cons (pe_ix (ixD K) (pv 2) pe_int (fun _ _ => rfl)) (pa_cons (pv 3) pa_nil))) (pgTup K (n := 2) rfl (pgs_cons (pg_name (i := 5) sc_items_of.nd rfl (by first | exact Or.inl rfl | exact Or.inr rfl)) (pgs_cons (pg_name (i := 6) sc_items_of.nd rfl (by first | exact Or.inl rfl | exact Or.inr rfl)) pgs_nil))) (pss_one (ps_if (pt_cmpR op_eq (pe_ix (ixD K) (pv 5) pe_int (fun _ _ => rfl)) pe_str (nomark _)) (pss_one (ps_expr (pe_bm PySem.F.plainAttrs_list PySem.F.slot_list_append PySem.F.type_list_append mt_append (pv 4) (pa_cons (pe_tup (pa_cons pe_bl (pa_cons (pv 6) pa_nil))) pa_nil)))) (pss_one (ps_expr (pe_bm PySem.F.plainAttrs_list PySem.F.slot_list_append PySem.F.type_list_append mt_append (pv 4) (pa_cons (pe_tup (pa_cons pe_bl (pa_cons (pe_ifExp (pt_cmpR (eqT K hr.units) (pe_ix (ixD K) (pv 5) pe_int (fun _ _ => rfl)) (pe_gv (by rfl) T.v_ANY) (nomark _)) (pe_un un_neg pe_int) (pe_ix (ixL K) (pe_ix ix_tup (pe_ix (ixL K) (pv 0) (pv 6) (fun _ _ => rfl)) pe_int (fun _ _ => rfl)) pe_int (fun _ _ => rfl))) pa_nil))) pa_nil))))))) (pss_one (ps_ret (pv 4))))))), ?_⟩
    obtain ⟨xs, hF, hxl, hxe⟩ := pc.ex
    obtain ⟨a, pv, g1, g2, g3, g4⟩ := hxe n _ hE
    obtain ⟨ok, ⟨pl, nn⟩, dp, hkl, hkid⟩ := loc n p ks kr (Nat.zero_le _) hE
    have hk10 := Pt.inner_len ok
    obtain ⟨l, el, l0, ll1, ll3⟩ := p.dt_len
    refine ⟨_, rfl, _, rfl, F, xs, _, .ref a, rfl, rfl, .of hF, atI_nat0 g1, a, _, rfl, g2, rfl, _, _, rfl, _, _, rfl, rfl, ?_⟩
    have g3' := g3
    rw [el] at g3'
    refine ⟨_, rfl, _, 0, _, g3', rfl, l0, fun v0 h0 => ?_⟩
    rw [h0.strD]
    refine ⟨rfl, _, rfl, ?_⟩
    cases p with
    | any => cases hrw
    | two b p q => cases hrw
    | lone w p => cases hrw
    | is_ d =>
      cases d with
      | int i => cases hrw
      | str x => cases hrw
      | tup d =>
        refine iY (strE rfl) ⟨_, rfl, kr, rfl, ⟨_, .of g4⟩, fun D nD => ?_⟩
        refine lc_W (walk_list (xs := nI ks)) nD (fun j H' acc => ItV K H' acc ((ks.take j).map fun (n : Nat) => ((false, (n : Int)) : ItC))) ItV.nil (fun H2 s2 => .of (s2 _ _ g4)) ?_ ?_
        · rintro j x H1 H2 acc hj s1 hD ⟨rfl, hx⟩ iv
          unfold nI at hx
          rw [List.getElem?_map] at hx
          obtain ⟨m, hm, rfl⟩ := Option.map_eq_some_iff.mp hx
          have hal := iv.1
          rw [List.length_map, List.length_take] at hal
          refine ⟨rfl, _, rfl, line2, fun q0 nq => ?_⟩
          refine lcn nD s1 hD (Sm.new nq) (lt_line (by omega)) ?_
          rw [List.take_add_one, hm, List.map_append]
          have u1 : Up K H2 (upd H2 q0 (.tup [.bl false, .int (m : Int)])) := .new nq
          have hD2 : (upd H2 q0 (.tup [.bl false, .int (m : Int)])) D = some (.lst acc) := Sm.new nq _ _ hD
          exact ((iv.up u1).add (c := (false, (m : Int))) (.of upd_same)).up (.lst hD2)
        · rintro H1 acc s1 hD iv
          rw [nI_len, List.take_length] at iv
          refine q H1 D _ s1 nD ⟨acc, hD, iv⟩ ⟨?_, fun j c hc => ?_⟩
          · rw [List.length_map, hkl]
            simp [Pt.inner, Pt.itm, isItms]
          · rw [List.getElem?_map] at hc
            obtain ⟨m, hm, rfl⟩ := Option.map_eq_some_iff.mp hc
            obtain ⟨_, q', ks', kr', h2, h3⟩ := hkid j m hm
            simp only [Pt.inner, List.getElem?_map] at h3
            obtain ⟨e, he, rfl⟩ := Option.map_eq_some_iff.mp h3
            refine ⟨(false, fun t => likeD kd e t), ?_, rfl, .inr ⟨m, _, rfl, h2, fun x => (Mt_is kd e x).symm⟩⟩
            simp only [Pt.itm, isItms, List.getElem?_map, he]
            rfl
    | row s =>
      obtain rfl := Dt.tup.inj el
      refine iN (strN rfl) ⟨by decide, fun L nL => ?_⟩
      have s1 : Same H (upd H L (.lst [])) := Sm.new nL
      refine ⟨_, rfl, _, 1, _, g3'.sm s1, rfl, rfl, fun v1 h1 => ?_⟩
      obtain ⟨at_, ts, rfl, sq, il⟩ := h1.tupD
      have htl := il.len
      rw [Its.dts_len] at htl
      have hkl2 : ks.length = s.len := by rw [hkl]; simp only [Pt.inner, Its.pats_len]
      have hs3 : s.len ≤ 3 := by
        simp only [Pt.ok] at ok
        exact ok.1
      have hpl : s.pl = true := by simpa only [Pt.pl] using pl
      refine ⟨_, rfl, at_, kr, ts, nI ks, rfl, sq, .of (s1 _ _ g4), ?_⟩
      refine for_it (walk_zipM (n := s.len) htl (by rw [nI_len]; exact hkl2)) (fun i σ H' => ItI K H L kd E (s.itms kd) i H' ∧ ∃ o1 o2, σ = [some (.ref F), some (.int (n : Nat)), some pv, some (.ref kr), some (.ref L), o1, o2]) ?_ ?_ ?_ ?_
      · exact ⟨⟨s1, .refl, [], [], upd_same, .nil, rfl, fun j c h => by simp at h⟩, none, none, rfl⟩
      · rintro i σ H2 _ ⟨⟨s2, u2, _⟩, _⟩
        exact ⟨u2 _ _ sq, .of (s2 _ _ g4)⟩
      · rintro i x σ H2 H3 hi ⟨iti, o1, o2, rfl⟩ ⟨T1, x1, y1, rfl, nT, rfl, e1, e2⟩
        obtain ⟨s2, u2, acc, cs, hL, iv, hcl, hcs⟩ := id iti
        have s3 : Same H2 (upd H2 T1 (.tup [x1, y1])) := Sm.new nT
        have hT1 : SqT K (upd H2 T1 (.tup [x1, y1])) T1 [x1, y1] := .of upd_same
        have u3 := u2.trans (Up.sm (K := K) s3)
        have s13 := s2.trans s3
        have hL3 := s3 _ _ hL
        have iv3 := iv.up (Up.sm (K := K) s3)
        generalize upd H2 T1 (.tup [x1, y1]) = H3 at *
        obtain ⟨d, hd, hx⟩ := il.at_ e1
        have hx3 := hx.up u3
        obtain ⟨st, p', rfl, hpat, hstr, hitm⟩ := its_itm kd hd hpl
        have e2 : (nI ks)[i]? = some y1 := e2
        unfold nI at e2
        rw [List.getElem?_map] at e2
        obtain ⟨m, hm, rfl⟩ := Option.map_eq_some_iff.mp e2
        obtain ⟨_, q', ks', kr', h2, h3⟩ := hkid i m hm
        obtain rfl : p' = q' := by
          simp only [Pt.inner] at h3
          rw [hpat] at h3
          exact Option.some.inj h3
        obtain ⟨ok', ⟨pl', nn'⟩, dp', hkl', hkid'⟩ := loc m p' ks' kr' (Nat.zero_le _) h2
        have hal := iv.1
        have hlt : acc.length < sizeLine := lt_line (by omega)
        refine ⟨T1, _, rfl, hT1, rfl, _, _, rfl, _, _, rfl, rfl, ?_⟩
        refine ⟨_, rfl, _, 0, _, hx3, rfl, rfl, fun v2 h2' => ?_⟩
        rw [h2'.strD]
        refine ⟨rfl, _, rfl, ?_⟩
        cases st with
        | false =>
          refine iY (strE rfl) ⟨_, rfl, .inl ⟨rfl, _, .of hL3⟩, _, rfl, line2, fun q0 nq => ?_⟩
          refine ⟨L, acc, _, rfl, rfl, Sm.new nq _ _ hL3, hlt, ?_⟩
          exact ⟨iti.add nL hL s3 nq (c := (false, (m : Int))) hitm ⟨rfl, .inr ⟨m, _, rfl, h2, fun x => rfl⟩⟩, _, _, rfl⟩
        | true =>
          refine iN (strN rfl) ⟨_, rfl, .inl ⟨rfl, _, .of hL3⟩, _, rfl, _, 1, _, hx3, rfl, rfl, fun v1 h1' => ⟨_, _, h1', T.d_ANY _, p'.fit ok' dp', any_fit, _, rfl, ?_⟩⟩
          rw [any_iff]
          have hst := hstr rfl
          cases p' with
          | is_ d => simp [Pt.str1] at hst
          | two b p q => simp [Pt.str1] at hst
          | row s => simp [Pt.str1] at hst
          | any =>
            refine iY rfl ⟨_, rfl, line2, fun q0 nq => ?_⟩
            refine ⟨L, acc, _, rfl, rfl, Sm.new nq _ _ hL3, hlt, ?_⟩
            exact ⟨iti.add nL hL s3 nq (c := (true, -1)) hitm ⟨rfl, .inl ⟨rfl, rfl, fun x => rfl⟩⟩, _, _, rfl⟩
          | lone w p1 =>
            cases w with
            | nt => simp [Pt.str1] at hst
            | first => simp [Pt.str1] at hst
            | all =>
              obtain ⟨m2, rfl⟩ : ∃ m2, ks' = [m2] := by
                match ks', hkl' with
                | [m2], _ => exact ⟨m2, rfl⟩
              obtain ⟨_, q2, ks2, kr2, y2, y3⟩ := hkid' 0 m2 rfl
              obtain rfl : p1 = q2 := by simpa [Pt.inner] using y3
              obtain ⟨a2, pv2, f1, f2, f3, f4⟩ := hxe m _ h2
              refine iN rfl ⟨_, rfl, _, rfl, F, xs, _, .ref a2, rfl, rfl, .of (s13 _ _ hF), atI_nat0 f1, a2, _, 1, .ref kr', rfl, rfl, sq_up s13 f2, rfl, kr', _, 0, .int (m2 : Nat), rfl, rfl, .of (s13 _ _ f4), rfl, line2, fun q0 nq => ?_⟩
              refine ⟨L, acc, _, rfl, rfl, Sm.new nq _ _ hL3, hlt, ?_⟩
              exact ⟨iti.add nL hL s3 nq (c := (true, (m2 : Int))) hitm ⟨rfl, .inr ⟨m2, _, rfl, y2, fun x => rfl⟩⟩, _, _, rfl⟩
      · rintro σ H2 ⟨⟨s2, u2, acc, cs, hL, iv, hcl, hcs⟩, o1, o2, rfl⟩
        refine ⟨_, rfl, q H2 L cs s2 nL ⟨acc, hL, iv⟩ ⟨by rw [hcl]; simp only [Pt.itm, Its.itms_len], hcs⟩⟩
end
end Wf
set_option Elab.async false
set_option linter.all false
set_option maxRecDepth 100000
set_option maxHeartbeats 400000
namespace Wf
open PySem PySem.Spec PyProof.Rows L2
section
variable {P : Program} {w : World} {K : PySem.W.Frag} {mg : Str → Option Value} {base : Heap}
def spGone (K : PySem.W.Frag) : Sp := fun vs H Q _ => ∃ (a b : Addr) (cs : List ItC) (S : List Nat), vs = [.ref a, .ref b] ∧ ItL K H a cs ∧ cs.length ≤ 10 ∧ H b = some (.lst (nI S)) ∧ S.length ≤ 60 ∧ (∀ n ∈ S, n ≤ cs.length) ∧
  ∀ (H' : Hp) (v : V) (l : List Nat), Same H H' → Is K H' v (ctD l) → l.length ≤ 11 → (∀ n, n ∈ l ↔ Cl cs S n) → Q v H'
def GI (H : Hp) (a b : Addr) (cs : List ItC) (S : List Nat) (m : Nat) (σ : L2.St) (H' : Hp) : Prop := ∃ (l : List Nat) (i : Nat) (Lg : Addr) (o : Option V), m = cs.length + 1 - i ∧ Same H H' ∧ H Lg = none ∧ H' Lg = some (.lst (nI l)) ∧ l.Pairwise (· < ·) ∧ (∀ n ∈ l, Cl cs S n) ∧ (∀ n ∈ S, n ∈ l) ∧ (∀ (j x : Nat), j < i → l[j]? = some x → stA cs x = true → x + 1 ∈ l) ∧ σ = [some (.ref a), some (.ref b), some (.ref Lg), some (.int (i : Nat)), o]
theorem ok_gone_on {k : Nat} (T : Tx w K mg) : Cal P w K mg base (k + 1) "gone_on" (spGone K) := by
  refine Tx.cal T.f_gone_on T.g_gone_on T.b_gone_on sc_gone_on ?_ ?_
  · rintro vs H Q E ⟨a, b, cs, S, rfl, _⟩
    rfl
  · rintro cdv A outer s0 H vs Q Ex hr ⟨a, b, cs, S, rfl, ia, h10, hb, hS60, hS, q⟩
    refine ⟨_, (pss_cons (ps_set (i := 2) sc_gone_on.nd rfl (by first | exact Or.inl rfl | exact Or.inr rfl) (pe_callB (cr_sortedSet rfl) (by rfl) T.z_sorted boot_sorted (pa_cons (pe_callTy (cr_setL rfl) (by rfl) T.z_set boot_set (pa_cons (pv 1) pa_nil)) pa_nil))) (pss_cons (ps_set (i := 3) sc_gone_on.nd rfl (by first | exact Or.inl rfl | exact Or.inr rfl) pe_int) (pss_cons (ps_while PassesOwn.never (pt_cmpR op_lt (pv 3) (pe_callB call_len_seq (by rfl) T.z_len boot_len (pa_cons (pv 2) pa_nil)) (nomark _)) (pss_cons (ps_set (i := 4) sc_gone_on.nd rfl (by first | exact Or.inl rfl | exact Or.inr rfl) (pe_ix (ixL K) (pv 2) (pv 3) (fun _ _ => rfl))) (pss_cons (ps_if (pw_and (pt_cmpR op_lt (pv 4) (pe_callB call_len_seq (by rfl) T.z_len boot_len (pa_cons (pv 0) pa_nil)) (nomark _)) (pw_and (pt_val (pe_ix ix_tup (pe_ix (ixL K) (pv 0) (pv 4) (fun _ _ => rfl)) pe_int (fun _ _ => rfl))) (pw_and1 (pt_cmpR (notInS K) (pe_op op_add (pv 4) pe_int) (pv 2) (by rfl))))).pt (pss_one (ps_set (i := 2) sc_gone_on.nd rfl (by first | exact Or.inl rfl | exact Or.inr rfl) (pe_callB cr_sorted (by rfl) T.z_sorted boot_sorted (pa_cons (pe_op op_cat (pv 2) (pe_lst (pa_cons (pe_op op_add (pv 4) pe_int) pa_nil))) pa_nil)))) pss_nil) (pss_one (ps_aug (i := 3) sc_gone_on.nd rfl (by first | exact Or.inl rfl | exact Or.inr rfl) pe_int in_add))))) (pss_one (ps_ret (pe_callTy call_tuple_of (by rfl) T.z_tuple boot_tuple (pa_cons (pv 2) pa_nil))))))), ?_⟩
    obtain ⟨ys, ha, iv⟩ := ia
    refine ⟨_, rfl, b, asI S, rfl, .of (by rw [hb, nI_asI]), by rw [asI_len]; omega, fun ps c nps hc1 hc2 => ?_⟩
    rw [asI_len] at hc1
    refine ⟨ps, _, c, rfl, upd_same, by omega, fun ns Lf hpw hmem hlen nLf => ?_⟩
    have hmem' : ∀ x, x ∈ ns ↔ x ∈ asI S := fun x => by rw [hmem]; exact decide_eq_true_iff
    obtain ⟨l0, rfl⟩ := asI_nat (ns := ns) fun x hx => by
      obtain ⟨n, _, rfl⟩ := List.mem_map.mp ((hmem' x).mp hx)
      omega
    have hl0 : ∀ n, n ∈ l0 ↔ n ∈ S := fun n => by rw [← mem_asI, hmem', mem_asI]
    have hcl : ∀ l : List Nat, l.Pairwise (· < ·) → (∀ n ∈ l, Cl cs S n) → l.length ≤ cs.length + 1 := fun l h1 h2 => nodup_lt _ (lt_nodup h1) fun n hn => Nat.lt_succ_of_le ((h2 n hn).le hS)
    refine ⟨GI H a b cs S, ⟨_, l0, 0, Lf, none, rfl, (Sm.new nps).trans (Sm.new nLf), Same.free (Sm.new nps) nLf, by rw [upd_same, nI_asI], asI_lt hpw, fun n hn => .base ((hl0 n).mp hn), fun n hn => (hl0 n).mpr hn, fun j x h => absurd h (Nat.not_lt_zero j), rfl⟩, ?_⟩
    rintro m σ H2 ⟨l, i, Lg, o, rfl, s2, nLg, hL, hpw2, hcl2, hS2, hdone, rfl⟩
    have hll := hcl l hpw2 hcl2
    refine ⟨_, rfl, _, rfl, Lg, nI l, rfl, .inl (.of hL), _, _, rfl, rfl, _, rfl, iD (fun e => ?_) fun e => ?_⟩
    · have e := of_decide_eq_true e
      rw [nI_len] at e
      have hil : i < l.length := by omega
      obtain ⟨s, hs⟩ : ∃ s, l[i]? = some s := ⟨_, List.getElem?_eq_getElem hil⟩
      have hsC := hcl2 s (List.mem_of_getElem? hs)
      have hsl := hsC.le hS
      refine ⟨fun σ' H' => ∃ m', m' < cs.length + 1 - i ∧ GI H a b cs S m' σ' H', fun _ _ h => h, ?_⟩
      refine ⟨_, rfl, _, rfl, Lg, nI l, _, .int (s : Nat), rfl, rfl, .of hL, atI_nat0 (nI_get hs), ?_⟩
      have ha2 := s2 _ _ ha
      have iv2 := iv.up (.sm s2)
      have stay : (stA cs s = true → s + 1 ∈ l) → ∃ m', m' < cs.length + 1 - i ∧ GI H a b cs S m' [some (.ref a), some (.ref b), some (.ref Lg), some (.int ((i : Nat) + 1)), some (.int (s : Nat))] H2 := fun hst =>
        ⟨_, by omega, l, i + 1, Lg, _, rfl, s2, nLg, hL, hpw2, hcl2, hS2, fun j x hj hx => by
          by_cases z : j = i
          · subst z
            rw [hs] at hx
            obtain rfl := Option.some.inj hx
            exact hst
          · exact hdone j x (by omega) hx, rfl⟩
      refine ⟨_, rfl, _, rfl, a, ys, rfl, .inl (.of ha2), _, _, rfl, rfl, _, rfl, iD (fun e2 => ?_) fun e2 => ?_⟩
      · have e2 := of_decide_eq_true e2
        have hsc : s < cs.length := by rw [← iv2.1]; omega
        obtain ⟨c0, hc0⟩ : ∃ c0, cs[s]? = some c0 := ⟨_, List.getElem?_eq_getElem hsc⟩
        obtain ⟨q0, hq1, hq2⟩ := iv2.2 s c0 hc0
        have estA : stA cs s = c0.1 := by unfold stA; rw [hc0]; rfl
        refine ⟨_, rfl, _, rfl, a, ys, _, .ref q0, rfl, rfl, .of ha2, atI_nat0 hq1, q0, _, 0, .bl c0.1, rfl, rfl, hq2, rfl, _, rfl, iD (fun e3 => ?_) fun e3 => ?_⟩
        · refine ⟨_, rfl, _, _, rfl, rfl, _, rfl, Lg, nI l, rfl, .inl (.of hL), rfl, flat_nI l, _, rfl, ?_⟩
          have hin' : inV (.int (((s : Nat) : Int) + 1)) (nI l) = decide (s + 1 ∈ l) := in_nI (n := s + 1) l
          by_cases hin : s + 1 ∈ l
          · refine iN (by show (!inV _ _) = false; rw [hin', decide_eq_true hin]; rfl) ?_
            exact ⟨_, rfl, _, _, rfl, rfl, stay fun _ => hin⟩
          · refine iY (by show (!inV _ _) = true; rw [hin', decide_eq_false hin]; rfl) ?_
            refine ⟨_, rfl, _, rfl, _, _, rfl, rfl, line1, fun p1 n1 => ?_⟩
            have t1 : Same H2 (upd H2 p1 (.lst [V.int ((s : Nat) + 1)])) := Sm.new n1
            refine ⟨Lg, p1, nI l, _, rfl, rfl, t1 _ _ hL, upd_same, le_line (by rw [nI_len]; simp; omega), fun p2 n2 => ?_⟩
            have t2 : Same H2 (upd (upd H2 p1 (.lst [V.int ((s : Nat) + 1)])) p2 (.lst (nI l ++ [V.int ((s : Nat) + 1)]))) := t1.trans (Sm.new n2)
            have hel : nI l ++ [V.int ((s : Nat) + 1)] = (asI (l ++ [s + 1])).map V.int := by rw [nI_asI]; simp [nI]
            refine ⟨p2, asI (l ++ [s + 1]), rfl, .of (by rw [upd_same, hel]), by rw [asI_len, List.length_append]; simp; omega, fun ns' p3 hp hs' n3 => ?_⟩
            obtain ⟨l', rfl, hpl⟩ := perm_nat hp
            have el' := ins_sorted hpw2 hs hin hpl (asI_le hs')
            have t3 := t2.trans (Sm.new (o := .lst ((asI l').map V.int)) n3)
            have hpw' : l'.Pairwise (· < ·) := by
              have h1 := asI_le hs'
              have h2 : l'.Nodup := hpl.symm.nodup (List.nodup_append.mpr ⟨lt_nodup hpw2, by simp, fun x hx y hy e => by
                simp at hy
                rw [e, hy] at hx
                exact hin hx⟩)
              exact (h1.and h2).imp fun h => Nat.lt_of_le_of_ne h.1 h.2
            refine ⟨_, rfl, _, _, rfl, rfl, _, ?_, l', i + 1, p3, _, rfl, s2.trans t3, s2.free (t2.free n3), by rw [upd_same, nI_asI], hpw', fun n hn => ?_, fun n hn => ?_, fun j x hj hx hst => ?_, rfl⟩
            · omega
            · rcases List.mem_append.mp (hpl.mem_iff.mp hn) with h | h
              · exact hcl2 n h
              · rw [List.mem_singleton.mp h]
                exact .skip hsC (by rw [estA]; exact e3)
            · exact hpl.mem_iff.mpr (List.mem_append.mpr (.inl (hS2 n hn)))
            · refine hpl.mem_iff.mpr (List.mem_append.mpr ?_)
              rw [el', List.getElem?_append_left (by rw [List.length_take]; omega), List.getElem?_take, if_pos hj] at hx
              by_cases z : j = i
              · subst z
                rw [hs] at hx
                obtain rfl := Option.some.inj hx
                exact .inr (List.mem_singleton.mpr rfl)
              · exact .inl (hdone j x (by omega) hx hst)
        · exact ⟨_, rfl, _, _, rfl, rfl, stay fun h => by rw [estA, e3] at h; cases h⟩
      · have e2 := of_decide_eq_false e2
        refine ⟨_, rfl, _, _, rfl, rfl, stay fun h => ?_⟩
        have := stA_lt h
        rw [← iv2.1] at this
        omega
    · have e := of_decide_eq_false e
      rw [nI_len] at e
      refine ⟨_, rfl, Lg, nI l, rfl, .inl ⟨.of hL, fun p3 n3 => ?_⟩⟩
      refine q _ _ l (s2.trans (Sm.new n3)) (Is.new n3 ?_) (by omega) fun n => ⟨fun h => hcl2 n h, fun h => ?_⟩
      · have := nI_is (K := K) (H := H2) l
        rw [nI_asI] at this
        exact this
      · induction h with
        | base h => exact hS2 _ h
        | skip _ hst ih =>
          obtain ⟨j, hj⟩ := List.mem_iff_getElem?.mp ih
          have := (List.getElem?_eq_some_iff.mp hj).1
          exact hdone j _ (by omega) hj hst
end
end Wf
set_option Elab.async false
set_option linter.all false
set_option maxRecDepth 100000
set_option maxHeartbeats 400000
namespace Wf
open PySem PySem.Spec PyProof.Rows L2
section
variable {P : Program} {w : World} {K : PySem.W.Frag} {mg : Str → Option Value} {base : Heap}
theorem word_all (p : Pt) : decide (V.str p.word = V.str "all") = p.isAll := by
  cases p with
  | any => exact strN rfl
  | is_ d => exact strN rfl
  | two b p q => cases b <;> exact strN rfl
  | lone w p =>
    cases w with
    | nt => exact strN rfl
    | first => exact strN rfl
    | all => exact strE rfl
  | row s => exact strN rfl
structure PcsOk (K : PySem.W.Frag) (H : Hp) (F : Addr) (E : List Ent) : Prop where
  pc : Pcs K H F E
  loc : Loc 0 E
  len : E.length ≤ 40
theorem PcsOk.sm {H H' : Hp} {F : Addr} {E : List Ent} (s : Same H H') (h : PcsOk K H F E) : PcsOk K H' F E := ⟨h.pc.sm s, h.loc, h.len⟩
def spBeg (K : PySem.W.Frag) : Sp := fun vs H Q _ => ∃ (F : Addr) (kd : Knd) (E : List Ent), vs = [.ref F] ∧ PcsOk K H F E ∧
  ∀ (H' : Hp) (v : V) (rs : List (List Nat)), Same H H' → Is K H' v (rdD rs) → Rdg kd E [] rs → Q v H'
theorem ok_begun {k : Nat} (T : Tx w K mg) (c_is_by_reading : Cal P w K mg base k "is_by_reading" (spBR K)) (c_items_of : Cal P w K mg base k "items_of" (spItm K)) (c_gone_on : Cal P w K mg base k "gone_on" (spGone K)) : Cal P w K mg base (k + 1) "begun" (spBeg K) := by
  refine Tx.cal T.f_begun T.g_begun T.b_begun sc_begun ?_ ?_
  · rintro vs H Q E ⟨F, kd, E', rfl, _⟩
    rfl
  · rintro cdv A outer s0 H vs Q Ex hr ⟨F, kd, E, rfl, po, q⟩
    refine ⟨_, (pss_cons (ps_set (i := 1) sc_begun.nd rfl (by first | exact Or.inl rfl | exact Or.inr rfl) (pe_lst pa_nil)) (pss_cons (ps_for PassesOwn.never rfl (pi_enum (by rfl) T.z_enumerate (pa_cons (pv 0) pa_nil)) (pgTup K (n := 2) rfl (pgs_cons (pg_name (i := 2) sc_begun.nd rfl (by first | exact Or.inl rfl | exact Or.inr rfl)) (pgs_cons (pgTup K (n := 2) rfl (pgs_cons (pg_name (i := 3) sc_begun.nd rfl (by first | exact Or.inl rfl | exact Or.inr rfl)) (pgs_cons (pg_name (i := 4) sc_begun.nd rfl (by first | exact Or.inl rfl | exact Or.inr rfl)) pgs_nil))) pgs_nil))) (pss_one (ps_if (pt_cmpR op_eq (pe_ix (ixD K) (pv 3) pe_int (fun _ _ => rfl)) pe_str (nomark _)) (pss_one (ps_expr (pe_bm PySem.F.plainAttrs_list PySem.F.slot_list_append PySem.F.type_list_append mt_append (pv 1) (pa_cons (pe_tup (pa_cons pe_int pa_nil)) pa_nil)))) (pss_one (ps_if (pt_val (pe_c c_is_by_reading hr (Nat.le_refl _) (by rfl) (pa_cons (pv 3) pa_nil))) (pss_one (ps_expr (pe_bm PySem.F.plainAttrs_list PySem.F.slot_list_append PySem.F.type_list_append mt_append (pv 1) (pa_cons (pe_c c_gone_on hr (Nat.le_refl _) (by rfl) (pa_cons (pe_c c_items_of hr (Nat.le_refl _) (by rfl) (pa_cons (pv 0) (pa_cons (pv 2) pa_nil))) (pa_cons (pe_lst (pa_cons pe_int pa_nil)) pa_nil))) pa_nil)))) pss_nil))))) (pss_one (ps_ret (pe_callTy call_tuple_of (by rfl) T.z_tuple boot_tuple (pa_cons (pv 1) pa_nil)))))), ?_⟩
    refine ⟨by decide, fun L nL => ?_⟩
    have s1 : Same H (upd H L (.lst [])) := Sm.new nL
    obtain ⟨xs, hF, hxl, hxe⟩ := po.pc.ex
    refine ⟨_, rfl, F, xs, rfl, .of (s1 _ _ hF), ?_⟩
    refine for_it (walk_enum (xs := xs)) (fun i σ H' => Same H H' ∧ (∃ acc rs, H' L = some (.lst acc) ∧ IsAll K H' acc (rs.map ctD) ∧ RdUp kd E [] i rs) ∧ ∃ o1 o2 o3, σ = [some (.ref F), some (.ref L), o1, o2, o3]) ?_ ?_ ?_ ?_
    · exact ⟨s1, ⟨[], [], upd_same, .nil, .zero ..⟩, none, none, none, rfl⟩
    · rintro i σ H2 _ ⟨s2, _⟩
      exact .of (s2 _ _ hF)
    · rintro i x σ H2 H3 hi ⟨s2, ⟨acc, rs, hL, il, ru⟩, o1, o2, o3, rfl⟩ ⟨T1, x1, y1, rfl, nT, rfl, e1, e2⟩
      obtain rfl := Option.some.inj e1
      have hiE : i < E.length := by omega
      obtain ⟨⟨p, ks, kr⟩, hE⟩ : ∃ e, E[i]? = some e := ⟨_, List.getElem?_eq_getElem hiE⟩
      obtain ⟨a, pv, g1, g2, g3, g4⟩ := hxe i _ hE
      obtain ⟨ok, ⟨pl, nn⟩, dp, hkl, hkid⟩ := po.loc i p ks kr (Nat.zero_le _) hE
      have e2 : xs[i]? = some y1 := e2
      rw [g1] at e2
      obtain rfl := Option.some.inj e2
      have s3 : Same H2 (upd H2 T1 (.tup [.int (i : Nat), .ref a])) := Sm.new nT
      have s13 := s2.trans s3
      have hT1 : SqT K (upd H2 T1 (.tup [.int (i : Nat), .ref a])) T1 [.int (i : Nat), .ref a] := .of upd_same
      have hL3 := s3 _ _ hL
      have il3 := il.sm s3
      generalize upd H2 T1 (.tup [.int (i : Nat), .ref a]) = H3 at *
      obtain ⟨l, el, l0, ll1, ll3⟩ := p.dt_len
      have hp3 := g3.sm s13
      have hp3' := hp3
      rw [el] at hp3'
      have hal : acc.length = rs.length := by rw [il.len, List.length_map]
      have hrl := ru.len
      have hcl := cRd_le E i
      have h40 := po.len
      refine ⟨T1, _, rfl, hT1, rfl, _, _, rfl, _, _, rfl, a, _, rfl, sq_up s13 g2, rfl, _, _, rfl, _, _, rfl, rfl, rfl, ?_⟩
      refine ⟨_, rfl, _, 0, _, hp3', rfl, l0, fun v0 h0 => ?_⟩
      rw [h0.strD]
      refine ⟨rfl, _, rfl, ?_⟩
      rw [word_all]
      cases hall : p.isAll with
      | true =>
        refine iY rfl ⟨_, rfl, .inl ⟨rfl, _, .of hL3⟩, line1, fun p2 n2 => ?_⟩
        have s4 : Same H3 (upd H3 p2 (.tup [.int 0])) := Sm.new n2
        refine ⟨L, acc, _, rfl, rfl, s4 _ _ hL3, lt_line (by omega), ?_⟩
        have hrd : p.rd = true := by rw [p.rd_eq, hall]; rfl
        refine ⟨Sm.put (s13.trans s4) nL, ⟨_, rs ++ [[0]], upd_same, ?_, ru.add hE hrd ⟨fun q' _ => rfl, fun h => ?_⟩⟩, _, _, _, rfl⟩
        · rw [List.map_append]
          exact ((il3.sm s4).append (.one (Is.new n2 (.one (.int 0))))).up (.lst (s4 _ _ hL3))
        · cases p with
          | lone w p => cases h
          | any => cases h
          | is_ d => cases hall
          | two b p q => cases h
          | row s => cases hall
      | false =>
        refine iN rfl ⟨_, rfl, _, p, rfl, hp3, ok, fun H4 s4 => ⟨_, rfl, ?_⟩⟩
        have hrd : p.rd = p.rw_ := by rw [p.rd_eq, hall]; rfl
        have s14 := s13.trans s4
        have hL4 := s4 _ _ hL3
        have il4 := il3.sm s4
        cases hrw : p.rw_ with
        | false =>
          rw [hrd, hrw]
          exact iN rfl ⟨s14, ⟨acc, rs, hL4, il4, ru.no hE (by rw [hrd, hrw])⟩, _, _, _, rfl⟩
        | true =>
          rw [hrd, hrw]
          refine iY rfl ⟨_, rfl, .inl ⟨rfl, _, .of hL4⟩, _, rfl, _, rfl, F, i, kd, E, p, ks, kr, rfl, po.pc.sm s14, po.loc, hE, hrw, fun H5 a5 cs s5 n5 itl iok => ⟨line1, fun p6 n6 => ?_⟩⟩
          have h10 := Pt.itm_len kd ok
          rw [← iok.len] at h10
          have s6 : Same H5 (upd H5 p6 (.lst [.int 0])) := Sm.new n6
          refine ⟨a5, p6, cs, [0], rfl, itl.sm s6, h10, upd_same, by decide, by simp, fun H7 v7 l7 s7 is7 len7 mem7 => ?_⟩
          have s47 := s5.trans (s6.trans s7)
          refine ⟨L, acc, _, rfl, rfl, s47 _ _ hL4, lt_line (by omega), ?_⟩
          refine ⟨Sm.put (s14.trans s47) nL, ⟨_, rs ++ [l7], upd_same, ?_, ru.add hE (by rw [hrd, hrw]) ⟨fun q' h => ?_, fun h => ⟨len7, fun n => ?_⟩⟩⟩, _, _, _, rfl⟩
          · rw [List.map_append]
            exact ((il4.sm s47).append (.one is7)).up (.lst (s47 _ _ hL4))
          · have h : p = _ := h
            rw [h] at hall
            cases hall
          · rw [mem7]
            exact Cl_start iok n
    · rintro σ H2 ⟨s2, ⟨acc, rs, hL, il, ru⟩, o1, o2, o3, rfl⟩
      rw [hxl] at ru
      refine ⟨_, rfl, L, acc, rfl, .inl ⟨.of hL, fun p3 n3 => ?_⟩⟩
      exact q _ _ rs (s2.trans (Sm.new n3)) (Is.new n3 il) ru
end
end Wf
set_option Elab.async false
set_option linter.all false
set_option maxRecDepth 100000
set_option maxHeartbeats 400000
namespace Wf
open PySem PySem.Spec PyProof.Rows L2
section
variable {P : Program} {w : World} {K : PySem.W.Frag} {mg : Str → Option Value} {base : Heap}
theorem seq_gen {t u : L2.TS} {D : Ends} {σ : L2.St} {H : Hp} (M : L2.St → Hp → Prop) (h1 : ∀ N : L2.St → Hp → Prop, (∀ σ' H', M σ' H' → N σ' H') → t { D with nx := N } σ H) (h2 : ∀ σ' H', M σ' H' → u D σ' H') : tSeq t u D σ H := h1 _ h2
def inTs (ts : List Nat) (z : Int) : Bool := decide (Dt.int z ∈ ts.map fun (n : Nat) => Dt.int (n : Int))
theorem inTs_nat (ts : List Nat) (m : Nat) : inTs ts (m : Int) = decide (m ∈ ts) := by
  unfold inTs
  congr 1
  rw [List.mem_map]
  exact propext ⟨fun ⟨a, h1, h2⟩ => by
    have : a = m := by
      have := Dt.int.inj h2
      omega
    exact this ▸ h1, fun h => ⟨m, h, rfl⟩⟩
theorem inTs_neg (ts : List Nat) : inTs ts (-1) = false := by
  unfold inTs
  refine decide_eq_false fun h => ?_
  obtain ⟨a, _, h2⟩ := List.mem_map.mp h
  have := Dt.int.inj h2
  omega
def nxA (cs : List ItC) (ts : List Nat) : Nat → Bool
  | 0 => false
  | s + 1 => match cs[s]? with
    | some c => c.1 && (decide (c.2 = -1) || inTs ts c.2)
    | none => false
def nxB (cs : List ItC) (ts : List Nat) (s : Nat) : Bool := match cs[s]? with
  | some c => !c.1 && inTs ts c.2
  | none => false
theorem next_iff {k : Knd} {x : Dt} {E : List Ent} {cs : List ItC} {Is : List Itm} {ts : List Nat} (h : ItsOk k E cs Is) (ht : TS k x E ts) (S : List Nat) (n : Nat) : NextOf k E cs S x n ↔ (n ∈ S ∧ nxA cs ts n = true) ∨ ∃ s, s ∈ S ∧ n = s + 1 ∧ nxB cs ts s = true := by
  unfold NextOf
  have hin : ∀ (c : ItC), (∃ m e, c.2 = ((m : Nat) : Int) ∧ E[m]? = some e ∧ Mt k e.1 x = true) ↔ inTs ts c.2 = true := fun c => by
    constructor
    · rintro ⟨m, e, h1, h2, h3⟩
      rw [h1, inTs_nat]
      exact decide_eq_true ((ht.2 m).mpr ⟨e, h2, h3⟩)
    · intro z
      unfold inTs at z
      obtain ⟨m, h1, h2⟩ := List.mem_map.mp (of_decide_eq_true z)
      obtain ⟨e, h3, h4⟩ := (ht.2 m).mp h1
      exact ⟨m, e, (Dt.int.inj h2).symm, h3, h4⟩
  constructor
  · rintro (⟨h1, h2, c, h3, h4, h5⟩ | ⟨s, rfl, h1, c, h3, h4, h5⟩)
    · refine .inl ⟨h1, ?_⟩
      obtain ⟨s, rfl⟩ : ∃ s, n = s + 1 := ⟨n - 1, by omega⟩
      rw [Nat.add_sub_cancel] at h3
      simp only [nxA, h3, h4, Bool.true_and, Bool.or_eq_true, decide_eq_true_eq]
      exact h5.imp id fun z => (hin c).mp z
    · refine .inr ⟨s, h1, rfl, ?_⟩
      simp only [nxB, h3, h4, Bool.not_false, Bool.true_and]
      exact (hin c).mp h5
  · rintro (⟨h1, h2⟩ | ⟨s, h1, rfl, h2⟩)
    · left
      cases n with
      | zero => cases h2
      | succ s =>
        simp only [nxA] at h2
        cases e : cs[s]? with
        | none => rw [e] at h2; cases h2
        | some c =>
          rw [e] at h2
          simp only [Bool.and_eq_true, Bool.or_eq_true, decide_eq_true_eq] at h2
          exact ⟨h1, Nat.succ_pos _, c, by simpa using e, h2.1, h2.2.imp id fun z => (hin c).mpr z⟩
    · right
      simp only [nxB] at h2
      cases e : cs[s]? with
      | none => rw [e] at h2; cases h2
      | some c =>
        rw [e] at h2
        simp only [Bool.and_eq_true, Bool.not_eq_true'] at h2
        exact ⟨s, rfl, h1, c, e, h2.1, (hin c).mpr h2.2⟩
def spSpots (K : PySem.W.Frag) : Sp := fun vs H Q _ => ∃ (a : Addr) (v u : V) (kd : Knd) (E : List Ent) (cs : List ItC) (Im : List Itm) (S ts : List Nat) (l : List Dt) (x : Dt), vs = [.ref a, v, u] ∧ ItL K H a cs ∧ cs.length ≤ 10 ∧ ItsOk kd E cs Im ∧ Is K H v (ctD S) ∧ S.length ≤ 11 ∧ (∀ n, n ∈ S ↔ Rr Im n l) ∧ Is K H u (ctD ts) ∧ TS kd x E ts ∧
  ∀ (H' : Hp) (v' : V) (S' : List Nat), Same H H' → Is K H' v' (ctD S') → S'.length ≤ 11 → (∀ n, n ∈ S' ↔ Rr Im n (l ++ [x])) → Q v' H'
theorem ok_spots_behind {k : Nat} (T : Tx w K mg) (c_gone_on : Cal P w K mg base k "gone_on" (spGone K)) : Cal P w K mg base (k + 1) "spots_behind" (spSpots K) := by
  refine Tx.cal T.f_spots_behind T.g_spots_behind T.b_spots_behind sc_spots_behind ?_ ?_
  · rintro vs H Q E ⟨a, v, u, kd, E', cs, Im, S, ts, l, x, rfl, _⟩
    rfl
  · rintro cdv A outer s0 H vs Q Ex hr ⟨a, v, u, kd, E, cs, Im, S, ts, l, x, rfl, ia, h10, iok, hv, hS11, hS, hu, hts, q⟩
    refine ⟨_, (pss_cons (ps_set (i := 3) sc_spots_behind.nd rfl (by first | exact Or.inl rfl | exact Or.inr rfl) (pe_lst pa_nil)) (pss_cons (ps_for PassesOwn.never rfl (pi_tup (pv 1)) (pg_name (i := 4) sc_spots_behind.nd rfl (by first | exact Or.inl rfl | exact Or.inr rfl)) (pss_cons (ps_if (pw_and (pt_cmpR op_gt (pv 4) pe_int (nomark _)) (pw_and (pt_val (pe_ix ix_tup (pe_ix (ixL K) (pv 0) (pe_op op_sub (pv 4) pe_int) (fun _ _ => rfl)) pe_int (fun _ _ => rfl))) (pw_and1 (pw_or (pt_cmpR op_eq (pe_ix ix_tup (pe_ix (ixL K) (pv 0) (pe_op op_sub (pv 4) pe_int) (fun _ _ => rfl)) pe_int (fun _ _ => rfl)) (pe_un un_neg pe_int) (nomark _)) (pw_or1 (pt_cmpR (inT K) (pe_ix ix_tup (pe_ix (ixL K) (pv 0) (pe_op op_sub (pv 4) pe_int) (fun _ _ => rfl)) pe_int (fun _ _ => rfl)) (pv 2) (by rfl)))).pt))).pt (pss_one (ps_expr (pe_bm PySem.F.plainAttrs_list PySem.F.slot_list_append PySem.F.type_list_append mt_append (pv 3) (pa_cons (pv 4) pa_nil)))) pss_nil) (pss_one (ps_if (pw_and (pt_cmpR op_lt (pv 4) (pe_callB call_len_seq (by rfl) T.z_len boot_len (pa_cons (pv 0) pa_nil)) (nomark _)) (pw_and (pt_not (pt_val (pe_ix ix_tup (pe_ix (ixL K) (pv 0) (pv 4) (fun _ _ => rfl)) pe_int (fun _ _ => rfl)))) (pw_and1 (pt_cmpR (inT K) (pe_ix ix_tup (pe_ix (ixL K) (pv 0) (pv 4) (fun _ _ => rfl)) pe_int (fun _ _ => rfl)) (pv 2) (by rfl))))).pt (pss_one (ps_expr (pe_bm PySem.F.plainAttrs_list PySem.F.slot_list_append PySem.F.type_list_append mt_append (pv 3) (pa_cons (pe_op op_add (pv 4) pe_int) pa_nil)))) pss_nil)))) (pss_one (ps_ret (pe_c c_gone_on hr (Nat.le_refl _) (by rfl) (pa_cons (pv 0) (pa_cons (pv 3) pa_nil))))))), ?_⟩
    refine ⟨by decide, fun L nL => ?_⟩
    have s1 : Same H (upd H L (.lst [])) := Sm.new nL
    obtain ⟨ys, ha, iv⟩ := ia
    have hu0 := hu
    obtain ⟨av, xs, rfl, sq, il⟩ := Is.tupD hv
    have hSle : ∀ n ∈ S, n ≤ cs.length := fun n hn => by rw [iok.len]; exact ((hS n).mp hn).mI.1
    have hflat : (ts.map fun (n : Nat) => Dt.int (n : Int)).all Dt.flat = true := by
      rw [List.all_map, List.all_eq_true]
      intro z _
      rfl
    refine ⟨_, rfl, av, rfl, ⟨_, sq_up s1 sq⟩, ?_⟩
    refine for_D (walk_tup (xs := xs)) (il.sm s1) (fun i σ H' => Same H H' ∧ (∃ fs, H' L = some (.lst (nI fs)) ∧ fs.length ≤ 2 * i ∧ ∀ n, n ∈ fs ↔ (n ∈ S.take i ∧ nxA cs ts n = true) ∨ ∃ s, s ∈ S.take i ∧ n = s + 1 ∧ nxB cs ts s = true) ∧ Up K (upd H L (.lst [])) H' ∧ ∃ o, σ = [some (.ref a), some (.ref av), some u, some (.ref L), o]) ?_ ?_ ?_ ?_
    · exact ⟨s1, ⟨[], upd_same, Nat.le_refl _, fun n => by simp⟩, .refl, none, rfl⟩
    · rintro i σ H2 ⟨s2, _, u2, _⟩
      exact ⟨sq_up s2 sq, u2⟩
    · rintro i x1 d σ H2 hi hx ⟨s2, ⟨fs, hL, hfl, hfs⟩, u2, o, rfl⟩
      rw [List.getElem?_map] at hi
      obtain ⟨s, hs, rfl⟩ := Option.map_eq_some_iff.mp hi
      obtain rfl := hx.intD
      have hil := (List.getElem?_eq_some_iff.mp hs).1
      have hsl := hSle s (List.mem_of_getElem? hs)
      have ha2 := s2 _ _ ha
      have iv2 := iv.up (.sm s2)
      have hu2 := Is.sm s2 hu
      have hnfl : (nI fs).length < sizeLine := lt_line (by rw [nI_len]; omega)
      have htk : ∀ n, n ∈ S.take (i + 1) ↔ n ∈ S.take i ∨ n = s := fun n => by
        rw [List.take_add_one, hs, List.mem_append]
        simp
      dsimp only [gName]
      refine seq_gen (fun σ' H' => σ' = [some (.ref a), some (.ref av), some u, some (.ref L), some (.int (s : Nat))] ∧ Same H H' ∧ Up K (upd H L (.lst [])) H' ∧ ∃ fs1, H' L = some (.lst (nI fs1)) ∧ fs1.length ≤ 2 * i + 1 ∧ ∀ n, n ∈ fs1 ↔ n ∈ fs ∨ (n = s ∧ nxA cs ts s = true)) (fun N hN => ?_) ?_
      · have no : nxA cs ts s = false → N [some (.ref a), some (.ref av), some u, some (.ref L), some (.int (s : Nat))] H2 := fun e => hN _ _ ⟨rfl, s2, u2, fs, hL, by omega, fun n => by rw [e]; simp⟩
        have yes : nxA cs ts s = true → N [some (.ref a), some (.ref av), some u, some (.ref L), some (.int (s : Nat))] (upd H2 L (.lst (nI fs ++ [V.int (s : Nat)]))) := fun e => hN _ _ ⟨rfl, Sm.put s2 nL, u2.trans (.lst hL), fs ++ [s], by rw [upd_same]; simp [nI], by simp; omega, fun n => by rw [e]; simp⟩
        refine ⟨_, rfl, _, _, rfl, rfl, _, rfl, iD (fun e1 => ?_) fun e1 => ?_⟩
        · have e1 := of_decide_eq_true e1
          obtain ⟨s', rfl⟩ : ∃ s', s = s' + 1 := ⟨s - 1, by omega⟩
          have hsc : s' < cs.length := by omega
          obtain ⟨c0, hc0⟩ : ∃ c0, cs[s']? = some c0 := ⟨_, List.getElem?_eq_getElem hsc⟩
          obtain ⟨q0, hq1, hq2⟩ := iv2.2 s' c0 hc0
          have eA : nxA cs ts (s' + 1) = (c0.1 && (decide (c0.2 = -1) || inTs ts c0.2)) := by simp only [nxA, hc0]
          have hat : atI ys (((s' + 1 : Nat) : Int) - 1) = some (V.ref q0) := by
            rw [show ((s' + 1 : Nat) : Int) - 1 = (s' : Int) by omega]
            exact atI_nat0 hq1
          refine ⟨_, rfl, _, rfl, _, _, rfl, rfl, a, ys, _, .ref q0, rfl, rfl, .of ha2, hat, q0, _, 0, .bl c0.1, rfl, rfl, hq2, rfl, _, rfl, iD (fun e2 => ?_) fun e2 => ?_⟩
          · refine ⟨_, rfl, _, rfl, _, _, rfl, rfl, a, ys, _, .ref q0, rfl, rfl, .of ha2, hat, q0, _, 1, .int c0.2, rfl, rfl, hq2, rfl, _, rfl, rfl, _, rfl, iD (fun e3 => ?_) fun e3 => ?_⟩
            · have e3 : c0.2 = -1 := V.int.inj (of_decide_eq_true e3)
              refine iY rfl ⟨_, rfl, .inl ⟨rfl, _, .of hL⟩, _, rfl, L, _, _, rfl, rfl, hL, hnfl, yes ?_⟩
              rw [eA, e2, e3]
              rfl
            · have e3 : ¬ c0.2 = -1 := fun z => of_decide_eq_false e3 (congrArg V.int z)
              refine ⟨_, rfl, _, rfl, _, _, rfl, rfl, a, ys, _, .ref q0, rfl, rfl, .of ha2, hat, q0, _, 1, .int c0.2, rfl, rfl, hq2, rfl, _, rfl, _, _, .int c0.2, hu2, rfl, hflat, _, rfl, iD (fun e4 => ?_) fun e4 => ?_⟩
              · refine ⟨_, rfl, .inl ⟨rfl, _, .of hL⟩, _, rfl, L, _, _, rfl, rfl, hL, hnfl, yes ?_⟩
                rw [eA, e2, show inTs ts c0.2 = true from e4, Bool.or_true]
                rfl
              · refine no ?_
                rw [eA, e2, show inTs ts c0.2 = false from e4, decide_eq_false e3]
                rfl
          · refine iN rfl (no ?_)
            rw [eA, e2]
            rfl
        · have e1 := of_decide_eq_false e1
          have : s = 0 := by omega
          subst this
          exact iN rfl (no rfl)
      · rintro σ' H3 ⟨rfl, s3, u3, fs1, hL3, hfl3, hfs3⟩
        have ha3 := s3 _ _ ha
        have iv3 := iv.up (.sm s3)
        have hu3 := Is.sm s3 hu
        have hnfl3 : (nI fs1).length < sizeLine := lt_line (by rw [nI_len]; omega)
        have fin : ∀ (n : Nat), (n ∈ fs1 ∨ (n = s + 1 ∧ nxB cs ts s = true)) ↔ (n ∈ S.take (i + 1) ∧ nxA cs ts n = true) ∨ ∃ s, s ∈ S.take (i + 1) ∧ n = s + 1 ∧ nxB cs ts s = true := fun n => by
          rw [hfs3, hfs]
          constructor
          · rintro (((⟨h1, h2⟩ | ⟨s', h1, h2, h3⟩) | ⟨rfl, h2⟩) | ⟨rfl, h2⟩)
            · exact .inl ⟨(htk _).mpr (.inl h1), h2⟩
            · exact .inr ⟨s', (htk _).mpr (.inl h1), h2, h3⟩
            · exact .inl ⟨(htk _).mpr (.inr rfl), h2⟩
            · exact .inr ⟨s, (htk _).mpr (.inr rfl), rfl, h2⟩
          · rintro (⟨h1, h2⟩ | ⟨s', h1, h2, h3⟩)
            · rcases (htk _).mp h1 with h1 | rfl
              · exact .inl (.inl (.inl ⟨h1, h2⟩))
              · exact .inl (.inr ⟨rfl, h2⟩)
            · rcases (htk _).mp h1 with h1 | rfl
              · exact .inl (.inl (.inr ⟨s', h1, h2, h3⟩))
              · exact .inr ⟨h2, h3⟩
        have no : nxB cs ts s = false → Same H H3 ∧ (∃ fs, H3 L = some (.lst (nI fs)) ∧ fs.length ≤ 2 * (i + 1) ∧ ∀ n, n ∈ fs ↔ (n ∈ S.take (i + 1) ∧ nxA cs ts n = true) ∨ ∃ s, s ∈ S.take (i + 1) ∧ n = s + 1 ∧ nxB cs ts s = true) ∧ Up K (upd H L (.lst [])) H3 ∧ ∃ o, [some (.ref a), some (.ref av), some u, some (.ref L), some (.int (s : Nat))] = [some (.ref a), some (.ref av), some u, some (.ref L), o] := fun e =>
          ⟨s3, ⟨fs1, hL3, by omega, fun n => by rw [← fin n, e]; simp⟩, u3, _, rfl⟩
        have yes : nxB cs ts s = true → Same H (upd H3 L (.lst (nI fs1 ++ [V.int ((s : Nat) + 1)]))) ∧ (∃ fs, (upd H3 L (.lst (nI fs1 ++ [V.int ((s : Nat) + 1)]))) L = some (.lst (nI fs)) ∧ fs.length ≤ 2 * (i + 1) ∧ ∀ n, n ∈ fs ↔ (n ∈ S.take (i + 1) ∧ nxA cs ts n = true) ∨ ∃ s, s ∈ S.take (i + 1) ∧ n = s + 1 ∧ nxB cs ts s = true) ∧ Up K (upd H L (.lst [])) (upd H3 L (.lst (nI fs1 ++ [V.int ((s : Nat) + 1)]))) ∧ ∃ o, [some (.ref a), some (.ref av), some u, some (.ref L), some (.int (s : Nat))] = [some (.ref a), some (.ref av), some u, some (.ref L), o] := fun e =>
          ⟨Sm.put s3 nL, ⟨fs1 ++ [s + 1], by rw [upd_same]; simp [nI], by simp; omega, fun n => by rw [← fin n, e]; simp⟩, u3.trans (.lst hL3), _, rfl⟩
        refine ⟨_, rfl, _, rfl, a, ys, rfl, .inl (.of ha3), _, _, rfl, rfl, _, rfl, iD (fun e1 => ?_) fun e1 => ?_⟩
        · have e1 := of_decide_eq_true e1
          have hsc : s < cs.length := by rw [← iv3.1]; omega
          obtain ⟨c0, hc0⟩ : ∃ c0, cs[s]? = some c0 := ⟨_, List.getElem?_eq_getElem hsc⟩
          obtain ⟨q0, hq1, hq2⟩ := iv3.2 s c0 hc0
          have eB : nxB cs ts s = (!c0.1 && inTs ts c0.2) := by simp only [nxB, hc0]
          refine ⟨_, rfl, _, rfl, a, ys, _, .ref q0, rfl, rfl, .of ha3, atI_nat0 hq1, q0, _, 0, .bl c0.1, rfl, rfl, hq2, rfl, _, rfl, iD (fun e2 => ?_) fun e2 => ?_⟩
          · refine ⟨_, rfl, _, rfl, a, ys, _, .ref q0, rfl, rfl, .of ha3, atI_nat0 hq1, q0, _, 1, .int c0.2, rfl, rfl, hq2, rfl, _, rfl, _, _, .int c0.2, hu3, rfl, hflat, _, rfl, iD (fun e4 => ?_) fun e4 => ?_⟩
            · refine ⟨_, rfl, .inl ⟨rfl, _, .of hL3⟩, _, rfl, _, _, rfl, rfl, L, _, _, rfl, rfl, hL3, hnfl3, yes ?_⟩
              rw [eB, e2, show inTs ts c0.2 = true from e4]
              rfl
            · refine no ?_
              rw [eB, e2, show inTs ts c0.2 = false from e4]
              rfl
          · refine iN rfl (no ?_)
            rw [eB, e2]
            rfl
        · have e1 := of_decide_eq_false e1
          refine iN rfl (no ?_)
          unfold nxB
          rw [List.getElem?_eq_none (by rw [← iv3.1]; omega)]
    · rintro σ H2 ⟨s2, ⟨fs, hL, hfl, hfs⟩, u2, o, rfl⟩
      rw [List.length_map, List.take_length] at hfs
      rw [List.length_map] at hfl
      have hfs' : ∀ n, n ∈ fs ↔ NextOf kd E cs S x n := fun n => by rw [next_iff iok hts]; exact hfs n
      refine ⟨_, rfl, _, rfl, a, L, cs, fs, rfl, ⟨ys, s2 _ _ ha, iv.up (.sm s2)⟩, h10, hL, by omega, fun n hn => ?_, fun H3 v3 l3 s3 is3 len3 mem3 => ?_⟩
      · have h1 := (hfs n).mp hn
        rcases h1 with ⟨h1, _⟩ | ⟨s, h1, rfl, h2⟩
        · exact hSle n h1
        · unfold nxB at h2
          cases e : cs[s]? with
          | none => rw [e] at h2; cases h2
          | some c => exact (List.getElem?_eq_some_iff.mp e).1
      · exact q H3 v3 l3 (s2.trans s3) is3 len3 fun n => by rw [mem3]; exact Cl_next iok hS hfs' n
end
end Wf
set_option Elab.async false
set_option linter.all false
set_option maxRecDepth 100000
set_option maxHeartbeats 400000
namespace Wf
open PySem PySem.Spec PyProof.Rows L2
section
variable {P : Program} {w : World} {K : PySem.W.Frag} {mg : Str → Option Value} {base : Heap}
theorem ct_fit (S : List Nat) : (ctD S).fit := by
  refine Dt.fit_of ?_ ?_
  · unfold ctD
    simp only [Dt.sok]
    refine (Dt.soks_iff _).mpr fun d hd => ?_
    obtain ⟨n, _, rfl⟩ := List.mem_map.mp hd
    rfl
  · unfold ctD
    simp only [Dt.dep]
    have := (Dt.deps_le (S.map fun (n : Nat) => Dt.int (n : Int)) 0).mpr fun d hd => by
      obtain ⟨n, _, rfl⟩ := List.mem_map.mp hd
      exact Nat.le_refl _
    omega
theorem ct_nil (S : List Nat) : decide (ctD S = .tup []) = S.isEmpty := by
  cases S with
  | nil => exact decide_eq_true rfl
  | cons n S => exact decide_eq_false fun e => by simp [ctD] at e
def spRead (K : PySem.W.Frag) : Sp := fun vs H Q _ => ∃ (F : Addr) (v u : V) (kd : Knd) (E : List Ent) (l : List Dt) (x : Dt) (rs : List (List Nat)) (ts : List Nat), vs = [.ref F, v, u] ∧ PcsOk K H F E ∧ Is K H v (rdD rs) ∧ Rdg kd E l rs ∧ Is K H u (ctD ts) ∧ TS kd x E ts ∧
  ∀ (H' : Hp) (v' : V) (rs' : List (List Nat)), Same H H' → Is K H' v' (rdD rs') → Rdg kd E (l ++ [x]) rs' → Q v' H'
theorem ok_read_on {k : Nat} (T : Tx w K mg) (c_is_by_reading : Cal P w K mg base k "is_by_reading" (spBR K)) (c_items_of : Cal P w K mg base k "items_of" (spItm K)) (c_spots_behind : Cal P w K mg base k "spots_behind" (spSpots K)) : Cal P w K mg base (k + 1) "read_on" (spRead K) := by
  refine Tx.cal T.f_read_on T.g_read_on T.b_read_on sc_read_on ?_ ?_
  · rintro vs H Q E ⟨F, v, u, kd, E', l, x, rs, ts, rfl, _⟩
    rfl
  · rintro cdv A outer s0 H vs Q Ex hr ⟨F, v, u, kd, E, ls, x0, rs0, ts, rfl, po, hv, rg, hu, hts, q⟩
    refine ⟨_, (pss_cons (ps_set (i := 3) sc_read_on.nd rfl (by first | exact Or.inl rfl | exact Or.inr rfl) (pe_lst pa_nil)) (pss_cons (ps_for PassesOwn.never rfl (pi_enum (by rfl) T.z_enumerate (pa_cons (pv 0) pa_nil)) (pgTup K (n := 2) rfl (pgs_cons (pg_name (i := 4) sc_read_on.nd rfl (by first | exact Or.inl rfl | exact Or.inr rfl)) (pgs_cons (pgTup K (n := 2) rfl (pgs_cons (pg_name (i := 5) sc_read_on.nd rfl (by first | exact Or.inl rfl | exact Or.inr rfl)) (pgs_cons (pg_name (i := 6) sc_read_on.nd rfl (by first | exact Or.inl rfl | exact Or.inr rfl)) pgs_nil))) pgs_nil))) (pss_one (ps_if (pt_cmpR op_eq (pe_ix (ixD K) (pv 5) pe_int (fun _ _ => rfl)) pe_str (nomark _)) (pss_one (ps_expr (pe_bm PySem.F.plainAttrs_list PySem.F.slot_list_append PySem.F.type_list_append mt_append (pv 3) (pa_cons (pe_ifExp (pw_and (pt_cmpR (neT K hr.units) (pe_ix (ixD K) (pv 1) (pe_callB call_len_seq (by rfl) T.z_len boot_len (pa_cons (pv 3) pa_nil)) (fun _ _ => rfl)) (pe_tup pa_nil) (nomark _)) (pw_and1 (pt_cmpR (inT K) (pe_ix (ixL K) (pv 6) pe_int (fun _ _ => rfl)) (pv 2) (by rfl)))).pt (pe_tup (pa_cons pe_int pa_nil)) (pe_tup pa_nil)) pa_nil)))) (pss_one (ps_if (pt_val (pe_c c_is_by_reading hr (Nat.le_refl _) (by rfl) (pa_cons (pv 5) pa_nil))) (pss_one (ps_expr (pe_bm PySem.F.plainAttrs_list PySem.F.slot_list_append PySem.F.type_list_append mt_append (pv 3) (pa_cons (pe_c c_spots_behind hr (Nat.le_refl _) (by rfl) (pa_cons (pe_c c_items_of hr (Nat.le_refl _) (by rfl) (pa_cons (pv 0) (pa_cons (pv 4) pa_nil))) (pa_cons (pe_ix (ixD K) (pv 1) (pe_callB call_len_seq (by rfl) T.z_len boot_len (pa_cons (pv 3) pa_nil)) (fun _ _ => rfl)) (pa_cons (pv 2) pa_nil)))) pa_nil)))) pss_nil))))) (pss_one (ps_ret (pe_callTy call_tuple_of (by rfl) T.z_tuple boot_tuple (pa_cons (pv 3) pa_nil)))))), ?_⟩
    refine ⟨by decide, fun L nL => ?_⟩
    have s1 : Same H (upd H L (.lst [])) := Sm.new nL
    obtain ⟨xs, hF, hxl, hxe⟩ := po.pc.ex
    have hflat : (ts.map fun (n : Nat) => Dt.int (n : Int)).all Dt.flat = true := by
      rw [List.all_map, List.all_eq_true]
      intro z _
      rfl
    refine ⟨_, rfl, F, xs, rfl, .of (s1 _ _ hF), ?_⟩
    refine for_it (walk_enum (xs := xs)) (fun i σ H' => Same H H' ∧ (∃ acc rs, H' L = some (.lst acc) ∧ IsAll K H' acc (rs.map ctD) ∧ RdUp kd E (ls ++ [x0]) i rs) ∧ ∃ o1 o2 o3, σ = [some (.ref F), some v, some u, some (.ref L), o1, o2, o3]) ?_ ?_ ?_ ?_
    · exact ⟨s1, ⟨[], [], upd_same, .nil, .zero ..⟩, none, none, none, rfl⟩
    · rintro i σ H2 _ ⟨s2, _⟩
      exact .of (s2 _ _ hF)
    · rintro i x σ H2 H3 hi ⟨s2, ⟨acc, rs, hL, il, ru⟩, o1, o2, o3, rfl⟩ ⟨T1, x1, y1, rfl, nT, rfl, e1, e2⟩
      obtain rfl := Option.some.inj e1
      have hiE : i < E.length := by omega
      obtain ⟨⟨p, ks, kr⟩, hE⟩ : ∃ e, E[i]? = some e := ⟨_, List.getElem?_eq_getElem hiE⟩
      obtain ⟨a, pv, g1, g2, g3, g4⟩ := hxe i _ hE
      obtain ⟨ok, ⟨pl, nn⟩, dp, hkl, hkid⟩ := po.loc i p ks kr (Nat.zero_le _) hE
      have e2 : xs[i]? = some y1 := e2
      rw [g1] at e2
      obtain rfl := Option.some.inj e2
      have s3 : Same H2 (upd H2 T1 (.tup [.int (i : Nat), .ref a])) := Sm.new nT
      have s13 := s2.trans s3
      have hT1 : SqT K (upd H2 T1 (.tup [.int (i : Nat), .ref a])) T1 [.int (i : Nat), .ref a] := .of upd_same
      have hL3 := s3 _ _ hL
      have il3 := il.sm s3
      generalize upd H2 T1 (.tup [.int (i : Nat), .ref a]) = H3 at *
      obtain ⟨l, el, l0, ll1, ll3⟩ := p.dt_len
      have hp3 := g3.sm s13
      have hp3' := hp3
      rw [el] at hp3'
      have hal : acc.length = rs.length := by rw [il.len, List.length_map]
      have hrl := ru.len
      have hcl := cRd_le E i
      have h40 := po.len
      refine ⟨T1, _, rfl, hT1, rfl, _, _, rfl, _, _, rfl, a, _, rfl, sq_up s13 g2, rfl, _, _, rfl, _, _, rfl, rfl, rfl, ?_⟩
      refine ⟨_, rfl, _, 0, _, hp3', rfl, l0, fun v0 h0 => ?_⟩
      rw [h0.strD]
      refine ⟨rfl, _, rfl, ?_⟩
      rw [word_all]
      have hv3 := hv.sm s13
      have hu3 := hu.sm s13
      have hk3 := s13 _ _ g4
      cases hall : p.isAll with
      | true =>
        have hrd : p.rd = true := by rw [p.rd_eq, hall]; rfl
        obtain ⟨S, hS1, hS2⟩ := rg.at_ i _ hiE hE hrd
        obtain ⟨q0, rfl⟩ : ∃ q0, p = .lone .all q0 := by
          cases p with
          | lone w p =>
            cases w with
            | nt => cases hall
            | first => cases hall
            | all => exact ⟨p, rfl⟩
          | any => cases hall
          | is_ d => cases hall
          | two b p q => cases hall
          | row s => cases hall
        have eS := hS2.1 q0 rfl
        obtain ⟨m, rfl⟩ : ∃ m, ks = [m] := by
          match ks, hkl with
          | [m], _ => exact ⟨m, rfl⟩
        obtain ⟨_, q', ks', kr', z2, z3⟩ := hkid 0 m rfl
        obtain rfl : q0 = q' := by simpa [Pt.inner] using z3
        have hm : decide (m ∈ ts) = Mt kd q0 x0 := by
          cases e : Mt kd q0 x0 with
          | true => exact decide_eq_true ((hts.2 m).mpr ⟨_, z2, e⟩)
          | false =>
            refine decide_eq_false fun hin => ?_
            obtain ⟨e', h1, h2⟩ := (hts.2 m).mp hin
            rw [z2] at h1
            obtain rfl := Option.some.inj h1
            rw [e] at h2
            cases h2
        have fin : ∀ (b : Bool), b = (ls ++ [x0]).all (Mt kd q0) → ∀ (H4 : Hp) (p2 : Addr) (o : List V), Same H3 H4 → H4 p2 = none → o = (if b = true then [V.int 0] else []) → Same H (upd (upd H4 p2 (.tup o)) L (.lst (acc ++ [.ref p2]))) ∧ (∃ acc' rs', (upd (upd H4 p2 (.tup o)) L (.lst (acc ++ [.ref p2]))) L = some (.lst acc') ∧ IsAll K (upd (upd H4 p2 (.tup o)) L (.lst (acc ++ [.ref p2]))) acc' (rs'.map ctD) ∧ RdUp kd E (ls ++ [x0]) (i + 1) rs') := by
          rintro b hb H4 p2 o t4 n2 rfl
          have s4 : Same H3 (upd H4 p2 (.tup (if b = true then [V.int 0] else []))) := t4.trans (Sm.new n2)
          refine ⟨Sm.put (s13.trans s4) nL, _, rs ++ [if b = true then [0] else []], upd_same, ?_, ru.add hE hrd ⟨fun q' e => ?_, fun h => by cases h⟩⟩
          · rw [List.map_append]
            refine ((il3.sm s4).append (.one (Is.new n2 ?_))).up (.lst (s4 _ _ hL3))
            cases b with
            | true => exact .one (.int 0)
            | false => exact .nil
          · obtain rfl := (Pt.lone.inj e).2
            rw [hb]
        have eall : (ls ++ [x0]).all (Mt kd q0) = (ls.all (Mt kd q0) && Mt kd q0 x0) := by rw [List.all_append]; simp
        refine iY rfl ⟨_, rfl, .inl ⟨rfl, _, .of hL3⟩, ?_⟩
        refine ⟨_, rfl, _, rfl, L, acc, rfl, .inl (.of hL3), _, cRd E i, ctD S, hv3, by rw [hal, hrl], ?_, fun v5 h5 => ?_⟩
        · rw [List.getElem?_map, hS1]; rfl
        refine ⟨by decide, fun p4 n4 => ?_⟩
        have s4 : Same H3 (upd H3 p4 (.tup [])) := Sm.new n4
        have hk4 := s4 _ _ hk3
        have hu4 := hu3.sm s4
        have hL4 := s4 _ _ hL3
        have h54 := h5.sm s4
        have hnil : Is K (upd H3 p4 (.tup [])) (.ref p4) (.tup []) := Is.new n4 .nil
        generalize upd H3 p4 (.tup []) = H4 at *
        refine ⟨_, _, h54, hnil, ct_fit S, ct_fit [], _, rfl, ?_⟩
        have eN : (!decide (ctD S = .tup [])) = ls.all (Mt kd q0) := by
          rw [ct_nil, eS]
          cases ls.all (Mt kd q0) <;> rfl
        rw [eN]
        cases hA : ls.all (Mt kd q0) with
        | true =>
          rw [hA] at eall
          refine iY rfl ⟨_, rfl, kr, _, 0, .int (m : Nat), rfl, rfl, .of hk4, rfl, _, rfl, _, _, .int (m : Nat), hu4, rfl, hflat, _, rfl, iD (fun e => ?_) fun e => ?_⟩
          · have e : inTs ts (m : Int) = true := e
            rw [inTs_nat, hm] at e
            refine ⟨line1, fun p2 n2 => ⟨L, acc, _, rfl, rfl, Sm.new n2 _ _ hL4, lt_line (by omega), ?_⟩⟩
            obtain ⟨f1, f2⟩ := fin true (by rw [eall, e]; rfl) H4 p2 _ s4 n2 rfl
            exact ⟨f1, f2, _, _, _, rfl⟩
          · have e : inTs ts (m : Int) = false := e
            rw [inTs_nat, hm] at e
            refine ⟨by decide, fun p2 n2 => ⟨L, acc, _, rfl, rfl, Sm.new n2 _ _ hL4, lt_line (by omega), ?_⟩⟩
            obtain ⟨f1, f2⟩ := fin false (by rw [eall, e]; rfl) H4 p2 _ s4 n2 rfl
            exact ⟨f1, f2, _, _, _, rfl⟩
        | false =>
          rw [hA] at eall
          refine iN rfl (iN rfl ⟨by decide, fun p2 n2 => ⟨L, acc, _, rfl, rfl, Sm.new n2 _ _ hL4, lt_line (by omega), ?_⟩⟩)
          obtain ⟨f1, f2⟩ := fin false (by rw [eall]; rfl) H4 p2 _ s4 n2 rfl
          exact ⟨f1, f2, _, _, _, rfl⟩
      | false =>
        refine iN rfl ⟨_, rfl, _, p, rfl, hp3, ok, fun H4 s4 => ⟨_, rfl, ?_⟩⟩
        have hrd : p.rd = p.rw_ := by rw [p.rd_eq, hall]; rfl
        have s14 := s13.trans s4
        have hL4 := s4 _ _ hL3
        have il4 := il3.sm s4
        cases hrw : p.rw_ with
        | false =>
          rw [hrd, hrw]
          exact iN rfl ⟨s14, ⟨acc, rs, hL4, il4, ru.no hE (by rw [hrd, hrw])⟩, _, _, _, rfl⟩
        | true =>
          rw [hrd, hrw]
          obtain ⟨S, hS1, hS2⟩ := rg.at_ i _ hiE hE (by rw [hrd, hrw])
          obtain ⟨hS11, hSm⟩ := hS2.2 hrw
          refine iY rfl ⟨_, rfl, .inl ⟨rfl, _, .of hL4⟩, _, rfl, _, rfl, F, i, kd, E, p, ks, kr, rfl, po.pc.sm s14, po.loc, hE, hrw, fun H5 a5 cs s5 n5 itl iok => ?_⟩
          have h10 := Pt.itm_len kd ok
          rw [← iok.len] at h10
          have s15 := s14.trans s5
          refine ⟨_, rfl, _, rfl, L, acc, rfl, .inl (.of (s5 _ _ hL4)), _, cRd E i, ctD S, hv.sm s15, by rw [hal, hrl], ?_, fun v5 h5 => ?_⟩
          · rw [List.getElem?_map, hS1]; rfl
          refine ⟨_, rfl, a5, v5, u, kd, E, cs, _, S, ts, ls, x0, rfl, itl, h10, iok, h5, hS11, hSm, hu.sm s15, hts, fun H7 v7 l7 s7 is7 len7 mem7 => ?_⟩
          have s47 := s5.trans s7
          refine ⟨L, acc, _, rfl, rfl, s47 _ _ hL4, lt_line (by omega), ?_⟩
          refine ⟨Sm.put (s14.trans s47) nL, ⟨_, rs ++ [l7], upd_same, ?_, ru.add hE (by rw [hrd, hrw]) ⟨fun q' h => ?_, fun h => ⟨len7, mem7⟩⟩⟩, _, _, _, rfl⟩
          · rw [List.map_append]
            exact ((il4.sm s47).append (.one is7)).up (.lst (s47 _ _ hL4))
          · have h : p = _ := h
            rw [h] at hall
            cases hall
    · rintro σ H2 ⟨s2, ⟨acc, rs, hL, il, ru⟩, o1, o2, o3, rfl⟩
      rw [hxl] at ru
      refine ⟨_, rfl, L, acc, rfl, .inl ⟨.of hL, fun p3 n3 => ?_⟩⟩
      exact q _ _ rs (s2.trans (Sm.new n3)) (Is.new n3 il) ru
end
end Wf
set_option Elab.async false
set_option linter.all false
set_option maxRecDepth 100000
set_option maxHeartbeats 400000
namespace Wf
open PySem PySem.Spec PyProof.Rows L2
section
variable {P : Program} {w : World} {K : PySem.W.Frag} {mg : Str → Option Value} {base : Heap}
theorem word_is (p : Pt) : decide (V.str p.word = V.str "is") = (match p with | .is_ _ => true | _ => false) := by
  cases p with
  | any => exact strN rfl
  | is_ d => exact strE rfl
  | two b p q => cases b <;> exact strN rfl
  | lone w p => cases w <;> exact strN rfl
  | row s => exact strN rfl
def BUp (k : Knd) (t : Dt) (E : List Ent) (i : Nat) (bs : List Nat) : Prop := bs.Nodup ∧ ∀ n, n ∈ bs ↔ n < i ∧ ∃ e, E[n]? = some e ∧ e.1.bs = true ∧ Mt k e.1 t = true
theorem BUp.zero (k : Knd) (t : Dt) (E : List Ent) : BUp k t E 0 [] := ⟨List.nodup_nil, fun n => by simp⟩
theorem BUp.len {k : Knd} {t : Dt} {E : List Ent} {i : Nat} {bs : List Nat} (h : BUp k t E i bs) : bs.length ≤ i := nodup_lt i h.1 fun n hn => ((h.2 n).mp hn).1
theorem BUp.no {k : Knd} {t : Dt} {E : List Ent} {i : Nat} {bs : List Nat} {e : Ent} (h : BUp k t E i bs) (he : E[i]? = some e) (hb : ¬ (e.1.bs = true ∧ Mt k e.1 t = true)) : BUp k t E (i + 1) bs := by
  refine ⟨h.1, fun n => ?_⟩
  rw [h.2 n]
  constructor
  · rintro ⟨h1, x⟩
    exact ⟨by omega, x⟩
  · rintro ⟨h1, e', h2, h3⟩
    refine ⟨?_, e', h2, h3⟩
    by_cases z : n = i
    · subst z
      rw [he] at h2
      obtain rfl := Option.some.inj h2
      exact absurd h3 hb
    · omega
theorem BUp.add {k : Knd} {t : Dt} {E : List Ent} {i : Nat} {bs : List Nat} {e : Ent} (h : BUp k t E i bs) (he : E[i]? = some e) (h1 : e.1.bs = true) (h2 : Mt k e.1 t = true) : BUp k t E (i + 1) (bs ++ [i]) := by
  have hn : i ∉ bs := fun hin => by have := ((h.2 i).mp hin).1; omega
  refine ⟨List.nodup_append.mpr ⟨h.1, by simp, fun x hx y hy e' => by
    simp at hy
    rw [e', hy] at hx
    exact hn hx⟩, fun n => ?_⟩
  rw [List.mem_append, List.mem_singleton, h.2 n]
  constructor
  · rintro (⟨z, x⟩ | rfl)
    · exact ⟨by omega, x⟩
    · exact ⟨by omega, e, he, h1, h2⟩
  · rintro ⟨z, x⟩
    by_cases y : n = i
    · exact .inr y
    · exact .inl ⟨by omega, x⟩
theorem BUp.all {k : Knd} {t : Dt} {E : List Ent} {bs : List Nat} (h : BUp k t E E.length bs) : BS k t E bs := ⟨h.1, fun n => by
  rw [h.2 n]
  exact ⟨fun ⟨_, x⟩ => x, fun ⟨e, h1, h2⟩ => ⟨(List.getElem?_eq_some_iff.mp h1).1, e, h1, h2⟩⟩⟩
def spLeafT (K : PySem.W.Frag) : Sp := fun vs H Q _ => ∃ (kv : V) (F : Addr) (a : Int) (k : Knd) (E : List Ent), vs = [kv, .ref F, .int a] ∧ Is K H kv (Knd.dt k) ∧ k.length ≤ 1000 ∧ PcsOk K H F E ∧
  ∀ (H' : Hp) (v : V) (ts : List Nat), Same H H' → Is K H' v (ctD ts) → TS k (.int a) E ts → Q v H'
theorem ok_leaf_told {k : Nat} (T : Tx w K mg) (c_like_leaves : Cal P w K mg base k "like_leaves" (spLv K)) (c_put_together : Cal P w K mg base k "put_together" (spPut2 K)) : Cal P w K mg base (k + 1) "leaf_told" (spLeafT K) := by
  refine Tx.cal T.f_leaf_told T.g_leaf_told T.b_leaf_told sc_leaf_told ?_ ?_
  · rintro vs H Q E ⟨kv, F, a, k, E', rfl, _⟩
    rfl
  · rintro cdv A outer s0 H vs Q Ex hr ⟨kv, F, a0, kd, E, rfl, hkv, hk1, po, q⟩
    refine ⟨_, (pss_cons (ps_set (i := 3) sc_leaf_told.nd rfl (by first | exact Or.inl rfl | exact Or.inr rfl) (pe_lst pa_nil)) (pss_cons (ps_for PassesOwn.never rfl (pi_enum (by rfl) T.z_enumerate (pa_cons (pv 1) pa_nil)) (pgTup K (n := 2) rfl (pgs_cons (pg_name (i := 4) sc_leaf_told.nd rfl (by first | exact Or.inl rfl | exact Or.inr rfl)) (pgs_cons (pgTup K (n := 2) rfl (pgs_cons (pg_name (i := 5) sc_leaf_told.nd rfl (by first | exact Or.inl rfl | exact Or.inr rfl)) (pgs_cons (pg_name (i := 6) sc_leaf_told.nd rfl (by first | exact Or.inl rfl | exact Or.inr rfl)) pgs_nil))) pgs_nil))) (pss_one (ps_if (pw_and (pt_cmpR op_eq (pe_ix (ixD K) (pv 5) pe_int (fun _ _ => rfl)) pe_str (nomark _)) (pw_and (pt_not (pt_val (pe_callB (isD K "tuple" (by simp)) (by rfl) T.z_isinstance PyProof.Rows.boot_isinstance (pa_cons (pe_ix (ixD K) (pv 5) pe_int (fun _ _ => rfl)) (pa_cons (pe_bltn (v := .ty "tuple") (by rfl) T.z_tuple boot_tuple rfl) pa_nil))))) (pw_and1 (pt_val (pe_c c_like_leaves hr (Nat.le_refl _) (by rfl) (pa_cons (pv 0) (pa_cons (pv 2) (pa_cons (pe_ix (ixD K) (pv 5) pe_int (fun _ _ => rfl)) pa_nil)))))))).pt (pss_one (ps_expr (pe_bm PySem.F.plainAttrs_list PySem.F.slot_list_append PySem.F.type_list_append mt_append (pv 3) (pa_cons (pv 4) pa_nil)))) pss_nil))) (pss_one (ps_ret (pe_c c_put_together hr (Nat.le_refl _) (by rfl) (pa_cons (pv 1) (pa_cons (pv 3) pa_nil))))))), ?_⟩
    refine ⟨by decide, fun L nL => ?_⟩
    have s1 : Same H (upd H L (.lst [])) := Sm.new nL
    obtain ⟨xs, hF, hxl, hxe⟩ := po.pc.ex
    refine ⟨_, rfl, F, xs, rfl, .of (s1 _ _ hF), ?_⟩
    refine for_it (walk_enum (xs := xs)) (fun i σ H' => Same H H' ∧ (∃ bs, H' L = some (.lst (nI bs)) ∧ BUp kd (.int a0) E i bs) ∧ ∃ o1 o2 o3, σ = [some kv, some (.ref F), some (.int a0), some (.ref L), o1, o2, o3]) ?_ ?_ ?_ ?_
    · exact ⟨s1, ⟨[], upd_same, .zero ..⟩, none, none, none, rfl⟩
    · rintro i σ H2 _ ⟨s2, _⟩
      exact .of (s2 _ _ hF)
    · rintro i x σ H2 H3 hi ⟨s2, ⟨bs, hL, bu⟩, o1, o2, o3, rfl⟩ ⟨T1, x1, y1, rfl, nT, rfl, e1, e2⟩
      obtain rfl := Option.some.inj e1
      have hiE : i < E.length := by omega
      obtain ⟨⟨p, ks, kr⟩, hE⟩ : ∃ e, E[i]? = some e := ⟨_, List.getElem?_eq_getElem hiE⟩
      obtain ⟨a, pv, g1, g2, g3, g4⟩ := hxe i _ hE
      obtain ⟨ok, ⟨pl, nn⟩, dp, hkl, hkid⟩ := po.loc i p ks kr (Nat.zero_le _) hE
      have e2 : xs[i]? = some y1 := e2
      rw [g1] at e2
      obtain rfl := Option.some.inj e2
      have s3 : Same H2 (upd H2 T1 (.tup [.int (i : Nat), .ref a])) := Sm.new nT
      have s13 := s2.trans s3
      have hT1 : SqT K (upd H2 T1 (.tup [.int (i : Nat), .ref a])) T1 [.int (i : Nat), .ref a] := .of upd_same
      have hL3 := s3 _ _ hL
      generalize upd H2 T1 (.tup [.int (i : Nat), .ref a]) = H3 at *
      obtain ⟨l, el, l0, ll1, ll3⟩ := p.dt_len
      have hp3 := g3.sm s13
      have hp3' := hp3
      rw [el] at hp3'
      have hbl := bu.len
      have h40 := po.len
      have hnl : (nI bs).length < sizeLine := lt_line (by rw [nI_len]; omega)
      have hif : ∀ n, Mt kd (.row n) (.int a0) = false := fun n => Mt_row_int kd n a0
      refine ⟨T1, _, rfl, hT1, rfl, _, _, rfl, _, _, rfl, a, _, rfl, sq_up s13 g2, rfl, _, _, rfl, _, _, rfl, rfl, rfl, ?_⟩
      refine ⟨_, rfl, _, 0, _, hp3', rfl, l0, fun v0 h0 => ?_⟩
      rw [h0.strD]
      refine ⟨rfl, _, rfl, ?_⟩
      rw [word_is]
      cases p with
      | is_ d =>
        obtain rfl := Dt.tup.inj el
        refine iY rfl ⟨_, rfl, _, 1, _, hp3', rfl, rfl, fun v1 h1 => ⟨_, _, rfl, h1, ?_⟩⟩
        have hdg : d.good := by simpa only [Pt.ok] using ok
        cases d with
        | str x =>
          have := hdg.thg
          simp [Dt.thg] at this
        | tup dl =>
          rw [isT_tup]
          refine ⟨_, rfl, iN rfl (iN rfl ⟨s13, ⟨bs, hL3, bu.no hE fun h => ?_⟩, _, _, _, rfl⟩)⟩
          have := h.2
          rw [Mt_is] at this
          simp [likeD] at this
        | int c =>
          rw [isT_int]
          refine ⟨_, rfl, iY rfl ⟨_, rfl, _, rfl, _, rfl, _, 1, _, hp3', rfl, rfl, fun v2 h2 => ?_⟩⟩
          obtain rfl := h2.intD
          refine ⟨kv, a0, c, kd, rfl, hkv.sm s13, hk1, fun H4 s4 => ⟨_, rfl, ?_⟩⟩
          have hm : Mt kd (.is_ (.int c)) (.int a0) = likeD kd (.int a0) (.int c) := by rw [Mt_is, likeD_comm]
          have s14 := s13.trans s4
          have hL4 := s4 _ _ hL3
          cases e : likeD kd (.int a0) (.int c) with
          | true =>
            refine iY rfl ⟨_, rfl, .inl ⟨rfl, _, .of hL4⟩, _, rfl, L, _, _, rfl, rfl, hL4, hnl, Sm.put s14 nL, ⟨bs ++ [i], by rw [upd_same]; simp [nI], bu.add hE rfl (by rw [hm]; exact e)⟩, _, _, _, rfl⟩
          | false =>
            exact iN rfl ⟨s14, ⟨bs, hL4, bu.no hE fun h => by rw [hm, e] at h; cases h.2⟩, _, _, _, rfl⟩
      | any => exact iN rfl (iN rfl ⟨s13, ⟨bs, hL3, bu.no hE fun h => by cases h.1⟩, _, _, _, rfl⟩)
      | two b p q => exact iN rfl (iN rfl ⟨s13, ⟨bs, hL3, bu.no hE fun h => by cases h.1⟩, _, _, _, rfl⟩)
      | lone w p =>
        refine iN rfl (iN rfl ⟨s13, ⟨bs, hL3, bu.no hE fun h => ?_⟩, _, _, _, rfl⟩)
        cases w with
        | nt => cases h.1
        | first => cases h.1
        | all =>
          have := h.2
          rw [Mt_all_int] at this
          cases this
      | row s => exact iN rfl (iN rfl ⟨s13, ⟨bs, hL3, bu.no hE fun h => by rw [hif] at h; cases h.2⟩, _, _, _, rfl⟩)
    · rintro σ H2 ⟨s2, ⟨bs, hL, bu⟩, o1, o2, o3, rfl⟩
      rw [hxl] at bu
      refine ⟨_, rfl, _, rfl, F, L, E, bs, kd, .int a0, rfl, po.pc.sm s2, po.loc, po.len, hL, bu.all, fun H3 v ts s3 hv hts => ?_⟩
      exact q H3 v ts (s2.trans s3) hv hts
def spRowT (K : PySem.W.Frag) : Sp := fun vs H Q _ => ∃ (F : Addr) (v : V) (k : Knd) (E : List Ent) (l : List Dt) (rs : List (List Nat)), vs = [.ref F, v] ∧ PcsOk K H F E ∧ Is K H v (rdD rs) ∧ Rdg k E l rs ∧
  ∀ (H' : Hp) (v : V) (ts : List Nat), Same H H' → Is K H' v (ctD ts) → TS k (.tup l) E ts → Q v H'
theorem ok_row_told {k : Nat} (T : Tx w K mg) (c_is_by_reading : Cal P w K mg base k "is_by_reading" (spBR K)) (c_items_of : Cal P w K mg base k "items_of" (spItm K)) (c_put_together : Cal P w K mg base k "put_together" (spPut2 K)) : Cal P w K mg base (k + 1) "row_told" (spRowT K) := by
  refine Tx.cal T.f_row_told T.g_row_told T.b_row_told sc_row_told ?_ ?_
  · rintro vs H Q E ⟨F, v, k, E', l, rs, rfl, _⟩
    rfl
  · rintro cdv A outer s0 H vs Q Ex hr ⟨F, v, kd, E, ls, rs, rfl, po, hv, rg, q⟩
    refine ⟨_, (pss_cons (ps_set (i := 2) sc_row_told.nd rfl (by first | exact Or.inl rfl | exact Or.inr rfl) (pe_lst pa_nil)) (pss_cons (ps_set (i := 3) sc_row_told.nd rfl (by first | exact Or.inl rfl | exact Or.inr rfl) pe_int) (pss_cons (ps_for PassesOwn.never rfl (pi_enum (by rfl) T.z_enumerate (pa_cons (pv 0) pa_nil)) (pgTup K (n := 2) rfl (pgs_cons (pg_name (i := 4) sc_row_told.nd rfl (by first | exact Or.inl rfl | exact Or.inr rfl)) (pgs_cons (pgTup K (n := 2) rfl (pgs_cons (pg_name (i := 5) sc_row_told.nd rfl (by first | exact Or.inl rfl | exact Or.inr rfl)) (pgs_cons (pg_name (i := 6) sc_row_told.nd rfl (by first | exact Or.inl rfl | exact Or.inr rfl)) pgs_nil))) pgs_nil))) (pss_one (ps_if (pt_val (pe_c c_is_by_reading hr (Nat.le_refl _) (by rfl) (pa_cons (pv 5) pa_nil))) (pss_cons (ps_set (i := 7) sc_row_told.nd rfl (by first | exact Or.inl rfl | exact Or.inr rfl) (pe_ifExp (pt_cmpR op_eq (pe_ix (ixD K) (pv 5) pe_int (fun _ _ => rfl)) pe_str (nomark _)) pe_int (pe_callB call_len_seq (by rfl) T.z_len boot_len (pa_cons (pe_c c_items_of hr (Nat.le_refl _) (by rfl) (pa_cons (pv 0) (pa_cons (pv 4) pa_nil))) pa_nil)))) (pss_cons (ps_if (pt_cmpR (inT K) (pv 7) (pe_ix (ixD K) (pv 1) (pv 3) (fun _ _ => rfl)) (by rfl)) (pss_one (ps_expr (pe_bm PySem.F.plainAttrs_list PySem.F.slot_list_append PySem.F.type_list_append mt_append (pv 2) (pa_cons (pv 4) pa_nil)))) pss_nil) (pss_one (ps_aug (i := 3) sc_row_told.nd rfl (by first | exact Or.inl rfl | exact Or.inr rfl) pe_int in_add)))) pss_nil))) (pss_one (ps_ret (pe_c c_put_together hr (Nat.le_refl _) (by rfl) (pa_cons (pv 0) (pa_cons (pv 2) pa_nil)))))))), ?_⟩
    refine ⟨by decide, fun L nL => ?_⟩
    have s1 : Same H (upd H L (.lst [])) := Sm.new nL
    obtain ⟨xs, hF, hxl, hxe⟩ := po.pc.ex
    refine ⟨_, rfl, F, xs, rfl, .of (s1 _ _ hF), ?_⟩
    refine for_it (walk_enum (xs := xs)) (fun i σ H' => Same H H' ∧ (∃ bs, H' L = some (.lst (nI bs)) ∧ BUp kd (.tup ls) E i bs) ∧ ∃ o1 o2 o3 o4, σ = [some (.ref F), some v, some (.ref L), some (.int (cRd E i : Nat)), o1, o2, o3, o4]) ?_ ?_ ?_ ?_
    · exact ⟨s1, ⟨[], upd_same, .zero ..⟩, none, none, none, none, rfl⟩
    · rintro i σ H2 _ ⟨s2, _⟩
      exact .of (s2 _ _ hF)
    · rintro i x σ H2 H3 hi ⟨s2, ⟨bs, hL, bu⟩, o1, o2, o3, o4, rfl⟩ ⟨T1, x1, y1, rfl, nT, rfl, e1, e2⟩
      obtain rfl := Option.some.inj e1
      have hiE : i < E.length := by omega
      obtain ⟨⟨p, ks, kr⟩, hE⟩ : ∃ e, E[i]? = some e := ⟨_, List.getElem?_eq_getElem hiE⟩
      obtain ⟨a, pv, g1, g2, g3, g4⟩ := hxe i _ hE
      obtain ⟨ok, ⟨pl, nn⟩, dp, hkl, hkid⟩ := po.loc i p ks kr (Nat.zero_le _) hE
      have e2 : xs[i]? = some y1 := e2
      rw [g1] at e2
      obtain rfl := Option.some.inj e2
      have s3 : Same H2 (upd H2 T1 (.tup [.int (i : Nat), .ref a])) := Sm.new nT
      have s13 := s2.trans s3
      have hT1 : SqT K (upd H2 T1 (.tup [.int (i : Nat), .ref a])) T1 [.int (i : Nat), .ref a] := .of upd_same
      have hL3 := s3 _ _ hL
      generalize upd H2 T1 (.tup [.int (i : Nat), .ref a]) = H3 at *
      obtain ⟨l, el, l0, ll1, ll3⟩ := p.dt_len
      have hp3 := g3.sm s13
      have hp3' := hp3
      rw [el] at hp3'
      have hbl := bu.len
      have h40 := po.len
      have hcs := cRd_succ hE
      have hnl : (nI bs).length < sizeLine := lt_line (by rw [nI_len]; omega)
      refine ⟨T1, _, rfl, hT1, rfl, _, _, rfl, _, _, rfl, a, _, rfl, sq_up s13 g2, rfl, _, _, rfl, _, _, rfl, rfl, rfl, ?_⟩
      refine ⟨_, rfl, _, p, rfl, hp3, ok, fun H4 s4 => ⟨_, rfl, ?_⟩⟩
      have s14 := s13.trans s4
      have hL4 := s4 _ _ hL3
      have hp4 := hp3'.sm s4
      cases hrd : p.rd with
      | false =>
        have hm : ¬ (p.bs = true ∧ Mt kd p (.tup ls) = true) := by
          rintro ⟨h1, h2⟩
          cases p with
          | any => cases h1
          | two b p q => cases h1
          | row s => cases hrd
          | lone w p =>
            cases w with
            | nt => cases h1
            | first => cases h1
            | all => cases hrd
          | is_ d =>
            cases d with
            | tup d => cases hrd
            | int c =>
              rw [Mt_is] at h2
              simp [likeD] at h2
            | str c =>
              rw [Mt_is] at h2
              simp [likeD] at h2
        refine iN rfl ⟨s14, ⟨bs, hL4, bu.no hE hm⟩, some (.int (i : Nat)), some pv, some (.ref kr), o4, ?_⟩
        rw [hcs, hrd]
        rfl
      | true =>
        obtain ⟨S, hS1, hS2⟩ := rg.at_ i _ hiE hE hrd
        have hmt := rd_mt hS2 hrd pl
        have hbs : p.bs = true := by
          cases p with
          | any => cases hrd
          | two b p q => cases hrd
          | row s => rfl
          | lone w p =>
            cases w with
            | nt => cases hrd
            | first => cases hrd
            | all => rfl
          | is_ d => rfl
        have hc1 : cRd E (i + 1) = cRd E i + 1 := by rw [hcs, hrd]; rfl
        refine iY rfl ?_
        refine seq_gen (fun σ' H' => σ' = [some (.ref F), some v, some (.ref L), some (.int (cRd E i : Nat)), some (.int (i : Nat)), some pv, some (.ref kr), some (.int ((if p.isAll = true then 0 else (p.itm kd).length : Nat) : Int))] ∧ Same H4 H') (fun N hN => ?_) ?_
        · refine ⟨_, rfl, _, 0, _, hp4, rfl, l0, fun v0 h0 => ?_⟩
          rw [h0.strD]
          refine ⟨rfl, _, rfl, ?_⟩
          rw [word_all]
          cases hall : p.isAll with
          | true => exact iY rfl (hN _ _ ⟨by simp [hall], .refl _⟩)
          | false =>
            have hrw : p.rw_ = true := by
              have := p.rd_eq
              rw [hrd, hall] at this
              exact this.symm
            refine iN rfl ⟨_, rfl, _, rfl, F, i, kd, E, p, ks, kr, rfl, po.pc.sm s14, po.loc, hE, hrw, fun H5 a5 cs s5 n5 itl iok => ?_⟩
            obtain ⟨ys, h1, h2⟩ := itl
            refine ⟨a5, ys, rfl, .inl (.of h1), hN _ _ ⟨?_, s5⟩⟩
            rw [h2.1, iok.len]
            simp [hall]
        · rintro σ' H5 ⟨rfl, s5⟩
          have s15 := s14.trans s5
          have hL5 := s5 _ _ hL4
          have hflat : (S.map fun (n : Nat) => Dt.int (n : Int)).all Dt.flat = true := by
            rw [List.all_map, List.all_eq_true]
            intro z _
            rfl
          refine ⟨_, rfl, _, rfl, _, rfl, _, cRd E i, ctD S, hv.sm s15, rfl, by rw [List.getElem?_map, hS1]; rfl, fun v5 h5 => ⟨_, _, .int _, h5, rfl, hflat, _, rfl, ?_⟩⟩
          have e : inTs S ((if p.isAll = true then 0 else (p.itm kd).length : Nat) : Int) = Mt kd p (.tup ls) := by rw [inTs_nat]; exact hmt
          unfold inTs at e
          rw [e]
          cases hM : Mt kd p (.tup ls) with
          | true =>
            refine iY rfl ⟨_, rfl, .inl ⟨rfl, _, .of hL5⟩, _, rfl, L, _, _, rfl, rfl, hL5, hnl, _, rfl, _, _, rfl, rfl, Sm.put s15 nL, ⟨bs ++ [i], by rw [upd_same]; simp [nI], bu.add hE hbs hM⟩, some (.int (i : Nat)), some pv, some (.ref kr), some (.int ((if p.isAll = true then 0 else (p.itm kd).length : Nat) : Int)), ?_⟩
            rw [hc1]
            simp
          | false =>
            refine iN rfl ⟨_, rfl, _, _, rfl, rfl, s15, ⟨bs, hL5, bu.no hE fun h => by rw [hM] at h; cases h.2⟩, some (.int (i : Nat)), some pv, some (.ref kr), some (.int ((if p.isAll = true then 0 else (p.itm kd).length : Nat) : Int)), ?_⟩
            rw [hc1]
            simp
    · rintro σ H2 ⟨s2, ⟨bs, hL, bu⟩, o1, o2, o3, o4, rfl⟩
      rw [hxl] at bu
      refine ⟨_, rfl, _, rfl, F, L, E, bs, kd, .tup ls, rfl, po.pc.sm s2, po.loc, po.len, hL, bu.all, fun H3 v ts s3 hv hts => ?_⟩
      exact q H3 v ts (s2.trans s3) hv hts
end
end Wf
set_option Elab.async false
set_option linter.all false
set_option maxRecDepth 100000
set_option maxHeartbeats 400000
namespace Wf
open PySem PySem.Spec PyProof.Rows L2
section
variable {P : Program} {w : World} {K : PySem.W.Frag} {mg : Str → Option Value} {base : Heap}
structure Fr where
  a : Addr
  t : Dt
  i : Nat
  rs : List (List Nat)
def FrOk (K : PySem.W.Frag) (H : Hp) (f : Fr) : Prop := ∃ tv rv, H f.a = some (.lst [tv, .int (f.i : Nat), rv]) ∧ Is K H tv f.t ∧ Is K H rv (rdD f.rs)
theorem FrOk.to {H H' : Hp} {f : Fr} (u : Up K H H') (e : ∀ o, H f.a = some o → H' f.a = some o) (h : FrOk K H f) : FrOk K H' f := by
  obtain ⟨tv, rv, h1, h2, h3⟩ := h
  exact ⟨tv, rv, e _ h1, h2.up u, h3.up u⟩
def Wait (k : Knd) (E : List Ent) (g : Fr) (c : Dt) : Prop := ∃ l j, g.t = .tup l ∧ g.i = j + 1 ∧ l[j]? = some c ∧ Rdg k E (l.take j) g.rs
def Below (k : Knd) (E : List Ent) (root : Dt) : List Fr → Dt → Prop
  | [], c => c = root
  | g :: r, c => Wait k E g c ∧ Below k E root r g.t
def Top (k : Knd) (E : List Ent) (f : Fr) : Prop := ∀ l, f.t = .tup l → f.i ≤ l.length ∧ Rdg k E (l.take f.i) f.rs
def Fr.rem (f : Fr) : Nat := 1 + 2 * Dt.szs (f.t.kids.drop f.i)
theorem Below.sz {k : Knd} {E : List Ent} {root : Dt} : ∀ {r : List Fr} {c : Dt}, Below k E root r c → r.length + c.sz ≤ root.sz
  | [], c, h => by
    rw [show c = root from h]
    simp
  | g :: r, c, h => by
    obtain ⟨⟨l, j, h1, _, h2, _⟩, h3⟩ := h
    have ih := Below.sz h3
    rw [h1] at ih
    have := Dt.sz_mem (List.mem_of_getElem? h2)
    simp only [Dt.sz] at ih
    simp only [List.length_cons]
    omega
theorem Below.thg {k : Knd} {E : List Ent} {root : Dt} (hr : root.thg = true) : ∀ {r : List Fr} {c : Dt}, Below k E root r c → c.thg = true ∧ ∀ g ∈ r, g.t.thg = true ∧ g.t.sz ≤ root.sz
  | [], c, h => by
    rw [show c = root from h]
    exact ⟨hr, fun g hg => by cases hg⟩
  | g :: r, c, h => by
    have hs := Below.sz h.2
    obtain ⟨⟨l, j, h1, _, h2, _⟩, h3⟩ := h
    obtain ⟨i1, i2⟩ := Below.thg hr h3
    refine ⟨?_, fun x hx => ?_⟩
    · rw [h1] at i1
      simp only [Dt.thg] at i1
      exact (Dt.thgs_iff l).mp i1 c (List.mem_of_getElem? h2)
    · rcases List.mem_cons.mp hx with rfl | hx
      · exact ⟨i1, by omega⟩
      · exact i2 x hx
structure Pile (K : PySem.W.Frag) (H : Hp) (B : Addr) (fs : List Fr) : Prop where
  at_ : H B = some (.lst (fs.reverse.map fun f => V.ref f.a))
  fr : ∀ f ∈ fs, FrOk K H f
  nd : (fs.map Fr.a).Nodup
  nb : B ∉ fs.map Fr.a
theorem Pile.sm {H H' : Hp} {B : Addr} {fs : List Fr} (s : Same H H') (h : Pile K H B fs) : Pile K H' B fs :=
  ⟨s _ _ h.at_, fun f hf => (h.fr f hf).to (.sm s) (s _), h.nd, h.nb⟩
theorem Pile.put {H : Hp} {B : Addr} {A C : List Fr} {g g' : Fr} {xs : List V} {tv rv : V} (h : Pile K H B (A ++ g :: C)) (ha : g'.a = g.a) (hx : xs = [tv, .int (g'.i : Nat), rv]) (h1 : Is K H tv g'.t) (h2 : Is K H rv (rdD g'.rs)) : Pile K (upd H g.a (.lst xs)) B (A ++ g' :: C) := by
  subst hx
  obtain ⟨tv0, rv0, e0, _⟩ := h.fr g (by simp)
  have u : Up K H (upd H g.a (.lst [tv, .int (g'.i : Nat), rv])) := .lst e0
  have hm : (A ++ g' :: C).map Fr.a = (A ++ g :: C).map Fr.a := by simp [ha]
  refine ⟨?_, fun f hf => ?_, by rw [hm]; exact h.nd, by rw [hm]; exact h.nb⟩
  · rw [upd_ne (fun e => h.nb (by rw [e]; simp)), h.at_]
    simp [ha]
  · have hnd := h.nd
    rw [List.map_append, List.map_cons, List.nodup_append, List.nodup_cons] at hnd
    rcases List.mem_append.mp hf with hf | hf
    · refine (h.fr f (by simp [hf])).to u fun o e => ?_
      rw [upd_ne (fun z => hnd.2.2 f.a (List.mem_map.mpr ⟨f, hf, rfl⟩) g.a (List.mem_cons_self ..) z)]
      exact e
    · rcases List.mem_cons.mp hf with rfl | hf
      · exact ⟨tv, rv, by rw [ha, upd_same], h1.up u, h2.up u⟩
      · refine (h.fr f (by simp [hf])).to u fun o e => ?_
        rw [upd_ne (fun z => hnd.2.1.1 (by rw [← z]; exact List.mem_map.mpr ⟨f, hf, rfl⟩))]
        exact e
theorem Pile.push {H : Hp} {B : Addr} {fs : List Fr} {n : Fr} {xs : List V} (h : Pile K H B fs) (hn : FrOk K H n) (h1 : n.a ∉ fs.map Fr.a) (h2 : n.a ≠ B) (hx : xs = fs.reverse.map fun f => V.ref f.a) : Pile K (upd H B (.lst (xs ++ [.ref n.a]))) B (n :: fs) := by
  subst hx
  have u : Up K H (upd H B (.lst ((fs.reverse.map fun f => V.ref f.a) ++ [.ref n.a]))) := .lst h.at_
  refine ⟨by rw [upd_same]; simp, fun f hf => ?_, ?_, ?_⟩
  · rcases List.mem_cons.mp hf with rfl | hf
    · exact hn.to u fun o e => by rw [upd_ne h2]; exact e
    · exact (h.fr f hf).to u fun o e => by rw [upd_ne (fun z => h.nb (by rw [← z]; exact List.mem_map.mpr ⟨f, hf, rfl⟩))]; exact e
  · rw [List.map_cons, List.nodup_cons]
    exact ⟨h1, h.nd⟩
  · rw [List.map_cons]
    intro z
    rcases List.mem_cons.mp z with z | z
    · exact h2 z.symm
    · exact h.nb z
theorem Pile.pop {H : Hp} {B : Addr} {fs : List Fr} {n : Fr} {xs : List V} (h : Pile K H B (n :: fs)) (hx : xs = (n :: fs).reverse.map fun f => V.ref f.a) : Pile K (upd H B (.lst xs.dropLast)) B fs := by
  subst hx
  have u : Up K H (upd H B (.lst ((n :: fs).reverse.map fun f => V.ref f.a).dropLast)) := .lst h.at_
  refine ⟨by rw [upd_same]; simp, fun f hf => ?_, ?_, ?_⟩
  · exact (h.fr f (List.mem_cons_of_mem _ hf)).to u fun o e => by rw [upd_ne (fun z => h.nb (by rw [← z]; exact List.mem_map.mpr ⟨f, List.mem_cons_of_mem _ hf, rfl⟩))]; exact e
  · have := h.nd
    rw [List.map_cons, List.nodup_cons] at this
    exact this.2
  · intro z
    exact h.nb (by rw [List.map_cons]; exact List.mem_cons_of_mem _ z)
def Fr.dt (f : Fr) : PyData := .list [f.t.toP, .int (f.i : Nat), (rdD f.rs).toP]
theorem pile_dp {H : Hp} : ∀ {fs : List Fr}, (∀ f ∈ fs, FrOk K H f) → DpAll K H (fs.map fun f => V.ref f.a) (fs.map Fr.dt)
  | [], _ => .nil
  | f :: fs, h => by
    obtain ⟨tv, rv, h1, h2, h3⟩ := h f (List.mem_cons_self ..)
    exact .cons (.lst (.of h1) (.cons h2.dp (.cons (.int _) (.cons h3.dp .nil)))) (pile_dp fun g hg => h g (List.mem_cons_of_mem _ hg))
theorem rd_sok (rs : List (List Nat)) : (rdD rs).sok = true ∧ (rdD rs).dep ≤ 2 := by
  unfold rdD
  constructor
  · simp only [Dt.sok]
    refine (Dt.soks_iff _).mpr fun d hd => ?_
    obtain ⟨S, _, rfl⟩ := List.mem_map.mp hd
    unfold ctD
    simp only [Dt.sok]
    refine (Dt.soks_iff _).mpr fun d hd => ?_
    obtain ⟨n, _, rfl⟩ := List.mem_map.mp hd
    rfl
  · simp only [Dt.dep]
    have := (Dt.deps_le (rs.map ctD) 1).mpr fun d hd => by
      obtain ⟨S, _, rfl⟩ := List.mem_map.mp hd
      unfold ctD
      simp only [Dt.dep]
      have := (Dt.deps_le (S.map fun (n : Nat) => Dt.int (n : Int)) 0).mpr fun d hd => by
        obtain ⟨n, _, rfl⟩ := List.mem_map.mp hd
        exact Nat.le_refl _
      omega
    omega
theorem pile_lay : ∀ {fs : List Fr}, (∀ f ∈ fs, f.t.thg = true ∧ f.t.sz ≤ 10) → PyData.canLayAll0 (fs.map Fr.dt) = true ∧ PyData.depthAll (fs.map Fr.dt) ≤ 20
  | [], _ => by simp [PyData.canLayAll0, PyData.depthAll]
  | f :: fs, h => by
    obtain ⟨i1, i2⟩ := pile_lay fun g hg => h g (List.mem_cons_of_mem _ hg)
    obtain ⟨h1, h2⟩ := h f (List.mem_cons_self ..)
    obtain ⟨r1, r2⟩ := rd_sok f.rs
    have h3 := Dt.dep_le f.t
    have h4 := Dt.sok_thg _ h1
    constructor
    · simp [PyData.canLayAll0, Fr.dt, PyData.canLay0, i1, Dt.lay, r1, h4]
    · simp only [List.map_cons, PyData.depthAll, Fr.dt, PyData.depth, Dt.depP]
      omega
theorem pile_fit {fs : List Fr} (h : ∀ f ∈ fs, f.t.thg = true ∧ f.t.sz ≤ 10) : SeqAt.shaped (.list (fs.map Fr.dt)) = true := by
  obtain ⟨h1, h2⟩ := pile_lay h
  unfold SeqAt.shaped
  simp only [PyData.canLay0, PyData.depth, h1]
  simp
  omega
theorem dropLast_ref (f : Fr) (r : List Fr) : (f :: r).reverse.map (fun f => V.ref f.a) = (r.reverse.map fun f => V.ref f.a) ++ [.ref f.a] := by simp
def TI (K : PySem.W.Frag) (H : Hp) (kv : V) (F : Addr) (u : V) (B : Addr) (k : Knd) (E : List Ent) (root : Dt) (m : Nat) (σ : L2.St) (H' : Hp) : Prop := ∃ (fs : List Fr) (tv : V) (o : Option V), m = sumN (fs.map Fr.rem) ∧ Same H H' ∧ Pile K H' B fs ∧ (∀ f ∈ fs, H f.a = none) ∧
  (match fs with
    | [] => ∃ ts, Is K H' tv (ctD ts) ∧ TS k root E ts
    | f :: r => Top k E f ∧ Below k E root r f.t) ∧ σ = [some kv, some (.ref F), some u, some (.ref B), some tv, o]
def spToldOf (K : PySem.W.Frag) : Sp := fun vs H Q _ => ∃ (kv : V) (F : Addr) (u : V) (k : Knd) (E : List Ent) (t : Dt), vs = [kv, .ref F, u] ∧ Is K H kv (Knd.dt k) ∧ k.length ≤ 1000 ∧ PcsOk K H F E ∧ Is K H u t ∧ t.thg = true ∧ t.sz ≤ 10 ∧
  ∀ (H' : Hp) (v : V) (ts : List Nat), Same H H' → Is K H' v (ctD ts) → TS k t E ts → Q v H'
theorem ok_told_of {k : Nat} (T : Tx w K mg) (c_begun : Cal P w K mg base k "begun" (spBeg K)) (c_leaf_told : Cal P w K mg base k "leaf_told" (spLeafT K)) (c_row_told : Cal P w K mg base k "row_told" (spRowT K)) (c_read_on : Cal P w K mg base k "read_on" (spRead K)) : Cal P w K mg base (k + 1) "told_of" (spToldOf K) := by
  refine Tx.cal T.f_told_of T.g_told_of T.b_told_of sc_told_of ?_ ?_
  · rintro vs H Q E ⟨kv, F, u, k, E', t, rfl, _⟩
    rfl
  · rintro cdv A outer s0 H vs Q Ex hr ⟨kv, F, u, kd, E, t, rfl, hkv, hk1, po, hu, tg, tz, q⟩
    refine ⟨_, (pss_cons (ps_set (i := 3) sc_told_of.nd rfl (by first | exact Or.inl rfl | exact Or.inr rfl) (pe_lst (pa_cons (pe_lst (pa_cons (pv 2) (pa_cons pe_int (pa_cons (pe_c c_begun hr (Nat.le_refl _) (by rfl) (pa_cons (pv 1) pa_nil)) pa_nil)))) pa_nil))) (pss_cons (ps_set (i := 4) sc_told_of.nd rfl (by first | exact Or.inl rfl | exact Or.inr rfl) (pe_tup pa_nil)) (pss_cons (ps_while PassesOwn.never (pt_cmpR (neN K hr.units) (pv 3) (pe_lst pa_nil) (nomark _)) (pss_cons (ps_set (i := 5) sc_told_of.nd rfl (by first | exact Or.inl rfl | exact Or.inr rfl) (pe_ix (ixL K) (pv 3) (pe_un un_neg pe_int) (fun _ _ => rfl))) (pss_cons (ps_if (pt_not (pt_val (pe_callB (isD K "tuple" (by simp)) (by rfl) T.z_isinstance PyProof.Rows.boot_isinstance (pa_cons (pe_ix (ixL K) (pv 5) pe_int (fun _ _ => rfl)) (pa_cons (pe_bltn (v := .ty "tuple") (by rfl) T.z_tuple boot_tuple rfl) pa_nil))))) (pss_one (ps_set (i := 4) sc_told_of.nd rfl (by first | exact Or.inl rfl | exact Or.inr rfl) (pe_c c_leaf_told hr (Nat.le_refl _) (by rfl) (pa_cons (pv 0) (pa_cons (pv 1) (pa_cons (pe_ix (ixL K) (pv 5) pe_int (fun _ _ => rfl)) pa_nil)))))) (pss_one (ps_if (pt_cmpR op_lt (pe_ix (ixL K) (pv 5) pe_int (fun _ _ => rfl)) (pe_callB (lenD K) (by rfl) T.z_len boot_len (pa_cons (pe_ix (ixL K) (pv 5) pe_int (fun _ _ => rfl)) pa_nil)) (nomark _)) (pss_cons (ps_expr (pe_bm PySem.F.plainAttrs_list PySem.F.slot_list_append PySem.F.type_list_append mt_append (pv 3) (pa_cons (pe_lst (pa_cons (pe_ix (ixD K) (pe_ix (ixL K) (pv 5) pe_int (fun _ _ => rfl)) (pe_ix (ixL K) (pv 5) pe_int (fun _ _ => rfl)) (fun _ _ => rfl)) (pa_cons pe_int (pa_cons (pe_c c_begun hr (Nat.le_refl _) (by rfl) (pa_cons (pv 1) pa_nil)) pa_nil)))) pa_nil))) (pss_cons (ps_augS (pv 5) pe_int get_list pe_int in_add set_list) (pss_one ps_continue))) (pss_one (ps_set (i := 4) sc_told_of.nd rfl (by first | exact Or.inl rfl | exact Or.inr rfl) (pe_c c_row_told hr (Nat.le_refl _) (by rfl) (pa_cons (pv 1) (pa_cons (pe_ix (ixL K) (pv 5) pe_int (fun _ _ => rfl)) pa_nil)))))))) (pss_cons (ps_expr (pe_bm0 PySem.F.plainAttrs_list PySem.F.slot_list_pop PySem.F.type_list_pop mt_pop (pv 3))) (pss_one (ps_if (pt_cmpR (neN K hr.units) (pv 3) (pe_lst pa_nil) (nomark _)) (pss_one (ps_asg (pe_c c_read_on hr (Nat.le_refl _) (by rfl) (pa_cons (pv 1) (pa_cons (pe_ix (ixL K) (pe_ix (ixL K) (pv 3) (pe_un un_neg pe_int) (fun _ _ => rfl)) pe_int (fun _ _ => rfl)) (pa_cons (pv 4) pa_nil)))) (pg_sub (pe_ix (ixL K) (pv 3) (pe_un un_neg pe_int) (fun _ _ => rfl)) pe_int set_list))) pss_nil)))))) (pss_one (ps_ret (pv 4)))))), ?_⟩
    refine ⟨_, rfl, _, rfl, F, kd, E, rfl, po, fun H1 v1 rs1 s1 is1 rg1 => ⟨line3, fun a0 n0 => ⟨line1, fun B nB => ⟨by decide, fun pt npt => ?_⟩⟩⟩⟩
    have s2 : Same H1 (upd H1 a0 (.lst [u, .int 0, v1])) := Sm.new n0
    have s3 : Same (upd H1 a0 (.lst [u, .int 0, v1])) (upd (upd H1 a0 (.lst [u, .int 0, v1])) B (.lst [.ref a0])) := Sm.new nB
    have s4 : Same (upd (upd H1 a0 (.lst [u, .int 0, v1])) B (.lst [.ref a0])) (upd (upd (upd H1 a0 (.lst [u, .int 0, v1])) B (.lst [.ref a0])) pt (.tup [])) := Sm.new npt
    have s13 := s1.trans (s2.trans s3)
    have s14 := s13.trans s4
    have nBH : H B = none := (s1.trans s2).free nB
    have naB : a0 ≠ B := ne_of_none upd_same nB
    refine ⟨TI K H kv F u B kd E t, ⟨_, [⟨a0, t, 0, rs1⟩], .ref pt, none, rfl, s14, ?_, ?_, ?_, rfl⟩, ?_⟩
    · refine ⟨s4 _ _ upd_same, fun f hf => ?_, by simp, by simp [naB.symm]⟩
      rw [List.mem_singleton] at hf
      subst hf
      exact ⟨u, v1, s4 _ _ (s3 _ _ upd_same), hu.sm s14, is1.sm (s2.trans (s3.trans s4))⟩
    · intro f hf
      rw [List.mem_singleton] at hf
      subst hf
      exact s1.free n0
    · exact ⟨fun l _ => ⟨Nat.zero_le _, by rw [List.take_zero]; exact rg1⟩, rfl⟩
    rintro m σ H2 ⟨fs, tv, o, rfl, s5, pi, hnew, hst, rfl⟩
    have hgood : ∀ f ∈ fs, f.t.thg = true ∧ f.t.sz ≤ 10 := fun f hf => by
      cases fs with
      | nil => cases hf
      | cons f0 r =>
        obtain ⟨h1, h2⟩ := Below.thg tg hst.2
        have h3 := Below.sz hst.2
        rcases List.mem_cons.mp hf with rfl | hf
        · exact ⟨h1, by omega⟩
        · have := h2 f hf
          exact ⟨this.1, by omega⟩
    refine ⟨_, rfl, by decide, fun e0 n0 => ?_⟩
    have s6 : Same H2 (upd H2 e0 (.lst [])) := Sm.new n0
    have pi3 := pi.sm s6
    refine ⟨B, e0, _, _, rfl, rfl, .of pi3.at_, .of upd_same, pile_dp (fs := fs.reverse) fun f hf => pi3.fr f (List.mem_reverse.mp hf), pile_fit fun f hf => hgood f (List.mem_reverse.mp hf), _, rfl, ?_⟩
    generalize upd H2 e0 (.lst []) = H3 at *
    have s53 := s5.trans s6
    cases fs with
    | nil =>
      obtain ⟨ts, h1, h2⟩ := hst
      exact iN rfl ⟨_, rfl, q H3 tv ts s53 (h1.sm s6) h2⟩
    | cons f r =>
      obtain ⟨htop, hbel⟩ := hst
      have hsz := Below.sz hbel
      refine iY (by simp) ?_
      refine ⟨fun σ' H' => ∃ m', m' < sumN ((f :: r).map Fr.rem) ∧ TI K H kv F u B kd E t m' σ' H', fun _ _ h => h, ?_⟩
      have hpa := pi3.at_
      rw [dropLast_ref] at hpa
      refine ⟨_, rfl, _, rfl, B, _, _, .ref f.a, rfl, rfl, .of hpa, atI_last _ _, ?_⟩
      obtain ⟨tv0, rv0, hf0, hf1, hf2⟩ := pi3.fr f (List.mem_cons_self ..)
      have po3 := po.sm s53
      dsimp only [gName]
      refine seq_gen (fun σ' H' => ∃ tv' ts, Same H3 H' ∧ Is K H' tv' (ctD ts) ∧ TS kd f.t E ts ∧ σ' = [some kv, some (.ref F), some u, some (.ref B), some tv', some (.ref f.a)]) (fun N hN => ?_) ?_
      · refine ⟨_, rfl, f.a, _, 0, tv0, rfl, rfl, .of hf0, rfl, _, _, rfl, hf1, _, rfl, ?_⟩
        cases ht : f.t with
        | str x =>
          have := (hgood f (List.mem_cons_self ..)).1
          rw [ht] at this
          simp [Dt.thg] at this
        | int c =>
          rw [ht] at hf1
          obtain rfl := hf1.intD
          rw [isT_int]
          refine iY rfl ?_
          refine ⟨_, rfl, _, rfl, _, rfl, f.a, _, 0, _, rfl, rfl, .of hf0, rfl, kv, F, c, kd, E, rfl, hkv.sm s53, hk1, po3, fun H4 v4 ts s7 is4 hts => ?_⟩
          exact hN _ _ ⟨v4, ts, s7, is4, by rw [ht]; exact hts, rfl⟩
        | tup l =>
          rw [ht] at hf1
          rw [isT_tup]
          obtain ⟨hil, hrg⟩ := htop l ht
          refine iN rfl ?_
          refine ⟨_, rfl, f.a, _, 1, _, rfl, rfl, .of hf0, rfl, _, rfl, f.a, _, 0, _, rfl, rfl, .of hf0, rfl, _, l, rfl, hf1, _, _, rfl, rfl, _, rfl, iD (fun e => ?_) fun e => ?_⟩
          · have e := of_decide_eq_true e
            have hi : f.i < l.length := by omega
            obtain ⟨c, hc⟩ : ∃ c, l[f.i]? = some c := ⟨_, List.getElem?_eq_getElem hi⟩
            refine ⟨_, rfl, .inl ⟨rfl, _, .of hpa⟩, _, rfl, f.a, _, 0, _, rfl, rfl, .of hf0, rfl, _, rfl, f.a, _, 1, _, rfl, rfl, .of hf0, rfl, l, f.i, c, hf1, rfl, hc, fun cv hcv => ?_⟩
            refine ⟨_, rfl, F, kd, E, rfl, po3, fun H4 v4 rs4 s7 is4 rg4 => ⟨line3, fun a4 n4 => ?_⟩⟩
            have s8 : Same H4 (upd H4 a4 (.lst [cv, .int 0, v4])) := Sm.new n4
            have s78 := s7.trans s8
            have pi5 := pi3.sm s78
            have hn5 : FrOk K (upd H4 a4 (.lst [cv, .int 0, v4])) ⟨a4, c, 0, rs4⟩ := ⟨cv, v4, upd_same, hcv.sm s78, is4.sm s8⟩
            have n4' : H3 a4 = none := s7.free n4
            have na1 : a4 ∉ (f :: r).map Fr.a := fun z => by
              obtain ⟨g, hg, e⟩ := List.mem_map.mp z
              obtain ⟨_, _, h1, _⟩ := pi3.fr g hg
              rw [e, n4'] at h1
              cases h1
            have na2 : a4 ≠ B := fun z => by rw [z, pi3.at_] at n4'; cases n4'
            refine ⟨B, _, _, rfl, rfl, s78 _ _ hpa, lt_line ?_, ?_⟩
            · simp
              omega
            have pi6 := pi5.push hn5 na1 na2 (dropLast_ref f r).symm
            have nf : f.a ≠ B := fun z => pi3.nb (by rw [← z]; simp)
            have hf6 : (upd (upd H4 a4 (.lst [cv, .int 0, v4])) B (.lst (((r.reverse.map fun (f : Fr) => V.ref f.a) ++ [.ref f.a]) ++ [.ref a4]))) f.a = some (.lst [tv0, .int (f.i : Nat), rv0]) := by rw [upd_ne nf]; exact s78 _ _ hf0
            have u6 : Up K (upd H4 a4 (.lst [cv, .int 0, v4])) (upd (upd H4 a4 (.lst [cv, .int 0, v4])) B (.lst (((r.reverse.map fun (f : Fr) => V.ref f.a) ++ [.ref f.a]) ++ [.ref a4]))) := .lst (s78 _ _ hpa)
            have s6' : Same H (upd (upd H4 a4 (.lst [cv, .int 0, v4])) B (.lst (((r.reverse.map fun (f : Fr) => V.ref f.a) ++ [.ref f.a]) ++ [.ref a4]))) := Sm.put (s53.trans s78) nBH
            generalize upd (upd H4 a4 (.lst [cv, .int 0, v4])) B (.lst (((r.reverse.map fun (f : Fr) => V.ref f.a) ++ [.ref f.a]) ++ [.ref a4])) = H6 at *
            refine ⟨_, rfl, f.a, _, 1, _, rfl, rfl, .of hf6, rfl, _, _, rfl, rfl, f.a, _, 1, 1, rfl, rfl, hf6, rfl, ?_⟩
            have pi7 := Pile.put (A := [⟨a4, c, 0, rs4⟩]) (g := f) (g' := ⟨f.a, f.t, f.i + 1, f.rs⟩) (xs := [tv0, .int ((f.i + 1 : Nat) : Int), rv0]) (tv := tv0) (rv := rv0) pi6 rfl rfl (by rw [ht]; exact (hf1.sm s78).up u6) ((hf2.sm s78).up u6)
            refine ⟨_, ?_, Fr.mk a4 c 0 rs4 :: Fr.mk f.a f.t (f.i + 1) f.rs :: r, tv, _, rfl, Sm.put s6' (hnew f (List.mem_cons_self ..)), pi7, fun g hg => ?_, ⟨fun l' _ => ⟨Nat.zero_le _, by rw [List.take_zero]; exact rg4⟩, ⟨l, f.i, ht, rfl, hc, hrg⟩, hbel⟩, rfl⟩
            · have h1 : Dt.szs (l.drop f.i) = c.sz + Dt.szs (l.drop (f.i + 1)) := by
                rw [List.drop_eq_getElem_cons hi]
                have : l[f.i] = c := by
                  rw [List.getElem?_eq_getElem hi] at hc
                  exact Option.some.inj hc
                rw [this]
                rfl
              have h2 : 1 + 2 * Dt.szs c.kids < 2 * c.sz := by
                have := c.sz_pos
                cases c with
                | int i => simp [Dt.kids, Dt.szs, Dt.sz]
                | str x => simp [Dt.kids, Dt.szs, Dt.sz]
                | tup m => simp only [Dt.kids, Dt.sz]; omega
              have h3 : f.t.kids = l := by rw [ht]; rfl
              simp only [List.map_cons, sumN, Fr.rem, h3, List.drop_zero]
              omega
            · rcases List.mem_cons.mp hg with rfl | hg
              · exact s53.free n4'
              · rcases List.mem_cons.mp hg with rfl | hg
                · exact hnew f (List.mem_cons_self ..)
                · exact hnew g (List.mem_cons_of_mem _ hg)
          · have e := of_decide_eq_false e
            have hi : f.i = l.length := by omega
            rw [hi, List.take_length] at hrg
            refine ⟨_, rfl, _, rfl, f.a, _, 2, _, rfl, rfl, .of hf0, rfl, F, rv0, kd, E, l, f.rs, rfl, po3, hf2, hrg, fun H4 v4 ts s7 is4 hts => ?_⟩
            exact hN _ _ ⟨v4, ts, s7, is4, by rw [ht]; exact hts, rfl⟩
      · rintro σ' H4 ⟨tv', ts, s7, is4, hts, rfl⟩
        have pi4 := pi3.sm s7
        have hpa4 := s7 _ _ hpa
        have s54 := s53.trans s7
        refine ⟨_, rfl, .inl ⟨rfl, _, .of hpa4⟩, B, _, .ref f.a, rfl, rfl, hpa4, by simp, ?_⟩
        have pi5 := pi4.pop (dropLast_ref f r).symm
        have u5 : Up K H4 (upd H4 B (.lst ((r.reverse.map fun (f : Fr) => V.ref f.a) ++ [V.ref f.a]).dropLast)) := .lst hpa4
        have s55 : Same H (upd H4 B (.lst ((r.reverse.map fun (f : Fr) => V.ref f.a) ++ [V.ref f.a]).dropLast)) := Sm.put s54 nBH
        have is5 := is4.up u5
        generalize upd H4 B (.lst ((r.reverse.map fun (f : Fr) => V.ref f.a) ++ [V.ref f.a]).dropLast) = H5 at *
        refine ⟨_, rfl, by decide, fun e5 n5 => ?_⟩
        have s8 : Same H5 (upd H5 e5 (.lst [])) := Sm.new n5
        have pi6 := pi5.sm s8
        refine ⟨B, e5, _, _, rfl, rfl, .of pi6.at_, .of upd_same, pile_dp (fs := r.reverse) fun f hf => pi6.fr f (List.mem_reverse.mp hf), pile_fit fun g hg => hgood g (List.mem_cons_of_mem _ (List.mem_reverse.mp hg)), _, rfl, ?_⟩
        generalize upd H5 e5 (.lst []) = H6 at *
        have s56 := s55.trans s8
        have is6 := is5.sm s8
        cases r with
        | nil =>
          refine iN rfl ⟨_, ?_, [], tv', _, rfl, s56, pi6, (fun g hg => by cases hg), ⟨ts, is6, ?_⟩, rfl⟩
          · simp [sumN, Fr.rem]
            omega
          · rw [← show f.t = t from hbel]
            exact hts
        | cons g r =>
          obtain ⟨⟨l, j, hg1, hg2, hg3, hg4⟩, hbel'⟩ := hbel
          have hpa6 := pi6.at_
          rw [dropLast_ref] at hpa6
          obtain ⟨tv1, rv1, k0, k1, k2⟩ := pi6.fr g (List.mem_cons_self ..)
          refine iY (by simp) ?_
          refine ⟨_, rfl, _, rfl, _, rfl, B, _, _, .ref g.a, rfl, rfl, .of hpa6, atI_last _ _, g.a, _, 2, rv1, rfl, rfl, .of k0, rfl, _, rfl, F, rv1, tv', kd, E, l.take j, f.t, g.rs, ts, rfl, po.sm s56, k2, hg4, is6, hts, fun H7 v7 rs7 s9 is7 rg7 => ?_⟩
          have pi7 := pi6.sm s9
          have s57 := s56.trans s9
          refine ⟨_, rfl, _, rfl, B, _, _, .ref g.a, rfl, rfl, .of (s9 _ _ hpa6), atI_last _ _, g.a, _, 2, 2, rfl, rfl, s9 _ _ k0, rfl, ?_⟩
          have pi8 := Pile.put (A := []) (g := g) (g' := ⟨g.a, g.t, g.i, rs7⟩) (xs := [tv1, .int (g.i : Nat), v7]) (tv := tv1) (rv := v7) pi7 rfl rfl (k1.sm s9) is7
          have hjl := (List.getElem?_eq_some_iff.mp hg3).1
          refine ⟨_, ?_, ⟨g.a, g.t, g.i, rs7⟩ :: r, tv', _, rfl, Sm.put s57 (hnew g (by simp)), pi8, fun x hx => ?_, ⟨fun l' e => ?_, hbel'⟩, rfl⟩
          · simp only [List.map_cons, sumN, Fr.rem]
            omega
          · rcases List.mem_cons.mp hx with rfl | hx
            · exact hnew g (by simp)
            · exact hnew x (by simp [hx])
          · have e' : g.t = .tup l' := e
            rw [hg1] at e'
            obtain rfl := Dt.tup.inj e'
            refine ⟨by show g.i ≤ _; omega, ?_⟩
            show Rdg kd E (l.take g.i) rs7
            rw [hg2, List.take_add_one, hg3]
            exact rg7
end
end Wf
set_option Elab.async false
set_option linter.all false
set_option maxRecDepth 100000
set_option maxHeartbeats 400000
namespace Wf
open PySem PySem.Spec PyProof.Rows L2
section
variable {P : Program} {w : World} {K : PySem.W.Frag} {mg : Str → Option Value} {base : Heap}
def spMatch (K : PySem.W.Frag) : Sp := fun vs H Q _ => ∃ (kv v u : V) (k : Knd) (p : Pt) (t : Dt), vs = [kv, v, u] ∧ Is K H kv (Knd.dt k) ∧ KOk k ∧ Is K H v p.dt ∧ p.ok ∧ (p.pl = true ∧ p.nn = true) ∧ p.dp ≤ 10 ∧ p.nd ≤ 40 ∧ p.pcs ≤ 40 ∧ Is K H u t ∧ t.thg = true ∧ t.sz ≤ 10 ∧
  ∀ H', Same H H' → Q (.bl (Mt k p t)) H'
theorem ok_matches {k : Nat} (T : Tx w K mg) (c_need_by_rows : Cal P w K mg base k "need_by_rows" (spKnd K .non)) (c_need_plain : Cal P w K mg base k "need_plain" (spPt K .non)) (c_need_wide : Cal P w K mg base k "need_wide" (spWide K .non)) (c_told_of : Cal P w K mg base k "told_of" (spToldOf K)) (c_pieces_by : Cal P w K mg base k "pieces_by" (spBy K)) : Cal P w K mg base (k + 1) "matches" (spMatch K) := by
  refine Tx.cal T.f_matches T.g_matches T.b_matches sc_matches ?_ ?_
  · rintro vs H Q E ⟨kv, v, u, k, p, t, rfl, _⟩
    rfl
  · rintro cdv A outer s0 H vs Q Ex hr ⟨kv, v, u, kd, p, t, rfl, hkv, kok, hv, ok, pl, dp, nd, pc, hu, tg, tz, q⟩
    refine ⟨_, (pss_cons (ps_expr (pe_c c_need_by_rows hr (Nat.le_refl _) (by rfl) (pa_cons (pv 0) pa_nil))) (pss_cons (ps_expr (pe_c c_need_plain hr (Nat.le_refl _) (by rfl) (pa_cons (pv 1) pa_nil))) (pss_cons (ps_expr (pe_c c_need_wide hr (Nat.le_refl _) (by rfl) (pa_cons (pv 2) pa_nil))) (pss_one (ps_ret (pe_cmpR (inT K) pe_int (pe_c c_told_of hr (Nat.le_refl _) (by rfl) (pa_cons (pv 0) (pa_cons (pe_c c_pieces_by hr (Nat.le_refl _) (by rfl) (pa_cons (pe_lst (pa_cons (pv 1) pa_nil)) pa_nil)) (pa_cons (pv 2) pa_nil)))) (by rfl))))))), ?_⟩
    refine ⟨_, rfl, kv, kd, rfl, hkv, kok, fun H1 s1 => ?_⟩
    refine ⟨_, rfl, v, p, rfl, hv.sm s1, ok, pl.1, dp, nd, by omega, fun H2 s2 => ?_⟩
    have s12 := s1.trans s2
    refine ⟨_, rfl, u, t, rfl, hu.sm s12, tg, tz, fun H3 s3 => ?_⟩
    have s13 := s12.trans s3
    refine ⟨_, rfl, _, rfl, line1, fun a na => ?_⟩
    have s4 : Same H3 (upd H3 a (.lst [v])) := Sm.new na
    refine ⟨a, v, p, rfl, upd_same, hv.sm (s13.trans s4), ok, pl, dp, by omega, fun H5 F ks kr R s5 nF pcs hR loc => ?_⟩
    have s15 := s13.trans (s4.trans s5)
    refine ⟨_, rfl, kv, F, u, kd, _, t, rfl, hkv.sm s15, by have := kok.len; omega, ⟨pcs, loc, by simp; omega⟩, hu.sm s15, tg, tz, fun H6 v6 ts s6 is6 hts => ?_⟩
    have hflat : (ts.map fun (n : Nat) => Dt.int (n : Int)).all Dt.flat = true := by
      rw [List.all_map, List.all_eq_true]
      intro z _
      rfl
    refine ⟨_, _, .int 0, is6, rfl, hflat, ?_⟩
    have e : inTs ts ((0 : Nat) : Int) = Mt kd p t := by
      rw [inTs_nat]
      cases z : Mt kd p t with
      | true => exact decide_eq_true ((hts.2 0).mpr ⟨_, rfl, z⟩)
      | false =>
        refine decide_eq_false fun hin => ?_
        obtain ⟨e, h1, h2⟩ := (hts.2 0).mp hin
        obtain rfl := Option.some.inj h1
        rw [z] at h2
        cases h2
    refine qB e (q _ (s15.trans s6))
end
end Wf
set_option Elab.async false
set_option linter.all false
set_option maxRecDepth 100000
set_option maxHeartbeats 400000
namespace Wf
open PySem PySem.Spec PyProof.Rows L2
theorem srt_short {X : List (List Nat)} (h : X.length ≤ 1) : srt X = X := by
  match X, h with
  | [], _ => simp [srt]
  | [c], _ => simp [srt]
theorem rn_first (k : Knd) (p : Pt) (t : Dt) (r : Nat) : srt (rn k (.lone .first p) t r) = (srt (rn k p t r)).take 1 ∧ (rn k (.lone .first p) t r).length ≤ 1 := by
  have e : rn k (.lone .first p) t r = (srt (rn k p t r)).take 1 := by rw [rn]
  have hl : (rn k (.lone .first p) t r).length ≤ 1 := by
    rw [e, List.length_take]
    omega
  rw [srt_short hl, e]
  exact ⟨rfl, by rw [List.length_take]; omega⟩
theorem rn_some (k : Knd) (p : Pt) (t : Dt) (r : Nat) : (srt (rn k p t r)).isEmpty = false ↔ ∃ m, wt k p t = some m ∧ m ≤ r := by
  have g := rn_good k p t r
  constructor
  · intro h
    cases e : srt (rn k p t r) with
    | nil => rw [e] at h; cases h
    | cons c Y =>
      obtain ⟨h1, _⟩ := srt_head e
      obtain ⟨a, h2, h3, h4⟩ := g.up c h1
      exact ⟨a, h2, by omega⟩
  · rintro ⟨m, h1, h2⟩
    obtain ⟨c, hc, _⟩ := g.at_ m h1 h2
    cases e : srt (rn k p t r) with
    | nil =>
      rw [srt_nil] at e
      rw [e] at hc
      cases hc
    | cons c Y => rfl
theorem rn_head {k : Knd} {p : Pt} {t : Dt} {r : Nat} {c : List Nat} {Y : List (List Nat)} (h : srt (rn k p t r) = c :: Y) : wt k p t = some c.sum ∧ c.sum ≤ r := by
  have g := rn_good k p t r
  obtain ⟨h1, h2⟩ := srt_head h
  obtain ⟨a, h3, h4, h5⟩ := g.up c h1
  obtain ⟨d, hd, hs⟩ := g.at_ a h3 (by omega)
  have := h2 d hd
  have e : a = c.sum := by omega
  exact ⟨by rw [h3, e], h5⟩
theorem mem_sum {c : List Nat} {x : Nat} (h : x ∈ c) : x ≤ c.sum := by
  induction c with
  | nil => cases h
  | cons y c ih =>
    rw [List.sum_cons]
    rcases List.mem_cons.mp h with rfl | h
    · omega
    · have := ih h
      omega
theorem int_shown {n : Nat} (h : n ≤ 5) : (PyData.shown (.int (n : Int))).length ≤ 3 ∧ PyData.showable (.int (n : Int)) = true := by
  match n, h with
  | 0, _ => exact ⟨by decide +kernel, by decide +kernel⟩
  | 1, _ => exact ⟨by decide +kernel, by decide +kernel⟩
  | 2, _ => exact ⟨by decide +kernel, by decide +kernel⟩
  | 3, _ => exact ⟨by decide +kernel, by decide +kernel⟩
  | 4, _ => exact ⟨by decide +kernel, by decide +kernel⟩
  | 5, _ => exact ⟨by decide +kernel, by decide +kernel⟩
  | n + 6, h => omega
theorem tup_text_len (ts : List Str) : (tupleText ts).length ≤ 3 + piled ts := by
  unfold tupleText
  rw [strLen_append, strLen_append]
  have e1 : ((("(" : String) : Str)).length = 1 := rfl
  have e3 : (((if ts.length == 1 then ",)" else ")" : String) : Str)).length ≤ 2 := by split <;> decide
  rw [e1]
  by_cases h : ts = []
  · subst h
    have : (Str.join (", " : String) []).length = 0 := rfl
    rw [this]
    omega
  · have := join_length_add ts h
    omega
theorem ct_piled : ∀ c : List Nat, (∀ x ∈ c, x ≤ 5) → piled (PyData.shownAll (Dt.toPs (c.map fun (n : Nat) => Dt.int (n : Int)))) ≤ 5 * c.length ∧ PyData.showableAll (Dt.toPs (c.map fun (n : Nat) => Dt.int (n : Int))) = true ∧ PyData.hasDictAll (Dt.toPs (c.map fun (n : Nat) => Dt.int (n : Int))) = false
  | [], _ => ⟨Nat.le_refl _, rfl, rfl⟩
  | n :: c, h => by
    obtain ⟨i1, i2, i3⟩ := ct_piled c fun x hx => h x (List.mem_cons_of_mem _ hx)
    obtain ⟨h1, h2⟩ := int_shown (h n (List.mem_cons_self ..))
    simp only [List.map_cons, Dt.toPs, Dt.toP, PyData.shownAll, PyData.showableAll, PyData.hasDictAll, PyData.hasDict, piled_cons, i2, i3, h2, List.length_cons]
    refine ⟨by omega, rfl, rfl⟩
theorem run_shown {cs : List (List Nat)} (hl : cs.length ≤ 1) (h : ∀ c ∈ cs, c.length ≤ 60 ∧ ∀ x ∈ c, x ≤ 5) :
    (PyData.list (Dt.toPs (cs.map runD))).showable = true ∧ (PyData.list (Dt.toPs (cs.map runD))).hasDict = false ∧ (PyData.list (Dt.toPs (cs.map runD))).depth ≤ 40 ∧ (PyData.list (Dt.toPs (cs.map runD))).shown.length ≤ sizeLine := by
  match cs, hl with
  | [], _ =>
    refine ⟨rfl, rfl, by simp [PyData.depth, PyData.depthAll, Dt.toPs], ?_⟩
    refine Nat.le_trans (m := 100) ?_ (by decide +kernel)
    simp only [List.map_nil, Dt.toPs, PyData.shown, PyData.shownAll]
    rw [listText_nil]
    decide
  | [c], _ =>
    obtain ⟨h1, h2⟩ := h c (List.mem_cons_self ..)
    obtain ⟨i1, i2, i3⟩ := ct_piled c h2
    have d0 : ∀ l : List Nat, PyData.depthAll (Dt.toPs (l.map fun (n : Nat) => Dt.int (n : Int))) = 0 := fun l => by
      induction l with
      | nil => rfl
      | cons n l ih => simp only [List.map_cons, Dt.toPs, PyData.depthAll, ih, Dt.toP, PyData.depth]; rfl
    refine ⟨?_, ?_, ?_, ?_⟩
    · simp only [List.map_cons, List.map_nil, Dt.toPs, runD, ctD, Dt.toP, PyData.showable, PyData.showableAll, i2]
      rfl
    · simp only [List.map_cons, List.map_nil, Dt.toPs, runD, ctD, Dt.toP, PyData.hasDict, PyData.hasDictAll, i3]
      rfl
    · simp only [List.map_cons, List.map_nil, Dt.toPs, runD, ctD, Dt.toP, PyData.depth, PyData.depthAll, d0]
      decide
    · have hx : (PyData.shown (ctD c).toP).length ≤ 400 := by
        simp only [ctD, Dt.toP, PyData.shown]
        have := tup_text_len (PyData.shownAll (Dt.toPs (c.map fun (n : Nat) => Dt.int (n : Int))))
        omega
      have hy : (PyData.shown (Dt.tup []).toP).length ≤ 10 := by
        simp only [Dt.toP, Dt.toPs, PyData.shown, PyData.shownAll]
        have := tup_text_len []
        simp only [piled_nil] at this
        omega
      have hz : (PyData.shown (runD c).toP).length ≤ 450 := by
        have e : PyData.shown (runD c).toP = tupleText [PyData.shown (ctD c).toP, PyData.shown (Dt.tup []).toP] := by
          simp only [runD, Dt.toP, Dt.toPs, PyData.shown, PyData.shownAll]
        rw [e]
        have := tup_text_len [PyData.shown (ctD c).toP, PyData.shown (Dt.tup []).toP]
        simp only [piled_cons, piled_nil] at this
        omega
      refine Nat.le_trans (m := 1000) ?_ (by decide +kernel)
      have e : PyData.shown (.list (Dt.toPs ([c].map runD))) = (("[" : String) : Str) ++ ((if 0 > 0 then ", " else "" : String) : Str) ++ PyData.shown (runD c).toP ++ (("]" : String) : Str) := by
        simp only [List.map_cons, List.map_nil, Dt.toPs, PyData.shown, PyData.shownAll]
        rfl
      rw [e, strLen_append, strLen_append, strLen_append]
      have e1 : ((("[" : String) : Str)).length = 1 := rfl
      have e2 : ((("]" : String) : Str)).length = 1 := rfl
      have e3 : ((((if 0 > 0 then ", " else "" : String)) : Str)).length = 0 := rfl
      omega
theorem runs_fit (X : List (List Nat)) : SeqAt.shaped (.list (Dt.toPs (X.map runD))) = true := by
  have h : ∀ c : List Nat, (runD c).sok = true ∧ (runD c).dep ≤ 3 := fun c => by
    have h1 : (ctD c).sok = true ∧ (ctD c).dep ≤ 1 := by
      unfold ctD
      simp only [Dt.sok, Dt.dep]
      refine ⟨(Dt.soks_iff _).mpr fun d hd => ?_, ?_⟩
      · obtain ⟨n, _, rfl⟩ := List.mem_map.mp hd
        rfl
      · have := (Dt.deps_le (c.map fun (n : Nat) => Dt.int (n : Int)) 0).mpr fun d hd => by
          obtain ⟨n, _, rfl⟩ := List.mem_map.mp hd
          exact Nat.le_refl _
        omega
    unfold runD
    simp only [Dt.sok, Dt.soks, Dt.dep, Dt.deps, h1.1]
    exact ⟨rfl, by have := h1.2; omega⟩
  refine shaped_list ((Dt.soks_iff _).mpr fun d hd => ?_) ((Dt.deps_le _ _).mpr fun d hd => ?_)
  · obtain ⟨c, _, rfl⟩ := List.mem_map.mp hd
    exact (h c).1
  · obtain ⟨c, _, rfl⟩ := List.mem_map.mp hd
    have := (h c).2
    omega
end Wf
set_option Elab.async false
set_option linter.all false
set_option maxRecDepth 100000
set_option maxHeartbeats 400000
namespace Wf
open PySem PySem.Spec PyProof.Rows L2
section
variable {P : Program} {w : World} {K : PySem.W.Frag} {mg : Str → Option Value} {base : Heap}
theorem Kp.sub {S S' : Addr → Prop} {H H1 H2 : Hp} (k : Kp S H1 H2) (h : ∀ b, S b → S' b ∨ H b = none) (k0 : Kp S' H H1) : Kp S' H H2 := fun b o n e => by
  by_cases z : S b
  · rcases h b z with z | z
    · exact absurd z n
    · rw [z] at e
      cases e
  · exact k b o z (k0 b o n e)
structure Callees (P : Program) (w : World) (K : PySem.W.Frag) (mg : Str → Option Value) (base : Heap) (k : Nat) : Prop where
  begun : Cal P w K mg base k "_law_begun" (spBegun K)
  kind : Cal P w K mg base k "_law_kind_by_rows" (spKBR K)
  plain : Cal P w K mg base k "_law_plain" (spPl K)
  nots : Cal P w K mg base k "_law_no_nots" (spNN K 10)
  worth : Cal P w K mg base k "_law_worth" (spWorthL K 3)
  weight : Cal P w K mg base k "_law_weight" (spW K 10)
  matches_ : Cal P w K mg base k "matches" (spMatch K)
  runs : Cal P w K mg base k "_law_runs" (spLawRuns K)
theorem ok_law {k : Nat} (T : Tx w K mg) (h0 : Room (k + 1) callerA) (cs : ∀ base, Callees P w K mg base k) : LawOk P w K mg (He.ga K "law") := by
  intro base s H a ns hl hin hns ha e0
  obtain ⟨c_law_begun, c_law_kind_by_rows, c_law_plain, c_law_no_nots, c_law_worth, c_law_weight, c_matches, c_law_runs⟩ := cs base
  refine enter_at (CX := CX0) (us := [.ref a]) (vs := [.ref a]) T.f_law0 sc_law0 h0 e0 (T.b_law0 s [.ref a] (e0.mod.kin.keeps fun b o y => (e0.bs b o y).1) rfl) (.cons rfl .nil) rfl fun cdv => ?_
  have hr := h0.deeper (envOfC "law" (defScope sLaw0) s.heap.objs.size (He.ga K "law") cdv)
  refine ⟨_, PSs.nox (pss_cons (ps_set (i := 1) sc_law0.nd rfl (by first | exact Or.inl rfl | exact Or.inr rfl) (pe_c c_law_begun hr (Nat.le_refl _) (by rfl) (pa_cons (pv 0) pa_nil))) (pss_cons (ps_for PassesOwn.never rfl (pi_range1 (by rfl) T.z_range (pa_cons (pe_callB (call_min2 rfl) (by rfl) T.z_min boot_min (pa_cons pe_int (pa_cons (pe_op op_add pe_int (pe_callB call_len_seq (by rfl) T.z_len boot_len (pa_cons (pv 0) pa_nil))) pa_nil))) pa_nil)) (pg_name (i := 2) sc_law0.nd rfl (by first | exact Or.inl rfl | exact Or.inr rfl)) (pss_cons (ps_set (i := 3) sc_law0.nd rfl (by first | exact Or.inl rfl | exact Or.inr rfl) (pe_c c_law_kind_by_rows hr (Nat.le_refl _) (by rfl) (pa_cons (pv 1) pa_nil))) (pss_cons (ps_set (i := 4) sc_law0.nd rfl (by first | exact Or.inl rfl | exact Or.inr rfl) (pe_c c_law_no_nots hr (Nat.le_refl _) (by rfl) (pa_cons (pe_c c_law_plain hr (Nat.le_refl _) (by rfl) (pa_cons (pv 1) (pa_cons pe_int (pa_cons (pe_lst (pa_cons pe_int pa_nil)) pa_nil)))) pa_nil))) (pss_cons (ps_set (i := 5) sc_law0.nd rfl (by first | exact Or.inl rfl | exact Or.inr rfl) (pe_c c_law_worth hr (Nat.le_refl _) (by rfl) (pa_cons (pv 1) (pa_cons pe_int (pa_cons (pe_lst (pa_cons pe_int pa_nil)) pa_nil))))) (pss_cons (ps_set (i := 6) sc_law0.nd rfl (by first | exact Or.inl rfl | exact Or.inr rfl) (pe_c c_law_weight hr (Nat.le_refl _) (by rfl) (pa_cons (pv 3) (pa_cons (pv 4) (pa_cons (pv 5) pa_nil))))) (pss_cons (ps_if (pt_cmpR op_ne (pe_cmpR op_notN (pv 6) pe_non (nomark _)) (pe_c c_matches hr (Nat.le_refl _) (by rfl) (pa_cons (pv 3) (pa_cons (pv 4) (pa_cons (pv 5) pa_nil)))) (nomark _)) (pss_one (ps_ret pe_bl)) pss_nil) (pss_one (ps_for PassesOwn.never rfl (pi_tup (pe_tup (pa_cons pe_int (pa_cons pe_int (pa_cons pe_int (pa_cons pe_int pa_nil)))))) (pg_name (i := 7) sc_law0.nd rfl (by first | exact Or.inl rfl | exact Or.inr rfl)) (pss_cons (ps_set (i := 8) sc_law0.nd rfl (by first | exact Or.inl rfl | exact Or.inr rfl) (pe_c c_law_runs hr (Nat.le_refl _) (by rfl) (pa_cons (pv 3) (pa_cons (pv 4) (pa_cons (pv 5) (pa_cons (pv 7) pa_nil)))))) (pss_cons (ps_if (pt_cmpR op_isN (pv 8) pe_non (nomark _)) (pss_one ps_continue) pss_nil) (pss_cons (ps_if (pt_cmpR op_ne (pe_cmpR (neN K hr.units) (pv 8) (pe_lst pa_nil) (nomark _)) (pe_and (pe_cmpR op_notN (pv 6) pe_non (nomark _)) (pe_one (pe_cmpR op_le (pv 6) (pv 7) (nomark _)))) (nomark _)) (pss_one (ps_ret pe_bl)) pss_nil) (pss_cons (ps_if (pw_and (pt_cmpR (neN K hr.units) (pv 8) (pe_lst pa_nil) (nomark _)) (pw_and1 (pt_cmpR op_ne (pe_callB (cr_sumT rfl) (by rfl) T.z_sum boot_sum (pa_cons (pe_ix (ixD K) (pe_ix (ixL K) (pv 8) pe_int (fun _ _ => rfl)) pe_int (fun _ _ => rfl)) pa_nil)) (pv 6) (nomark _)))).pt (pss_one (ps_ret pe_bl)) pss_nil) (pss_cons (ps_if (pt_cmpR (neN K hr.units) (pe_lc (own := [("_law_choices", 9), ("_law_stand", 10)]) rfl sc_law0.nd (pi_list (pv 8)) (blkOk_by (own := [("_law_choices", 9), ("_law_stand", 10)]) (N := ["_law_script", "_law_m", "_law_turn", "_law_kind_here", "_law_pattern", "_law_worth_here", "_law_weight_here", "_law_room", "_law_found", "_law_choices", "_law_stand"]) (sc := defScope sLaw0) (by decide +kernel)) (fun _ _ _ _ _ => (pgTup K (n := 2) rfl (pgs_cons (pg_name (i := 9) sc_law0.nd rfl (by first | exact Or.inl rfl | exact Or.inr rfl)) (pgs_cons (pg_name (i := 10) sc_law0.nd rfl (by first | exact Or.inl rfl | exact Or.inr rfl)) pgs_nil)))) (fun _ _ _ _ _ => (pts_one (pt_cmpR (neT K hr.units) (pv 10) (pe_tup pa_nil) (nomark _)))) (fun _ _ _ _ _ => (pv 10))) (pe_lst pa_nil) (nomark _)) (pss_one (ps_ret pe_bl)) pss_nil) (pss_cons (ps_if (pt_cmpR (eqN K hr.units) (pv 8) (pe_lst pa_nil) (nomark _)) (pss_one ps_continue) pss_nil) (pss_one (ps_if (pt_cmpR op_ne (pe_callB (cr_repr rfl hr.units) (by rfl) T.z_repr boot_repr (pa_cons (pe_c c_law_runs hr (Nat.le_refl _) (by rfl) (pa_cons (pv 3) (pa_cons (pe_tup (pa_cons pe_str (pa_cons (pv 4) pa_nil))) (pa_cons (pv 5) (pa_cons (pv 7) pa_nil))))) pa_nil)) (pe_callB (cr_repr rfl hr.units) (by rfl) T.z_repr boot_repr (pa_cons (pe_slice sl_list (pv 8) po_none (po_some pe_int)) pa_nil)) (nomark _)) (pss_one (ps_ret pe_bl)) pss_nil)))))))))))))))) (pss_one (ps_ret pe_bl)))), ?_⟩
  refine ⟨_, rfl, a, ns, rfl, ha, hl, fun H1 m c l s1 nm nc nl D => ?_⟩
  refine ⟨_, rfl, a, _, rfl, .inl (s1.seq ha), _, _, rfl, rfl, _, _, rfl, _, rfl, ?_, ?_, ?_⟩
  · rw [List.length_map]
    split <;> omega
  · rw [List.length_map]
    split <;> omega
  have hn14 : (if (2 : Int) + ((ns.map V.int).length : Nat) < 14 then (2 : Int) + ((ns.map V.int).length : Nat) else 14).toNat ≤ 14 := by
    split <;> omega
  refine for_it walk_range (fun i σ H' => Drw H' m c l (1100 * i) ∧ ∃ o2 o3 o4 o5 o6 o7 o8 o9 o10, σ = [some (.ref a), some (.ref m), o2, o3, o4, o5, o6, o7, o8, o9, o10]) ?_ ?_ ?_ ?_
  · exact ⟨D, _, _, _, _, _, _, _, _, _, rfl⟩
  · intro i σ H' _ _
    trivial
  · rintro i x σ H2 H2' hi ⟨D2, o2, o3, o4, o5, o6, o7, o8, o9, o10, rfl⟩ ⟨rfl, rfl⟩
    have hi14 : i < 14 := Nat.lt_of_lt_of_le hi hn14
    refine ⟨_, rfl, m, c, l, 1100 * i, rfl, D2, by omega, fun H3 kv k kp3 D3 kok hk3 => ?_⟩
    refine ⟨_, rfl, line1, fun r nr => ?_⟩
    obtain ⟨nD3, csD3, lsD3, gm3, gc3, gl3, _⟩ := id D3.ex
    have rl : r ≠ l := fun e => by rw [e, gl3] at nr; cases nr
    have rc : r ≠ c := fun e => by rw [e, gc3] at nr; cases nr
    have sr : Same H3 (upd H3 r (.lst [.int 8])) := Sm.new nr
    refine ⟨m, c, l, r, 1100 * i + 4, 8, rfl, D3.sm sr, by omega, upd_same, rl, rc, fun H4 v0 p0 kp4 D4 hv0 ok0 pl0 pcs0 dp0 => ?_⟩
    have hk4 := (hk3.sm sr).up (Kp.up ((D3.sm sr).nt3 upd_same) kp4)
    refine ⟨v0, p0, rfl, hv0, ok0, by omega, fun v H5 s5 hv5 => ?_⟩
    have hk5 := hk4.sm s5
    have D5 := D4.sm s5
    have ok := p0.nnp_ok ok0
    have nn := p0.nnp_nn
    have pl := p0.nnp_pl pl0
    have pcs := p0.nnp_pcs
    have dp := p0.nnp_dp
    generalize p0.nnp = p at *
    refine ⟨_, rfl, line1, fun r2 nr2 => ?_⟩
    obtain ⟨nD5, csD5, lsD5, gm5, gc5, gl5, _⟩ := id D5.ex
    have r2l : r2 ≠ l := fun e => by rw [e, gl5] at nr2; cases nr2
    have r2c : r2 ≠ c := fun e => by rw [e, gc5] at nr2; cases nr2
    have sr2 : Same H5 (upd H5 r2 (.lst [.int 6])) := Sm.new nr2
    refine ⟨m, c, l, r2, 1100 * i + 1004, 3, 6, rfl, D5.sm sr2, by omega, upd_same, r2l, r2c, by decide, by decide, by decide, by decide, fun H6 u t kp6 D6 _ tsz hu6 tg tdep => ?_⟩
    have up6 : Up K (upd H5 r2 (.lst [.int 6])) H6 := Kp.up ((D5.sm sr2).nt3 upd_same) kp6
    have hk6 := (hk5.sm sr2).up up6
    have hv6 := (hv5.sm sr2).up up6
    have tgood : t.good := ⟨tg, by omega, by omega⟩
    refine ⟨_, rfl, _, rfl, _, rfl, kv, v, u, k, p, t, rfl, hk6, hv6, ok, nn, by omega, hu6, tgood, fun H7 s7 => ?_⟩
    have hnd := p.nd_le
    have hwl := p.w_le ok
    refine ⟨_, rfl, rfl, _, rfl, _, rfl, _, rfl, kv, v, u, k, p, t, rfl, hk6.sm s7, kok, hv6.sm s7, ok, ⟨pl, nn⟩, by omega, by omega, by omega, hu6.sm s7, tg, by omega, fun H8 s8 => ⟨rfl, _, rfl, ?_⟩⟩
    have s78 := s7.trans s8
    have hk8 := hk6.sm s78
    have hv8 := hv6.sm s78
    have hu8 := hu6.sm s78
    have D8 := D6.sm s78
    refine iN (by
      show (!decide (V.bl (!decide (oV (wt k p t) = V.non)) = V.bl (Mt k p t))) = false
      unfold Mt
      cases wt k p t with
      | none => rfl
      | some n => rfl) ?_
    refine ⟨by decide, fun q nq => ?_⟩
    have sq0 : Same H8 (upd H8 q (.tup [.int 0, .int 1, .int 2, .int 5])) := Sm.new nq
    refine ⟨q, rfl, ⟨_, .of upd_same⟩, ?_⟩
    have il0 : IsAll K (upd H8 q (.tup [.int 0, .int 1, .int 2, .int 5])) [.int 0, .int 1, .int 2, .int 5] [.int ((0 : Nat) : Int), .int ((1 : Nat) : Int), .int ((2 : Nat) : Int), .int ((5 : Nat) : Int)] := .cons (.int _) (.cons (.int _) (.cons (.int _) (.one (.int _))))
    refine for_D (walk_tup (xs := [.int 0, .int 1, .int 2, .int 5])) il0 (fun j σ H' => Same H8 H' ∧ Same (upd H8 q (.tup [.int 0, .int 1, .int 2, .int 5])) H' ∧ ∃ o7 o8 o9 o10, σ = [some (.ref a), some (.ref m), some (.int (0 + (i : Nat))), some kv, some v, some u, some (oV (wt k p t)), o7, o8, o9, o10]) ?_ ?_ ?_ ?_
    · exact ⟨sq0, .refl _, _, _, _, _, rfl⟩
    · rintro j σ H' ⟨_, s9, _⟩
      exact ⟨.of (s9 _ _ upd_same), .sm s9⟩
    · rintro j x d σ H9 hj hx ⟨s9, t9, o7, o8, o9, o10, rfl⟩
      obtain ⟨rm, rfl, hr5⟩ : ∃ rm : Nat, d = .int (rm : Int) ∧ rm ≤ 5 := by
        have := List.mem_of_getElem? hj
        simp only [List.mem_cons, List.not_mem_nil, or_false] at this
        rcases this with rfl | rfl | rfl | rfl
        · exact ⟨0, rfl, by omega⟩
        · exact ⟨1, rfl, by omega⟩
        · exact ⟨2, rfl, by omega⟩
        · exact ⟨5, rfl, by omega⟩
      obtain rfl := hx.intD
      have hk9 := hk8.sm s9
      have hv9 := hv8.sm s9
      have hu9 := hu8.sm s9
      have few := (rn_few (k := k) (p := p) (t := t) (r := rm) ok (by omega) tsz hr5 (by omega)).2
      refine ⟨_, rfl, _, rfl, _, rfl, _, rfl, kv, v, u, k, p, t, rm, rfl, hk9, kok, hv9, ok, nn, by omega, by omega, by omega, hu9, tgood, tsz, hr5, fun hlen H10 L xs s10 nL hL il => ?_, fun _ H10 s10 => ?_⟩
      · refine ⟨_, rfl, rfl, _, rfl, iN rfl ?_⟩
        have hxe : xs.isEmpty = (srt (rn k p t rm)).isEmpty := by
          have := il.len
          rw [List.length_map] at this
          cases hx : xs with
          | nil =>
            rw [hx] at this
            rw [List.length_eq_zero_iff.mp this.symm]
            rfl
          | cons x0 xr =>
            cases hy : srt (rn k p t rm) with
            | nil =>
              rw [hx, hy] at this
              simp at this
            | cons c Y => rfl
        have hsome := rn_some k p t rm
        have hw2 : wt k p t = none ∨ ∃ n, wt k p t = some n := by
          cases wt k p t with
          | none => exact .inl rfl
          | some n => exact .inr ⟨n, rfl⟩
        dsimp only [tNext]
        refine seq_gen (fun σ' H' => σ' = [some (.ref a), some (.ref m), some (.int (0 + (i : Nat))), some kv, some v, some u, some (oV (wt k p t)), some (.int (rm : Nat)), some (.ref L), o9, o10] ∧ Same H10 H') (fun N hN => ?_) ?_
        · refine ⟨_, rfl, by decide, fun e1 n1 => ?_⟩
          have s11 : Same H10 (upd H10 e1 (.lst [])) := Sm.new n1
          refine ⟨L, e1, xs, _, rfl, rfl, .of (s11 _ _ hL), .of upd_same, (il.sm s11).dp, runs_fit _, ?_⟩
          rcases hw2 with hw | ⟨n, hw⟩
          · have he : xs.isEmpty = true := by
              rw [hxe]
              cases e : (srt (rn k p t rm)).isEmpty with
              | true => rfl
              | false =>
                obtain ⟨n, h, _⟩ := hsome.mp e
                rw [hw] at h
                cases h
            refine ⟨_, rfl, rfl, _, rfl, iN (by rw [hw]; rfl) ⟨rfl, _, rfl, iN (by show (!decide (V.bl (!xs.isEmpty) = V.bl false)) = false; rw [he]; rfl) (hN _ _ ⟨rfl, s11⟩)⟩⟩
          · have he : (!xs.isEmpty) = decide ((n : Int) ≤ (rm : Int)) := by
              rw [hxe]
              cases e : (srt (rn k p t rm)).isEmpty with
              | false =>
                obtain ⟨n', h, h2⟩ := hsome.mp e
                rw [hw] at h
                obtain rfl := Option.some.inj h
                exact (decide_eq_true (by omega)).symm
              | true =>
                refine (decide_eq_false fun h => ?_).symm
                have := hsome.mpr ⟨n, hw, by omega⟩
                rw [e] at this
                cases this
            refine ⟨_, rfl, rfl, _, rfl, iY (by rw [hw]; rfl) ⟨_, rfl, _, rfl, (n : Int), _, by rw [hw]; rfl, rfl, rfl, _, rfl, iN (by show (!decide (V.bl (!xs.isEmpty) = V.bl (decide ((n : Int) ≤ (rm : Int))))) = false; rw [he]; simp) (hN _ _ ⟨rfl, s11⟩)⟩⟩
        rintro σ' H11 ⟨rfl, s11⟩
        have hL11 := s11 _ _ hL
        have il11 := il.sm s11
        refine seq_gen (fun σ' H' => σ' = [some (.ref a), some (.ref m), some (.int (0 + (i : Nat))), some kv, some v, some u, some (oV (wt k p t)), some (.int (rm : Nat)), some (.ref L), o9, o10] ∧ Same H11 H') (fun N hN => ?_) ?_
        · refine ⟨_, rfl, by decide, fun e1 n1 => ?_⟩
          have s12 : Same H11 (upd H11 e1 (.lst [])) := Sm.new n1
          refine ⟨L, e1, xs, _, rfl, rfl, .of (s12 _ _ hL11), .of upd_same, (il11.sm s12).dp, runs_fit _, _, rfl, ?_⟩
          cases e : srt (rn k p t rm) with
          | nil =>
            rw [e] at hxe
            exact iN (by show (!xs.isEmpty) = false; rw [hxe]; rfl) (iN rfl (hN _ _ ⟨rfl, s12⟩))
          | cons c Y =>
            rw [e] at hxe il11
            obtain ⟨hwc, _⟩ := rn_head e
            cases il11 with
            | cons hx0 hxr =>
              refine iY (by rfl) ⟨_, rfl, L, _, 0, _, rfl, rfl, .of (s12 _ _ hL11), atI_nat0 (j := 0) rfl, _, 0, _, hx0.sm s12, rfl, rfl, fun v1 h1 => ?_⟩
              obtain ⟨ca, cx, rfl, csq, cil⟩ := Is.tupD h1
              have ecx : cx = (asI c).map V.int := IsAll.ints_eq (by unfold asI; rw [List.map_map]; exact cil)
              rw [ecx] at csq
              refine ⟨ca, asI c, rfl, csq, _, rfl, by rw [hwc]; rfl, _, rfl, iN (by
                show (!decide (V.int (asI c).sum = oV (wt k p t))) = false
                rw [hwc, asI_sum]
                simp [oV]) (hN _ _ ⟨rfl, s12⟩)⟩
        rintro σ' H12 ⟨rfl, s12⟩
        have hL12 := s12 _ _ hL11
        have il12 := il11.sm s12
        refine ⟨_, rfl, L, rfl, ⟨_, .of hL12⟩, fun D1 nD1 => ?_⟩
        refine lc_D (walk_list (xs := xs)) il12 nD1 (fun i H' acc => acc = []) rfl (fun H13 s13 => .of (s13 _ _ hL12)) ?_ ?_
        · rintro j1 x1 d1 H13 acc hj1 s13 hD1 hx1 rfl
          rw [List.getElem?_map] at hj1
          obtain ⟨c, hc, rfl⟩ := Option.map_eq_some_iff.mp hj1
          obtain ⟨ra, cv, sv, rfl, rsq, _, hs⟩ := runD_in hx1
          refine ⟨ra, _, rfl, rsq, rfl, _, _, rfl, _, _, rfl, rfl, rfl, ?_⟩
          refine ⟨_, rfl, by decide, fun e2 n2 => ⟨_, _, hs.sm (Sm.new n2), Is.new n2 .nil, nil_fit, nil_fit, _, rfl, iN rfl ⟨s13.trans (Sm.new n2), [], Sm.new n2 _ _ hD1, rfl⟩⟩⟩
        rintro H13 acc s13 hD1 rfl
        refine ⟨by decide, fun e3 n3 => ?_⟩
        have s14 : Same H13 (upd H13 e3 (.lst [])) := Sm.new n3
        refine ⟨D1, e3, [], [], rfl, rfl, .of (s14 _ _ hD1), .of upd_same, .nil, shaped_nil, _, rfl, iN rfl ?_⟩
        have t14 := s13.trans s14
        have hL14 := t14 _ _ hL12
        have il14 := il12.sm t14
        generalize upd H13 e3 (.lst []) = H14 at *
        dsimp only [tNext]
        refine ⟨_, rfl, by decide, fun e4 n4 => ?_⟩
        have s15 : Same H14 (upd H14 e4 (.lst [])) := Sm.new n4
        have s8_15 : Same H9 (upd H14 e4 (.lst [])) := s10.trans (s11.trans (s12.trans (t14.trans s15)))
        have hL15 := s15 _ _ hL14
        have il15 := il14.sm s15
        refine ⟨L, e4, xs, _, rfl, rfl, .of hL15, .of upd_same, il15.dp, runs_fit _, _, rfl, ?_⟩
        generalize upd H14 e4 (.lst []) = H15 at *
        refine iD (fun e => ⟨s9.trans s8_15, t9.trans s8_15, _, _, _, _, rfl⟩) fun e => ?_
        dsimp only [tNext]
        refine ⟨_, rfl, _, rfl, line2, fun tp ntp => ?_⟩
        have s16 : Same H15 (upd H15 tp (.tup [.str "first", v])) := Sm.new ntp
        have t16 := s8_15.trans s16
        have few1 := rn_first k p t rm
        refine ⟨_, rfl, _, rfl, kv, .ref tp, u, k, .lone .first p, t, rm, rfl, hk9.sm t16, kok, Is.new ntp (.cons (.str _) (.one (hv9.sm s8_15))), by simpa only [Pt.ok] using ok, by simpa only [Pt.nn] using nn, by simp only [Pt.w]; omega, by simp only [Pt.dp]; omega, by simp only [Pt.nd]; omega, hu9.sm t16, tgood, tsz, hr5, fun _ H17 L1 xs1 s17 nL1 hL1 il1 => ?_, fun h => absurd few1.2 (by omega)⟩
        rw [few1.1] at il1
        have sh := run_shown (cs := (srt (rn k p t rm)).take 1) (by rw [List.length_take]; omega) (fun c hc => by
          have hc' := mem_srt.mp (List.mem_of_mem_take hc)
          refine ⟨few c hc', fun y hy => ?_⟩
          obtain ⟨a', _, _, h3⟩ := (rn_good k p t rm).up c hc'
          have := mem_sum hy
          omega)
        refine ⟨L1, .list (Dt.toPs (((srt (rn k p t rm)).take 1).map runD)), rfl, .lst (.of hL1) il1.dp, sh.1, sh.2.1, sh.2.2.1, sh.2.2.2, ?_⟩
        have s1517 := s16.trans s17
        refine ⟨_, rfl, _, rfl, L, xs, rfl, .of (s1517 _ _ hL15), fun p3 n3 => ?_⟩
        have s18 : Same H17 (upd H17 p3 (.lst (cutV xs none (some 1)))) := Sm.new n3
        have ic := (il15.sm (s1517.trans s18)).cut none (some 1)
        have ecut : cutD ((srt (rn k p t rm)).map runD) none (some 1) = ((srt (rn k p t rm)).take 1).map runD := by
          rw [List.map_take]
          exact cutD_take _ 1
        rw [ecut] at ic
        refine ⟨p3, .list (Dt.toPs (((srt (rn k p t rm)).take 1).map runD)), rfl, .lst (.of upd_same) ic.dp, sh.1, sh.2.1, sh.2.2.1, sh.2.2.2, rfl, _, rfl, iN (by
          show (!decide (V.str _ = V.str _)) = false
          simp) ?_⟩
        have t18 := s8_15.trans (s1517.trans s18)
        exact ⟨s9.trans t18, t9.trans t18, _, _, _, _, rfl⟩
      · exact ⟨_, rfl, rfl, _, rfl, iY rfl ⟨s9.trans s10, t9.trans s10, _, _, _, _, rfl⟩⟩
    · rintro σ H9 ⟨s9, t9, o7, o8, o9, o10, rfl⟩
      exact ⟨(D8.sm s9).mono (by omega), _, _, _, _, _, _, _, _, _, rfl⟩
  · rintro σ H2 ⟨D2, o2, o3, o4, o5, o6, o7, o8, o9, o10, rfl⟩
    rfl
end
end Wf
set_option Elab.async false
set_option linter.all false
set_option maxRecDepth 100000
set_option maxHeartbeats 400000
namespace Wf
open PySem PySem.Spec PyProof.Rows L2
section
variable {P : Program} {w : World} {K : PySem.W.Frag} {mg : Str → Option Value} {base : Heap}
theorem callees (T : Tx w K mg) : Callees P w K mg base 101 := by
  have a1 : Cal P w K mg base 1 "is_whole" _ := ok_is_whole T
  have a2 : Cal P w K mg base 2 "is_among" _ := ok_is_among T a1
  have a3 : Cal P w K mg base 3 "is_leaf" _ := ok_is_leaf T a2
  have a9 : Cal P w K mg base 9 "size_within" _ := ok_size T a3 6
  have a10 : Cal P w K mg base 10 "is_worth" _ := ok_is_worth T a9
  have a11 : Cal P w K mg base 11 "is_thing" _ := ok_is_thing T a10
  have a12 : Cal P w K mg base 12 "need_thing" _ := ok_need_thing T a11
  have g1 : Cal P w K mg base 1 "goes_on" _ := ok_goes_on (k := 0) T
  have le13 : Cal P w K mg base 13 "lean" _ := ok_lean T a12 (g1.up (by decide))
  have at2 : Cal P w K mg base 2 "at_place" _ := ok_at_place T g1
  have ah3 : Cal P w K mg base 3 "ahead_of" _ := ok_ahead_of T at2
  have be2 : Cal P w K mg base 2 "behind" _ := ok_behind T g1
  have li2 : Cal P w K mg base 2 "left_in" _ := ok_left_in T g1
  have ri1 : Cal P w K mg base 1 "rises" _ := ok_rises (k := 0) T
  have cl4 : Cal P w K mg base 4 "is_class" _ := ok_is_class T a3 (ri1.up (by decide))
  have ki5 : Cal P w K mg base 5 "is_kind" _ := ok_is_kind T cl4 (ri1.up (by decide))
  have nk6 : Cal P w K mg base 6 "need_kind" _ := ok_need_kind T ki5
  have nr6 : Cal P w K mg base 6 "need_by_rows" _ := ok_need_by_rows T ki5
  have co6 : Cal P w K mg base 6 "canon_of" _ := ok_canon_of (k := 0) T 6
  have al7 : Cal P w K mg base 7 "are_like" _ := ok_are_like T (g1.up (by decide)) co6
  have it1 : Cal P w K mg base 1 "are_items" _ := ok_are_items (k := 0) T
  have hf11 : Cal P w K mg base 11 "has_form" _ := ok_has_form T (it1.up (by decide)) a10
  have wi1 : Cal P w K mg base 1 "within" _ := ok_within (k := 0) T
  have pw21 : Cal P w K mg base 21 "parts_within" _ := ok_parts_within T hf11 (wi1.up (by decide)) 10
  have ip22 : Cal P w K mg base 22 "is_pattern" _ := ok_is_pattern T pw21
  have nf23 : Cal P w K mg base 23 "need_form" _ := ok_need_form T ip22
  have ap11 : Cal P w K mg base 11 "all_parts" _ := ok_all_parts T wi1 10
  have tb12 : Cal P w K mg base 12 "told_by" _ := ok_told_by T ap11
  have au12 : Cal P w K mg base 12 "all_uses" _ := ok_all_uses T ap11
  have uf13 : Cal P w K mg base 13 "uses_fit" _ := ok_uses_fit T au12
  have fb1 : Cal P w K mg base 1 "first_bad" _ := ok_first_bad (k := 0) T
  have nb2 : Cal P w K mg base 2 "need_book" _ := ok_need_book T fb1
  have np24 : Cal P w K mg base 24 "need_pattern" _ := ok_need_pattern T (nb2.up (by decide)) nf23 (uf13.up (by decide)) (tb12.up (by decide))
  have pb1 : Cal P w K mg base 1 "put_behind" _ := ok_put_behind (k := 0) T
  have ml8 : Met P w K mg base 8 (He.ga K "Trying") "alike" _ := ok_alike T al7
  have bw9 : Met P w K mg base 9 (He.ga K "Trying") "by_worth" _ := ok_by_worth T ml8
  have L : Low P w K mg base 9 := ⟨g1.up (by decide), li2.up (by decide), at2.up (by decide), be2.up (by decide), ah3.up (by decide), pb1.up (by decide), bw9⟩
  have fo99 : Met P w K mg base 99 (He.ga K "Trying") "found" _ := ok_founds T L 10 (by decide)
  have bk25 : Cal P w K mg base 25 "need_book_and_kind" _ := ok_need_book_and_kind T np24 (nk6.up (by decide))
  have na26 : Cal P w K mg base 26 "need_asked" _ := ok_need_asked T bk25 (np24.up (by decide)) (a12.up (by decide))
  have nr3 : Cal P w K mg base 3 "need_room" _ := ok_need_room T a2
  have is2 : Cal P w K mg base 2 "is_stand" _ := ok_is_stand T ri1
  have runs := ok_runs (k := 99) (by decide) T (na26.up (by decide)) (is2.up (by decide)) (nr3.up (by decide)) (le13.up (by decide)) fo99
  have lr101 : Cal P w K mg base 101 "_law_runs" _ := ok_law_runs T runs
  have ll6 : Cal P w K mg base 6 "_law_like" _ := ok_law_like (k := 0) T 6
  have lm7 : Cal P w K mg base 7 "_law_matched" _ := ok_law_matched T ll6
  have su1 : Cal P w K mg base 1 "_law_sum" _ := ok_law_sum (k := 0) T
  have ls1 : Cal P w K mg base 1 "_law_least" _ := ok_law_least (k := 0) T
  have we67 : Cal P w K mg base 67 "_law_weight" _ := ok_weights T lm7 (su1.up (by decide)) (ls1.up (by decide)) 10 (by decide)
  have mx1 : Cal P w K mg base 1 "_law_mixed" _ := ok_law_mixed T
  have dr2 : Cal P w K mg base 2 "_law_draw" _ := ok_law_draw T mx1
  have fd1 : Cal P w K mg base 1 "_law_folded" _ := ok_law_folded (k := 0) T
  have bg2 : Cal P w K mg base 2 "_law_begun" _ := ok_law_begun T fd1
  have lf3 : Cal P w K mg base 3 "_law_leaf" _ := ok_law_leaf T dr2
  have wo6 : Cal P w K mg base 6 "_law_worth" _ := ok_law_worth T (dr2.up (by decide)) lf3 3
  have kd3 : Cal P w K mg base 3 "_law_kind" _ := ok_law_kind T dr2
  have kr4 : Cal P w K mg base 4 "_law_kind_by_rows" _ := ok_law_kind_by_rows T kd3
  have pi11 : Cal P w K mg base 11 "_law_plain_in" _ := ok_plains T (dr2.up (by decide)) lf3 4
  have pc13 : Cal P w K mg base 13 "_law_pieces" _ := ok_law_pieces (k := 0) T 13
  have de8 : Cal P w K mg base 8 "_law_depth" _ := ok_law_depth (k := 0) T 8
  have pl14 : Cal P w K mg base 14 "_law_plain" _ := ok_law_plain T (dr2.up (by decide)) (pi11.up (by decide)) pc13 (de8.up (by decide))
  have no10 : Cal P w K mg base 10 "_law_no_nots" _ := ok_law_no_nots (k := 0) T 10
  have ii1 : Cal P w K mg base 1 "is_plain_item" _ := ok_is_plain_item (k := 0) T
  have in2 : Cal P w K mg base 2 "inner_of" _ := ok_inner_of T ii1
  have ip23 : Cal P w K mg base 23 "is_plain" _ := ok_is_plain T ip22 (in2.up (by decide))
  have np24 : Cal P w K mg base 24 "need_plain" _ := ok_need_plain T ip23
  have iw3 : Cal P w K mg base 3 "is_wide" _ := ok_is_wide T a2
  have nw4 : Cal P w K mg base 4 "need_wide" _ := ok_need_wide T iw3
  have br1 : Cal P w K mg base 1 "is_by_reading" _ := ok_is_by_reading (k := 0) T
  have lv1 : Cal P w K mg base 1 "like_leaves" _ := ok_like_leaves (k := 0) T
  have ap17 : Cal P w K mg base 17 "add_pieces" _ := ok_add_pieces T in2 15
  have pb18 : Cal P w K mg base 18 "pieces_by" _ := ok_pieces_by T ap17
  have pt1 : Cal P w K mg base 1 "put_together" _ := ok_put_together (k := 0) T
  have io1 : Cal P w K mg base 1 "items_of" _ := ok_items_of (k := 0) T
  have go1 : Cal P w K mg base 1 "gone_on" _ := ok_gone_on (k := 0) T
  have be2' : Cal P w K mg base 2 "begun" _ := ok_begun T br1 io1 go1
  have sb2 : Cal P w K mg base 2 "spots_behind" _ := ok_spots_behind T go1
  have rd3 : Cal P w K mg base 3 "read_on" _ := ok_read_on T (br1.up (by decide)) (io1.up (by decide)) sb2
  have lt2 : Cal P w K mg base 2 "leaf_told" _ := ok_leaf_told T lv1 pt1
  have rt2 : Cal P w K mg base 2 "row_told" _ := ok_row_told T br1 io1 pt1
  have to4 : Cal P w K mg base 4 "told_of" _ := ok_told_of T (be2'.up (by decide)) (lt2.up (by decide)) (rt2.up (by decide)) rd3
  have ma25 : Cal P w K mg base 25 "matches" _ := ok_matches T (nr6.up (by decide)) np24 (nw4.up (by decide)) (to4.up (by decide)) (pb18.up (by decide))
  exact ⟨bg2.up (by decide), kr4.up (by decide), pl14.up (by decide), no10.up (by decide), wo6.up (by decide), we67.up (by decide), ma25.up (by decide), lr101⟩
theorem law_ok0 (T : Tx w K mg) : LawOk P w K mg (He.ga K "law") := ok_law T ⟨rfl, by decide +kernel, by decide +kernel⟩ fun _ => callees T
end
end Wf
set_option Elab.async false
set_option linter.all false
set_option maxRecDepth 100000
set_option maxHeartbeats 0
namespace Wf
open PySem PySem.Spec PyProof.Rows L2
theorem law_ok {w : World} {K : PySem.W.Frag} {mg : Str → Option Value} {h : Heap} (c : SaysY w K) (X : K.In h) (G : h.Ns mainGlobals mg) {fa : Addr} (e : mg "law" = some (.ref fa)) : LawOk prog0 w K mg fa := by
  have T : Tx w K mg := ⟨c, h, X, G⟩
  have e2 := T.g_law0
  rw [e] at e2
  have e3 : fa = He.ga K "law" := by
    injection e2 with e2
    injection e2 with e2
  rw [e3]
  exact law_ok0 T
end Wf
open PySem PySem.W PySem.Calls PyProof.Rows
theorem PySem.Challenge.cw_waysfold_k65_whole_least_weights_holds : PySem.Challenge.rw_waysfold_k65_whole_least_weights.Holds := by
  w_on; o_law
  refine HandSHeadRun.head_any (r := OpenLaw.row PySem.Challenge.rw_waysfold_k65_whole_least_weights) (q := view (OpenLaw.row PySem.Challenge.rw_waysfold_k65_whole_least_weights).prog [141]) (H := Wf.hk) (ob := Wf.ob) (M := 6000) (loose := Wf.loose) (d := HandSHeadRun.topDef (OpenLaw.row PySem.Challenge.rw_waysfold_k65_whole_least_weights).prog 141) (kwd := []) Wf.ob_eq
    (by kernel_rfl) (fun s => by kernel_rfl) Wf.run (by kernel_rfl) (by kernel_rfl) (by kernel_rfl) (by rfl) (by first | assumption | decide +kernel) (by decide +kernel) ⟨rfl, rfl, rfl, rfl, rfl, by decide +kernel⟩ ?hw ?hc
  case hw => w_witness2
  case hc =>
    refine Att.attach_call (l := PySem.Challenge.rw_waysfold_k65_whole_least_weights) (n := 63) rfl (by kernel_rfl) fun w s0 s1 mg mb fa o pm cd doc a vs ns G Y ho hd hcd hmg hobj hints hlen hg => ?_
    obtain ⟨K, KX, c⟩ := Y
    have hmg2 : mg ("law" : PySem.Str) = some (.ref fa) := by
      have e : (HandSHeadRun.topDef (OpenLaw.row PySem.Challenge.rw_waysfold_k65_whole_least_weights).prog 141).name = ("law" : PySem.Str) := by kernel_rfl
      rw [← e]
      exact hmg
    exact Wf.law_end (Wf.law_ok c KX G.T.g hmg2) KX G.T.g G.T.b G.T.builtins G.T.nolimit hg hobj hints hlen
