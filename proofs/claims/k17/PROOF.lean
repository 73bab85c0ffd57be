import PyProof.Rows.All
import Wide.All
import OpenK.AllK
import Wide.FinOn
import HandS.ForMost
import PySem.Challenge.RW_formwood_k17_whole_by_parting
import KE.KStateDown
import HandS.IsInst
import HandS.More
import HandS.WordsExc
import HandS.Defaults
import HandS.Head0
import HandS.Head1
import HandS.Head2
import HandS.HeadEnd
import HandS.HeadHook1
import HandS.HeadHook2
import HandS.HeadHook3
import HandS.HeadHook4
import KE.KDictKeyed
import HandS.Nested
import HandS.NestedK
import KE.KDictDisplayH
import KE.GoesMore
import HandS.StrMore
import HandS.Style
import HandS.Conv
import HandS.Steps
import KE.KEqNest
import HandS.Dict
import HandS.WordsDict
import HandS.TupAny
import HandS.Text
import HandS.Evl
import HandS.Flow
import HandS.Deep
import HandS.Iter
import HandS.Walk
import HandS.EndTab
import HandS.HeadWalk
import HandS.Call
section PartK17Top
set_option Elab.async false
set_option maxRecDepth 100000
set_option linter.all false
/-! The text by places; each def's names by slots. Printed by gen_head.py. -/
namespace K17
open PySem L2
def topS (i : Nat) : Stmt := PySem.Challenge.pw_formwood_k17_whole_by_parting.main.body.getD i (.Pass ⟨0, 0, 0, 0⟩)
abbrev sIsName : Stmt := topS 20
abbrev sIsShape : Stmt := topS 31
abbrev sIsRule : Stmt := topS 32
abbrev sNeedRules : Stmt := topS 33
abbrev sRowText : Stmt := topS 36
abbrev sRowsWithin : Stmt := topS 39
abbrev sFits : Stmt := topS 40
abbrev sMixed : Stmt := topS 42
abbrev sCellAt : Stmt := topS 43
abbrev sNext : Stmt := topS 44
abbrev sKept : Stmt := topS 45
abbrev sNames : Stmt := topS 46
abbrev sRowBy : Stmt := topS 47
abbrev sShape : Stmt := topS 48
abbrev sRules : Stmt := topS 49
abbrev sShapeMade : Stmt := topS 50
abbrev sFormsMade : Stmt := topS 51
abbrev sNamed : Stmt := topS 52
abbrev sAllShapes : Stmt := topS 53
abbrev sTrees : Stmt := topS 54
abbrev sDue : Stmt := topS 55
abbrev sOfShape : Stmt := topS 56
abbrev sOfRule : Stmt := topS 57
abbrev sJoined : Stmt := topS 58
abbrev sLaw : Stmt := topS 59
abbrev sShapeInner : Stmt := inClass (topS 6) 1
abbrev sShapeTrees : Stmt := inClass (topS 6) 4
abbrev sTreeInit : Stmt := inClass (topS 8) 0
abbrev sTreeTrees : Stmt := inClass (topS 8) 3
abbrev sJoinedInit : Stmt := inClass (topS 9) 0
abbrev sJoinedInner : Stmt := inClass (topS 9) 1
abbrev sSignedInit : Stmt := inClass (topS 12) 0
abbrev sSignedInner : Stmt := inClass (topS 12) 1
abbrev sRuleInit : Stmt := inClass (topS 26) 0
abbrev sShapedInit : Stmt := inClass (topS 27) 0
abbrev sShapedTrees : Stmt := inClass (topS 27) 3
abbrev sRuleLeansOn : Stmt := inClass (topS 26) 2
abbrev sTurnedInit : Stmt := inClass (topS 28) 0
abbrev sRuleTrees : Stmt := inClass (topS 26) 4
abbrev sTurnedLeansOn : Stmt := inClass (topS 28) 2
abbrev sBothInit : Stmt := inClass (topS 29) 0
abbrev sBothLeansOn : Stmt := inClass (topS 29) 2
abbrev sAnyInit : Stmt := inClass (topS 30) 0
abbrev sAnyLeansOn : Stmt := inClass (topS 30) 2
abbrev sFormsInit : Stmt := inClass (topS 34) 0
abbrev sFormsNames : Stmt := inClass (topS 34) 1
abbrev sFormsRule : Stmt := inClass (topS 34) 2
abbrev sMeaningInit : Stmt := inClass (topS 38) 0
abbrev sMeaningIsOf : Stmt := inClass (topS 38) 1
abbrev sMeaningIsBy : Stmt := inClass (topS 38) 2
abbrev sMeaningIsTold : Stmt := inClass (topS 38) 3
abbrev sMeaningEndsOf : Stmt := inClass (topS 38) 4
abbrev nIsName : List Str := ["word"]
abbrev pIsName : List Str := ["word"]
theorem scIsName : FnScope nIsName pIsName (defScope sIsName) := ⟨rfl, rfl, rfl, by decide +kernel, rfl, by decide +kernel, by decide +kernel⟩
abbrev nIsShape : List Str := ["thing", "room", "part"]
abbrev pIsShape : List Str := ["thing", "room"]
theorem scIsShape : FnScope nIsShape pIsShape (defScope sIsShape) := ⟨rfl, rfl, rfl, by decide +kernel, rfl, by decide +kernel, by decide +kernel⟩
abbrev nIsRule : List Str := ["thing", "names", "name"]
abbrev pIsRule : List Str := ["thing", "names"]
theorem scIsRule : FnScope nIsRule pIsRule (defScope sIsRule) := ⟨rfl, rfl, rfl, by decide +kernel, rfl, by decide +kernel, by decide +kernel⟩
abbrev nNeedRules : List Str := ["rules", "names", "many", "at", "rule", "inner", "tree"]
abbrev pNeedRules : List Str := ["rules"]
theorem scNeedRules : FnScope nNeedRules pNeedRules (defScope sNeedRules) := ⟨rfl, rfl, rfl, by decide +kernel, rfl, by decide +kernel, by decide +kernel⟩
abbrev nRowText : List Str := ["row", "texts", "word", "inner"]
abbrev pRowText : List Str := ["row"]
theorem scRowText : FnScope nRowText pRowText (defScope sRowText) := ⟨rfl, rfl, rfl, by decide +kernel, rfl, by decide +kernel, by decide +kernel⟩
abbrev nRowsWithin : List Str := ["row", "found", "waiting", "one", "word", "inner"]
abbrev pRowsWithin : List Str := ["row"]
theorem scRowsWithin : FnScope nRowsWithin pRowsWithin (defScope sRowsWithin) := ⟨rfl, rfl, rfl, by decide +kernel, rfl, by decide +kernel, by decide +kernel⟩
abbrev nFits : List Str := ["forms", "name", "row", "meaning", "one", "other"]
abbrev pFits : List Str := ["forms", "name", "row"]
theorem scFits : FnScope nFits pFits (defScope sFits) := ⟨rfl, rfl, rfl, by decide +kernel, rfl, by decide +kernel, by decide +kernel⟩
abbrev nMixed : List Str := ["_law_cell", "_law_k", "_law_mix"]
abbrev pMixed : List Str := ["_law_cell", "_law_k"]
theorem scMixed : FnScope nMixed pMixed (defScope sMixed) := ⟨rfl, rfl, rfl, by decide +kernel, rfl, by decide +kernel, by decide +kernel⟩
abbrev nCellAt : List Str := ["_law_script", "_law_k", "_law_cell"]
abbrev pCellAt : List Str := ["_law_script", "_law_k"]
theorem scCellAt : FnScope nCellAt pCellAt (defScope sCellAt) := ⟨rfl, rfl, rfl, by decide +kernel, rfl, by decide +kernel, by decide +kernel⟩
abbrev nNext : List Str := ["_law_draw", "_law_size"]
abbrev pNext : List Str := ["_law_draw", "_law_size"]
theorem scNext : FnScope nNext pNext (defScope sNext) := ⟨rfl, rfl, rfl, by decide +kernel, rfl, by decide +kernel, by decide +kernel⟩
abbrev nKept : List Str := []
abbrev pKept : List Str := []
theorem scKept : FnScope nKept pKept (defScope sKept) := ⟨rfl, rfl, rfl, by decide +kernel, rfl, by decide +kernel, by decide +kernel⟩
abbrev nNames : List Str := ["_law_draw", "_law_many", "_law_some", "_law_size", "_law_place", "_law_base", "_law_k", "_law_shift", "_law_like", "_law_alike", "_law_names_here", "_law_word", "_law_turn"]
abbrev pNames : List Str := ["_law_draw", "_law_many"]
theorem scNames : FnScope nNames pNames (defScope sNames) := ⟨rfl, rfl, rfl, by decide +kernel, rfl, by decide +kernel, by decide +kernel⟩
abbrev nRowBy : List Str := ["_law_script", "_law_words", "_law_most", "_law_deep", "_law_pile", "_law_left", "_law_k", "_law_cell", "_law_way", "_law_word", "_law_inner"]
abbrev pRowBy : List Str := ["_law_script", "_law_words", "_law_most", "_law_deep"]
theorem scRowBy : FnScope nRowBy pRowBy (defScope sRowBy) := ⟨rfl, rfl, rfl, by decide +kernel, rfl, by decide +kernel, by decide +kernel⟩
abbrev nShape : List Str := ["_law_draw", "_law_words", "_law_names_here", "_law_deep", "_law_kind", "_law_parts", "_law_k"]
abbrev pShape : List Str := ["_law_draw", "_law_words", "_law_names_here", "_law_deep"]
theorem scShape : FnScope nShape pShape (defScope sShape) := ⟨rfl, rfl, rfl, by decide +kernel, rfl, by decide +kernel, by decide +kernel⟩
abbrev nRules : List Str := ["_law_draw", "_law_words", "_law_many", "_law_names_here", "_law_rules_here", "_law_k", "_law_kind", "_law_ahead"]
abbrev pRules : List Str := ["_law_draw", "_law_words", "_law_many"]
theorem scRules : FnScope nRules pRules (defScope sRules) := ⟨rfl, rfl, rfl, by decide +kernel, rfl, by decide +kernel, by decide +kernel⟩
abbrev nShapeMade : List Str := ["_law_told", "_law_parts", "_law_part"]
abbrev pShapeMade : List Str := ["_law_told"]
theorem scShapeMade : FnScope nShapeMade pShapeMade (defScope sShapeMade) := ⟨rfl, rfl, rfl, by decide +kernel, rfl, by decide +kernel, by decide +kernel⟩
abbrev nFormsMade : List Str := ["_law_rules_here", "_law_found", "_law_rule"]
abbrev pFormsMade : List Str := ["_law_rules_here"]
theorem scFormsMade : FnScope nFormsMade pFormsMade (defScope sFormsMade) := ⟨rfl, rfl, rfl, by decide +kernel, rfl, by decide +kernel, by decide +kernel⟩
abbrev nNamed : List Str := ["_law_told", "_law_more", "_law_taken", "_law_some", "_law_words", "_law_letter", "_law_word"]
abbrev pNamed : List Str := ["_law_told", "_law_more", "_law_taken"]
theorem scNamed : FnScope nNamed pNamed (defScope sNamed) := ⟨rfl, rfl, rfl, by decide +kernel, rfl, by decide +kernel, by decide +kernel⟩
abbrev nAllShapes : List Str := ["_law_told", "_law_found", "_law_part"]
abbrev pAllShapes : List Str := ["_law_told", "_law_found"]
theorem scAllShapes : FnScope nAllShapes pAllShapes (defScope sAllShapes) := ⟨rfl, rfl, rfl, by decide +kernel, rfl, by decide +kernel, by decide +kernel⟩
abbrev nTrees : List Str := ["_law_told", "_law_part"]
abbrev pTrees : List Str := ["_law_told"]
theorem scTrees : FnScope nTrees pTrees (defScope sTrees) := ⟨rfl, rfl, rfl, by decide +kernel, rfl, by decide +kernel, by decide +kernel⟩
abbrev nDue : List Str := ["_law_told", "_law_row", "_law_asked", "_law_part", "_law_rest", "_law_places", "_law_k"]
abbrev pDue : List Str := ["_law_told", "_law_row", "_law_asked"]
theorem scDue : FnScope nDue pDue (defScope sDue) := ⟨rfl, rfl, rfl, by decide +kernel, rfl, by decide +kernel, by decide +kernel⟩
abbrev nOfShape : List Str := ["_law_draw", "_law_rules_here", "_law_words", "_law_shape_here", "_law_deep", "_law_word", "_law_rule", "_law_one", "_law_found", "_law_part", "_law_k"]
abbrev pOfShape : List Str := ["_law_draw", "_law_rules_here", "_law_words", "_law_shape_here", "_law_deep"]
theorem scOfShape : FnScope nOfShape pOfShape (defScope sOfShape) := ⟨rfl, rfl, rfl, by decide +kernel, rfl, by decide +kernel, by decide +kernel⟩
abbrev nOfRule : List Str := ["_law_draw", "_law_rules_here", "_law_words", "_law_rule", "_law_deep", "_law_name", "_law_one"]
abbrev pOfRule : List Str := ["_law_draw", "_law_rules_here", "_law_words", "_law_rule", "_law_deep"]
theorem scOfRule : FnScope nOfRule pOfRule (defScope sOfRule) := ⟨rfl, rfl, rfl, by decide +kernel, rfl, by decide +kernel, by decide +kernel⟩
abbrev nJoined : List Str := ["_law_forms", "_law_rules_here", "_law_row", "_law_rule", "_law_found", "_law_truths", "_law_one"]
abbrev pJoined : List Str := ["_law_forms", "_law_rules_here", "_law_row"]
theorem scJoined : FnScope nJoined pJoined (defScope sJoined) := ⟨rfl, rfl, rfl, by decide +kernel, rfl, by decide +kernel, by decide +kernel⟩
abbrev nLaw : List Str := ["_law_script", "_law_draw", "_law_words", "_law_rules_here", "_law_row", "_law_shapes", "_law_left", "_law_rule", "_law_some", "_law_told", "_law_more", "_law_taken", "_law_forms", "_law_asked"]
abbrev pLaw : List Str := ["_law_script"]
theorem scLaw : FnScope nLaw pLaw (defScope sLaw) := ⟨rfl, rfl, rfl, by decide +kernel, rfl, by decide +kernel, by decide +kernel⟩
abbrev nShapeInner : List Str := ["self"]
abbrev pShapeInner : List Str := ["self"]
theorem scShapeInner : FnScope nShapeInner pShapeInner (defScope sShapeInner) := ⟨rfl, rfl, rfl, by decide +kernel, rfl, by decide +kernel, by decide +kernel⟩
abbrev nShapeTrees : List Str := ["self", "found", "shape"]
abbrev pShapeTrees : List Str := ["self"]
theorem scShapeTrees : FnScope nShapeTrees pShapeTrees (defScope sShapeTrees) := ⟨rfl, rfl, rfl, by decide +kernel, rfl, by decide +kernel, by decide +kernel⟩
abbrev nTreeInit : List Str := ["self", "word", "name"]
abbrev pTreeInit : List Str := ["self", "word", "name"]
theorem scTreeInit : FnScope nTreeInit pTreeInit (defScope sTreeInit) := ⟨rfl, rfl, rfl, by decide +kernel, rfl, by decide +kernel, by decide +kernel⟩
abbrev nTreeTrees : List Str := ["self"]
abbrev pTreeTrees : List Str := ["self"]
theorem scTreeTrees : FnScope nTreeTrees pTreeTrees (defScope sTreeTrees) := ⟨rfl, rfl, rfl, by decide +kernel, rfl, by decide +kernel, by decide +kernel⟩
abbrev nJoinedInit : List Str := ["self", "parts"]
abbrev pJoinedInit : List Str := ["self", "parts"]
theorem scJoinedInit : FnScope nJoinedInit pJoinedInit (defScope sJoinedInit) := ⟨rfl, rfl, rfl, by decide +kernel, rfl, by decide +kernel, by decide +kernel⟩
abbrev nJoinedInner : List Str := ["self"]
abbrev pJoinedInner : List Str := ["self"]
theorem scJoinedInner : FnScope nJoinedInner pJoinedInner (defScope sJoinedInner) := ⟨rfl, rfl, rfl, by decide +kernel, rfl, by decide +kernel, by decide +kernel⟩
abbrev nSignedInit : List Str := ["self", "part"]
abbrev pSignedInit : List Str := ["self", "part"]
theorem scSignedInit : FnScope nSignedInit pSignedInit (defScope sSignedInit) := ⟨rfl, rfl, rfl, by decide +kernel, rfl, by decide +kernel, by decide +kernel⟩
abbrev nSignedInner : List Str := ["self"]
abbrev pSignedInner : List Str := ["self"]
theorem scSignedInner : FnScope nSignedInner pSignedInner (defScope sSignedInner) := ⟨rfl, rfl, rfl, by decide +kernel, rfl, by decide +kernel, by decide +kernel⟩
abbrev nRuleInit : List Str := ["self", "name"]
abbrev pRuleInit : List Str := ["self", "name"]
theorem scRuleInit : FnScope nRuleInit pRuleInit (defScope sRuleInit) := ⟨rfl, rfl, rfl, by decide +kernel, rfl, by decide +kernel, by decide +kernel⟩
abbrev nShapedInit : List Str := ["self", "name", "shape"]
abbrev pShapedInit : List Str := ["self", "name", "shape"]
theorem scShapedInit : FnScope nShapedInit pShapedInit (defScope sShapedInit) := ⟨rfl, rfl, rfl, by decide +kernel, rfl, by decide +kernel, by decide +kernel⟩
abbrev nShapedTrees : List Str := ["self"]
abbrev pShapedTrees : List Str := ["self"]
theorem scShapedTrees : FnScope nShapedTrees pShapedTrees (defScope sShapedTrees) := ⟨rfl, rfl, rfl, by decide +kernel, rfl, by decide +kernel, by decide +kernel⟩
abbrev nRuleLeansOn : List Str := ["self"]
abbrev pRuleLeansOn : List Str := ["self"]
theorem scRuleLeansOn : FnScope nRuleLeansOn pRuleLeansOn (defScope sRuleLeansOn) := ⟨rfl, rfl, rfl, by decide +kernel, rfl, by decide +kernel, by decide +kernel⟩
abbrev nTurnedInit : List Str := ["self", "name", "one"]
abbrev pTurnedInit : List Str := ["self", "name", "one"]
theorem scTurnedInit : FnScope nTurnedInit pTurnedInit (defScope sTurnedInit) := ⟨rfl, rfl, rfl, by decide +kernel, rfl, by decide +kernel, by decide +kernel⟩
abbrev nRuleTrees : List Str := ["self"]
abbrev pRuleTrees : List Str := ["self"]
theorem scRuleTrees : FnScope nRuleTrees pRuleTrees (defScope sRuleTrees) := ⟨rfl, rfl, rfl, by decide +kernel, rfl, by decide +kernel, by decide +kernel⟩
abbrev nTurnedLeansOn : List Str := ["self"]
abbrev pTurnedLeansOn : List Str := ["self"]
theorem scTurnedLeansOn : FnScope nTurnedLeansOn pTurnedLeansOn (defScope sTurnedLeansOn) := ⟨rfl, rfl, rfl, by decide +kernel, rfl, by decide +kernel, by decide +kernel⟩
abbrev nBothInit : List Str := ["self", "name", "one", "other"]
abbrev pBothInit : List Str := ["self", "name", "one", "other"]
theorem scBothInit : FnScope nBothInit pBothInit (defScope sBothInit) := ⟨rfl, rfl, rfl, by decide +kernel, rfl, by decide +kernel, by decide +kernel⟩
abbrev nBothLeansOn : List Str := ["self"]
abbrev pBothLeansOn : List Str := ["self"]
theorem scBothLeansOn : FnScope nBothLeansOn pBothLeansOn (defScope sBothLeansOn) := ⟨rfl, rfl, rfl, by decide +kernel, rfl, by decide +kernel, by decide +kernel⟩
abbrev nAnyInit : List Str := ["self", "name", "one", "other"]
abbrev pAnyInit : List Str := ["self", "name", "one", "other"]
theorem scAnyInit : FnScope nAnyInit pAnyInit (defScope sAnyInit) := ⟨rfl, rfl, rfl, by decide +kernel, rfl, by decide +kernel, by decide +kernel⟩
abbrev nAnyLeansOn : List Str := ["self"]
abbrev pAnyLeansOn : List Str := ["self"]
theorem scAnyLeansOn : FnScope nAnyLeansOn pAnyLeansOn (defScope sAnyLeansOn) := ⟨rfl, rfl, rfl, by decide +kernel, rfl, by decide +kernel, by decide +kernel⟩
abbrev nFormsInit : List Str := ["self", "rules"]
abbrev pFormsInit : List Str := ["self", "rules"]
theorem scFormsInit : FnScope nFormsInit pFormsInit (defScope sFormsInit) := ⟨rfl, rfl, rfl, by decide +kernel, rfl, by decide +kernel, by decide +kernel⟩
abbrev nFormsNames : List Str := ["self", "rule"]
abbrev pFormsNames : List Str := ["self"]
theorem scFormsNames : FnScope nFormsNames pFormsNames (defScope sFormsNames) := ⟨rfl, rfl, rfl, by decide +kernel, rfl, by decide +kernel, by decide +kernel⟩
abbrev nFormsRule : List Str := ["self", "name", "rule"]
abbrev pFormsRule : List Str := ["self", "name"]
theorem scFormsRule : FnScope nFormsRule pFormsRule (defScope sFormsRule) := ⟨rfl, rfl, rfl, by decide +kernel, rfl, by decide +kernel, by decide +kernel⟩
abbrev nMeaningInit : List Str := ["self", "forms"]
abbrev pMeaningInit : List Str := ["self", "forms"]
theorem scMeaningInit : FnScope nMeaningInit pMeaningInit (defScope sMeaningInit) := ⟨rfl, rfl, rfl, by decide +kernel, rfl, by decide +kernel, by decide +kernel⟩
abbrev nMeaningIsOf : List Str := ["self", "name", "row", "key"]
abbrev pMeaningIsOf : List Str := ["self", "name", "row"]
theorem scMeaningIsOf : FnScope nMeaningIsOf pMeaningIsOf (defScope sMeaningIsOf) := ⟨rfl, rfl, rfl, by decide +kernel, rfl, by decide +kernel, by decide +kernel⟩
abbrev nMeaningIsBy : List Str := ["self", "rule", "row"]
abbrev pMeaningIsBy : List Str := ["self", "rule", "row"]
theorem scMeaningIsBy : FnScope nMeaningIsBy pMeaningIsBy (defScope sMeaningIsBy) := ⟨rfl, rfl, rfl, by decide +kernel, rfl, by decide +kernel, by decide +kernel⟩
abbrev nMeaningIsTold : List Str := ["self", "shape", "tree"]
abbrev pMeaningIsTold : List Str := ["self", "shape", "tree"]
theorem scMeaningIsTold : FnScope nMeaningIsTold pMeaningIsTold (defScope sMeaningIsTold) := ⟨rfl, rfl, rfl, by decide +kernel, rfl, by decide +kernel, by decide +kernel⟩
abbrev nMeaningEndsOf : List Str := ["self", "shape", "row", "begins", "at", "part", "found", "fresh", "more"]
abbrev pMeaningEndsOf : List Str := ["self", "shape", "row", "begins"]
theorem scMeaningEndsOf : FnScope nMeaningEndsOf pMeaningEndsOf (defScope sMeaningEndsOf) := ⟨rfl, rfl, rfl, by decide +kernel, rfl, by decide +kernel, by decide +kernel⟩
end K17
end PartK17Top
section PartK17Head
set_option Elab.async false
set_option linter.all false
set_option maxRecDepth 100000
set_option maxHeartbeats 0
/-! What the top leaves, by one kernel run. Printed by gen_head.py. -/
namespace K17
open PySem PySem.Spec PyProof.Rows L2
def dIsName : He.DefD := ⟨("is_name", none), "is_name", "is_name", defArgs sIsName, defBody sIsName, defScope sIsName, [], []⟩
def dIsShape : He.DefD := ⟨("is_shape", none), "is_shape", "is_shape", defArgs sIsShape, defBody sIsShape, defScope sIsShape, [], []⟩
def dIsRule : He.DefD := ⟨("is_rule", none), "is_rule", "is_rule", defArgs sIsRule, defBody sIsRule, defScope sIsRule, [], []⟩
def dNeedRules : He.DefD := ⟨("need_rules", none), "need_rules", "need_rules", defArgs sNeedRules, defBody sNeedRules, defScope sNeedRules, [], []⟩
def dRowText : He.DefD := ⟨("row_text", none), "row_text", "row_text", defArgs sRowText, defBody sRowText, defScope sRowText, [], []⟩
def dRowsWithin : He.DefD := ⟨("rows_within", none), "rows_within", "rows_within", defArgs sRowsWithin, defBody sRowsWithin, defScope sRowsWithin, [], []⟩
def dFits : He.DefD := ⟨("fits", none), "fits", "fits", defArgs sFits, defBody sFits, defScope sFits, [], []⟩
def dMixed : He.DefD := ⟨("_law_mixed", none), "_law_mixed", "_law_mixed", defArgs sMixed, defBody sMixed, defScope sMixed, [], []⟩
def dCellAt : He.DefD := ⟨("_law_cell_at", none), "_law_cell_at", "_law_cell_at", defArgs sCellAt, defBody sCellAt, defScope sCellAt, [], []⟩
def dNext : He.DefD := ⟨("_law_next", none), "_law_next", "_law_next", defArgs sNext, defBody sNext, defScope sNext, [], []⟩
def dKept : He.DefD := ⟨("_law_kept", none), "_law_kept", "_law_kept", defArgs sKept, defBody sKept, defScope sKept, [], []⟩
def dNames : He.DefD := ⟨("_law_names", none), "_law_names", "_law_names", defArgs sNames, defBody sNames, defScope sNames, [], []⟩
def dRowBy : He.DefD := ⟨("_law_row_by", none), "_law_row_by", "_law_row_by", defArgs sRowBy, defBody sRowBy, defScope sRowBy, [], []⟩
def dShape : He.DefD := ⟨("_law_shape", none), "_law_shape", "_law_shape", defArgs sShape, defBody sShape, defScope sShape, [], []⟩
def dRules : He.DefD := ⟨("_law_rules", none), "_law_rules", "_law_rules", defArgs sRules, defBody sRules, defScope sRules, [], []⟩
def dShapeMade : He.DefD := ⟨("_law_shape_made", none), "_law_shape_made", "_law_shape_made", defArgs sShapeMade, defBody sShapeMade, defScope sShapeMade, [], []⟩
def dFormsMade : He.DefD := ⟨("_law_forms_made", none), "_law_forms_made", "_law_forms_made", defArgs sFormsMade, defBody sFormsMade, defScope sFormsMade, [], []⟩
def dNamed : He.DefD := ⟨("_law_named", none), "_law_named", "_law_named", defArgs sNamed, defBody sNamed, defScope sNamed, [], []⟩
def dAllShapes : He.DefD := ⟨("_law_all_shapes", none), "_law_all_shapes", "_law_all_shapes", defArgs sAllShapes, defBody sAllShapes, defScope sAllShapes, [], []⟩
def dTrees : He.DefD := ⟨("_law_trees", none), "_law_trees", "_law_trees", defArgs sTrees, defBody sTrees, defScope sTrees, [], []⟩
def dDue : He.DefD := ⟨("_law_due", none), "_law_due", "_law_due", defArgs sDue, defBody sDue, defScope sDue, [], []⟩
def dOfShape : He.DefD := ⟨("_law_of_shape", none), "_law_of_shape", "_law_of_shape", defArgs sOfShape, defBody sOfShape, defScope sOfShape, [], []⟩
def dOfRule : He.DefD := ⟨("_law_of_rule", none), "_law_of_rule", "_law_of_rule", defArgs sOfRule, defBody sOfRule, defScope sOfRule, [], []⟩
def dJoined : He.DefD := ⟨("_law_joined", none), "_law_joined", "_law_joined", defArgs sJoined, defBody sJoined, defScope sJoined, [], []⟩
def dLaw : He.DefD := ⟨("law", none), "law", "law", defArgs sLaw, defBody sLaw, defScope sLaw, [], []⟩
def dNothingInner : He.DefD := ⟨("Nothing", some "inner"), "inner", "Shape.inner", defArgs sShapeInner, defBody sShapeInner, defScope sShapeInner, [], []⟩
def dNothingTrees : He.DefD := ⟨("Nothing", some "trees"), "trees", "Shape.trees", defArgs sShapeTrees, defBody sShapeTrees, defScope sShapeTrees, [], []⟩
def dTreeInit : He.DefD := ⟨("Tree", some "__init__"), "__init__", "Tree.__init__", defArgs sTreeInit, defBody sTreeInit, defScope sTreeInit, [], []⟩
def dTreeTrees : He.DefD := ⟨("Tree", some "trees"), "trees", "Tree.trees", defArgs sTreeTrees, defBody sTreeTrees, defScope sTreeTrees, [], []⟩
def dChainInit : He.DefD := ⟨("Chain", some "__init__"), "__init__", "Joined.__init__", defArgs sJoinedInit, defBody sJoinedInit, defScope sJoinedInit, [], []⟩
def dChainInner : He.DefD := ⟨("Chain", some "inner"), "inner", "Joined.inner", defArgs sJoinedInner, defBody sJoinedInner, defScope sJoinedInner, [], []⟩
def dChainTrees : He.DefD := ⟨("Chain", some "trees"), "trees", "Shape.trees", defArgs sShapeTrees, defBody sShapeTrees, defScope sShapeTrees, [], []⟩
def dEitherInit : He.DefD := ⟨("Either", some "__init__"), "__init__", "Joined.__init__", defArgs sJoinedInit, defBody sJoinedInit, defScope sJoinedInit, [], []⟩
def dEitherInner : He.DefD := ⟨("Either", some "inner"), "inner", "Joined.inner", defArgs sJoinedInner, defBody sJoinedInner, defScope sJoinedInner, [], []⟩
def dEitherTrees : He.DefD := ⟨("Either", some "trees"), "trees", "Shape.trees", defArgs sShapeTrees, defBody sShapeTrees, defScope sShapeTrees, [], []⟩
def dManyInit : He.DefD := ⟨("Many", some "__init__"), "__init__", "Signed.__init__", defArgs sSignedInit, defBody sSignedInit, defScope sSignedInit, [], []⟩
def dManyInner : He.DefD := ⟨("Many", some "inner"), "inner", "Signed.inner", defArgs sSignedInner, defBody sSignedInner, defScope sSignedInner, [], []⟩
def dManyTrees : He.DefD := ⟨("Many", some "trees"), "trees", "Shape.trees", defArgs sShapeTrees, defBody sShapeTrees, defScope sShapeTrees, [], []⟩
def dSomeInit : He.DefD := ⟨("Some", some "__init__"), "__init__", "Signed.__init__", defArgs sSignedInit, defBody sSignedInit, defScope sSignedInit, [], []⟩
def dSomeInner : He.DefD := ⟨("Some", some "inner"), "inner", "Signed.inner", defArgs sSignedInner, defBody sSignedInner, defScope sSignedInner, [], []⟩
def dSomeTrees : He.DefD := ⟨("Some", some "trees"), "trees", "Shape.trees", defArgs sShapeTrees, defBody sShapeTrees, defScope sShapeTrees, [], []⟩
def dMaybeInit : He.DefD := ⟨("Maybe", some "__init__"), "__init__", "Signed.__init__", defArgs sSignedInit, defBody sSignedInit, defScope sSignedInit, [], []⟩
def dMaybeInner : He.DefD := ⟨("Maybe", some "inner"), "inner", "Signed.inner", defArgs sSignedInner, defBody sSignedInner, defScope sSignedInner, [], []⟩
def dMaybeTrees : He.DefD := ⟨("Maybe", some "trees"), "trees", "Shape.trees", defArgs sShapeTrees, defBody sShapeTrees, defScope sShapeTrees, [], []⟩
def dRuleInit : He.DefD := ⟨("Rule", some "__init__"), "__init__", "Rule.__init__", defArgs sRuleInit, defBody sRuleInit, defScope sRuleInit, [], []⟩
def dShapedInit : He.DefD := ⟨("Shaped", some "__init__"), "__init__", "Shaped.__init__", defArgs sShapedInit, defBody sShapedInit, defScope sShapedInit, [], []⟩
def dShapedTrees : He.DefD := ⟨("Shaped", some "trees"), "trees", "Shaped.trees", defArgs sShapedTrees, defBody sShapedTrees, defScope sShapedTrees, [], []⟩
def dShapedLeansOn : He.DefD := ⟨("Shaped", some "leans_on"), "leans_on", "Rule.leans_on", defArgs sRuleLeansOn, defBody sRuleLeansOn, defScope sRuleLeansOn, [], []⟩
def dTurnedInit : He.DefD := ⟨("Turned", some "__init__"), "__init__", "Turned.__init__", defArgs sTurnedInit, defBody sTurnedInit, defScope sTurnedInit, [], []⟩
def dTurnedTrees : He.DefD := ⟨("Turned", some "trees"), "trees", "Rule.trees", defArgs sRuleTrees, defBody sRuleTrees, defScope sRuleTrees, [], []⟩
def dTurnedLeansOn : He.DefD := ⟨("Turned", some "leans_on"), "leans_on", "Turned.leans_on", defArgs sTurnedLeansOn, defBody sTurnedLeansOn, defScope sTurnedLeansOn, [], []⟩
def dBothInit : He.DefD := ⟨("Both", some "__init__"), "__init__", "Both.__init__", defArgs sBothInit, defBody sBothInit, defScope sBothInit, [], []⟩
def dBothTrees : He.DefD := ⟨("Both", some "trees"), "trees", "Rule.trees", defArgs sRuleTrees, defBody sRuleTrees, defScope sRuleTrees, [], []⟩
def dBothLeansOn : He.DefD := ⟨("Both", some "leans_on"), "leans_on", "Both.leans_on", defArgs sBothLeansOn, defBody sBothLeansOn, defScope sBothLeansOn, [], []⟩
def dAnyInit : He.DefD := ⟨("Any", some "__init__"), "__init__", "Any.__init__", defArgs sAnyInit, defBody sAnyInit, defScope sAnyInit, [], []⟩
def dAnyTrees : He.DefD := ⟨("Any", some "trees"), "trees", "Rule.trees", defArgs sRuleTrees, defBody sRuleTrees, defScope sRuleTrees, [], []⟩
def dAnyLeansOn : He.DefD := ⟨("Any", some "leans_on"), "leans_on", "Any.leans_on", defArgs sAnyLeansOn, defBody sAnyLeansOn, defScope sAnyLeansOn, [], []⟩
def dFormsInit : He.DefD := ⟨("Forms", some "__init__"), "__init__", "Forms.__init__", defArgs sFormsInit, defBody sFormsInit, defScope sFormsInit, [], []⟩
def dFormsNames : He.DefD := ⟨("Forms", some "names"), "names", "Forms.names", defArgs sFormsNames, defBody sFormsNames, defScope sFormsNames, [], []⟩
def dFormsRule : He.DefD := ⟨("Forms", some "rule"), "rule", "Forms.rule", defArgs sFormsRule, defBody sFormsRule, defScope sFormsRule, [], []⟩
def dMeaningInit : He.DefD := ⟨("Meaning", some "__init__"), "__init__", "Meaning.__init__", defArgs sMeaningInit, defBody sMeaningInit, defScope sMeaningInit, [], []⟩
def dMeaningIsOf : He.DefD := ⟨("Meaning", some "is_of"), "is_of", "Meaning.is_of", defArgs sMeaningIsOf, defBody sMeaningIsOf, defScope sMeaningIsOf, [], []⟩
def dMeaningIsBy : He.DefD := ⟨("Meaning", some "is_by"), "is_by", "Meaning.is_by", defArgs sMeaningIsBy, defBody sMeaningIsBy, defScope sMeaningIsBy, [], []⟩
def dMeaningIsTold : He.DefD := ⟨("Meaning", some "is_told"), "is_told", "Meaning.is_told", defArgs sMeaningIsTold, defBody sMeaningIsTold, defScope sMeaningIsTold, [], []⟩
def dMeaningEndsOf : He.DefD := ⟨("Meaning", some "ends_of"), "ends_of", "Meaning.ends_of", defArgs sMeaningEndsOf, defBody sMeaningEndsOf, defScope sMeaningEndsOf, [], []⟩
def fn : List He.DefD := [dIsName, dIsShape, dIsRule, dNeedRules, dRowText, dRowsWithin, dFits, dMixed, dCellAt, dNext, dKept, dNames, dRowBy, dShape, dRules, dShapeMade, dFormsMade, dNamed, dAllShapes, dTrees, dDue, dOfShape, dOfRule, dJoined, dLaw, dNothingInner, dNothingTrees, dTreeInit, dTreeTrees, dChainInit, dChainInner, dChainTrees, dEitherInit, dEitherInner, dEitherTrees, dManyInit, dManyInner, dManyTrees, dSomeInit, dSomeInner, dSomeTrees, dMaybeInit, dMaybeInner, dMaybeTrees, dRuleInit, dShapedInit, dShapedTrees, dShapedLeansOn, dTurnedInit, dTurnedTrees, dTurnedLeansOn, dBothInit, dBothTrees, dBothLeansOn, dAnyInit, dAnyTrees, dAnyLeansOn, dFormsInit, dFormsNames, dFormsRule, dMeaningInit, dMeaningIsOf, dMeaningIsBy, dMeaningIsTold, dMeaningEndsOf]
def fa : List He.Fa := ([.glo "is_name", .glo "is_shape", .glo "is_rule", .glo "need_rules", .glo "row_text", .glo "rows_within", .glo "fits", .glo "_law_mixed", .glo "_law_cell_at", .glo "_law_next", .glo "_law_kept", .glo "_law_names", .glo "_law_row_by", .glo "_law_shape", .glo "_law_rules", .glo "_law_shape_made", .glo "_law_forms_made", .glo "_law_named", .glo "_law_all_shapes", .glo "_law_trees"] : List He.Fa) ++ ([.glo "_law_due", .glo "_law_of_shape", .glo "_law_of_rule", .glo "_law_joined", .glo "law", .glo "Nothing", .glo "Tree", .glo "Chain", .glo "Either", .glo "Many", .glo "Some", .glo "Maybe", .glo "Shaped", .glo "Turned", .glo "Both", .glo "Any", .glo "Forms", .glo "Meaning", .glo "Rule", .glo "NoForm"] : List He.Fa) ++ ([.glo "NoName", .free "isinstance", .free "len", .free "tuple", .free "list", .free "range", .free "sorted", .free "sum", .free "all", .free "enumerate", .free "int", .free "str", .int "MOST_LETTERS" 8, .int "MOST_RULES" 12, .int "MOST_DEEP" 6, .int "MOST_IN_A_RULE" 30, .int "MOST_TREES" 40, .str "LETTERS" "abcdefghijklmnopqrstuvwxyz", .cls "Nothing", .keep "Nothing"] : List He.Fa) ++ ([.cls "Tree", .keep "Tree", .noat "Tree" "word", .noat "Tree" "name", .mkr "Tree", .cls "Chain", .keep "Chain", .noat "Chain" "parts", .mkr "Chain", .cls "Either", .keep "Either", .noat "Either" "parts", .mkr "Either", .cls "Many", .keep "Many", .noat "Many" "part", .mkr "Many", .cls "Some", .keep "Some", .noat "Some" "part"] : List He.Fa) ++ ([.mkr "Some", .cls "Maybe", .keep "Maybe", .noat "Maybe" "part", .mkr "Maybe", .cls "Shaped", .keep "Shaped", .noat "Shaped" "name", .noat "Shaped" "shape", .mkr "Shaped", .cls "Turned", .keep "Turned", .noat "Turned" "name", .noat "Turned" "one", .mkr "Turned", .cls "Both", .keep "Both", .noat "Both" "name", .noat "Both" "one", .noat "Both" "other"] : List He.Fa) ++ ([.mkr "Both", .cls "Any", .keep "Any", .noat "Any" "name", .noat "Any" "one", .noat "Any" "other", .mkr "Any", .cls "Forms", .keep "Forms", .noat "Forms" "rules", .mkr "Forms", .cls "Meaning", .keep "Meaning", .noat "Meaning" "forms", .noat "Meaning" "known", .mkr "Meaning", .keep "Rule", .meth "Nothing" "inner", .meth "Nothing" "trees", .meth "Tree" "trees"] : List He.Fa) ++ ([.meth "Chain" "inner", .meth "Chain" "trees", .meth "Either" "inner", .meth "Either" "trees", .meth "Many" "inner", .meth "Many" "trees", .meth "Some" "inner", .meth "Some" "trees", .meth "Maybe" "inner", .meth "Maybe" "trees", .meth "Rule" "__init__", .meth "Shaped" "trees", .meth "Shaped" "leans_on", .meth "Turned" "trees", .meth "Turned" "leans_on", .meth "Both" "trees", .meth "Both" "leans_on", .meth "Any" "trees", .meth "Any" "leans_on", .meth "Forms" "names"] : List He.Fa) ++ ([.meth "Forms" "rule", .meth "Meaning" "is_of", .meth "Meaning" "is_by", .meth "Meaning" "is_told", .meth "Meaning" "ends_of", .glo "KEPT"] : List He.Fa)
def kept : List Str := ["any", "form", "nothing", "not", "and", "or", "turn", "go", "same"]
def insC : List Str := ["Nothing", "Tree", "Chain", "Either", "Many", "Some", "Maybe", "Shaped", "Turned", "Both", "Any"]
def kits : List (Str × Str × Bool) := ([("Nothing", "Nothing", true), ("Nothing", "Tree", false), ("Nothing", "Chain", false), ("Nothing", "Either", false), ("Nothing", "Many", false), ("Nothing", "Some", false), ("Nothing", "Maybe", false), ("Tree", "Nothing", false), ("Tree", "Tree", true), ("Tree", "Chain", false), ("Tree", "Either", false), ("Tree", "Many", false), ("Tree", "Some", false), ("Tree", "Maybe", false), ("Chain", "Nothing", false), ("Chain", "Tree", false), ("Chain", "Chain", true), ("Chain", "Either", false), ("Chain", "Many", false), ("Chain", "Some", false)] : List (Str × Str × Bool)) ++ ([("Chain", "Maybe", false), ("Either", "Nothing", false), ("Either", "Tree", false), ("Either", "Chain", false), ("Either", "Either", true), ("Either", "Many", false), ("Either", "Some", false), ("Either", "Maybe", false), ("Many", "Nothing", false), ("Many", "Tree", false), ("Many", "Chain", false), ("Many", "Either", false), ("Many", "Many", true), ("Many", "Some", false), ("Many", "Maybe", false), ("Some", "Nothing", false), ("Some", "Tree", false), ("Some", "Chain", false), ("Some", "Either", false), ("Some", "Many", false)] : List (Str × Str × Bool)) ++ ([("Some", "Some", true), ("Some", "Maybe", false), ("Maybe", "Nothing", false), ("Maybe", "Tree", false), ("Maybe", "Chain", false), ("Maybe", "Either", false), ("Maybe", "Many", false), ("Maybe", "Some", false), ("Maybe", "Maybe", true), ("Shaped", "Rule", true), ("Shaped", "Shaped", true), ("Shaped", "Turned", false), ("Shaped", "Both", false), ("Turned", "Rule", true), ("Turned", "Shaped", false), ("Turned", "Turned", true), ("Turned", "Both", false), ("Both", "Rule", true), ("Both", "Shaped", false), ("Both", "Turned", false)] : List (Str × Str × Bool)) ++ ([("Both", "Both", true), ("Any", "Rule", true), ("Any", "Shaped", false), ("Any", "Turned", false), ("Any", "Both", false)] : List (Str × Str × Bool))
def as_ : List Addr := ([0, 1, 2, 3, 6, 9, 12, 13, 19, 20, 21, 23, 24, 27, 30, 31, 32, 33, 34, 36, 37, 39, 40, 46, 47, 48, 50, 51, 52, 53] : List Addr) ++ ([55, 56, 59, 62, 63, 64, 65, 67, 68, 70, 71, 77, 78, 79, 84, 85, 86, 91, 92, 93, 96, 97, 98, 103, 104, 105, 110, 111, 112, 117] : List Addr) ++ ([118, 119, 121, 122, 123, 124, 125, 126, 128, 129, 131, 132, 138, 139, 140, 145, 146, 147, 149, 150, 151, 152, 154, 155, 157, 158, 164, 165, 166, 171] : List Addr) ++ ([172, 173, 178, 179, 180, 185, 186, 187, 192, 193, 194, 196, 197, 198, 199, 201, 202, 204, 205, 211, 212, 213, 218, 219, 220, 225, 226, 227, 232, 233] : List Addr) ++ ([234, 237, 238, 239, 241, 242, 243, 244, 246, 247, 249, 250, 256, 257, 258, 263, 264, 265, 267, 268, 269, 270, 272, 273, 275, 276, 282, 283, 284, 289] : List Addr) ++ ([290, 291, 296, 297, 298, 300, 301, 302, 303, 305, 306, 308, 309, 315, 316, 317, 322, 323, 324, 329, 330, 331, 336, 337, 338, 343, 344, 345, 350, 351] : List Addr) ++ ([352, 354, 355, 356, 357, 359, 360, 362, 363, 369, 370, 371, 376, 377, 378, 380, 381, 382, 383, 385, 386, 388, 389, 395, 396, 397, 402, 403, 404, 406] : List Addr) ++ ([407, 408, 409, 411, 412, 414, 415, 421, 422, 423, 428, 429, 430, 432, 433, 434, 435, 441, 442, 443, 445, 446, 448, 449, 455, 456, 457, 462, 463, 464] : List Addr) ++ ([469, 470, 471, 476, 477, 478, 483, 484, 485, 490, 491, 492, 497, 498, 499, 501, 502, 503, 504, 505, 506, 508, 509, 511, 512, 518, 519, 520, 525, 526] : List Addr) ++ ([527, 532, 533, 534, 539, 540, 541, 546, 547, 548, 550, 551, 552, 553, 555, 556, 558, 559, 565, 566, 567, 572, 573, 574, 579, 580, 581, 586, 587, 588] : List Addr) ++ ([590, 591, 592, 593, 595, 596, 598, 599, 605, 606, 607, 612, 613, 614, 619, 620, 621, 626, 627, 628, 630, 631, 632, 633, 635, 636, 638, 639, 645, 646] : List Addr) ++ ([647, 652, 653, 654, 659, 660, 661, 666, 667, 668, 670, 671, 672, 673, 676, 677, 678, 681, 682, 683, 686, 687, 688, 690, 691, 693, 694, 700, 701, 702] : List Addr) ++ ([705, 706, 707, 712, 713, 714, 719, 720, 721, 723, 724, 725, 726, 727, 728, 733, 734, 735, 737, 738, 740, 741, 747, 748, 749, 754, 755, 756, 761, 762] : List Addr) ++ ([763, 768, 769, 770, 773, 774, 775, 777, 778, 779, 780, 781, 782, 785, 786, 787, 792, 793, 794, 799, 800, 801, 806, 807, 808, 813, 814, 815, 820, 821] : List Addr) ++ ([822, 825, 826, 827, 832, 833, 834, 837, 838, 839, 844, 845, 846, 849, 850, 851, 856, 857, 858, 861, 862, 863, 868, 869, 870, 873, 874, 875, 878, 879] : List Addr) ++ ([880, 883, 884, 885, 888, 889, 890, 893, 894, 895, 898, 899, 900, 436] : List Addr)
/-- further looks: isinstance over the own classes, the tuple KEPT, the maker of Nothing -/
def exB (K : PySem.W.Frag) : Bool :=
  decide (PySem.W.specialIn K (.builtin "object.__class__") "__get__" = some (some (.builtin "getset_descriptor.__get__"))) &&
  (decide (PySem.W.takesIn K (.builtin "object.__class__") = some true) &&
  ((insC.all fun c => decide (PySem.W.findIn K (.ref (He.ga K c)) "__class__" = some (some (.builtin "object.__class__"))) && decide (PySem.W.mroIn K (He.ga K c) (.type "object") = some true)) &&
  ((kits.all fun p => decide (PySem.W.kitOne K (.ref (He.ga K p.1)) (.ref (He.ga K p.2.1)) = some p.2.2)) &&
  (He.tupB K "KEPT" (kept.map He.Dv.str) &&
  ((PySem.W.makesIn K (He.ga K "Nothing") && decide (PySem.W.findIn K (.ref (He.ga K "Nothing")) "__init__" = some (some (.builtin "object.__init__")))) &&
  (PySem.W.readsIn K (He.ga K "Rule") (.type "type") && (decide (PySem.W.specialIn K (.ref (He.ga K "Rule")) "__getattribute__" = some (some (.builtin "type.__getattribute__"))) &&
  (match PySem.W.findCls K (.ref (He.ga K "Rule")) (.type "type") "__init__" with
    | some (.val (.ref a)) => decide (a = He.ma K (He.ga K "Rule") "__init__")
    | _ => false))))))))
def tf : List He.Defn := [("law", none)]
/-- what is told: the facts of K, the looks, the law's own table: empty, not in K -/
structure SaysY (h : Heap) (K : PySem.W.Frag) : Prop where
  d : He.SaysD fa fn K
  more : exB K = true
  hd : forall p, p ∈ tf -> PySem.W.codeHdIn K (He.cT K p).1 (He.cT K p).2 = true
  out : forall p, p ∈ tf -> K.lookup (He.cT K p).2 = none
  empty : forall p, p ∈ tf -> h.get? (He.cT K p).2 = some { cls := .none, data := .fields #[] }
def tabsY (g : Addr -> Option Obj) (K : PySem.W.Frag) : Bool := tf.all fun p => PySem.W.codeHdIn K (He.cT K p).1 (He.cT K p).2 && ((K.lookup (He.cT K p).2).isNone && (match g (He.cT K p).2 with
  | some o => He.emptyTab o
  | none => false))
abbrev AlY : Type := He.AlD × Bool
def obsY (g : Addr -> Option Obj) : AlY := (He.obsD fa fn (He.frG g as_), exB (He.frG g as_) && tabsY g (He.frG g as_))
theorem saysY_of {h : Heap} (e : obsY h.get? = (He.valD fn, true)) : SaysY h (He.frG h.get? as_) := by
  have e1 : He.obsD fa fn (He.frG h.get? as_) = He.valD fn := congrArg (fun z : AlY => z.1) e
  have e2 : (exB (He.frG h.get? as_) && tabsY h.get? (He.frG h.get? as_)) = true := congrArg (fun z : AlY => z.2) e
  obtain ⟨h1, h2⟩ := He.ba e2
  have key : forall p, p ∈ tf -> PySem.W.codeHdIn (He.frG h.get? as_) (He.cT (He.frG h.get? as_) p).1 (He.cT (He.frG h.get? as_) p).2 = true ∧ (He.frG h.get? as_).lookup (He.cT (He.frG h.get? as_) p).2 = none ∧ h.get? (He.cT (He.frG h.get? as_) p).2 = some { cls := .none, data := .fields #[] } := fun p hp => by
    obtain ⟨h3, h4⟩ := He.ba (List.all_eq_true.mp h2 p hp)
    obtain ⟨h5, h6⟩ := He.ba h4
    refine ⟨h3, Option.isNone_iff_eq_none.mp h5, ?_⟩
    cases q : h.get? (He.cT (He.frG h.get? as_) p).2 with
    | none =>
      rw [q] at h6
      cases h6
    | some o =>
      rw [q] at h6
      rw [He.emptyTab_eq h6]
  exact ⟨e1, h1, fun p hp => (key p hp).1, fun p hp => (key p hp).2.1, fun p hp => (key p hp).2.2⟩
abbrev hk : PySem.W.Hook where
  α := AlY
  obs := fun s => obsY s.heap.get?
  val := fun _ => (He.valD fn, true)
  says := fun _ h => ∃ K : PySem.W.Frag, K.In h ∧ SaysY h K
  of := fun _ _ e => ⟨_, He.frG_in, saysY_of e⟩
  keeps := fun _ _ _ ⟨K, hK, c⟩ k => ⟨K, PySem.W.Frag.In.keeps hK k, ⟨c.d, c.more, c.hd, c.out, fun p hp => k _ _ (c.empty p hp)⟩⟩
abbrev Rw : PySem.W.OpenRow := PySem.W.OpenLaw.row PySem.Challenge.rw_formwood_k17_whole_by_parting
def ob (s : PySem.W.SharedT) : AlY := obsY (HandSHeadRun.getT s)
theorem ob_eq (s : PySem.W.SharedT) : ob s = hk.obs s.abs := by
  have e : HandSHeadRun.getT s = s.abs.heap.get? := funext (HandSHeadRun.getT_eq s)
  show obsY (HandSHeadRun.getT s) = obsY s.abs.heap.get?
  rw [e]
def loose : List Str := (["_wall", "FormError", "NoForm", "NoName", "Shape", "Nothing", "Tree", "Joined", "Chain", "Either", "Signed", "Many", "Some", "Maybe", "LETTERS", "KEPT", "MOST_LETTERS", "is_name", "MOST_RULES", "MOST_DEEP", "MOST_IN_A_RULE", "MOST_TREES", "Rule", "Shaped", "Turned", "Both", "Any", "is_shape", "is_rule", "need_rules"] : List Str) ++ (["Forms", "row_text", "Meaning", "rows_within", "fits", "_law_mixed", "_law_cell_at", "_law_next", "_law_kept", "_law_names", "_law_row_by", "_law_shape", "_law_rules", "_law_shape_made", "_law_forms_made", "_law_named", "_law_all_shapes", "_law_trees", "_law_due", "_law_of_shape", "_law_of_rule", "_law_joined"] : List Str)
theorem run (w : World) : HandSHeadRun.RunEq Rw (PySem.W.view Rw.prog [59]) hk ob 20000 loose w := by
  intro os
  kernel_rfl
end K17
end PartK17Head
section PartK17Math
set_option Elab.async false
set_option linter.all false
/-! The mathematics: rows, shapes, rules, which rows are of which form, where a shape may end. No program in sight. -/
namespace K17
open PySem
/-! ### rows, shapes, rules -/
/-- a row of trees: nothing, or the first tree's word, its row, what stands behind -/
inductive Row where
  | nil
  | cons (w : Str) (i r : Row)
  deriving DecidableEq
/-- a shape (nothing .. either), or a list of parts (nil, cons) -/
inductive Sh where
  | nothing
  | tree (w : Option Str) (n : Str)
  | many (p : Sh)
  | some (p : Sh)
  | maybe (p : Sh)
  | chain (ps : Sh)
  | either (ps : Sh)
  | nil
  | cons (p ps : Sh)
  deriving DecidableEq
inductive Rl where
  | shaped (n : Str) (s : Sh)
  | turned (n one : Str)
  | both (n one other : Str)
  | any (n one other : Str)
  deriving DecidableEq
def Rl.name : Rl → Str
  | .shaped n _ => n
  | .turned n _ => n
  | .both n _ _ => n
  | .any n _ _ => n
def Rl.leans : Rl → List Str
  | .shaped _ _ => []
  | .turned _ o => [o]
  | .both _ o u => [o, u]
  | .any _ o u => [o, u]
def Row.len : Row → Nat
  | .nil => 0
  | .cons _ _ r => r.len + 1
def Row.depth : Row → Nat
  | .nil => 0
  | .cons _ i r => max (i.depth + 1) r.depth
def Row.size : Row → Nat
  | .nil => 0
  | .cons _ i r => i.size + r.size + 1
def Row.take : Nat → Row → Row
  | 0, _ => .nil
  | _ + 1, .nil => .nil
  | n + 1, .cons w i r => .cons w i (r.take n)
def Row.drop : Nat → Row → Row
  | 0, r => r
  | _ + 1, .nil => .nil
  | n + 1, .cons _ _ r => r.drop n
def Row.app : Row → Row → Row
  | .nil, s => s
  | .cons w i r, s => .cons w i (r.app s)
/-! ### what a shape tells, of a row's trees as they are told by the forms -/
/-- a tree: its word, and of which forms its row is -/
abbrev Sg := Str × (Str → Bool)
inductive Star (P : List Sg → Prop) : List Sg → Prop where
  | nil : Star P []
  | app {a b : List Sg} : P a → Star P b → Star P (a ++ b)
inductive Plus (P : List Sg → Prop) : List Sg → Prop where
  | one {a : List Sg} : P a → Plus P a
  | app {a b : List Sg} : P a → Plus P b → Plus P (a ++ b)
def wordOk (w : Option Str) (x : Str) : Bool := match w with
  | none => true
  | Option.some y => decide (y = x)
/-- the flag: a list of parts is told one at least (true), or one behind the other (false) -/
def D : Sh → Bool → List Sg → Prop
  | .nothing, _, l => l = []
  | .tree w n, _, l => ∃ g : Sg, l = [g] ∧ wordOk w g.1 = true ∧ g.2 n = true
  | .many p, _, l => Star (D p false) l
  | .some p, _, l => Plus (D p false) l
  | .maybe p, _, l => l = [] ∨ D p false l
  | .chain ps, _, l => D ps false l
  | .either ps, _, l => D ps true l
  | .nil, b, l => b = false ∧ l = []
  | .cons p ps, b, l => (b = true ∧ (D p false l ∨ D ps true l)) ∨ (b = false ∧ ∃ u v, l = u ++ v ∧ D p false u ∧ D ps false v)
noncomputable def bv (p : Prop) : Bool := @decide p (Classical.propDecidable p)
theorem bv_iff {p : Prop} : bv p = true ↔ p := by
  unfold bv
  exact @decide_eq_true_iff p (Classical.propDecidable p)
theorem bv_congr {p q : Prop} (h : p ↔ q) : bv p = bv q := by
  have e : p = q := propext h
  rw [e]
theorem bv_true {p : Prop} (h : p) : bv p = true := bv_iff.mpr h
theorem bv_false {p : Prop} (h : ¬ p) : bv p = false := by
  cases e : bv p with
  | false => rfl
  | true => exact absurd (bv_iff.mp e) h
/-- what a rule tells, by what those ahead tell -/
noncomputable def rv (env : Str → Bool) (l : List Sg) : Rl → Bool
  | .shaped _ s => bv (D s false l)
  | .turned _ o => !env o
  | .both _ o u => env o && env u
  | .any _ o u => env o || env u
noncomputable def evr : List Rl → (Str → Bool) → List Sg → Str → Bool
  | [], env, _ => env
  | r :: rs, env, l => evr rs (fun y => if y = r.name then rv env l r else env y) l
noncomputable def sg (rs : List Rl) : Row → List Sg
  | .nil => []
  | .cons w i r => (w, evr rs (fun _ => false) (sg rs i)) :: sg rs r
/-- whether a row is of the form x -/
noncomputable def F (rs : List Rl) (row : Row) (x : Str) : Bool := evr rs (fun _ => false) (sg rs row) x
theorem sg_cons (rs : List Rl) (w : Str) (i r : Row) : sg rs (.cons w i r) = (w, F rs i) :: sg rs r := rfl
/-- names unlike, leaning on names ahead -/
def Okl : List Str → List Rl → Prop
  | _, [] => True
  | ah, r :: rs => ¬ r.name ∈ ah ∧ (∀ x ∈ r.leans, x ∈ ah) ∧ Okl (r.name :: ah) rs
theorem rv_congr {e1 e2 : Str → Bool} {l : List Sg} {r : Rl} (h : ∀ x ∈ r.leans, e1 x = e2 x) : rv e1 l r = rv e2 l r := by
  cases r with
  | shaped n s => rfl
  | turned n o => simp only [rv, h o (by simp [Rl.leans])]
  | both n o u => simp only [rv, h o (by simp [Rl.leans]), h u (by simp [Rl.leans])]
  | any n o u => simp only [rv, h o (by simp [Rl.leans]), h u (by simp [Rl.leans])]
theorem run_ahead : ∀ {rs : List Rl} {ah : List Str} {env : Str → Bool} {l : List Sg} {x : Str}, Okl ah rs → x ∈ ah → evr rs env l x = env x
  | [], _, _, _, _, _, _ => rfl
  | r :: rs, ah, env, l, x, h, hx => by
    have e := run_ahead (env := fun y => if y = r.name then rv env l r else env y) (l := l) h.2.2 (List.mem_cons_of_mem _ hx)
    show evr rs _ l x = env x
    rw [e]
    have ne : x ≠ r.name := fun z => h.1 (by rw [← z]; exact hx)
    simp [ne]
theorem run_rule : ∀ {rs : List Rl} {ah : List Str} {env : Str → Bool} {l : List Sg} {r : Rl}, Okl ah rs → r ∈ rs → evr rs env l r.name = rv (evr rs env l) l r
  | r0 :: rs, ah, env, l, r, h, hr => by
    show evr rs (fun y => if y = r0.name then rv env l r0 else env y) l r.name = rv (evr rs (fun y => if y = r0.name then rv env l r0 else env y) l) l r
    by_cases q : r ∈ rs
    · exact run_rule h.2.2 q
    · have e : r = r0 := (List.mem_cons.mp hr).elim id fun z => absurd z q
      subst e
      rw [run_ahead h.2.2 (List.mem_cons_self ..)]
      have e2 : rv (evr rs (fun y => if y = r.name then rv env l r else env y) l) l r = rv env l r := rv_congr fun x hx => by
        rw [run_ahead h.2.2 (List.mem_cons_of_mem _ (h.2.1 x hx))]
        have ne : x ≠ r.name := fun z => h.1 (by rw [← z]; exact h.2.1 x hx)
        simp [ne]
      rw [e2]
      simp
theorem F_rule {rs : List Rl} {row : Row} {r : Rl} (h : Okl [] rs) (hr : r ∈ rs) : F rs row r.name = rv (F rs row) (sg rs row) r := run_rule h hr
/-! ### rows and their trees -/
theorem sg_len (rs : List Rl) : ∀ r : Row, (sg rs r).length = r.len
  | .nil => rfl
  | .cons w i r => congrArg (· + 1) (sg_len rs r)
theorem sg_take (rs : List Rl) : ∀ (k : Nat) (r : Row), sg rs (r.take k) = (sg rs r).take k
  | 0, _ => by simp [Row.take, sg]
  | _ + 1, .nil => by simp [Row.take, sg]
  | k + 1, .cons w i r => by simp [Row.take, sg, sg_take rs k r]
theorem sg_drop (rs : List Rl) : ∀ (k : Nat) (r : Row), sg rs (r.drop k) = (sg rs r).drop k
  | 0, _ => by simp [Row.drop]
  | _ + 1, .nil => by simp [Row.drop, sg]
  | k + 1, .cons w i r => by simp [Row.drop, sg, sg_drop rs k r]
theorem sg_nil {rs : List Rl} {r : Row} : sg rs r = [] ↔ r = .nil := by
  cases r with
  | nil => simp [sg]
  | cons w i r => simp [sg]
theorem take_len : ∀ (k : Nat) (r : Row), k ≤ r.len → (r.take k).len = k
  | 0, _, _ => rfl
  | k + 1, .nil, h => by simp [Row.len] at h
  | k + 1, .cons w i r, h => congrArg (· + 1) (take_len k r (by simpa [Row.len] using h))
theorem drop_len : ∀ (k : Nat) (r : Row), (r.drop k).len = r.len - k
  | 0, _ => rfl
  | k + 1, .nil => by simp [Row.drop, Row.len]
  | k + 1, .cons w i r => by simp [Row.drop, Row.len, drop_len k r]
theorem take_len_le : ∀ (k : Nat) (r : Row), (r.take k).len ≤ r.len
  | 0, _ => Nat.zero_le _
  | k + 1, .nil => Nat.le_refl _
  | k + 1, .cons w i r => Nat.succ_le_succ (take_len_le k r)
theorem take_depth : ∀ (k : Nat) (r : Row), (r.take k).depth ≤ r.depth
  | 0, _ => Nat.zero_le _
  | k + 1, .nil => Nat.le_refl _
  | k + 1, .cons w i r => by
    have h := take_depth k r
    show max (i.depth + 1) (r.take k).depth ≤ max (i.depth + 1) r.depth
    omega
theorem drop_depth : ∀ (k : Nat) (r : Row), (r.drop k).depth ≤ r.depth
  | 0, _ => Nat.le_refl _
  | k + 1, .nil => Nat.le_refl _
  | k + 1, .cons w i r => by
    have h := drop_depth k r
    show (r.drop k).depth ≤ max (i.depth + 1) r.depth
    omega
theorem take_size : ∀ (k : Nat) (r : Row), (r.take k).size ≤ r.size
  | 0, _ => Nat.zero_le _
  | k + 1, .nil => Nat.le_refl _
  | k + 1, .cons w i r => by
    have h := take_size k r
    show i.size + (r.take k).size + 1 ≤ i.size + r.size + 1
    omega
theorem drop_size : ∀ (k : Nat) (r : Row), (r.drop k).size ≤ r.size
  | 0, _ => Nat.le_refl _
  | k + 1, .nil => Nat.le_refl _
  | k + 1, .cons w i r => by
    have h := drop_size k r
    show (r.drop k).size ≤ i.size + r.size + 1
    omega
/-! ### where a shape may end -/
def seg (l : List Sg) (b e : Nat) : List Sg := (l.drop b).take (e - b)
/-- what a shape tells may stand from b to e -/
def Re (f : Bool) (s : Sh) (l : List Sg) (b e : Nat) : Prop := b ≤ e ∧ e ≤ l.length ∧ D s f (seg l b e)
theorem seg_len {l : List Sg} {b e : Nat} (h : b ≤ e) (he : e ≤ l.length) : (seg l b e).length = e - b := by
  unfold seg
  rw [List.length_take, List.length_drop]
  omega
theorem seg_self (l : List Sg) (b : Nat) : seg l b b = [] := by
  unfold seg
  rw [Nat.sub_self, List.take_zero]
theorem seg_all (l : List Sg) : seg l 0 l.length = l := by
  unfold seg
  rw [List.drop_zero, Nat.sub_zero, List.take_length]
theorem seg_nil {l : List Sg} {b e : Nat} (h : b ≤ e) (he : e ≤ l.length) (q : seg l b e = []) : e = b := by
  have z := seg_len h he
  rw [q] at z
  simp at z
  omega
theorem seg_split {l : List Sg} {b m e : Nat} (h1 : b ≤ m) (h2 : m ≤ e) : seg l b e = seg l b m ++ seg l m e := by
  unfold seg
  have e1 : l.drop m = (l.drop b).drop (m - b) := by rw [List.drop_drop]; congr 1; omega
  rw [e1, ← List.take_add]
  congr 1
  omega
theorem seg_app {l : List Sg} {b e : Nat} {u v : List Sg} (h : b ≤ e) (he : e ≤ l.length) (q : seg l b e = u ++ v) : ∃ m, b ≤ m ∧ m ≤ e ∧ u = seg l b m ∧ v = seg l m e := by
  have z := seg_len h he
  rw [q, List.length_append] at z
  refine ⟨b + u.length, by omega, by omega, ?_, ?_⟩
  · have s := seg_split (l := l) (b := b) (m := b + u.length) (e := e) (by omega) (by omega)
    rw [q] at s
    exact (List.append_inj s (by rw [seg_len (by omega) (by omega)]; omega)).1
  · have s := seg_split (l := l) (b := b) (m := b + u.length) (e := e) (by omega) (by omega)
    rw [q] at s
    exact (List.append_inj s (by rw [seg_len (by omega) (by omega)]; omega)).2
theorem re_nothing {f : Bool} {l : List Sg} {b e : Nat} (hb : b ≤ l.length) : Re f .nothing l b e ↔ e = b := by
  constructor
  · rintro ⟨h1, h2, h3⟩
    exact seg_nil h1 h2 h3
  · rintro rfl
    exact ⟨Nat.le_refl _, hb, seg_self l e⟩
theorem seg_one {l : List Sg} {b : Nat} {g : Sg} (h : l[b]? = some g) : seg l b (b + 1) = [g] := by
  obtain ⟨hb, hg⟩ := List.getElem?_eq_some_iff.mp h
  unfold seg
  rw [show b + 1 - b = 1 by omega, List.drop_eq_getElem_cons hb, hg]
  rfl
theorem re_tree {f : Bool} {l : List Sg} {w : Option Str} {n : Str} {b e : Nat} : Re f (.tree w n) l b e ↔ e = b + 1 ∧ ∃ g, l[b]? = some g ∧ wordOk w g.1 = true ∧ g.2 n = true := by
  constructor
  · rintro ⟨h1, h2, g, h3, h4⟩
    have z := seg_len h1 h2
    rw [h3] at z
    have e1 : e = b + 1 := by simp at z; omega
    subst e1
    have hb : b < l.length := by omega
    refine ⟨rfl, l[b], List.getElem?_eq_getElem hb, ?_⟩
    have q := seg_one (l := l) (b := b) (List.getElem?_eq_getElem hb)
    rw [h3] at q
    have q2 : g = l[b] := by simpa using q
    rw [← q2]
    exact h4
  · rintro ⟨rfl, g, h1, h2⟩
    have hb := (List.getElem?_eq_some_iff.mp h1).1
    exact ⟨by omega, by omega, g, seg_one h1, h2⟩
theorem re_nilF {l : List Sg} {b e : Nat} (hb : b ≤ l.length) : Re false .nil l b e ↔ e = b := by
  constructor
  · rintro ⟨h1, h2, h3⟩
    exact seg_nil h1 h2 h3.2
  · rintro rfl
    exact ⟨Nat.le_refl _, hb, rfl, seg_self l e⟩
theorem re_consF {p ps : Sh} {l : List Sg} {b e : Nat} : Re false (.cons p ps) l b e ↔ ∃ m, Re false p l b m ∧ Re false ps l m e := by
  constructor
  · rintro ⟨h1, h2, h3⟩
    rcases h3 with ⟨z, _⟩ | ⟨_, u, v, h3, h4, h5⟩
    · cases z
    · obtain ⟨m, h6, h7, rfl, rfl⟩ := seg_app h1 h2 h3
      exact ⟨m, ⟨h6, by omega, h4⟩, h7, h2, h5⟩
  · rintro ⟨m, ⟨h1, h2, h3⟩, h4, h5, h6⟩
    exact ⟨by omega, h5, .inr ⟨rfl, _, _, seg_split h1 h4, h3, h6⟩⟩
theorem re_consT {p ps : Sh} {l : List Sg} {b e : Nat} : Re true (.cons p ps) l b e ↔ Re false p l b e ∨ Re true ps l b e := by
  constructor
  · rintro ⟨h1, h2, h3⟩
    rcases h3 with ⟨_, z | z⟩ | ⟨z, _⟩
    · exact .inl ⟨h1, h2, z⟩
    · exact .inr ⟨h1, h2, z⟩
    · cases z
  · rintro (⟨h1, h2, h3⟩ | ⟨h1, h2, h3⟩)
    · exact ⟨h1, h2, .inl ⟨rfl, .inl h3⟩⟩
    · exact ⟨h1, h2, .inl ⟨rfl, .inr h3⟩⟩
theorem re_nilT {l : List Sg} {b e : Nat} : ¬ Re true .nil l b e := by
  rintro ⟨_, _, z, _⟩
  cases z
theorem re_chain {f : Bool} {ps : Sh} {l : List Sg} {b e : Nat} : Re f (.chain ps) l b e ↔ Re false ps l b e := Iff.rfl
theorem re_either {f : Bool} {ps : Sh} {l : List Sg} {b e : Nat} : Re f (.either ps) l b e ↔ Re true ps l b e := Iff.rfl
theorem re_maybe {f : Bool} {p : Sh} {l : List Sg} {b e : Nat} (hb : b ≤ l.length) : Re f (.maybe p) l b e ↔ e = b ∨ Re false p l b e := by
  constructor
  · rintro ⟨h1, h2, h3 | h3⟩
    · exact .inl (seg_nil h1 h2 h3)
    · exact .inr ⟨h1, h2, h3⟩
  · rintro (rfl | ⟨h1, h2, h3⟩)
    · exact ⟨Nat.le_refl _, hb, .inl (seg_self l e)⟩
    · exact ⟨h1, h2, .inr h3⟩
/-- reached by steps, none or more -/
inductive Rt (R : Nat → Nat → Prop) : Nat → Nat → Prop where
  | refl {a : Nat} : Rt R a a
  | head {a b c : Nat} : R a b → Rt R b c → Rt R a c
theorem Rt.tail {R : Nat → Nat → Prop} {a b c : Nat} (h : Rt R a b) (q : R b c) : Rt R a c := by
  induction h with
  | refl => exact .head q .refl
  | head r _ ih => exact .head r (ih q)
theorem re_many {f : Bool} {p : Sh} {l : List Sg} {b e : Nat} (hb : b ≤ l.length) : Re f (.many p) l b e ↔ Rt (Re false p l) b e := by
  constructor
  · rintro ⟨h1, h2, h3⟩
    have key : ∀ x, Star (D p false) x → ∀ b, b ≤ e → x = seg l b e → Rt (Re false p l) b e := by
      intro x hx
      induction hx with
      | nil =>
        intro b hb q
        rw [seg_nil hb h2 q.symm]
        exact .refl
      | app h _ ih =>
        intro b hb q
        obtain ⟨m, h6, h7, rfl, rfl⟩ := seg_app hb h2 q.symm
        exact .head ⟨h6, by omega, h⟩ (ih m h7 rfl)
    exact key _ h3 b h1 rfl
  · intro h
    induction h with
    | refl => exact ⟨Nat.le_refl _, hb, by rw [seg_self]; exact .nil⟩
    | head r _ ih =>
      obtain ⟨h1, h2, h3⟩ := r
      obtain ⟨h4, h5, h6⟩ := ih h2
      exact ⟨by omega, h5, by rw [seg_split h1 h4]; exact .app h3 h6⟩
theorem re_some {f : Bool} {p : Sh} {l : List Sg} {b e : Nat} : Re f (.some p) l b e ↔ ∃ m, Re false p l b m ∧ Rt (Re false p l) m e := by
  constructor
  · rintro ⟨h1, h2, h3⟩
    have key : ∀ x, Plus (D p false) x → ∀ b, b ≤ e → x = seg l b e → ∃ m, Re false p l b m ∧ Rt (Re false p l) m e := by
      intro x hx
      induction hx with
      | one h =>
        intro b hb q
        exact ⟨e, ⟨hb, h2, by rw [← q]; exact h⟩, .refl⟩
      | app h _ ih =>
        intro b hb q
        obtain ⟨m, h6, h7, rfl, rfl⟩ := seg_app hb h2 q.symm
        obtain ⟨m2, r1, r2⟩ := ih m h7 rfl
        exact ⟨m, ⟨h6, by omega, h⟩, .head r1 r2⟩
    exact key _ h3 b h1 rfl
  · rintro ⟨m, r, h⟩
    have key : ∀ {m e}, Rt (Re false p l) m e → ∀ b, Re false p l b m → Re f (.some p) l b e := by
      intro m e h
      induction h with
      | refl => exact fun b ⟨h1, h2, h3⟩ => ⟨h1, h2, .one h3⟩
      | head r _ ih =>
        intro b ⟨h1, h2, h3⟩
        obtain ⟨h4, h5, h6⟩ := ih _ r
        exact ⟨by omega, h5, by rw [seg_split h1 h4]; exact .app h3 h6⟩
    exact key h b r
/-- the whole row -/
theorem re_whole {s : Sh} {l : List Sg} : Re false s l 0 l.length ↔ D s false l := by
  unfold Re
  rw [seg_all]
  exact ⟨fun h => h.2.2, fun h => ⟨Nat.zero_le _, Nat.le_refl _, h⟩⟩
/-! ### by parting -/
theorem d_chain2 {p q : Sh} {f : Bool} {l : List Sg} : D (.chain (.cons p (.cons q .nil))) f l ↔ ∃ k, k ≤ l.length ∧ D p false (l.take k) ∧ D q false (l.drop k) := by
  constructor
  · rintro (⟨z, _⟩ | ⟨_, u, v, rfl, h1, h2⟩)
    · cases z
    · rcases h2 with ⟨z, _⟩ | ⟨_, u2, v2, rfl, h3, h4⟩
      · cases z
      · obtain ⟨_, rfl⟩ := h4
        refine ⟨u.length, by simp, ?_, ?_⟩
        · rw [List.take_left]
          exact h1
        · rw [List.drop_left, List.append_nil]
          exact h3
  · rintro ⟨k, h0, h1, h2⟩
    exact .inr ⟨rfl, _, _, (List.take_append_drop k l).symm, h1, .inr ⟨rfl, _, [], (List.append_nil _).symm, h2, rfl, rfl⟩⟩
theorem d_chain3 {p ps : Sh} {f : Bool} {l : List Sg} : D (.chain (.cons p ps)) f l ↔ ∃ k, k ≤ l.length ∧ D p false (l.take k) ∧ D (.chain ps) false (l.drop k) := by
  constructor
  · rintro (⟨z, _⟩ | ⟨_, u, v, rfl, h1, h2⟩)
    · cases z
    · refine ⟨u.length, by simp, ?_, ?_⟩
      · rw [List.take_left]
        exact h1
      · rw [List.drop_left]
        exact h2
  · rintro ⟨k, h0, h1, h2⟩
    exact .inr ⟨rfl, _, _, (List.take_append_drop k l).symm, h1, h2⟩
theorem star_part {P : List Sg → Prop} {l : List Sg} (h : Star P l) : l = [] ∨ ∃ k, 1 ≤ k ∧ k ≤ l.length ∧ P (l.take k) ∧ Star P (l.drop k) := by
  induction h with
  | nil => exact .inl rfl
  | @app a b h1 h2 ih =>
    cases a with
    | nil => simpa using ih
    | cons x a =>
      refine .inr ⟨(x :: a).length, by simp, by simp, ?_, ?_⟩
      · rw [List.take_left]
        exact h1
      · rw [List.drop_left]
        exact h2
theorem plus_part {P : List Sg → Prop} {l : List Sg} (h : Plus P l) : P l ∨ ∃ k, 1 ≤ k ∧ k ≤ l.length ∧ P (l.take k) ∧ Plus P (l.drop k) := by
  induction h with
  | one h => exact .inl h
  | @app a b h1 h2 ih =>
    cases a with
    | nil => simpa using ih
    | cons x a =>
      refine .inr ⟨(x :: a).length, by simp, by simp, ?_, ?_⟩
      · rw [List.take_left]
        exact h1
      · rw [List.drop_left]
        exact h2
theorem d_many {p : Sh} {f : Bool} {l : List Sg} : D (.many p) f l ↔ l = [] ∨ ∃ k, 1 ≤ k ∧ k ≤ l.length ∧ D p false (l.take k) ∧ D (.many p) f (l.drop k) := by
  constructor
  · exact fun h => star_part h
  · rintro (rfl | ⟨k, h0, h1, h2, h3⟩)
    · exact Star.nil
    · have e := (List.take_append_drop k l)
      show Star (D p false) l
      rw [← e]
      exact .app h2 h3
theorem d_some {p : Sh} {f : Bool} {l : List Sg} : D (.some p) f l ↔ D p false l ∨ ∃ k, 1 ≤ k ∧ k ≤ l.length ∧ D p false (l.take k) ∧ D (.some p) f (l.drop k) := by
  constructor
  · exact fun h => plus_part h
  · rintro (h | ⟨k, h0, h1, h2, h3⟩)
    · exact Plus.one h
    · have e := (List.take_append_drop k l)
      show Plus (D p false) l
      rw [← e]
      exact .app h2 h3
end K17
end PartK17Math
section PartK17Data
set_option Elab.async false
set_option linter.all false
set_option maxRecDepth 100000
/-! How rows, told shapes, shapes and rules lie in the heap. -/
namespace K17
open PySem PySem.Spec PyProof.Rows L2
/-! ### heaps -/
/-- what never changes: tuples, and the instances of shapes and rules once they are made -/
def Imm (H H' : Hp) : Prop := (∀ a xs, H a = some (.tup xs) → H' a = some (.tup xs)) ∧ (∀ a C dx fs, H a = some (.ins C dx fs) → H' a = some (.ins C dx fs))
theorem Imm.refl (H : Hp) : Imm H H := ⟨fun _ _ h => h, fun _ _ _ _ h => h⟩
theorem Imm.trans {H H1 H2 : Hp} (a : Imm H H1) (b : Imm H1 H2) : Imm H H2 := ⟨fun c xs h => b.1 c xs (a.1 c xs h), fun c C dx fs h => b.2 c C dx fs (a.2 c C dx fs h)⟩
/-- all that was tracked stays, but what stands in M -/
def Ext (M : List Addr) (H H' : Hp) : Prop := ∀ a o, H a = some o → a ∉ M → H' a = some o
theorem Ext.refl (M : List Addr) (H : Hp) : Ext M H H := fun _ _ h _ => h
theorem Ext.trans {M : List Addr} {H H1 H2 : Hp} (a : Ext M H H1) (b : Ext M H1 H2) : Ext M H H2 := fun c o h m => b c o (a c o h m) m
theorem Ext.mono {M M' : List Addr} {H H' : Hp} (a : Ext M H H') (h : ∀ x ∈ M, x ∈ M') : Ext M' H H' := fun c o e m => a c o e fun z => m (h c z)
theorem Ext.of_same {M : List Addr} {H H' : Hp} (a : Same H H') : Ext M H H' := fun c o e _ => a c o e
theorem Ext.same {H H' : Hp} (a : Ext [] H H') : Same H H' := fun c o e => a c o e (by simp)
theorem Ext.new {M : List Addr} {H : Hp} {p : Addr} (h : H p = none) (o : HO) : Ext M H (upd H p o) := fun a u e _ => by
  rw [upd_ne (ne_of_none e h)]
  exact e
theorem Ext.upd_in {M : List Addr} {H : Hp} {p : Addr} (h : p ∈ M) (o : HO) : Ext M H (upd H p o) := fun a u e m => by
  rw [upd_ne (fun z => m (by rw [z]; exact h))]
  exact e
theorem same_new {H : Hp} {p : Addr} (h : H p = none) (o : HO) : Same H (upd H p o) := fun b u q => by
  rw [upd_ne (ne_of_none q h)]
  exact q
/-- M holds lists, dicts and other things that change -/
theorem Ext.imm {M : List Addr} {H H' : Hp} (a : Ext M H H') (hM : ∀ x ∈ M, (∀ xs, H x ≠ some (.tup xs)) ∧ ∀ C dx fs, H x ≠ some (.ins C dx fs)) : Imm H H' :=
  ⟨fun c xs e => a c _ e fun z => (hM c z).1 xs e, fun c C dx fs e => a c _ e fun z => (hM c z).2 C dx fs e⟩
theorem Same.imm {H H' : Hp} (a : Same H H') : Imm H H' := ⟨fun c xs e => a c _ e, fun c C dx fs e => a c _ e⟩
theorem imm_upd {H : Hp} {p : Addr} (o : HO) (h1 : ∀ xs, H p ≠ some (.tup xs)) (h2 : ∀ C dx fs, H p ≠ some (.ins C dx fs)) : Imm H (upd H p o) :=
  ⟨fun a xs e => by rw [upd_ne (fun z => h1 xs (by rw [← z]; exact e))]; exact e, fun a C dx fs e => by rw [upd_ne (fun z => h2 C dx fs (by rw [← z]; exact e))]; exact e⟩
theorem imm_lst {H : Hp} {p : Addr} {xs : List V} (h : H p = some (.lst xs)) (o : HO) : Imm H (upd H p o) := imm_upd o (fun ys z => by rw [h] at z; cases z) (fun C dx fs z => by rw [h] at z; cases z)
theorem imm_new {H : Hp} {p : Addr} (h : H p = none) (o : HO) : Imm H (upd H p o) := Same.imm (same_new h o)
/-! ### rows -/
/-- the trees of a row, as values -/
def RAt (H : Hp) : Row → List V → Prop
  | .nil, vs => vs = []
  | .cons w i r, vs => ∃ (t b : Addr) (us vs' : List V), vs = .ref t :: vs' ∧ H t = some (.tup [.str w, .ref b]) ∧ H b = some (.tup us) ∧ RAt H i us ∧ RAt H r vs'
/-- the row at a -/
def RowAt (H : Hp) (r : Row) (a : Addr) : Prop := ∃ us, H a = some (.tup us) ∧ RAt H r us
theorem RAt.imm {H H' : Hp} (m : Imm H H') : ∀ {r : Row} {vs : List V}, RAt H r vs → RAt H' r vs
  | .nil, _, h => h
  | .cons w i r, _, ⟨t, b, us, vs', e, h1, h2, h3, h4⟩ => ⟨t, b, us, vs', e, m.1 _ _ h1, m.1 _ _ h2, RAt.imm m h3, RAt.imm m h4⟩
theorem RowAt.imm {H H' : Hp} (m : Imm H H') {r : Row} {a : Addr} (h : RowAt H r a) : RowAt H' r a := let ⟨us, h1, h2⟩ := h; ⟨us, m.1 _ _ h1, h2.imm m⟩
theorem RAt.len {H : Hp} : ∀ {r : Row} {vs : List V}, RAt H r vs → vs.length = r.len
  | .nil, _, h => by rw [show _ = [] from h]; rfl
  | .cons w i r, _, ⟨t, b, us, vs', e, _, _, _, h4⟩ => by rw [e]; exact congrArg (· + 1) h4.len
/-- the k-th tree of a row -/
def Row.nth : Row → Nat → Option (Str × Row)
  | .nil, _ => none
  | .cons w i _, 0 => some (w, i)
  | .cons _ _ r, k + 1 => r.nth k
theorem nth_lt : ∀ {r : Row} {k : Nat} {p : Str × Row}, r.nth k = some p → k < r.len
  | .cons w i r, 0, _, _ => Nat.succ_pos _
  | .cons w i r, k + 1, p, h => Nat.succ_lt_succ (nth_lt (r := r) h)
theorem nth_some : ∀ {r : Row} {k : Nat}, k < r.len → ∃ p, r.nth k = some p
  | .cons w i r, 0, _ => ⟨_, rfl⟩
  | .cons w i r, k + 1, h => nth_some (r := r) (Nat.lt_of_succ_lt_succ h)
  | .nil, _, h => absurd h (Nat.not_lt_zero _)
theorem sg_nth {rs : List Rl} : ∀ {r : Row} {k : Nat} {p : Str × Row}, r.nth k = some p → (sg rs r)[k]? = some (p.1, F rs p.2)
  | .cons w i r, 0, p, h => by cases h; rfl
  | .cons w i r, k + 1, p, h => by simpa [sg] using sg_nth (rs := rs) (r := r) h
theorem nth_depth : ∀ {r : Row} {k : Nat} {p : Str × Row}, r.nth k = some p → p.2.depth + 1 ≤ r.depth
  | .cons w i r, 0, p, h => by cases h; exact Nat.le_max_left _ _
  | .cons w i r, k + 1, p, h => Nat.le_trans (nth_depth (r := r) h) (Nat.le_max_right _ _)
theorem RAt.nth {H : Hp} : ∀ {r : Row} {vs : List V} {k : Nat} {p : Str × Row}, RAt H r vs → r.nth k = some p → ∃ t b : Addr, vs[k]? = some (.ref t) ∧ H t = some (.tup [.str p.1, .ref b]) ∧ RowAt H p.2 b
  | .cons w i r, _, 0, p, ⟨t, b, us, vs', e, h1, h2, h3, h4⟩, h => by
    cases h
    subst e
    exact ⟨t, b, rfl, h1, us, h2, h3⟩
  | .cons w i r, _, k + 1, p, ⟨t, b, us, vs', e, h1, h2, h3, h4⟩, h => by
    subst e
    obtain ⟨t2, b2, q1, q2, q3⟩ := RAt.nth (r := r) h4 h
    exact ⟨t2, b2, by simpa using q1, q2, q3⟩
theorem RAt.take {H : Hp} : ∀ {r : Row} {vs : List V} (k : Nat), RAt H r vs → RAt H (r.take k) (vs.take k)
  | _, _, 0, _ => rfl
  | .nil, _, k + 1, h => by
    rw [show _ = [] from h]
    rfl
  | .cons w i r, _, k + 1, ⟨t, b, us, vs', e, h1, h2, h3, h4⟩ => by
    subst e
    exact ⟨t, b, us, _, rfl, h1, h2, h3, RAt.take k h4⟩
theorem RAt.drop {H : Hp} : ∀ {r : Row} {vs : List V} (k : Nat), RAt H r vs → RAt H (r.drop k) (vs.drop k)
  | _, _, 0, h => h
  | .nil, _, k + 1, h => by
    rw [show _ = [] from h]
    rfl
  | .cons w i r, _, k + 1, ⟨t, b, us, vs', e, h1, h2, h3, h4⟩ => by
    subst e
    exact RAt.drop k h4
theorem RAt.app {H : Hp} : ∀ {r s : Row} {vs ws : List V}, RAt H r vs → RAt H s ws → RAt H (r.app s) (vs ++ ws)
  | .nil, _, _, _, h, q => by
    rw [show _ = [] from h]
    exact q
  | .cons w i r, _, _, _, ⟨t, b, us, vs', e, h1, h2, h3, h4⟩, q => by
    subst e
    exact ⟨t, b, us, _, rfl, h1, h2, h3, RAt.app h4 q⟩
/-! ### shapes as they are told -/
def wV : Option Str → V
  | none => .non
  | some x => .str x
def TAt (H : Hp) : Sh → List V → Prop
  | .nothing, vs => ∃ a : Addr, vs = [.ref a] ∧ H a = some (.tup [.str "nothing"])
  | .tree w n, vs => ∃ a : Addr, vs = [.ref a] ∧ H a = some (.tup [.str "tree", wV w, .str n])
  | .many p, vs => ∃ (a b : Addr), vs = [.ref a] ∧ H a = some (.tup [.str "many", .ref b]) ∧ TAt H p [.ref b]
  | .some p, vs => ∃ (a b : Addr), vs = [.ref a] ∧ H a = some (.tup [.str "some", .ref b]) ∧ TAt H p [.ref b]
  | .maybe p, vs => ∃ (a b : Addr), vs = [.ref a] ∧ H a = some (.tup [.str "maybe", .ref b]) ∧ TAt H p [.ref b]
  | .chain ps, vs => ∃ (a t : Addr) (us : List V), vs = [.ref a] ∧ H a = some (.tup [.str "chain", .ref t]) ∧ H t = some (.tup us) ∧ TAt H ps us
  | .either ps, vs => ∃ (a t : Addr) (us : List V), vs = [.ref a] ∧ H a = some (.tup [.str "either", .ref t]) ∧ H t = some (.tup us) ∧ TAt H ps us
  | .nil, vs => vs = []
  | .cons p ps, vs => ∃ (b : Addr) (us : List V), vs = .ref b :: us ∧ TAt H p [.ref b] ∧ TAt H ps us
theorem TAt.imm {H H' : Hp} (m : Imm H H') : ∀ {s : Sh} {vs : List V}, TAt H s vs → TAt H' s vs
  | .nothing, _, ⟨a, e, h⟩ => ⟨a, e, m.1 _ _ h⟩
  | .tree w n, _, ⟨a, e, h⟩ => ⟨a, e, m.1 _ _ h⟩
  | .many p, _, ⟨a, b, e, h, q⟩ => ⟨a, b, e, m.1 _ _ h, TAt.imm m q⟩
  | .some p, _, ⟨a, b, e, h, q⟩ => ⟨a, b, e, m.1 _ _ h, TAt.imm m q⟩
  | .maybe p, _, ⟨a, b, e, h, q⟩ => ⟨a, b, e, m.1 _ _ h, TAt.imm m q⟩
  | .chain ps, _, ⟨a, t, us, e, h, h2, q⟩ => ⟨a, t, us, e, m.1 _ _ h, m.1 _ _ h2, TAt.imm m q⟩
  | .either ps, _, ⟨a, t, us, e, h, h2, q⟩ => ⟨a, t, us, e, m.1 _ _ h, m.1 _ _ h2, TAt.imm m q⟩
  | .nil, _, h => h
  | .cons p ps, _, ⟨b, us, e, h, q⟩ => ⟨b, us, e, TAt.imm m h, TAt.imm m q⟩
/-- how many parts -/
def Sh.cnt : Sh → Nat
  | .cons _ ps => ps.cnt + 1
  | _ => 0
/-- a shape (false), a list of parts (true) that is well made -/
def Sh.ok : Sh → Bool → Prop
  | .nothing, b => b = false
  | .tree _ _, b => b = false
  | .many p, b => b = false ∧ p.ok false
  | .some p, b => b = false ∧ p.ok false
  | .maybe p, b => b = false ∧ p.ok false
  | .chain ps, b => b = false ∧ ps.ok true ∧ 2 ≤ ps.cnt
  | .either ps, b => b = false ∧ ps.ok true ∧ 2 ≤ ps.cnt
  | .nil, b => b = true
  | .cons p ps, b => b = true ∧ p.ok false ∧ ps.ok true
def Sh.deep : Sh → Nat
  | .nothing => 1
  | .tree _ _ => 1
  | .many p => p.deep + 1
  | .some p => p.deep + 1
  | .maybe p => p.deep + 1
  | .chain ps => ps.deep + 1
  | .either ps => ps.deep + 1
  | .nil => 0
  | .cons p ps => max p.deep ps.deep
def Sh.trees : Sh → Nat
  | .nothing => 0
  | .tree _ _ => 1
  | .many p => p.trees
  | .some p => p.trees
  | .maybe p => p.trees
  | .chain ps => ps.trees
  | .either ps => ps.trees
  | .nil => 0
  | .cons p ps => p.trees + ps.trees
def Sh.sz : Sh → Nat
  | .nothing => 1
  | .tree _ _ => 1
  | .many p => p.sz + 1
  | .some p => p.sz + 1
  | .maybe p => p.sz + 1
  | .chain ps => ps.sz + 1
  | .either ps => ps.sz + 1
  | .nil => 0
  | .cons p ps => p.sz + ps.sz
/-- of each Tree -/
def Sh.all (P : Option Str → Str → Prop) : Sh → Prop
  | .nothing => True
  | .tree w n => P w n
  | .many p => p.all P
  | .some p => p.all P
  | .maybe p => p.all P
  | .chain ps => ps.all P
  | .either ps => ps.all P
  | .nil => True
  | .cons p ps => p.all P ∧ ps.all P
theorem Sh.all_mono {P Q : Option Str → Str → Prop} (h : ∀ w n, P w n → Q w n) : ∀ {s : Sh}, s.all P → s.all Q
  | .nothing, _ => trivial
  | .tree w n, q => h w n q
  | .many p, q => Sh.all_mono (s := p) h q
  | .some p, q => Sh.all_mono (s := p) h q
  | .maybe p, q => Sh.all_mono (s := p) h q
  | .chain ps, q => Sh.all_mono (s := ps) h q
  | .either ps, q => Sh.all_mono (s := ps) h q
  | .nil, _ => trivial
  | .cons p ps, q => ⟨Sh.all_mono (s := p) h q.1, Sh.all_mono (s := ps) h q.2⟩
theorem TAt.len {H : Hp} : ∀ {s : Sh} {vs : List V}, s.ok true → TAt H s vs → vs.length = s.cnt
  | .nil, _, _, h => by rw [show _ = [] from h]; rfl
  | .cons p ps, _, o, ⟨b, us, e, h, q⟩ => by
    rw [e]
    exact congrArg (· + 1) (TAt.len o.2.2 q)
theorem TAt.one {H : Hp} : ∀ {s : Sh} {vs : List V}, s.ok false → TAt H s vs → ∃ (a : Addr) (xs : List V) (x : Str), vs = [.ref a] ∧ H a = some (.tup (.str x :: xs))
  | .nothing, _, _, ⟨a, e, h⟩ => ⟨a, _, _, e, h⟩
  | .tree w n, _, _, ⟨a, e, h⟩ => ⟨a, _, _, e, h⟩
  | .many p, _, _, ⟨a, b, e, h, q⟩ => ⟨a, _, _, e, h⟩
  | .some p, _, _, ⟨a, b, e, h, q⟩ => ⟨a, _, _, e, h⟩
  | .maybe p, _, _, ⟨a, b, e, h, q⟩ => ⟨a, _, _, e, h⟩
  | .chain ps, _, _, ⟨a, t, us, e, h, h2, q⟩ => ⟨a, _, _, e, h⟩
  | .either ps, _, _, ⟨a, t, us, e, h, h2, q⟩ => ⟨a, _, _, e, h⟩
/-! ### told shapes as keys -/
def wk : Option Str → NestedKey
  | none => .none
  | some x => .text x
def nk : Sh → List NestedKey
  | .nothing => [.tup [.text "nothing"]]
  | .tree w n => [.tup [.text "tree", wk w, .text n]]
  | .many p => [.tup (.text "many" :: nk p)]
  | .some p => [.tup (.text "some" :: nk p)]
  | .maybe p => [.tup (.text "maybe" :: nk p)]
  | .chain ps => [.tup [.text "chain", .tup (nk ps)]]
  | .either ps => [.tup [.text "either", .tup (nk ps)]]
  | .nil => []
  | .cons p ps => nk p ++ nk ps
/-- the word that a told shape begins with, what stands behind it -/
def Sh.tag : Sh → Str
  | .nothing => "nothing"
  | .tree _ _ => "tree"
  | .many _ => "many"
  | .some _ => "some"
  | .maybe _ => "maybe"
  | .chain _ => "chain"
  | .either _ => "either"
  | .nil => ""
  | .cons _ _ => ""
def Sh.cd : Sh → Nat
  | .nothing => 0
  | .tree _ _ => 1
  | .many _ => 2
  | .some _ => 3
  | .maybe _ => 4
  | .chain _ => 5
  | .either _ => 6
  | .nil => 7
  | .cons _ _ => 7
def ctag (x : Str) : Nat := if x = "nothing" then 0 else if x = "tree" then 1 else if x = "many" then 2 else if x = "some" then 3 else if x = "maybe" then 4 else if x = "chain" then 5 else if x = "either" then 6 else 7
theorem ctag_tag (s : Sh) : ctag s.tag = s.cd := by
  cases s <;> (show ctag _ = _) <;> (first | (show ctag ("nothing" : Str) = 0; decide +kernel) | (show ctag ("tree" : Str) = 1; decide +kernel) | (show ctag ("many" : Str) = 2; decide +kernel) | (show ctag ("some" : Str) = 3; decide +kernel) | (show ctag ("maybe" : Str) = 4; decide +kernel) | (show ctag ("chain" : Str) = 5; decide +kernel) | (show ctag ("either" : Str) = 6; decide +kernel) | (show ctag ("" : Str) = 7; decide +kernel))
def tl : Sh → List NestedKey
  | .nothing => []
  | .tree w n => [wk w, .text n]
  | .many p => nk p
  | .some p => nk p
  | .maybe p => nk p
  | .chain ps => [.tup (nk ps)]
  | .either ps => [.tup (nk ps)]
  | .nil => []
  | .cons _ _ => []
theorem nk_tag : ∀ {s : Sh}, s.ok false → nk s = [.tup (.text s.tag :: tl s)]
  | .nothing, _ => rfl
  | .tree w n, _ => rfl
  | .many p, _ => rfl
  | .some p, _ => rfl
  | .maybe p, _ => rfl
  | .chain ps, _ => rfl
  | .either ps, _ => rfl
  | .nil, h => by cases h
  | .cons p ps, h => by cases h.1
theorem wk_inj {a b : Option Str} (h : wk a = wk b) : a = b := by
  cases a <;> cases b <;> simp_all [wk]
theorem nk_cd {s t : Sh} (hs : s.ok false) (ht : t.ok false) (e : nk s = nk t) : s.cd = t.cd ∧ tl s = tl t := by
  rw [nk_tag hs, nk_tag ht] at e
  injection e with e1 _
  injection e1 with e2
  injection e2 with e3 e4
  injection e3 with e5
  exact ⟨by rw [← ctag_tag, ← ctag_tag, e5], e4⟩
theorem nk_inj : ∀ {s t : Sh} {f : Bool}, s.ok f → t.ok f → nk s = nk t → s = t
  | .nothing, t, f, hs, ht, e => by
    cases hs
    have c := (nk_cd (s := .nothing) rfl ht e).1
    cases t <;> first | rfl | cases c
  | .tree w n, t, f, hs, ht, e => by
    cases hs
    have c := nk_cd (s := .tree w n) rfl ht e
    cases t <;> (first | cases c.1 | skip)
    rename_i w' n'
    have e2 : [wk w, NestedKey.text n] = [wk w', .text n'] := c.2
    injection e2 with e3 e4
    injection e4 with e5 _
    injection e5 with e6
    rw [wk_inj e3, e6]
  | .many p, t, f, hs, ht, e => by
    obtain ⟨rfl, hp⟩ := hs
    have c := nk_cd (s := .many p) ⟨rfl, hp⟩ ht e
    cases t <;> (first | cases c.1 | skip)
    rw [nk_inj (s := p) hp ht.2 c.2]
  | .some p, t, f, hs, ht, e => by
    obtain ⟨rfl, hp⟩ := hs
    have c := nk_cd (s := .some p) ⟨rfl, hp⟩ ht e
    cases t <;> (first | cases c.1 | skip)
    rw [nk_inj (s := p) hp ht.2 c.2]
  | .maybe p, t, f, hs, ht, e => by
    obtain ⟨rfl, hp⟩ := hs
    have c := nk_cd (s := .maybe p) ⟨rfl, hp⟩ ht e
    cases t <;> (first | cases c.1 | skip)
    rw [nk_inj (s := p) hp ht.2 c.2]
  | .chain p, t, f, hs, ht, e => by
    obtain ⟨rfl, hp, h2⟩ := hs
    have c := nk_cd (s := .chain p) ⟨rfl, hp, h2⟩ ht e
    cases t <;> (first | cases c.1 | skip)
    rename_i q
    have e2 : [NestedKey.tup (nk p)] = [.tup (nk q)] := c.2
    injection e2 with e3 _
    injection e3 with e4
    rw [nk_inj (s := p) hp ht.2.1 e4]
  | .either p, t, f, hs, ht, e => by
    obtain ⟨rfl, hp, h2⟩ := hs
    have c := nk_cd (s := .either p) ⟨rfl, hp, h2⟩ ht e
    cases t <;> (first | cases c.1 | skip)
    rename_i q
    have e2 : [NestedKey.tup (nk p)] = [.tup (nk q)] := c.2
    injection e2 with e3 _
    injection e3 with e4
    rw [nk_inj (s := p) hp ht.2.1 e4]
  | .nil, t, f, hs, ht, e => by
    cases hs
    cases t with
    | nil => rfl
    | cons p ps =>
      have e2 : ([] : List NestedKey) = nk p ++ nk ps := e
      rw [nk_tag ht.2.1] at e2
      cases e2
    | nothing => cases ht
    | tree _ _ => cases ht
    | many _ => cases ht.1
    | some _ => cases ht.1
    | maybe _ => cases ht.1
    | chain _ => cases ht.1
    | either _ => cases ht.1
  | .cons p ps, t, f, hs, ht, e => by
    obtain ⟨rfl, hp, hps⟩ := hs
    cases t with
    | nil =>
      have e2 : nk p ++ nk ps = [] := e
      rw [nk_tag hp] at e2
      cases e2
    | cons q qs =>
      have e2 : nk p ++ nk ps = nk q ++ nk qs := e
      have hq := ht.2.1
      rw [nk_tag hp, nk_tag hq] at e2
      injection e2 with e3 e4
      have e5 : nk p = nk q := by rw [nk_tag hp, nk_tag hq, e3]
      rw [nk_inj (s := p) hp hq e5, nk_inj (s := ps) hps ht.2.2 e4]
    | nothing => cases ht
    | tree _ _ => cases ht
    | many _ => cases ht.1
    | some _ => cases ht.1
    | maybe _ => cases ht.1
    | chain _ => cases ht.1
    | either _ => cases ht.1
end K17
end PartK17Data
section PartK17Rules
set_option Elab.async false
set_option linter.all false
set_option maxRecDepth 100000
set_option maxHeartbeats 2000000
/-! Rules that HandS lacks: one of two readings, xs[i] in xs[i] += e, an instance without __init__, C.f(..) of a class's own def, enumerate(tuple), dicts keyed by told shapes. -/
namespace K17
open PySem PySem.Spec PyProof.Rows L2
section
variable {X : Cx}
/-! ### one of two readings -/
def tOr2 (t u : TE) : TE := fun σ H Q => t σ H Q ∨ u σ H Q
theorem pe_or2 {e : Expr} {t u : TE} (h1 : PE X e t) (h2 : PE X e u) : PE X e (tOr2 t u) :=
  ⟨fun pins s σ H Q I h => h.elim (fun z => h1.run pins s σ H Q I z) fun z => h2.run pins s σ H Q I z⟩
def tOrS (t u : TS) : TS := fun D σ H => t D σ H ∨ u D σ H
theorem ps_or2 {st : Stmt} {t u : TS} (h1 : PS X st t) (h2 : PS X st u) : PS X st (tOrS t u) :=
  ⟨fun pins s σ H D I h => h.elim (fun z => h1.run pins s σ H D I z) fun z => h2.run pins s σ H D I z⟩
theorem pss_or2 {st : List Stmt} {t u : TS} (h1 : PSs X st t) (h2 : PSs X st u) : PSs X st (tOrS t u) :=
  ⟨fun pins s σ H D I h => h.elim (fun z => h1.run pins s σ H D I z) fun z => h2.run pins s σ H D I z⟩
/-! ### xs[i], by values -/
def gIxL (K : PySem.W.Frag) : V → V → Hp → VK → Prop := fun x y H Q => ∃ p xs i v, x = .ref p ∧ y = .int i ∧ 0 ≤ i ∧ SqL K H p xs ∧ xs[i.toNat]? = some v ∧ Q v H
theorem pget_list : PGet X (gIxL X.K) := by
  intro pins s σ H x y ov iv Q I rx ry h
  obtain ⟨p, xs, i, v, rfl, rfl, h0, hq, he, q⟩ := h
  obtain rfl : ov = Value.ref p := rx
  obtain ⟨tk, rfl⟩ := ry
  obtain ⟨its, r, pl, hz⟩ := I.list hq
  obtain ⟨u, eu, ru⟩ := r.get he
  have hn := line63
  have hlt := (List.getElem?_eq_some_iff.mp he).1
  exact wpAny_getItem_list pl.isList h0 (by omega) (by simpa using eu) ⟨v, H, I, ru, q⟩
/-! ### C() where no __init__ stands -/
def tMk0 (C : Addr) : TE := fun _ H Q => ∀ x dx, H x = none → H dx = none → dx ≠ x → Q (.ref x) (upd (upd H dx (.own x)) x (.ins C dx []))
theorem pe_mk0 {C : Addr} {x : Str} {p pos : Pos} (hg : Gl X x) (hm : X.mg x = some (.ref C)) (hk : PySem.W.keepIn X.K (.ref C) = true) (mk : PySem.W.makesIn X.K C = true)
    (ini : PySem.W.findIn X.K (.ref C) "__init__" = some (some (.builtin "object.__init__"))) (hdb : (x == ("__debug__" : Str)) = false := by decide) : PE X (.Call (.Name x p) [] [] pos) (tMk0 C) := by
  refine ⟨fun pins s σ H Q I hq => ?_⟩
  refine wpAny_Call_Name_kw (ld_glob I hg hm ?_ hdb)
  refine PySem.W.callWith_K0 I.kIn hk ?_
  refine wpAny_call ?_
  have I2 := Inv.made (C := C) I
  have z := hq (s.heap.objs.size + 1) s.heap.objs.size (I.hok.fresh (Nat.le_succ _)) (I.hok.fresh (Nat.le_refl _)) (Nat.ne_of_lt (Nat.lt_succ_self _))
  refine make_map0 I.kIn mk ini (fun self => PySem.W.Looks.of_pure (PySem.W.oi_bind self)) ?_
  have at1 : ((s.heap.push PySem.W.emptyDict).push (PySem.W.instObj C s.heap.objs.size)).get? (s.heap.objs.size + 1) = some (PySem.W.instObj C s.heap.objs.size) := by
    have q := Heap.get?_push_size (s.heap.push PySem.W.emptyDict) (o := PySem.W.instObj C s.heap.objs.size) rfl
    rwa [Heap.size_push] at q
  have Y := PySem.W.makes_of (M := model X.prog X.w) I.kIn mk
  have t1 : PySem.W.Looks (model X.prog X.w) ((s.heap.push PySem.W.emptyDict).push (PySem.W.instObj C s.heap.objs.size)) (typeOf (.ref (s.heap.objs.size + 1))) (.ref C) := (PySem.W.Looks.ld at1).andThen .now
  have t2 : PySem.W.Looks (model X.prog X.w) ((s.heap.push PySem.W.emptyDict).push (PySem.W.instObj C s.heap.objs.size)) (isInstance (.ref (s.heap.objs.size + 1)) (.type "object")) true :=
    t1.andThen (Y.top.keeps fun b o e => Heap.get?_push_of_some _ (Heap.get?_push_of_some _ e))
  refine codeAny_call_builtin PySem.W.oi_plain PySem.W.entry_oi (@PySem.W.check_slot (model X.prog X.w) _ _ _ "object.__init__" "object" "__init__" (.ref (s.heap.objs.size + 1)) [] [] _ PySem.W.oi_kind PySem.W.oi_split t2 (PySem.W.oi_args (.ref (s.heap.objs.size + 1))) ?_)
  rw [PySem.W.oi_run]
  exact wpAny_pure (And.intro rfl ⟨V.ref (s.heap.objs.size + 1), _, I2, rfl, z⟩)
/-! ### C.f(e, ..), f a def of the class C -/
theorem pe_cfn {C g : Addr} {k : Nat} {fd : FuncData} {ps : List Str} {sp : Sp} {m : Str} {o e : Expr} {es : List Expr} {apos pos : Pos} {t : TA} {pl : Sem Bool} (he : PE X o (tC (.ref C))) (hr0 : PySem.W.readsIn X.K C (.type "type") = true)
    (ga : PySem.W.specialIn X.K (.ref C) "__getattribute__" = some (some (.builtin "type.__getattribute__"))) (fc : PySem.W.findCls X.K (.ref C) (.type "type") m = some (.val (.ref g))) (kg : PySem.W.keepIn X.K (.ref g) = true)
    (F : FnOk X.prog X.w X.K X.mg X.base CX0 k g fd ps sp) (hr : Room k X.A) (hb : Binds X.K fd ps []) (ha : PA X (e :: es) t)
    (hst : starEach (e :: es) X.env = (false, eval e X.env) :: starEach es X.env := by rfl) (hpl : (backTo pos (starEach es X.env)).any (·.1) = false := by rfl)
    (ht : eval (.Call (.Attribute o m apos) (e :: es) [] pos) X.env = (do
      let ov ← eval o X.env
      standAt apos.atName
      let (f, first) ← holding [ov] (getMethod ov m pl)
      callWith pos f first (backTo pos (starEach (e :: es) X.env)) (backToKw pos (keywordEach [] X.env))) := by rfl) :
    PE X (.Call (.Attribute o m apos) (e :: es) [] pos) (tCall sp [] E0 t) := by
  refine ⟨fun pins s σ H Q I hq => ?_⟩
  refine PySem.W.methodCall_KW (pl := pl) (thn (he.run pins s σ H (fun v H1 => v = .ref C ∧ H1 = H) I ⟨rfl, rfl⟩) fun u s1 ⟨x, H1, I1, rx, q1⟩ => ?_) ht
  obtain ⟨rfl, rfl⟩ := q1
  obtain rfl : u = Value.ref C := rx
  refine PySem.W.method_cls I1.kIn ga (PySem.W.cls_value I1.kIn hr0 fc rfl ?_)
  refine PySem.W.callWith_K (first := []) (h₀ := X.base) I.ok.mod.kin kg (thn (ha.run pos pins _ σ H1 _ (I1.tok _) hq) fun us s2 ⟨vs, H2, I2, r, q2⟩ => ⟨I2.kIn, ?_⟩) hst hpl
  exact run_fn F hr hb .nil pass0 I2 r q2
/-! ### for i, x in enumerate(a tuple) -/
theorem meets_enumT {v : Value} {o : Obj} {H : Heap → Prop} (B : Begins v o H) :
    Meets (Builtin.«enumerate.__new__» ⟨[.type "enumerate", v], []⟩) (fun _ R s => H s.heap ∧
      R (.ok (.ret (.ref (s.heap.push o).objs.size))) { s with heap := (s.heap.push o).push { cls := .type "enumerate", data := .fields #[.none, .bool false, .ref s.heap.objs.size, rawInt 0, .none, .none] } }) :=
  .of_wp fun prog w A R s h => by
    obtain ⟨hp, g, d, tk, os⟩ := s
    obtain ⟨h1, h⟩ := h
    have hsub := sub_enumerate
    have q1 : ∀ {A' : Around} {E : Value → Shared → Prop} {Q : Value → Shared → Prop}, Q (.ref hp.objs.size) ⟨hp.push o, g, d, tk, os⟩ → wpAny (model prog w) A' (pyIter v) Q E ⟨hp, g, d, tk, os⟩ :=
      fun q => B.iter prog w _ _ ⟨hp, g, d, tk, os⟩ _ h1 q
    wp_walk using q1
    refine wpAny_stack_any fun st => wpAny_pure ?_
    split
    · rename_i c _ _ _ _ _
      cases (c == Value.type "enumerate")
      · wp_walk using q1
        exact ⟨_, rfl, h⟩
      · wp_walk using q1
        exact ⟨_, rfl, h⟩
    · wp_walk using q1
      exact ⟨_, rfl, h⟩
theorem enum_begins1 {prog : Program} {w : World} {A : Around} {E : Value → Shared → Prop} {s : Shared} {v : Value} {o : Obj} {H : Heap → Prop} {Q : Value → Shared → Prop} (B : Begins v o H) (h1 : H s.heap)
    (h : ∀ h', IsEnum h' (s.heap.objs.size + 1) s.heap.objs.size 0 .none → h'.get? s.heap.objs.size = some o → h'.objs.size = s.heap.objs.size + 2 →
      (∀ b o, s.heap.get? b = some o → h'.get? b = some o) → Q (.ref (s.heap.objs.size + 1)) { s with heap := h' }) :
    wpAny (model prog w) A (call (.type "enumerate") [v]) Q E s := by
  refine callType_new F.called_enumerate (by decide) (F.typeCall_enumerate_1 _) (F.newCall_enumerate_1 _) (fun obj => F.args_object_init_2 obj _) F.entry_enumerate_new (meets_enumT B) ⟨h1, ?_⟩
  have hz : (s.heap.push o).objs.size = s.heap.objs.size + 1 := Heap.size_push ..
  show _ ∧ _
  rw [hz]
  have he : IsEnum ((s.heap.push o).push { cls := .type "enumerate", data := .fields #[.none, .bool false, .ref s.heap.objs.size, rawInt 0, .none, .none] }) (s.heap.objs.size + 1) s.heap.objs.size 0 .none := by
    have q := Heap.get?_push_size (s.heap.push o) (o := { cls := .type "enumerate", data := .fields #[.none, .bool false, .ref s.heap.objs.size, rawInt 0, .none, .none] }) rfl
    rw [hz] at q
    exact q
  exact ⟨⟨_, he, rfl⟩, h _ he (Heap.get?_push_of_some _ (Heap.get?_push_size _ B.free)) (by rw [Heap.size_push, hz]) fun b o x => Heap.get?_push_of_some _ (Heap.get?_push_of_some _ x)⟩
/-- the tuple at a, each item in a new pair -/
def ItE (K : PySem.W.Frag) (a : Addr) : It :=
  ⟨fun i H => ∃ (xs : List V) (x : V), SqT K H a xs ∧ xs[i]? = some x, fun i H v H' => ∃ T x, v = .ref T ∧ H T = none ∧ H' = upd H T (.tup [.int (i : Nat), x]) ∧ ∀ xs, SqT K H a xs → xs[i]? = some x, fun i H => ∃ xs : List V, SqT K H a xs ∧ xs.length ≤ i⟩
theorem turn_enumT {P : Program} {w : World} {K : PySem.W.Frag} {elts : List Expr} {kk : Nat} {tpos : Pos} (a e it : Addr) :
    Turn P w K (.Tuple elts kk tpos) (ItE K a) [e, it] e (fun i h => (∃ old, IsEnum h e it ((i : Nat) : Int) old) ∧ h.IsTupleIter it a i ∧ e ≠ it ∧ e ≠ a ∧ a ≠ it) where
  mem := by simp
  obj := fun i h st b hb => by
    obtain ⟨⟨old, he⟩, ⟨o, ho, hc, hd⟩, _⟩ := st
    have e' : b = e ∨ b = it := by simpa using hb
    rcases e' with z | z
    · rw [z]
      exact ⟨_, he, fun v q => nomatch q⟩
    · rw [z]
      exact ⟨o, ho, fun v q => by rw [hd] at q; cases q⟩
  keep := fun i h h' st k => let ⟨⟨old, he⟩, hi, hne⟩ := st; ⟨⟨old, k e (by simp) _ he⟩, hi.at fun o q => k it (by simp) o q, hne⟩
  item := by
    intro X hP hw hK hc i pins s σ H E I hf st hg
    subst hP hw hK
    obtain ⟨⟨old, he⟩, hit, hne, hea, hai⟩ := st
    obtain ⟨xs, x, hq, hx⟩ := hg
    obtain ⟨its, rv, p, hz⟩ := I.tuple hq
    obtain ⟨u, hu, ru⟩ := rv.get hx
    have hlen : i < its.toArray.size := by
      have q1 := (List.getElem?_eq_some_iff.mp hu).1
      simpa using q1
    have hel : e < s.heap.objs.size := Heap.lt_size he
    have hil : it < s.heap.objs.size := by
      obtain ⟨_, q, _⟩ := hit
      exact Heap.lt_size q
    have D := Draws.tuple (prog := X.prog) (w := X.w) (A := X.A.in1) (I.ok.hd hc) it a hai its.toArray
    refine wpAny_pyNext_enum_itemD D he ⟨hit, p⟩ hlen hne (by simp [hne, hea]) fun u' h' tk hP' ho st' hT hsz hk => ?_
    have eu : u' = u := by
      have q1 : its.toArray[i]? = some u' := hP'
      rw [List.getElem?_toArray, hu] at q1
      exact (Option.some.inj q1).symm
    subst eu
    refine ⟨_, rfl, wpAny_letOwnedTupleGo_enum (s := { s with heap := h', toks := tk + 1 }) ho fun h'' he' sb => ?_⟩
    have hT2 : h''.get? s.heap.objs.size = some { cls := .type "tuple", data := .seq #[.int i tk, u'] } := (sb.2 _ (Nat.ne_of_gt hel)).trans hT
    have new : ObjOk X.prog X.w (upd H s.heap.objs.size (.tup [.int (i : Nat), x])) h'' s.heap.objs.size (.tup [.int (i : Nat), x]) :=
      ⟨by show 2 ≤ sizeLine; decide, [.int i tk, u'], .cons ⟨_, rfl⟩ (.cons ru .nil), ⟨_, hT2, rfl, _, rfl⟩⟩
    have I1 : Inv X pins σ (upd H s.heap.objs.size (.tup [.int (i : Nat), x])) { s with heap := h'', toks := tk + 1 } :=
      I.turnedNew (ch := [e, it]) (fun b ob hb q => (sb.2 b (fun z => hb (by simp [z]))).trans (hk b ob (fun z => hb (by simp [z])) (fun z => hb (by simp [z])) q)) hf (Nat.le_refl _) new
    refine ⟨.ref s.heap.objs.size, _, I1, rfl, ⟨_, x, rfl, I.hok.fresh (Nat.le_refl _), rfl, fun ys hy => by rw [I.tuple_inj hy hq]; exact hx⟩, ⟨⟨u', ?_⟩, st'.1.at fun o q => (sb.2 it (Ne.symm hne)).trans q, hne, hea, hai⟩, fun b hb => ?_⟩
    · have e1 : ((i + 1 : Nat) : Int) = (i : Int) + 1 := by omega
      rw [e1]
      exact he'
    · have hb' : b < s.heap.objs.size := by
        have e' : b = e ∨ b = it := by simpa using hb
        rcases e' with z | z
        · rw [z]
          exact hel
        · rw [z]
          exact hil
      rw [upd_ne (Nat.ne_of_lt hb')]
      exact (hf b hb).1
  done := by
    intro X hP hw hK hc i pins s σ H E I hf st hg
    subst hP hw hK
    obtain ⟨⟨old, he⟩, hit, hne, hea, hai⟩ := st
    obtain ⟨xs, hq, hx⟩ := hg
    obtain ⟨its, rv, p, hz⟩ := I.tuple hq
    obtain ⟨f0, f1, f2, f3, f4, f5⟩ := hf it (by simp)
    have hl := rv.length
    have hT : s.TypeIs (.ref e) "enumerate" := ⟨_, he, rfl⟩
    unfold pyNext
    refine wpAny_bind (wpAny_attempt (wpAny_callSpecial?_slot (name := Str.ofString "__next__") hT F.slot_enumerate_next
      (wpAny_call_entry F.slot_enumerate_next hT F.entry_enumerate_next ?_ (F.args_enumerate_next_1 _))))
    show wpAny _ _ (field (.ref e) 2 >>= _) _ _ _
    refine wpAny_bind (wpAny_field he rfl (x := .ref it) rfl ?_)
    refine wpAny_bind (wpAny_nextOf_tuple_end (I.ok.hd hc) hit (show s.heap.IsTuple a its.toArray from p) (by simp; omega) fun h' x he' hx' => ?_)
    obtain ⟨o, ho, hc2⟩ := hx'
    refine wpAny_bind (wpAny_isInstance (T := "StopIteration") (b := true) ⟨o, ho, hc2⟩ isSubtype_stop ?_)
    exact wpAny_pure ⟨rfl, I.turned (t' := s.toks) (fun b o hb q => he' b o hb q) f0 f1 f3 f4 f5⟩
  self := fun A i s Q E st h => let ⟨⟨_, he⟩, _⟩ := st; wpAny_pyIter_enum he h
def iEnumT (K : PySem.W.Frag) (ta : TA) : TI := fun σ H R => ta σ H fun vs H1 => ∃ a xs, vs = [.ref a] ∧ SqT K H1 a xs ∧ R (ItE K a) H1
theorem pi_enumT {e : Expr} {ta : TA} {p pos tpos : Pos} {elts : List Expr} {kk : Nat} (hg : Gl X "enumerate") (hm : X.mg "enumerate" = none) (ha : PA X [e] ta) (hs : starEach [e] X.env = [(false, eval e X.env)] := by rfl) :
    PI X (.Tuple elts kk tpos) (.Call (.Name "enumerate" p) [e] [] pos) (iEnumT X.K ta) := by
  refine ⟨fun pins s σ H R I hq => ?_⟩
  refine Call_ (ld_blt I hg hm boot_enumerate (PyProof.Rows.callWith_type1 (thn (ha.run pos pins s σ H _ I hq) fun us s1 ⟨vs, H1, I1, r1, q1⟩ => ?_) hs rfl))
  obtain ⟨a, xs, ex, hq, q⟩ := q1
  subst ex
  obtain ⟨u, rfl, ru⟩ := Vals.one r1
  obtain rfl : u = Value.ref a := ru
  obtain ⟨its, rv, p', hz⟩ := I1.tuple hq
  have ha : a < s1.heap.objs.size := p'.lt
  refine enum_begins1 (begins_tuple a its.toArray) p' fun h' he hit hsz hk => wpAny_pyIter_enum he ?_
  have I2 : Inv X pins σ H1 { s1 with heap := h' } := I1.kept (t' := s1.toks) hk
  refine ⟨s1.heap.objs.size + 1, [s1.heap.objs.size + 1, s1.heap.objs.size], _, _, H1, rfl, I2, turn_enumT a (s1.heap.objs.size + 1) s1.heap.objs.size, ⟨⟨.none, he⟩, ⟨_, hit, rfl, rfl⟩, Nat.succ_ne_self _, Nat.ne_of_gt (Nat.lt_succ_of_lt ha), Nat.ne_of_lt ha⟩, fun b hb => ?_, q⟩
  have e' : b = s1.heap.objs.size + 1 ∨ b = s1.heap.objs.size := by simpa using hb
  have hle : s1.heap.objs.size ≤ b := by
    rcases e' with z | z
    · rw [z]
      exact Nat.le_add_right _ _
    · rw [z]
      exact Nat.le_refl _
  exact I1.fpOk hle (I1.hok.fresh hle)
end
/-- a for over it -/
theorem for_enumT {K : PySem.W.Frag} {a : Addr} {xs : List V} {g : TG} {tb : TS} {D : Ends} {σ : L2.St} {H : Hp} (Pv : Nat → L2.St → Hp → Prop) (h0 : Pv 0 σ H) (hl : ∀ i σ H, i ≤ xs.length → Pv i σ H → SqT K H a xs)
    (hs : ∀ i x σ H T, xs[i]? = some x → Pv i σ H → H T = none → g (.ref T) σ (upd H T (.tup [.int (i : Nat), x])) fun σ2 H2 => tb { D with nx := Pv (i + 1), ct := Pv (i + 1), bk := D.nx } σ2 H2) (hd : ∀ σ H, Pv xs.length σ H → D.nx σ H) :
    ∃ W : Nat → Nat → L2.St → Hp → Prop, (∃ m, W 0 m σ H) ∧ ∀ i m σ H, W i m σ H →
      ((ItE K a).stop i H ∧ D.nx σ H) ∨ ((ItE K a).go i H ∧ ∃ N : L2.St → Hp → Prop, (∀ σ' H', N σ' H' → ∃ m', m' < m ∧ W (i + 1) m' σ' H') ∧ ∀ x H', (ItE K a).yld i H x H' → g x σ H' fun σ2 H2 => tb { D with nx := N, ct := N, bk := D.nx } σ2 H2) := by
  refine ⟨fun i m σ H => m = xs.length - i ∧ i ≤ xs.length ∧ Pv i σ H, ⟨xs.length, by simp, Nat.zero_le _, h0⟩, ?_⟩
  rintro i m σ H ⟨rfl, hi, p⟩
  have q := hl i σ H hi p
  by_cases hlt : i < xs.length
  · refine .inr ⟨⟨xs, xs[i], q, by simp [hlt]⟩, Pv (i + 1), fun σ' H' p' => ⟨xs.length - (i + 1), by omega, rfl, hlt, p'⟩, fun x H' y => ?_⟩
    obtain ⟨T, z, rfl, hT, rfl, y⟩ := y
    exact hs i z σ H T (y xs q) p hT
  · have e : i = xs.length := by omega
    subst e
    exact .inl ⟨⟨xs, q, Nat.le_refl _⟩, hd σ H p⟩
end K17
end PartK17Rules
section PartK17Keyed
set_option Elab.async false
set_option linter.all false
set_option maxRecDepth 100000
set_option maxHeartbeats 2000000
/-! A dict whose keys are told shapes (nested tuples), over the abstract heap: {}, in, not in, d[k], d[k] = v (a new key), len. -/
namespace K17
open PySem PySem.Spec PyProof.Rows L2
/-! ### told shapes are keys -/
theorem nall_app {h : Heap} : ∀ {ks ls : List NestedKey} {us ws : List Value}, NestedAll h ks us → NestedAll h ls ws → NestedAll h (ks ++ ls) (us ++ ws)
  | [], _, _, _, a, b => by cases a; exact b
  | k :: ks, _, _, _, a, b => by
    cases a with
    | cons x y => exact .cons x (nall_app y b)
theorem tup_key {P : Program} {w : World} {H : Hp} {h : Heap} (hok : HOk P w H h) {a : Addr} {xs : List V} {ks : List NestedKey} (e : H a = some (.tup xs)) (q : ∀ us, Vals xs us → NestedAll h ks us) : NestedIs h (.tup ks) (.ref a) := by
  obtain ⟨_, its, r, o, h1, h2, n, h3⟩ := hok a _ e
  exact .tup h1 h2 h3 (by simpa using q its r)
theorem key_all {P : Program} {w : World} {H : Hp} {h : Heap} (hok : HOk P w H h) : ∀ {s : Sh} {vs : List V} {us : List Value}, TAt H s vs → Vals vs us → NestedAll h (nk s) us := by
  have one : ∀ {a : Addr} {us : List Value} {xs : List V} {ks : List NestedKey}, H a = some (.tup xs) → (∀ us, Vals xs us → NestedAll h ks us) → Vals [V.ref a] us → NestedAll h [.tup ks] us := by
    intro a us xs ks e q r
    obtain ⟨u, rfl, ru⟩ := Vals.one r
    obtain rfl : u = Value.ref a := ru
    exact .cons (tup_key hok e q) .nil
  have str1 : ∀ {x : Str} {vs : List V} {us : List Value} {ks : List NestedKey}, Vals (V.str x :: vs) us → (∀ ws, Vals vs ws → NestedAll h ks ws) → NestedAll h (.text x :: ks) us := by
    intro x vs us ks r q
    cases r with
    | cons r1 r2 =>
      obtain ⟨t, rfl⟩ := r1
      exact .cons (.text x t) (q _ r2)
  intro s
  induction s with
  | nothing =>
    rintro vs us ⟨a, rfl, e⟩ r
    refine one e (fun us r => str1 r fun ws r => ?_) r
    cases r
    exact .nil
  | tree w' n =>
    rintro vs us ⟨a, rfl, e⟩ r
    refine one e (fun us r => str1 r fun ws r => ?_) r
    cases r with
    | cons r1 r2 =>
      refine .cons ?_ (str1 r2 fun ws r => ?_)
      · cases w' with
        | none =>
          cases (show _ = Value.none from r1)
          exact .none
        | some x =>
          obtain ⟨t, rfl⟩ := r1
          exact .text x t
      · cases r
        exact .nil
  | many p ih =>
    rintro vs us ⟨a, b, rfl, e, q⟩ r
    exact one e (fun us r => str1 r fun ws r => ih q r) r
  | some p ih =>
    rintro vs us ⟨a, b, rfl, e, q⟩ r
    exact one e (fun us r => str1 r fun ws r => ih q r) r
  | maybe p ih =>
    rintro vs us ⟨a, b, rfl, e, q⟩ r
    exact one e (fun us r => str1 r fun ws r => ih q r) r
  | chain ps ih =>
    rintro vs us ⟨a, t, ts, rfl, e, e2, q⟩ r
    exact one e (fun us r => str1 r fun ws r => one e2 (fun us r => ih q r) r) r
  | either ps ih =>
    rintro vs us ⟨a, t, ts, rfl, e, e2, q⟩ r
    exact one e (fun us r => str1 r fun ws r => one e2 (fun us r => ih q r) r) r
  | nil =>
    rintro vs us e r
    rw [show vs = [] from e] at r
    cases r
    exact .nil
  | cons p ps ih1 ih2 =>
    rintro vs us ⟨b, ts, rfl, q1, q2⟩ r
    cases r with
    | cons r1 r2 => exact nall_app (ih1 q1 (.cons r1 .nil)) (ih2 q2 r2)
theorem depthAll_app : ∀ (ks ls : List NestedKey), NestedKey.depthAll (ks ++ ls) = max (NestedKey.depthAll ks) (NestedKey.depthAll ls)
  | [], ls => by simp [NestedKey.depthAll]
  | k :: ks, ls => by
    have ih := depthAll_app ks ls
    simp only [List.cons_append, NestedKey.depthAll, ih]
    omega
theorem nk_depth : ∀ s : Sh, NestedKey.depthAll (nk s) ≤ 2 * s.deep
  | .nothing => by simp [nk, NestedKey.depthAll, NestedKey.depth, Sh.deep]
  | .tree w n => by cases w <;> simp [nk, wk, NestedKey.depthAll, NestedKey.depth, Sh.deep]
  | .many p => by
    have ih := nk_depth p
    simp only [nk, NestedKey.depthAll, NestedKey.depth, Sh.deep]
    omega
  | .some p => by
    have ih := nk_depth p
    simp only [nk, NestedKey.depthAll, NestedKey.depth, Sh.deep]
    omega
  | .maybe p => by
    have ih := nk_depth p
    simp only [nk, NestedKey.depthAll, NestedKey.depth, Sh.deep]
    omega
  | .chain ps => by
    have ih := nk_depth ps
    simp only [nk, NestedKey.depthAll, NestedKey.depth, Sh.deep]
    omega
  | .either ps => by
    have ih := nk_depth ps
    simp only [nk, NestedKey.depthAll, NestedKey.depth, Sh.deep]
    omega
  | .nil => Nat.zero_le _
  | .cons p ps => by
    have i1 := nk_depth p
    have i2 := nk_depth ps
    simp only [nk, depthAll_app, Sh.deep]
    omega
/-- a told shape that may be a key -/
def Kb (s : Sh) : Prop := s.ok false ∧ s.deep ≤ 3
theorem key_is {P : Program} {w : World} {H : Hp} {h : Heap} (hok : HOk P w H h) {s : Sh} {a : Addr} (hs : Kb s) (t : TAt H s [.ref a]) : ∃ k, nk s = [k] ∧ (nestedKind P w).is h k a := by
  have e := nk_tag hs.1
  refine ⟨_, e, ?_⟩
  have z := key_all hok t (.cons (show RelV (.ref a) (.ref a) from rfl) .nil)
  rw [e] at z
  cases z with
  | cons z1 z2 =>
    refine ⟨z1, ?_⟩
    have d := nk_depth s
    rw [e] at d
    simp only [NestedKey.depthAll] at d
    have := hs.2
    omega
/-! ### the dict -/
abbrev oneO (d : Addr) (o : Obj) : HO := .ext fun h => h.get? d = some o
def KP (H : Hp) : List (Sh × V) → List (NestedKey × Addr × Value) → Prop := Paired fun p x => nk p.1 = [x.1] ∧ TAt H p.1 [.ref x.2.1] ∧ RelV p.2 x.2.2
def KD (P : Program) (w : World) (H : Hp) (d : Addr) (kvs : List (Sh × V)) : Prop :=
  (d == sysModules) = false ∧ kvs.length ≤ 1000 ∧ (∀ p ∈ kvs, Kb p.1) ∧ ∃ (o : Obj) (es : Array DictEntry) (ep : Nat) (xs : List (NestedKey × Addr × Value)), H d = some (oneO d o) ∧ o.ExactDict ∧ o.data = .dict es ep ∧ es.toList = xs.map (entryOfKey (nestedKind P w)) ∧
    (xs.map (·.1)).Nodup ∧ KP H kvs xs
theorem Paired.mono2 {α β : Type} {F G : α → β → Prop} (f : ∀ a b, F a b → G a b) : ∀ {l : List α} {m : List β}, Paired F l m → Paired G l m
  | _, _, .nil => .nil
  | _, _, .cons r t => .cons (f _ _ r) (Paired.mono2 f t)
theorem KD.ext {P : Program} {w : World} {H H' : Hp} {d : Addr} {kvs : List (Sh × V)} (h : KD P w H d kvs) (m : Imm H H') (e : ∀ o, H d = some o → H' d = some o) : KD P w H' d kvs := by
  obtain ⟨h1, h2, h3, o, es, ep, xs, h4, h5, h6, h7, h8, h9⟩ := h
  exact ⟨h1, h2, h3, o, es, ep, xs, e _ h4, h5, h6, h7, h8, Paired.mono2 (fun p x z => ⟨z.1, z.2.1.imm m, z.2.2⟩) h9⟩
theorem kd_len {H : Hp} : ∀ {kvs : List (Sh × V)} {xs : List (NestedKey × Addr × Value)}, KP H kvs xs → kvs.length = xs.length
  | _, _, .nil => rfl
  | _, _, .cons _ t => congrArg (· + 1) (kd_len t)
theorem kd_ofH {P : Program} {w : World} {H : Hp} {h : Heap} (hok : HOk P w H h) {d : Addr} {kvs : List (Sh × V)} (k : KD P w H d kvs) : ∃ xs, h.DictOfH (nestedKind P w) d xs ∧ KP H kvs xs := by
  obtain ⟨h1, h2, h3, o, es, ep, xs, h4, h5, h6, h7, h8, h9⟩ := k
  obtain ⟨z, _, _⟩ := hok d _ h4
  refine ⟨xs, ⟨o, es, ep, z, h5, h6, h7, ?_, h8⟩, h9⟩
  have go : ∀ {kvs : List (Sh × V)} {xs : List (NestedKey × Addr × Value)}, KP H kvs xs → (∀ p ∈ kvs, Kb p.1) → ∀ x ∈ xs, (nestedKind P w).is h x.1 x.2.1 := by
    intro kvs xs r
    induction r with
    | nil => intro _ x hx; cases hx
    | @cons p x kvs xs r t ih =>
      intro hk y hy
      rcases List.mem_cons.mp hy with rfl | hy
      · obtain ⟨k, e1, e2⟩ := key_is hok (hk p (List.mem_cons_self ..)) r.2.1
        have e3 : k = y.1 := by
          have e4 := e1.symm.trans r.1
          injection e4
        rw [← e3]
        exact e2
      · exact ih (fun q hq => hk q (List.mem_cons_of_mem _ hq)) y hy
  exact go h9 h3
theorem kd_val {H : Hp} {s : Sh} {k : NestedKey} (hs : Kb s) (e : nk s = [k]) : ∀ {kvs : List (Sh × V)} {xs : List (NestedKey × Addr × Value)}, KP H kvs xs → (∀ p ∈ kvs, Kb p.1) → RelO (valV kvs s) ((atKey xs k).map (·.2))
  | _, _, .nil, _ => by
    show RelO (valV [] s) _
    rw [valV_nil]
    exact True.intro
  | p :: kvs, x :: xs, .cons r t, hk => by
    have ih := kd_val hs e t fun q hq => hk q (List.mem_cons_of_mem _ hq)
    by_cases q : p.1 = s
    · have e1 : x.1 = k := by
        have z := r.1
        rw [q, e] at z
        injection z with z _
        exact z.symm
      rw [valV_pos q]
      simp [atKey, e1]
      exact r.2.2
    · have e1 : ¬ x.1 = k := fun z => q (nk_inj (hk p (List.mem_cons_self ..)).1 hs.1 (by rw [r.1, z, e]))
      rw [valV_neg q]
      simpa [atKey, e1] using ih
section
variable {X : Cx}
theorem kroom {k : Nat} {A : Around} (hr : Room k A) {P : Program} {w : World} : (nestedKind P w).room A.in1 := by
  have h := hr.units
  show A.units + 1 + 8 < cLine
  omega
def tKNew (P : Program) (w : World) : TE := fun _ H Q => ∀ (d : Addr) (H' : Hp), H d = none → Same H H' → (∀ b, b ≠ d → H' b = H b) → KD P w H' d [] → Q (.ref d) H'
theorem pe_knew {pos : Pos} : PE X (.Dict [] [] pos) (tKNew X.prog X.w) := by
  refine ⟨fun pins s σ H Q I hq => ?_⟩
  have hn : H s.heap.objs.size = none := I.hok.fresh (Nat.le_refl _)
  have at1 : (s.heap.push { cls := .type "dict", data := .dict #[] }).get? s.heap.objs.size = some { cls := .type "dict", data := .dict #[] } := Heap.get?_push_size _ rfl
  refine wpAny_Dict_empty ⟨.ref s.heap.objs.size, upd H s.heap.objs.size (oneO s.heap.objs.size { cls := .type "dict", data := .dict #[] }), I.laid (a := s.heap.objs.size) (t' := s.toks) (fun _ _ q => Heap.get?_push_of_some _ q) (Nat.le_refl _) ?_, rfl, ?_⟩
  · exact ⟨at1, ⟨_, at1⟩, fun h1 h2 z k => k _ z⟩
  · refine hq _ _ hn (same_new hn _) (fun b hb => upd_ne hb) ⟨beq_eq_false_iff_ne.mpr (Ne.symm (Nat.ne_of_lt I.big)), Nat.zero_le _, (fun p hp => by cases hp), _, #[], 0, [], upd_same, ⟨rfl, rfl, rfl⟩, rfl, rfl, List.nodup_nil, .nil⟩
def rKIn (P : Program) (w : World) (f : Bool → Bool) : R2 := fun x y H Q => ∃ (a d : Addr) (s : Sh) (kvs : List (Sh × V)), x = .ref a ∧ y = .ref d ∧ Kb s ∧ TAt H s [.ref a] ∧ KD P w H d kvs ∧ Q (.bl (f (valV kvs s).isSome)) H
theorem op_kin {k : Nat} (hr : Room k X.A) : OpR X (compareOp .In) (rKIn X.prog X.w fun b => b) := by
  intro pins s σ H x y v u Q I rx ry h
  obtain ⟨a, d, sh, kvs, rfl, rfl, hs, ht, hk, q⟩ := h
  obtain rfl : v = Value.ref a := rx
  obtain rfl : u = Value.ref d := ry
  obtain ⟨nkk, e1, e2⟩ := key_is I.hok hs ht
  obtain ⟨xs, hx, hp⟩ := kd_ofH I.hok hk
  have z := RelO.isSome_eq (kd_val hs e1 hp hk.2.2.1)
  refine in_keyed (knd := nestedKind X.prog X.w) (kroom hr) e2 hk.1 ⟨xs, hx, rfl⟩ ⟨.bl _, H, I.tok _, ?_, q⟩
  rw [valueAt_pairsH, ← z]
  rfl
theorem op_knotin {k : Nat} (hr : Room k X.A) : OpR X (compareOp .NotIn) (rKIn X.prog X.w fun b => !b) := by
  intro pins s σ H x y v u Q I rx ry h
  obtain ⟨a, d, sh, kvs, rfl, rfl, hs, ht, hk, q⟩ := h
  obtain rfl : v = Value.ref a := rx
  obtain rfl : u = Value.ref d := ry
  obtain ⟨nkk, e1, e2⟩ := key_is I.hok hs ht
  obtain ⟨xs, hx, hp⟩ := kd_ofH I.hok hk
  have z := RelO.isSome_eq (kd_val hs e1 hp hk.2.2.1)
  refine notIn_keyed (knd := nestedKind X.prog X.w) (kroom hr) e2 hk.1 ⟨xs, hx, rfl⟩ ⟨.bl _, H, I.tok _, ?_, q⟩
  rw [valueAt_pairsH, ← z]
  rfl
/-- d[k], k there -/
def tKGet (P : Program) (w : World) (td ty : TE) : TE := fun σ H Q => td σ H fun x H1 => ty σ H1 fun y H2 => ∃ (a d : Addr) (s : Sh) (kvs : List (Sh × V)) (v : V), x = .ref d ∧ y = .ref a ∧ Kb s ∧ TAt H2 s [.ref a] ∧ KD P w H2 d kvs ∧ valV kvs s = some v ∧ Q v H2
theorem pe_kget {k : Nat} (hr : Room k X.A) {o i : Expr} {pos : Pos} {td ty : TE} (ho : PE X o td) (hi : PE X i ty) (hs : NoSl i := by intro _ _; rfl) : PE X (.Subscript o i pos) (tKGet X.prog X.w td ty) := by
  refine ⟨fun pins s σ H Q I h => ?_⟩
  refine subD_of PySem.F.slot_dict_getitem.lookup hs (thn (ho.run pins s σ H _ I h) fun u s1 ⟨x, H1, I1, rx, q1⟩ => thn (hi.run pins s1 σ H1 _ I1 q1) fun iv s2 ⟨y, H2, I2, ry, a, d, sh, kvs, v, ex, ey, hb, ht, hk, hv, q2⟩ => ?_)
  subst ex ey
  obtain rfl : u = Value.ref d := rx
  obtain rfl : iv = Value.ref a := ry
  obtain ⟨nkk, e1, e2⟩ := key_is I2.hok hb ht
  obtain ⟨xs, hx, hp⟩ := kd_ofH I2.hok hk
  have z := kd_val hb e1 hp hk.2.2.1
  rw [hv] at z
  obtain ⟨w', ew, rw'⟩ := RelO.some_of z
  exact ⟨hx.typeIs, getItem_keyed (knd := nestedKind X.prog X.w) (kroom hr) e2 ⟨xs, hx, rfl⟩ (by rw [valueAt_pairsH]; exact ew) ⟨v, H2, I2.tok _, rw', q2⟩⟩
/-- d[k] = v, k new -/
def rKSet (P : Program) (w : World) : TSet := fun o i v H Q => ∃ (a d : Addr) (s : Sh) (kvs : List (Sh × V)), o = .ref d ∧ i = .ref a ∧ Kb s ∧ TAt H s [.ref a] ∧ KD P w H d kvs ∧ valV kvs s = none ∧ kvs.length < 1000 ∧
  ∀ H', Ext [d] H H' → Imm H H' → (∀ b, b ≠ d → H' b = H b) → KD P w H' d (kvs ++ [(s, v)]) → Q H'
theorem kp_app {H : Hp} : ∀ {kvs : List (Sh × V)} {xs : List (NestedKey × Addr × Value)} {p : Sh × V} {x : NestedKey × Addr × Value}, KP H kvs xs → (nk p.1 = [x.1] ∧ TAt H p.1 [.ref x.2.1] ∧ RelV p.2 x.2.2) → KP H (kvs ++ [p]) (xs ++ [x])
  | _, _, _, _, .nil, h => .cons h .nil
  | _, _, _, _, .cons r t, h => .cons r (kp_app t h)
theorem pset_k {k : Nat} (hr : Room k X.A) : PSet X (rKSet X.prog X.w) := by
  intro pins s σ H o i v ov iv u Q I ro ri rv h
  obtain ⟨a, d, sh, kvs, rfl, rfl, hb, ht, hk, hv, hl, q⟩ := h
  obtain rfl : ov = Value.ref d := ro
  obtain rfl : iv = Value.ref a := ri
  obtain ⟨nkk, e1, e2⟩ := key_is I.hok hb ht
  obtain ⟨xs, hx, hp⟩ := kd_ofH I.hok hk
  have z := kd_val hb e1 hp hk.2.2.1
  rw [hv] at z
  have hno : atKey xs nkk = none := by
    cases e : atKey xs nkk with
    | none => rfl
    | some p =>
      rw [e] at z
      exact z.elim
  have hlx := kd_len hp
  obtain ⟨h1, h2, h3, ob, es, ep, xs0, h4, h5, h6, h7, h8, h9⟩ := id hk
  have hnT : ∀ ys, H d ≠ some (.tup ys) := fun ys z => by rw [h4] at z; cases z
  have hnI : ∀ C dx fs, H d ≠ some (.ins C dx fs) := fun C dx fs z => by rw [h4] at z; cases z
  refine wpAny_setItem_heap (hsz := by rw [← hlx, sizeLine_eq]; omega) (kroom hr) e2 hx fun h' hm' hs => ?_
  obtain ⟨o', es', ep', g1, g2, g3, g4, g5, g6⟩ := hm'
  have est : storedH xs nkk a u = xs ++ [(nkk, a, u)] := by
    unfold storedH
    rw [hno]
    simp
  have I1 : Inv X pins σ (upd H d (oneO d o')) { s with heap := h', toks := s.toks + (nestedKind X.prog X.w).draws nkk } :=
    I.write (x := d) (e := d) (by rw [h4]; exact True.intro) (.inl rfl) (fun b ob hb e => (hs.2 b hb).trans e) ⟨_, g1⟩ ⟨g1, ⟨_, g1⟩, fun h1 h2 z k => k _ z⟩
  have im : Imm H (upd H d (oneO d o')) := imm_upd _ hnT hnI
  refine ⟨_, I1, q _ (Ext.upd_in (List.mem_cons_self ..) _) im (fun b hb => upd_ne hb) ⟨h1, by rw [List.length_append]; simp; omega, fun p hp' => ?_, o', es', ep', storedH xs nkk a u, upd_same, g2, g3, g4, g6, ?_⟩⟩
  · rcases List.mem_append.mp hp' with z | z
    · exact h3 p z
    · rw [List.mem_singleton.mp z]
      exact hb
  · rw [est]
    exact kp_app (Paired.mono2 (fun p x z => ⟨z.1, z.2.1.imm im, z.2.2⟩) hp) ⟨e1, ht.imm im, rv⟩
theorem call_lenK : CallR X (.builtin "len") (fun xs H Q => ∃ a kvs, xs = [V.ref a] ∧ KD X.prog X.w H a kvs ∧ Q (.int kvs.length) H) := by
  intro pins s σ H xs us Q I r h
  obtain ⟨a, kvs, rfl, hk, q⟩ := h
  obtain ⟨u, rfl, ru⟩ := vals1 r
  obtain rfl : u = Value.ref a := ru
  obtain ⟨ys, hx, hp⟩ := kd_ofH I.hok hk
  have e : (pairsH ys).length = kvs.length := by rw [pairsH_length, kd_len hp]
  have hz := hk.2.1
  refine PyProof.Rows.call_len_slot (n := ((pairsH ys).length : Int)) hx.typeIs F.slot_dict_len (fun Q' hq => len_keyed (knd := nestedKind X.prog X.w) hk.1 ⟨ys, hx, rfl⟩ hq) (by omega) (by omega) ⟨.int kvs.length, H, I.tok _, ⟨_, by rw [e]⟩, q⟩
end
end K17
end PartK17Keyed
section PartK17Rebase
set_option Elab.async false
set_option linter.all false
set_option maxRecDepth 100000
set_option maxHeartbeats 2000000
/-! A function made within a def, called elsewhere: the base is widened by its cells, which nothing changes any more. -/
namespace K17
open PySem PySem.Spec PyProof.Rows L2 NdefX LamX
/-- the heap with all hidden but base and cs -/
def wide (base h : Heap) (cs : List Addr) : Heap := PySem.W.hideAll h ((List.range h.objs.size).filter fun b => !((base.get? b).isSome || cs.contains b))
theorem wide_get {base h : Heap} {cs : List Addr} {b : Addr} {o : Obj} (e : (wide base h cs).get? b = some o) : h.get? b = some o ∧ ((∃ u, base.get? b = some u) ∨ b ∈ cs) := by
  have e1 : h.get? b = some o := PySem.W.of_hideAll _ e
  refine ⟨e1, ?_⟩
  by_cases q : ((base.get? b).isSome || cs.contains b) = true
  · rcases Bool.or_eq_true_iff.mp q with z | z
    · exact .inl (Option.isSome_iff_exists.mp z)
    · exact .inr (by simpa using z)
  · have z : (wide base h cs).get? b = none := PySem.W.hideAll_none _ (List.mem_filter.mpr ⟨List.mem_range.mpr (Heap.lt_size e1), by simpa using q⟩)
    rw [z] at e
    cases e
theorem wide_of {base h : Heap} {cs : List Addr} {b : Addr} {o : Obj} (e : h.get? b = some o) (q : (∃ u, base.get? b = some u) ∨ b ∈ cs) : (wide base h cs).get? b = some o := by
  refine PySem.W.hideAll_get _ e fun hm => ?_
  have z := (List.mem_filter.mp hm).2
  rcases q with ⟨u, q⟩ | q
  · rw [q] at z
    simp at z
  · simp [q] at z
/-- what the captured names' cells hold, in the base -/
structure BCells (base : Heap) (cl : List (Str × Addr)) (fr : List Str) (ws : List (Option V)) : Prop where
  len : ws.length = fr.length
  all : ∀ y c, cl.lookup y = some c → ∃ v, base.IsCell c v
  inj : ∀ x y c, cl.lookup x = some c → cl.lookup y = some c → x = y
  has : ∀ (i : Nat) (y : Str), fr[i]? = some y → ∃ c, cl.lookup y = some c ∧ ∀ v, ws[i]? = some (some v) → ∃ u, RelV v u ∧ base.IsCell c (some u)
theorem BCells.at_ {X : Cx} {pins : List (Addr × Obj)} {σ : L2.St} {H : Hp} {s : Shared} {cl : List (Str × Addr)} {fr : List Str} {ws : List (Option V)} (b : BCells X.base cl fr ws) (I : Inv X pins σ H s) : CellsAt cl fr ws s.heap H := by
  have kp : ∀ {c : Addr} {v : Option Value}, X.base.IsCell c v → H c = none ∧ s.heap.IsCell c v := fun {c v} ⟨o, ho, hd⟩ => ⟨(I.bs c o ho).2, o, (I.bs c o ho).1, hd⟩
  refine ⟨b.len, fun y c e => ?_, b.inj, fun i y e => ?_⟩
  · obtain ⟨v, z⟩ := b.all y c e
    exact ⟨(kp z).1, v, (kp z).2⟩
  · obtain ⟨c, hc, hv⟩ := b.has i y e
    refine ⟨c, hc, fun v ev => ?_⟩
    obtain ⟨u, r, z⟩ := hv v ev
    exact ⟨u, r, (kp z).2⟩
section
variable {X : Cx}
/-- f(e, ..), f a name that holds the function F, whose cells stand in the base -/
def tCallB (F : NF) (f : Addr) (i : Nat) (ws : List (Option V)) (sp : List (Option V) → Sp) (t : TA) : TE := fun σ H Q => σ[i]? = some (some (.ref f)) ∧ H f = some (FnO f F) ∧
  t σ H fun vs H1 => H1 f = some (FnO f F) ∧ H1 F.c = some (CodeO F.c F.qual) ∧ sp ws vs H1 Q E0
theorem pe_callB2 {F : NF} {f : Addr} {k j i : Nat} {ps fr : List Str} {sp : List (Option V) → Sp} {ws : List (Option V)} {x : Str} {p pos : Pos} {e : Expr} {es : List Expr} {t : TA} (Fn : NOk X.prog X.w X.K X.mg X.base CX0 k f F ps fr sp) (hr : Room j X.A) (hk : k ≤ j) (bc : BCells X.base F.cl fr ws)
    (hN : X.N[i]? = some x) (hv : Vis X.env.scope x) (ha : PA X (e :: es) t) (hd : (x == ("__debug__" : Str)) = false := by decide) (hcd : (x == ("__classdict__" : Str)) = false := by decide)
    (he : starEach (e :: es) X.env = (false, eval e X.env) :: starEach es X.env := by rfl) (hpl : (backTo pos (starEach es X.env)).any (·.1) = false := by rfl) :
    PE X (.Call (.Name x p) (e :: es) [] pos) (tCallB F f i ws sp t) := by
  refine ⟨fun pins s σ H Q I hq => ?_⟩
  obtain ⟨hs, hf, ht⟩ := hq
  refine wpAny_Call_Name_kw (thn ((pe_var (pos := p) hN hv hd hcd).run pins s σ H (fun v H1 => v = .ref f ∧ H1 = H) I ⟨.ref f, hs, rfl, rfl⟩) fun u s1 ⟨v, H1, I1, r1, q1⟩ => ?_)
  obtain ⟨rfl, rfl⟩ := q1
  obtain rfl : u = Value.ref f := r1
  refine PySem.W.callWith_F (first := []) (fnAt_of I1 hf) (thn (ha.run pos pins s1 σ _ _ I1 ht) fun us s2 ⟨vs, H2, I2, r, h1, h2, q⟩ => ⟨fnAt_of I2 h1, ?_⟩) he hpl
  show wpAny _ _ (call (.ref f) us) _ _ _
  refine wpAny_call (codeAny_mono (Fn.run X.A X.stack s2 H2 us vs ws Q E0 (hr.mono hk) I2.env0 h1 h2 (bc.at_ I2) r q) fun r s' hq => ?_)
  cases r with
  | error e => exact hq.elim
  | ok fl =>
    cases fl with
    | ret u => exact I2.after hq
    | next => exact False.elim hq
    | brk => exact False.elim hq
    | cont => exact False.elim hq
/-- the base widened by the cells that a function captured -/
theorem widened {pins : List (Addr × Obj)} {σ : L2.St} {H : Hp} {s : Shared} {cl : List (Str × Addr)} {fr : List Str} {ws : List (Option V)} (I : Inv X pins σ H s) (C : CellsAt cl fr ws s.heap H) (hfr : ∀ y c, cl.lookup y = some c → c ∉ frs X.stack) :
    ∃ base' : Heap, (∀ b o, X.base.get? b = some o → base'.get? b = some o) ∧ BCells base' cl fr ws ∧ Env0 X.prog X.w X.K X.mg base' X.A X.stack s H := by
  have cellD : ∀ b ∈ cl.map (·.2), (∃ y, cl.lookup y = some b) → ∃ o v, s.heap.get? b = some o ∧ o.data = .cell v ∧ H b = none := by
    rintro b _ ⟨y, hy⟩
    obtain ⟨n, v, o, ho, hd⟩ := C.all y b hy
    exact ⟨o, v, ho, hd, n⟩
  let cs : List Addr := (cl.map (·.1)).filterMap fun y => cl.lookup y
  have csIn : ∀ b ∈ cs, ∃ y, cl.lookup y = some b := fun b hb => by
    obtain ⟨y, _, e⟩ := List.mem_filterMap.mp hb
    exact ⟨y, e⟩
  have inCs : ∀ y b, cl.lookup y = some b → b ∈ cs := fun y b e => by
    have m : (y, b) ∈ cl := PySem.mem_of_lookup e
    exact List.mem_filterMap.mpr ⟨y, List.mem_map.mpr ⟨(y, b), m, rfl⟩, e⟩
  have csD : ∀ b ∈ cs, ∃ o v, s.heap.get? b = some o ∧ o.data = .cell v ∧ H b = none := fun b hb => by
    obtain ⟨y, hy⟩ := csIn b hb
    obtain ⟨n, v, o, ho, hd⟩ := C.all y b hy
    exact ⟨o, v, ho, hd, n⟩
  have sub : ∀ b o, X.base.get? b = some o → (wide X.base s.heap cs).get? b = some o := fun b o e => wide_of (I.bk b o e) (.inl ⟨o, e⟩)
  have cellK : ∀ y c, cl.lookup y = some c → ∀ v, s.heap.IsCell c v → (wide X.base s.heap cs).IsCell c v := fun y c e v ⟨o, ho, hd⟩ => ⟨o, wide_of ho (.inr (inCs y c e)), hd⟩
  refine ⟨wide X.base s.heap cs, sub, ⟨C.len, fun y c e => ?_, C.inj, fun i y e => ?_⟩, ?_⟩
  · obtain ⟨_, v, z⟩ := C.all y c e
    exact ⟨v, cellK y c e v z⟩
  · obtain ⟨c, hc, hv⟩ := C.has i y e
    refine ⟨c, hc, fun v ev => ?_⟩
    obtain ⟨u, r, z⟩ := hv v ev
    exact ⟨u, r, cellK y c hc _ z⟩
  · have e0 := I.env0
    refine ⟨e0.frames, ⟨e0.mod.kin.keeps sub, e0.mod.glob.keeps sub, ?_, e0.mod.nolimit.keeps sub⟩, fun b o e => ?_, ?_, ?_, e0.frf, e0.hok, e0.bare⟩
    · obtain ⟨mb, h1, h2⟩ := e0.mod.blt
      exact ⟨mb, h1.keeps sub, h2⟩
    · obtain ⟨e1, q⟩ := wide_get e
      rcases q with ⟨u, q⟩ | q
      · exact ⟨e1, (I.bs b u q).2⟩
      · obtain ⟨_, _, _, _, n⟩ := csD b q
        exact ⟨e1, n⟩
    · show (PySem.W.hideAll _ _).objs.size ≤ _
      rw [PySem.W.hideAll_size]
      exact Nat.le_refl _
    · have go : ∀ (l : List Env), (∀ b ∈ frs l, b ∈ frs X.stack) → s.heap.FunFrames X.base l → s.heap.FunFrames (wide X.base s.heap cs) l := by
        intro l
        induction l with
        | nil => intro _ _; trivial
        | cons env r ih =>
          intro hs hl
          obtain ⟨hk, ⟨L, o, hf, hn, ho, hd⟩, hr⟩ := hl
          have hL : L ∈ frs X.stack := hs L (by unfold frs; rw [List.filterMap_cons, hf]; exact List.mem_cons_self)
          refine ⟨hk, ⟨L, o, hf, ?_, ho, hd⟩, ih (fun b hb => hs b (by unfold frs; rw [List.filterMap_cons, hf]; exact List.mem_cons_of_mem _ hb)) hr⟩
          cases z : (wide X.base s.heap cs).get? L with
          | none => rfl
          | some u =>
            obtain ⟨e1, q⟩ := wide_get z
            rcases q with ⟨u', q⟩ | q
            · rw [hn] at q
              cases q
            · obtain ⟨y, hy⟩ := csIn L q
              exact absurd hL (hfr y L hy)
      exact go _ (fun b hb => hb) e0.funs
/-- the cells of a def's own frame are no frame's -/
theorem cells_off {pins : List (Addr × Obj)} {σ : L2.St} {H : Hp} {s : Shared} (I : Inv X pins σ H s) {y : Str} {c : Addr} (hf : X.fn y = true) (e : X.env.cells.lookup y = some c) : c ∉ frs X.stack := fun hb => by
  rcases List.mem_cons.mp (I.stkSub c hb) with z | z
  · exact I.cne y c e z
  · obtain ⟨_, o, ho, _⟩ := I.ok.funs.mem z
    exact absurd (Nat.lt_of_lt_of_le (Heap.lt_size ho) (I.ok.cab y c hf e)) (Nat.lt_irrefl _)
/-- g(e, ..), g a def of the module that may call the function made here: over the widened base -/
def tCallW (js : List Nat) (sp : List (Option V) → Sp) (t : TA) : TE := fun σ H Q => t σ H fun vs H1 => sp (js.map (slotAt σ)) vs H1 Q E0
theorem pe_callW {f : Addr} {fd : FuncData} {k : Nat} {ps fr : List Str} {cl : List (Str × Addr)} {js : List Nat} {sp : List (Option V) → Sp} {x : Str} {p pos : Pos} {e : Expr} {es : List Expr} {t : TA}
    (Fn : ∀ (base' : Heap) (ws : List (Option V)), X.K.In base' → base'.Ns mainGlobals X.mg → BCells base' cl fr ws → FnOk X.prog X.w X.K X.mg base' CX0 k f fd ps (sp ws)) (hr : Room k X.A) (hg : Gl X x) (hm : X.mg x = some (.ref f)) (hk : PySem.W.keepIn X.K (.ref f) = true)
    (hb : Binds X.K fd ps []) (cp : X.Ok → Caps X cl fr js) (hfn : ∀ y c, cl.lookup y = some c → X.fn y = true) (ha : PA X (e :: es) t) (hdb : (x == ("__debug__" : Str)) = false := by decide)
    (he : starEach (e :: es) X.env = (false, eval e X.env) :: starEach es X.env := by rfl) (hpl : (backTo pos (starEach es X.env)).any (·.1) = false := by rfl) :
    PE X (.Call (.Name x p) (e :: es) [] pos) (tCallW js sp t) := by
  refine ⟨fun pins s σ H Q I hq => ?_⟩
  refine wpAny_Call_Name_kw (ld_glob I hg hm ?_ hdb)
  refine PySem.W.callWith_K (h₀ := X.base) I.ok.mod.kin hk (thn (ha.run pos pins s σ H _ I hq) fun us s1 ⟨vs, H1, I1, r, q⟩ => ⟨I1.kIn, ?_⟩) he hpl
  have cps := cp I1.ok
  obtain ⟨base', sub, bc, e0⟩ := widened I1 (cells_of I1 cps) fun y c z => cells_off I1 (hfn y c z) (cps.sub y c z)
  have G := Fn base' _ (I1.ok.mod.kin.keeps sub) (I1.ok.mod.glob.keeps sub) bc
  have hl : us.length = ps.length := by
    rw [← r.length]
    exact G.len _ _ _ _ q
  have bd := hb s1 us I1.kIn (by rw [List.append_nil]; exact hl)
  rw [List.append_nil] at bd
  refine wpAny_call (codeAny_mono (G.run X.A X.stack s1 H1 ⟨us, []⟩ us vs Q E0 hr e0 bd r q) fun r s' hq => ?_)
  cases r with
  | error e => exact hq.elim
  | ok fl =>
    cases fl with
    | ret u => exact I1.after hq
    | next => exact False.elim hq
    | brk => exact False.elim hq
    | cont => exact False.elim hq
/-- f(e, ..), f the function made here: over the widened base -/
theorem pe_callnW {mk : Addr → NF} {k i : Nat} {ps fr : List Str} {cl : List (Str × Addr)} {js : List Nat} {sp : Addr → Addr → List (Option V) → Sp} {x : Str} {p pos : Pos} {e : Expr} {es : List Expr} {t : TA}
    (Fn : ∀ (base' : Heap) (ws : List (Option V)), X.K.In base' → base'.Ns mainGlobals X.mg → BCells base' cl fr ws → ∀ f c', NOk X.prog X.w X.K X.mg base' CX0 k f (mk c') ps fr (sp f c')) (hcl : ∀ c', (mk c').cl = cl) (hr : Room k X.A)
    (cp : X.Ok → Caps X cl fr js) (hfn : ∀ y c, cl.lookup y = some c → X.fn y = true) (hN : X.N[i]? = some x) (hv : Vis X.env.scope x) (ha : PA X (e :: es) t) (hd : (x == ("__debug__" : Str)) = false := by decide) (hcd : (x == ("__classdict__" : Str)) = false := by decide)
    (he : starEach (e :: es) X.env = (false, eval e X.env) :: starEach es X.env := by rfl) (hpl : (backTo pos (starEach es X.env)).any (·.1) = false := by rfl) :
    PE X (.Call (.Name x p) (e :: es) [] pos) (tCallN mk i js sp E0 t) := by
  refine ⟨fun pins s σ H Q I hq => ?_⟩
  obtain ⟨f, c', hs, hf, ht⟩ := hq
  refine wpAny_Call_Name_kw (thn ((pe_var (pos := p) hN hv hd hcd).run pins s σ H (fun v H1 => v = .ref f ∧ H1 = H) I ⟨.ref f, hs, rfl, rfl⟩) fun u s1 ⟨v, H1, I1, r1, q1⟩ => ?_)
  obtain ⟨rfl, rfl⟩ := q1
  obtain rfl : u = Value.ref f := r1
  refine PySem.W.callWith_F (first := []) (fnAt_of I1 hf) (thn (ha.run pos pins s1 σ _ _ I1 ht) fun us s2 ⟨vs, H2, I2, r, h1, h2, q⟩ => ⟨fnAt_of I2 h1, ?_⟩) he hpl
  show wpAny _ _ (call (.ref f) us) _ _ _
  have cps := cp I2.ok
  have cells := cells_of I2 cps
  obtain ⟨base', sub, bc, e0⟩ := widened I2 cells fun y c z => cells_off I2 (hfn y c z) (cps.sub y c z)
  have G := Fn base' _ (I2.ok.mod.kin.keeps sub) (I2.ok.mod.glob.keeps sub) bc f c'
  refine wpAny_call (codeAny_mono (G.run X.A X.stack s2 H2 us vs _ Q E0 hr e0 h1 h2 (by rw [hcl c']; exact cells) r q) fun r s' hq => ?_)
  cases r with
  | error e => exact hq.elim
  | ok fl =>
    cases fl with
    | ret u => exact I2.after hq
    | next => exact False.elim hq
    | brk => exact False.elim hq
    | cont => exact False.elim hq
end
theorem fnok_ex {ι : Type} {P : Program} {w : World} {K : PySem.W.Frag} {mg : Str → Option Value} {base : Heap} {k : Nat} {f : Addr} {fd : FuncData} {ps : List Str} {sp : ι → Sp} (h : ∀ i, FnOk P w K mg base CX0 k f fd ps (sp i)) :
    FnOk P w K mg base CX0 k f fd ps (fun vs H Q E => ∃ i, sp i vs H Q E) :=
  ⟨fun vs H Q E ⟨i, z⟩ => (h i).len vs H Q E z, fun A outer s H args us vs Q E hr e0 hb hv ⟨i, z⟩ => (h i).run A outer s H args us vs Q E hr e0 hb hv z⟩
end K17
end PartK17Rebase
section PartK17Tx
set_option Elab.async false
set_option linter.all false
set_option maxRecDepth 100000
set_option maxHeartbeats 4000000
/-! The facts of the top by names. Printed by gen_head.py. -/
namespace K17
open PySem PySem.Spec PyProof.Rows L2
abbrev ca (K : PySem.W.Frag) (x : Str) : Addr := He.ga K x
abbrev me (K : PySem.W.Frag) (x m : Str) : Addr := He.ma K (He.ga K x) m
/-- the function object at an address of K -/
def fdOf (K : PySem.W.Frag) (a : Addr) : FuncData := match K.lookup a with
  | some o => (match o.data with
    | .func fd => fd
    | _ => PySem.W.fnOf "" "" { posonlyargs := [], args := [], vararg := none, kwonlyargs := [], kw_defaults := [], kwarg := none, defaults := [] } [] { kind := .function, names := [], isGenerator := false, isCoroutine := false } .none .none .none .none none .none .none)
  | none => PySem.W.fnOf "" "" { posonlyargs := [], args := [], vararg := none, kwonlyargs := [], kw_defaults := [], kwarg := none, defaults := [] } [] { kind := .function, names := [], isGenerator := false, isCoroutine := false } .none .none .none .none none .none .none
abbrev FD (K : PySem.W.Frag) (x q : Str) (st : Stmt) (a : Addr) : Prop := FunD K x q (defArgs st) (defBody st) (defScope st) [] [] a (fdOf K a)
theorem fd_of {K : PySem.W.Frag} {x q : Str} {st : Stmt} {a : Addr} {fd : FuncData} (F : FunD K x q (defArgs st) (defBody st) (defScope st) [] [] a fd) : FD K x q st a := by
  obtain ⟨oc, od, dV, kV, doc, pm, an, cdv, ct, osl, e, lk, r⟩ := F.ex
  have z : fdOf K a = fd := by
    unfold fdOf
    rw [lk]
  unfold FD
  rw [z]
  exact F
/-- instances of the class x: what isinstance asks -/
structure TyC (K : PySem.W.Frag) (x : Str) : Prop where
  ha : PySem.W.findIn K (.ref (ca K x)) "__class__" = some (some (.builtin "object.__class__"))
  hm : PySem.W.mroIn K (ca K x) (.type "object") = some true
structure Tx (K : PySem.W.Frag) (mg : Str → Option Value) : Prop where
  g_is_name : mg "is_name" = some (.ref (ca K "is_name"))
  g_is_shape : mg "is_shape" = some (.ref (ca K "is_shape"))
  g_is_rule : mg "is_rule" = some (.ref (ca K "is_rule"))
  g_need_rules : mg "need_rules" = some (.ref (ca K "need_rules"))
  g_row_text : mg "row_text" = some (.ref (ca K "row_text"))
  g_rows_within : mg "rows_within" = some (.ref (ca K "rows_within"))
  g_fits : mg "fits" = some (.ref (ca K "fits"))
  g_law_mixed : mg "_law_mixed" = some (.ref (ca K "_law_mixed"))
  g_law_cell_at : mg "_law_cell_at" = some (.ref (ca K "_law_cell_at"))
  g_law_next : mg "_law_next" = some (.ref (ca K "_law_next"))
  g_law_kept : mg "_law_kept" = some (.ref (ca K "_law_kept"))
  g_law_names : mg "_law_names" = some (.ref (ca K "_law_names"))
  g_law_row_by : mg "_law_row_by" = some (.ref (ca K "_law_row_by"))
  g_law_shape : mg "_law_shape" = some (.ref (ca K "_law_shape"))
  g_law_rules : mg "_law_rules" = some (.ref (ca K "_law_rules"))
  g_law_shape_made : mg "_law_shape_made" = some (.ref (ca K "_law_shape_made"))
  g_law_forms_made : mg "_law_forms_made" = some (.ref (ca K "_law_forms_made"))
  g_law_named : mg "_law_named" = some (.ref (ca K "_law_named"))
  g_law_all_shapes : mg "_law_all_shapes" = some (.ref (ca K "_law_all_shapes"))
  g_law_trees : mg "_law_trees" = some (.ref (ca K "_law_trees"))
  g_law_due : mg "_law_due" = some (.ref (ca K "_law_due"))
  g_law_of_shape : mg "_law_of_shape" = some (.ref (ca K "_law_of_shape"))
  g_law_of_rule : mg "_law_of_rule" = some (.ref (ca K "_law_of_rule"))
  g_law_joined : mg "_law_joined" = some (.ref (ca K "_law_joined"))
  g_law : mg "law" = some (.ref (ca K "law"))
  g_Nothing : mg "Nothing" = some (.ref (ca K "Nothing"))
  g_Tree : mg "Tree" = some (.ref (ca K "Tree"))
  g_Chain : mg "Chain" = some (.ref (ca K "Chain"))
  g_Either : mg "Either" = some (.ref (ca K "Either"))
  g_Many : mg "Many" = some (.ref (ca K "Many"))
  g_Some : mg "Some" = some (.ref (ca K "Some"))
  g_Maybe : mg "Maybe" = some (.ref (ca K "Maybe"))
  g_Shaped : mg "Shaped" = some (.ref (ca K "Shaped"))
  g_Turned : mg "Turned" = some (.ref (ca K "Turned"))
  g_Both : mg "Both" = some (.ref (ca K "Both"))
  g_Any : mg "Any" = some (.ref (ca K "Any"))
  g_Forms : mg "Forms" = some (.ref (ca K "Forms"))
  g_Meaning : mg "Meaning" = some (.ref (ca K "Meaning"))
  g_Rule : mg "Rule" = some (.ref (ca K "Rule"))
  g_NoForm : mg "NoForm" = some (.ref (ca K "NoForm"))
  g_NoName : mg "NoName" = some (.ref (ca K "NoName"))
  b_isinstance : mg "isinstance" = none
  b_len : mg "len" = none
  b_tuple : mg "tuple" = none
  b_list : mg "list" = none
  b_range : mg "range" = none
  b_sorted : mg "sorted" = none
  b_sum : mg "sum" = none
  b_all : mg "all" = none
  b_enumerate : mg "enumerate" = none
  b_int : mg "int" = none
  b_str : mg "str" = none
  i_MOST_LETTERS : ∃ t, mg "MOST_LETTERS" = some (.int 8 t)
  i_MOST_RULES : ∃ t, mg "MOST_RULES" = some (.int 12 t)
  i_MOST_DEEP : ∃ t, mg "MOST_DEEP" = some (.int 6 t)
  i_MOST_IN_A_RULE : ∃ t, mg "MOST_IN_A_RULE" = some (.int 30 t)
  i_MOST_TREES : ∃ t, mg "MOST_TREES" = some (.int 40 t)
  s_LETTERS : ∃ t, mg "LETTERS" = some (.str "abcdefghijklmnopqrstuvwxyz" t)
  c_Nothing : Cls K (ca K "Nothing")
  k_Nothing : PySem.W.keepIn K (.ref (ca K "Nothing")) = true
  c_Tree : Cls K (ca K "Tree")
  k_Tree : PySem.W.keepIn K (.ref (ca K "Tree")) = true
  n_Tree_word : NoAttr K (ca K "Tree") "word"
  n_Tree_name : NoAttr K (ca K "Tree") "name"
  mk_Tree : Mk K (ca K "Tree") (me K "Tree" "__init__")
  c_Chain : Cls K (ca K "Chain")
  k_Chain : PySem.W.keepIn K (.ref (ca K "Chain")) = true
  n_Chain_parts : NoAttr K (ca K "Chain") "parts"
  mk_Chain : Mk K (ca K "Chain") (me K "Chain" "__init__")
  c_Either : Cls K (ca K "Either")
  k_Either : PySem.W.keepIn K (.ref (ca K "Either")) = true
  n_Either_parts : NoAttr K (ca K "Either") "parts"
  mk_Either : Mk K (ca K "Either") (me K "Either" "__init__")
  c_Many : Cls K (ca K "Many")
  k_Many : PySem.W.keepIn K (.ref (ca K "Many")) = true
  n_Many_part : NoAttr K (ca K "Many") "part"
  mk_Many : Mk K (ca K "Many") (me K "Many" "__init__")
  c_Some : Cls K (ca K "Some")
  k_Some : PySem.W.keepIn K (.ref (ca K "Some")) = true
  n_Some_part : NoAttr K (ca K "Some") "part"
  mk_Some : Mk K (ca K "Some") (me K "Some" "__init__")
  c_Maybe : Cls K (ca K "Maybe")
  k_Maybe : PySem.W.keepIn K (.ref (ca K "Maybe")) = true
  n_Maybe_part : NoAttr K (ca K "Maybe") "part"
  mk_Maybe : Mk K (ca K "Maybe") (me K "Maybe" "__init__")
  c_Shaped : Cls K (ca K "Shaped")
  k_Shaped : PySem.W.keepIn K (.ref (ca K "Shaped")) = true
  n_Shaped_name : NoAttr K (ca K "Shaped") "name"
  n_Shaped_shape : NoAttr K (ca K "Shaped") "shape"
  mk_Shaped : Mk K (ca K "Shaped") (me K "Shaped" "__init__")
  c_Turned : Cls K (ca K "Turned")
  k_Turned : PySem.W.keepIn K (.ref (ca K "Turned")) = true
  n_Turned_name : NoAttr K (ca K "Turned") "name"
  n_Turned_one : NoAttr K (ca K "Turned") "one"
  mk_Turned : Mk K (ca K "Turned") (me K "Turned" "__init__")
  c_Both : Cls K (ca K "Both")
  k_Both : PySem.W.keepIn K (.ref (ca K "Both")) = true
  n_Both_name : NoAttr K (ca K "Both") "name"
  n_Both_one : NoAttr K (ca K "Both") "one"
  n_Both_other : NoAttr K (ca K "Both") "other"
  mk_Both : Mk K (ca K "Both") (me K "Both" "__init__")
  c_Any : Cls K (ca K "Any")
  k_Any : PySem.W.keepIn K (.ref (ca K "Any")) = true
  n_Any_name : NoAttr K (ca K "Any") "name"
  n_Any_one : NoAttr K (ca K "Any") "one"
  n_Any_other : NoAttr K (ca K "Any") "other"
  mk_Any : Mk K (ca K "Any") (me K "Any" "__init__")
  c_Forms : Cls K (ca K "Forms")
  k_Forms : PySem.W.keepIn K (.ref (ca K "Forms")) = true
  n_Forms_rules : NoAttr K (ca K "Forms") "rules"
  mk_Forms : Mk K (ca K "Forms") (me K "Forms" "__init__")
  c_Meaning : Cls K (ca K "Meaning")
  k_Meaning : PySem.W.keepIn K (.ref (ca K "Meaning")) = true
  n_Meaning_forms : NoAttr K (ca K "Meaning") "forms"
  n_Meaning_known : NoAttr K (ca K "Meaning") "known"
  mk_Meaning : Mk K (ca K "Meaning") (me K "Meaning" "__init__")
  k_Rule : PySem.W.keepIn K (.ref (ca K "Rule")) = true
  m_Nothing_inner : Meth K (ca K "Nothing") "inner" (me K "Nothing" "inner")
  m_Nothing_trees : Meth K (ca K "Nothing") "trees" (me K "Nothing" "trees")
  m_Tree_trees : Meth K (ca K "Tree") "trees" (me K "Tree" "trees")
  m_Chain_inner : Meth K (ca K "Chain") "inner" (me K "Chain" "inner")
  m_Chain_trees : Meth K (ca K "Chain") "trees" (me K "Chain" "trees")
  m_Either_inner : Meth K (ca K "Either") "inner" (me K "Either" "inner")
  m_Either_trees : Meth K (ca K "Either") "trees" (me K "Either" "trees")
  m_Many_inner : Meth K (ca K "Many") "inner" (me K "Many" "inner")
  m_Many_trees : Meth K (ca K "Many") "trees" (me K "Many" "trees")
  m_Some_inner : Meth K (ca K "Some") "inner" (me K "Some" "inner")
  m_Some_trees : Meth K (ca K "Some") "trees" (me K "Some" "trees")
  m_Maybe_inner : Meth K (ca K "Maybe") "inner" (me K "Maybe" "inner")
  m_Maybe_trees : Meth K (ca K "Maybe") "trees" (me K "Maybe" "trees")
  m_Rule_init : Meth K (ca K "Rule") "__init__" (me K "Rule" "__init__")
  m_Shaped_trees : Meth K (ca K "Shaped") "trees" (me K "Shaped" "trees")
  m_Shaped_leans_on : Meth K (ca K "Shaped") "leans_on" (me K "Shaped" "leans_on")
  m_Turned_trees : Meth K (ca K "Turned") "trees" (me K "Turned" "trees")
  m_Turned_leans_on : Meth K (ca K "Turned") "leans_on" (me K "Turned" "leans_on")
  m_Both_trees : Meth K (ca K "Both") "trees" (me K "Both" "trees")
  m_Both_leans_on : Meth K (ca K "Both") "leans_on" (me K "Both" "leans_on")
  m_Any_trees : Meth K (ca K "Any") "trees" (me K "Any" "trees")
  m_Any_leans_on : Meth K (ca K "Any") "leans_on" (me K "Any" "leans_on")
  m_Forms_names : Meth K (ca K "Forms") "names" (me K "Forms" "names")
  m_Forms_rule : Meth K (ca K "Forms") "rule" (me K "Forms" "rule")
  m_Meaning_is_of : Meth K (ca K "Meaning") "is_of" (me K "Meaning" "is_of")
  m_Meaning_is_by : Meth K (ca K "Meaning") "is_by" (me K "Meaning" "is_by")
  m_Meaning_is_told : Meth K (ca K "Meaning") "is_told" (me K "Meaning" "is_told")
  m_Meaning_ends_of : Meth K (ca K "Meaning") "ends_of" (me K "Meaning" "ends_of")
  g_KEPT : mg "KEPT" = some (.ref (ca K "KEPT"))
  d_is_name : FD K "is_name" "is_name" sIsName (ca K "is_name")
  d_is_shape : FD K "is_shape" "is_shape" sIsShape (ca K "is_shape")
  d_is_rule : FD K "is_rule" "is_rule" sIsRule (ca K "is_rule")
  d_need_rules : FD K "need_rules" "need_rules" sNeedRules (ca K "need_rules")
  d_row_text : FD K "row_text" "row_text" sRowText (ca K "row_text")
  d_rows_within : FD K "rows_within" "rows_within" sRowsWithin (ca K "rows_within")
  d_fits : FD K "fits" "fits" sFits (ca K "fits")
  d_law_mixed : FD K "_law_mixed" "_law_mixed" sMixed (ca K "_law_mixed")
  d_law_cell_at : FD K "_law_cell_at" "_law_cell_at" sCellAt (ca K "_law_cell_at")
  d_law_next : FD K "_law_next" "_law_next" sNext (ca K "_law_next")
  d_law_kept : FD K "_law_kept" "_law_kept" sKept (ca K "_law_kept")
  d_law_names : FD K "_law_names" "_law_names" sNames (ca K "_law_names")
  d_law_row_by : FD K "_law_row_by" "_law_row_by" sRowBy (ca K "_law_row_by")
  d_law_shape : FD K "_law_shape" "_law_shape" sShape (ca K "_law_shape")
  d_law_rules : FD K "_law_rules" "_law_rules" sRules (ca K "_law_rules")
  d_law_shape_made : FD K "_law_shape_made" "_law_shape_made" sShapeMade (ca K "_law_shape_made")
  d_law_forms_made : FD K "_law_forms_made" "_law_forms_made" sFormsMade (ca K "_law_forms_made")
  d_law_named : FD K "_law_named" "_law_named" sNamed (ca K "_law_named")
  d_law_all_shapes : FD K "_law_all_shapes" "_law_all_shapes" sAllShapes (ca K "_law_all_shapes")
  d_law_trees : FD K "_law_trees" "_law_trees" sTrees (ca K "_law_trees")
  d_law_due : FD K "_law_due" "_law_due" sDue (ca K "_law_due")
  d_law_of_shape : FD K "_law_of_shape" "_law_of_shape" sOfShape (ca K "_law_of_shape")
  d_law_of_rule : FD K "_law_of_rule" "_law_of_rule" sOfRule (ca K "_law_of_rule")
  d_law_joined : FD K "_law_joined" "_law_joined" sJoined (ca K "_law_joined")
  d_law : FD K "law" "law" sLaw (ca K "law")
  d_Nothing_inner : FD K "inner" "Shape.inner" sShapeInner (me K "Nothing" "inner")
  d_Nothing_trees : FD K "trees" "Shape.trees" sShapeTrees (me K "Nothing" "trees")
  d_Tree_init : FD K "__init__" "Tree.__init__" sTreeInit (me K "Tree" "__init__")
  d_Tree_trees : FD K "trees" "Tree.trees" sTreeTrees (me K "Tree" "trees")
  d_Chain_init : FD K "__init__" "Joined.__init__" sJoinedInit (me K "Chain" "__init__")
  d_Chain_inner : FD K "inner" "Joined.inner" sJoinedInner (me K "Chain" "inner")
  d_Chain_trees : FD K "trees" "Shape.trees" sShapeTrees (me K "Chain" "trees")
  d_Either_init : FD K "__init__" "Joined.__init__" sJoinedInit (me K "Either" "__init__")
  d_Either_inner : FD K "inner" "Joined.inner" sJoinedInner (me K "Either" "inner")
  d_Either_trees : FD K "trees" "Shape.trees" sShapeTrees (me K "Either" "trees")
  d_Many_init : FD K "__init__" "Signed.__init__" sSignedInit (me K "Many" "__init__")
  d_Many_inner : FD K "inner" "Signed.inner" sSignedInner (me K "Many" "inner")
  d_Many_trees : FD K "trees" "Shape.trees" sShapeTrees (me K "Many" "trees")
  d_Some_init : FD K "__init__" "Signed.__init__" sSignedInit (me K "Some" "__init__")
  d_Some_inner : FD K "inner" "Signed.inner" sSignedInner (me K "Some" "inner")
  d_Some_trees : FD K "trees" "Shape.trees" sShapeTrees (me K "Some" "trees")
  d_Maybe_init : FD K "__init__" "Signed.__init__" sSignedInit (me K "Maybe" "__init__")
  d_Maybe_inner : FD K "inner" "Signed.inner" sSignedInner (me K "Maybe" "inner")
  d_Maybe_trees : FD K "trees" "Shape.trees" sShapeTrees (me K "Maybe" "trees")
  d_Rule_init : FD K "__init__" "Rule.__init__" sRuleInit (me K "Rule" "__init__")
  d_Shaped_init : FD K "__init__" "Shaped.__init__" sShapedInit (me K "Shaped" "__init__")
  d_Shaped_trees : FD K "trees" "Shaped.trees" sShapedTrees (me K "Shaped" "trees")
  d_Shaped_leans_on : FD K "leans_on" "Rule.leans_on" sRuleLeansOn (me K "Shaped" "leans_on")
  d_Turned_init : FD K "__init__" "Turned.__init__" sTurnedInit (me K "Turned" "__init__")
  d_Turned_trees : FD K "trees" "Rule.trees" sRuleTrees (me K "Turned" "trees")
  d_Turned_leans_on : FD K "leans_on" "Turned.leans_on" sTurnedLeansOn (me K "Turned" "leans_on")
  d_Both_init : FD K "__init__" "Both.__init__" sBothInit (me K "Both" "__init__")
  d_Both_trees : FD K "trees" "Rule.trees" sRuleTrees (me K "Both" "trees")
  d_Both_leans_on : FD K "leans_on" "Both.leans_on" sBothLeansOn (me K "Both" "leans_on")
  d_Any_init : FD K "__init__" "Any.__init__" sAnyInit (me K "Any" "__init__")
  d_Any_trees : FD K "trees" "Rule.trees" sRuleTrees (me K "Any" "trees")
  d_Any_leans_on : FD K "leans_on" "Any.leans_on" sAnyLeansOn (me K "Any" "leans_on")
  d_Forms_init : FD K "__init__" "Forms.__init__" sFormsInit (me K "Forms" "__init__")
  d_Forms_names : FD K "names" "Forms.names" sFormsNames (me K "Forms" "names")
  d_Forms_rule : FD K "rule" "Forms.rule" sFormsRule (me K "Forms" "rule")
  d_Meaning_init : FD K "__init__" "Meaning.__init__" sMeaningInit (me K "Meaning" "__init__")
  d_Meaning_is_of : FD K "is_of" "Meaning.is_of" sMeaningIsOf (me K "Meaning" "is_of")
  d_Meaning_is_by : FD K "is_by" "Meaning.is_by" sMeaningIsBy (me K "Meaning" "is_by")
  d_Meaning_is_told : FD K "is_told" "Meaning.is_told" sMeaningIsTold (me K "Meaning" "is_told")
  d_Meaning_ends_of : FD K "ends_of" "Meaning.ends_of" sMeaningEndsOf (me K "Meaning" "ends_of")
  hn : PySem.W.specialIn K (.builtin "object.__class__") "__get__" = some (some (.builtin "getset_descriptor.__get__"))
  htk : PySem.W.takesIn K (.builtin "object.__class__") = some true
  ty_Nothing : TyC K "Nothing"
  ty_Tree : TyC K "Tree"
  ty_Chain : TyC K "Chain"
  ty_Either : TyC K "Either"
  ty_Many : TyC K "Many"
  ty_Some : TyC K "Some"
  ty_Maybe : TyC K "Maybe"
  ty_Shaped : TyC K "Shaped"
  ty_Turned : TyC K "Turned"
  ty_Both : TyC K "Both"
  ty_Any : TyC K "Any"
  kit_Nothing_Nothing : PySem.W.kitOne K (.ref (ca K "Nothing")) (.ref (ca K "Nothing")) = some true
  kit_Nothing_Tree : PySem.W.kitOne K (.ref (ca K "Nothing")) (.ref (ca K "Tree")) = some false
  kit_Nothing_Chain : PySem.W.kitOne K (.ref (ca K "Nothing")) (.ref (ca K "Chain")) = some false
  kit_Nothing_Either : PySem.W.kitOne K (.ref (ca K "Nothing")) (.ref (ca K "Either")) = some false
  kit_Nothing_Many : PySem.W.kitOne K (.ref (ca K "Nothing")) (.ref (ca K "Many")) = some false
  kit_Nothing_Some : PySem.W.kitOne K (.ref (ca K "Nothing")) (.ref (ca K "Some")) = some false
  kit_Nothing_Maybe : PySem.W.kitOne K (.ref (ca K "Nothing")) (.ref (ca K "Maybe")) = some false
  kit_Tree_Nothing : PySem.W.kitOne K (.ref (ca K "Tree")) (.ref (ca K "Nothing")) = some false
  kit_Tree_Tree : PySem.W.kitOne K (.ref (ca K "Tree")) (.ref (ca K "Tree")) = some true
  kit_Tree_Chain : PySem.W.kitOne K (.ref (ca K "Tree")) (.ref (ca K "Chain")) = some false
  kit_Tree_Either : PySem.W.kitOne K (.ref (ca K "Tree")) (.ref (ca K "Either")) = some false
  kit_Tree_Many : PySem.W.kitOne K (.ref (ca K "Tree")) (.ref (ca K "Many")) = some false
  kit_Tree_Some : PySem.W.kitOne K (.ref (ca K "Tree")) (.ref (ca K "Some")) = some false
  kit_Tree_Maybe : PySem.W.kitOne K (.ref (ca K "Tree")) (.ref (ca K "Maybe")) = some false
  kit_Chain_Nothing : PySem.W.kitOne K (.ref (ca K "Chain")) (.ref (ca K "Nothing")) = some false
  kit_Chain_Tree : PySem.W.kitOne K (.ref (ca K "Chain")) (.ref (ca K "Tree")) = some false
  kit_Chain_Chain : PySem.W.kitOne K (.ref (ca K "Chain")) (.ref (ca K "Chain")) = some true
  kit_Chain_Either : PySem.W.kitOne K (.ref (ca K "Chain")) (.ref (ca K "Either")) = some false
  kit_Chain_Many : PySem.W.kitOne K (.ref (ca K "Chain")) (.ref (ca K "Many")) = some false
  kit_Chain_Some : PySem.W.kitOne K (.ref (ca K "Chain")) (.ref (ca K "Some")) = some false
  kit_Chain_Maybe : PySem.W.kitOne K (.ref (ca K "Chain")) (.ref (ca K "Maybe")) = some false
  kit_Either_Nothing : PySem.W.kitOne K (.ref (ca K "Either")) (.ref (ca K "Nothing")) = some false
  kit_Either_Tree : PySem.W.kitOne K (.ref (ca K "Either")) (.ref (ca K "Tree")) = some false
  kit_Either_Chain : PySem.W.kitOne K (.ref (ca K "Either")) (.ref (ca K "Chain")) = some false
  kit_Either_Either : PySem.W.kitOne K (.ref (ca K "Either")) (.ref (ca K "Either")) = some true
  kit_Either_Many : PySem.W.kitOne K (.ref (ca K "Either")) (.ref (ca K "Many")) = some false
  kit_Either_Some : PySem.W.kitOne K (.ref (ca K "Either")) (.ref (ca K "Some")) = some false
  kit_Either_Maybe : PySem.W.kitOne K (.ref (ca K "Either")) (.ref (ca K "Maybe")) = some false
  kit_Many_Nothing : PySem.W.kitOne K (.ref (ca K "Many")) (.ref (ca K "Nothing")) = some false
  kit_Many_Tree : PySem.W.kitOne K (.ref (ca K "Many")) (.ref (ca K "Tree")) = some false
  kit_Many_Chain : PySem.W.kitOne K (.ref (ca K "Many")) (.ref (ca K "Chain")) = some false
  kit_Many_Either : PySem.W.kitOne K (.ref (ca K "Many")) (.ref (ca K "Either")) = some false
  kit_Many_Many : PySem.W.kitOne K (.ref (ca K "Many")) (.ref (ca K "Many")) = some true
  kit_Many_Some : PySem.W.kitOne K (.ref (ca K "Many")) (.ref (ca K "Some")) = some false
  kit_Many_Maybe : PySem.W.kitOne K (.ref (ca K "Many")) (.ref (ca K "Maybe")) = some false
  kit_Some_Nothing : PySem.W.kitOne K (.ref (ca K "Some")) (.ref (ca K "Nothing")) = some false
  kit_Some_Tree : PySem.W.kitOne K (.ref (ca K "Some")) (.ref (ca K "Tree")) = some false
  kit_Some_Chain : PySem.W.kitOne K (.ref (ca K "Some")) (.ref (ca K "Chain")) = some false
  kit_Some_Either : PySem.W.kitOne K (.ref (ca K "Some")) (.ref (ca K "Either")) = some false
  kit_Some_Many : PySem.W.kitOne K (.ref (ca K "Some")) (.ref (ca K "Many")) = some false
  kit_Some_Some : PySem.W.kitOne K (.ref (ca K "Some")) (.ref (ca K "Some")) = some true
  kit_Some_Maybe : PySem.W.kitOne K (.ref (ca K "Some")) (.ref (ca K "Maybe")) = some false
  kit_Maybe_Nothing : PySem.W.kitOne K (.ref (ca K "Maybe")) (.ref (ca K "Nothing")) = some false
  kit_Maybe_Tree : PySem.W.kitOne K (.ref (ca K "Maybe")) (.ref (ca K "Tree")) = some false
  kit_Maybe_Chain : PySem.W.kitOne K (.ref (ca K "Maybe")) (.ref (ca K "Chain")) = some false
  kit_Maybe_Either : PySem.W.kitOne K (.ref (ca K "Maybe")) (.ref (ca K "Either")) = some false
  kit_Maybe_Many : PySem.W.kitOne K (.ref (ca K "Maybe")) (.ref (ca K "Many")) = some false
  kit_Maybe_Some : PySem.W.kitOne K (.ref (ca K "Maybe")) (.ref (ca K "Some")) = some false
  kit_Maybe_Maybe : PySem.W.kitOne K (.ref (ca K "Maybe")) (.ref (ca K "Maybe")) = some true
  kit_Shaped_Rule : PySem.W.kitOne K (.ref (ca K "Shaped")) (.ref (ca K "Rule")) = some true
  kit_Shaped_Shaped : PySem.W.kitOne K (.ref (ca K "Shaped")) (.ref (ca K "Shaped")) = some true
  kit_Shaped_Turned : PySem.W.kitOne K (.ref (ca K "Shaped")) (.ref (ca K "Turned")) = some false
  kit_Shaped_Both : PySem.W.kitOne K (.ref (ca K "Shaped")) (.ref (ca K "Both")) = some false
  kit_Turned_Rule : PySem.W.kitOne K (.ref (ca K "Turned")) (.ref (ca K "Rule")) = some true
  kit_Turned_Shaped : PySem.W.kitOne K (.ref (ca K "Turned")) (.ref (ca K "Shaped")) = some false
  kit_Turned_Turned : PySem.W.kitOne K (.ref (ca K "Turned")) (.ref (ca K "Turned")) = some true
  kit_Turned_Both : PySem.W.kitOne K (.ref (ca K "Turned")) (.ref (ca K "Both")) = some false
  kit_Both_Rule : PySem.W.kitOne K (.ref (ca K "Both")) (.ref (ca K "Rule")) = some true
  kit_Both_Shaped : PySem.W.kitOne K (.ref (ca K "Both")) (.ref (ca K "Shaped")) = some false
  kit_Both_Turned : PySem.W.kitOne K (.ref (ca K "Both")) (.ref (ca K "Turned")) = some false
  kit_Both_Both : PySem.W.kitOne K (.ref (ca K "Both")) (.ref (ca K "Both")) = some true
  kit_Any_Rule : PySem.W.kitOne K (.ref (ca K "Any")) (.ref (ca K "Rule")) = some true
  kit_Any_Shaped : PySem.W.kitOne K (.ref (ca K "Any")) (.ref (ca K "Shaped")) = some false
  kit_Any_Turned : PySem.W.kitOne K (.ref (ca K "Any")) (.ref (ca K "Turned")) = some false
  kit_Any_Both : PySem.W.kitOne K (.ref (ca K "Any")) (.ref (ca K "Both")) = some false
  kept : ∀ H : Hp, SqT K H (ca K "KEPT") (kept.map V.str)
  mkNothing : PySem.W.makesIn K (ca K "Nothing") = true
  initNothing : PySem.W.findIn K (.ref (ca K "Nothing")) "__init__" = some (some (.builtin "object.__init__"))
  readsRule : PySem.W.readsIn K (ca K "Rule") (.type "type") = true
  gaRule : PySem.W.specialIn K (.ref (ca K "Rule")) "__getattribute__" = some (some (.builtin "type.__getattribute__"))
  initRule : PySem.W.findCls K (.ref (ca K "Rule")) (.type "type") "__init__" = some (.val (.ref (me K "Rule" "__init__")))
theorem all_at {α : Type} {p : α → Bool} {l : List α} (h : l.all p = true) (i : Nat) {x : α} (e : l[i]? = some x) : p x = true := List.all_eq_true.mp h x (List.mem_of_getElem? e)
theorem tx_of {K : PySem.W.Frag} {h : Heap} {mg : Str → Option Value} (X : K.In h) (G : h.Ns mainGlobals mg) (c : SaysY h K) : Tx K mg := by
  have m := c.more
  unfold exB at m
  obtain ⟨m1, m⟩ := He.ba m
  obtain ⟨m2, m⟩ := He.ba m
  obtain ⟨m3, m⟩ := He.ba m
  obtain ⟨m4, m⟩ := He.ba m
  obtain ⟨m5, m⟩ := He.ba m
  obtain ⟨m6, m⟩ := He.ba m
  obtain ⟨m6, m7⟩ := He.ba m6
  obtain ⟨m8, m⟩ := He.ba m
  obtain ⟨m9, m10⟩ := He.ba m
  have ty : ∀ (i : Nat) (x : Str), insC[i]? = some x → TyC K x := fun i x e => by
    obtain ⟨a, b⟩ := He.ba (all_at m3 i e)
    exact ⟨of_decide_eq_true a, of_decide_eq_true b⟩
  have kt : ∀ (i : Nat) (p : Str × Str × Bool), kits[i]? = some p → PySem.W.kitOne K (.ref (ca K p.1)) (.ref (ca K p.2.1)) = some p.2.2 := fun i p e => of_decide_eq_true (all_at m4 i e)
  have ir : PySem.W.findCls K (.ref (ca K "Rule")) (.type "type") "__init__" = some (.val (.ref (me K "Rule" "__init__"))) := by
    revert m10
    cases PySem.W.findCls K (.ref (ca K "Rule")) (.type "type") "__init__" with
    | none => intro z; cases z
    | some r =>
      cases r with
      | val v =>
        cases v with
        | ref a => intro z; rw [of_decide_eq_true z]
        | _ => intro z; cases z
      | get _ _ _ _ => intro z; cases z
  exact {
    g_is_name := He.glo_ok X G (c.d.fact 0 (f := .glo "is_name") rfl)
    g_is_shape := He.glo_ok X G (c.d.fact 1 (f := .glo "is_shape") rfl)
    g_is_rule := He.glo_ok X G (c.d.fact 2 (f := .glo "is_rule") rfl)
    g_need_rules := He.glo_ok X G (c.d.fact 3 (f := .glo "need_rules") rfl)
    g_row_text := He.glo_ok X G (c.d.fact 4 (f := .glo "row_text") rfl)
    g_rows_within := He.glo_ok X G (c.d.fact 5 (f := .glo "rows_within") rfl)
    g_fits := He.glo_ok X G (c.d.fact 6 (f := .glo "fits") rfl)
    g_law_mixed := He.glo_ok X G (c.d.fact 7 (f := .glo "_law_mixed") rfl)
    g_law_cell_at := He.glo_ok X G (c.d.fact 8 (f := .glo "_law_cell_at") rfl)
    g_law_next := He.glo_ok X G (c.d.fact 9 (f := .glo "_law_next") rfl)
    g_law_kept := He.glo_ok X G (c.d.fact 10 (f := .glo "_law_kept") rfl)
    g_law_names := He.glo_ok X G (c.d.fact 11 (f := .glo "_law_names") rfl)
    g_law_row_by := He.glo_ok X G (c.d.fact 12 (f := .glo "_law_row_by") rfl)
    g_law_shape := He.glo_ok X G (c.d.fact 13 (f := .glo "_law_shape") rfl)
    g_law_rules := He.glo_ok X G (c.d.fact 14 (f := .glo "_law_rules") rfl)
    g_law_shape_made := He.glo_ok X G (c.d.fact 15 (f := .glo "_law_shape_made") rfl)
    g_law_forms_made := He.glo_ok X G (c.d.fact 16 (f := .glo "_law_forms_made") rfl)
    g_law_named := He.glo_ok X G (c.d.fact 17 (f := .glo "_law_named") rfl)
    g_law_all_shapes := He.glo_ok X G (c.d.fact 18 (f := .glo "_law_all_shapes") rfl)
    g_law_trees := He.glo_ok X G (c.d.fact 19 (f := .glo "_law_trees") rfl)
    g_law_due := He.glo_ok X G (c.d.fact 20 (f := .glo "_law_due") rfl)
    g_law_of_shape := He.glo_ok X G (c.d.fact 21 (f := .glo "_law_of_shape") rfl)
    g_law_of_rule := He.glo_ok X G (c.d.fact 22 (f := .glo "_law_of_rule") rfl)
    g_law_joined := He.glo_ok X G (c.d.fact 23 (f := .glo "_law_joined") rfl)
    g_law := He.glo_ok X G (c.d.fact 24 (f := .glo "law") rfl)
    g_Nothing := He.glo_ok X G (c.d.fact 25 (f := .glo "Nothing") rfl)
    g_Tree := He.glo_ok X G (c.d.fact 26 (f := .glo "Tree") rfl)
    g_Chain := He.glo_ok X G (c.d.fact 27 (f := .glo "Chain") rfl)
    g_Either := He.glo_ok X G (c.d.fact 28 (f := .glo "Either") rfl)
    g_Many := He.glo_ok X G (c.d.fact 29 (f := .glo "Many") rfl)
    g_Some := He.glo_ok X G (c.d.fact 30 (f := .glo "Some") rfl)
    g_Maybe := He.glo_ok X G (c.d.fact 31 (f := .glo "Maybe") rfl)
    g_Shaped := He.glo_ok X G (c.d.fact 32 (f := .glo "Shaped") rfl)
    g_Turned := He.glo_ok X G (c.d.fact 33 (f := .glo "Turned") rfl)
    g_Both := He.glo_ok X G (c.d.fact 34 (f := .glo "Both") rfl)
    g_Any := He.glo_ok X G (c.d.fact 35 (f := .glo "Any") rfl)
    g_Forms := He.glo_ok X G (c.d.fact 36 (f := .glo "Forms") rfl)
    g_Meaning := He.glo_ok X G (c.d.fact 37 (f := .glo "Meaning") rfl)
    g_Rule := He.glo_ok X G (c.d.fact 38 (f := .glo "Rule") rfl)
    g_NoForm := He.glo_ok X G (c.d.fact 39 (f := .glo "NoForm") rfl)
    g_NoName := He.glo_ok X G (c.d.fact 40 (f := .glo "NoName") rfl)
    b_isinstance := He.free_ok X G (c.d.fact 41 (f := .free "isinstance") rfl)
    b_len := He.free_ok X G (c.d.fact 42 (f := .free "len") rfl)
    b_tuple := He.free_ok X G (c.d.fact 43 (f := .free "tuple") rfl)
    b_list := He.free_ok X G (c.d.fact 44 (f := .free "list") rfl)
    b_range := He.free_ok X G (c.d.fact 45 (f := .free "range") rfl)
    b_sorted := He.free_ok X G (c.d.fact 46 (f := .free "sorted") rfl)
    b_sum := He.free_ok X G (c.d.fact 47 (f := .free "sum") rfl)
    b_all := He.free_ok X G (c.d.fact 48 (f := .free "all") rfl)
    b_enumerate := He.free_ok X G (c.d.fact 49 (f := .free "enumerate") rfl)
    b_int := He.free_ok X G (c.d.fact 50 (f := .free "int") rfl)
    b_str := He.free_ok X G (c.d.fact 51 (f := .free "str") rfl)
    i_MOST_LETTERS := He.int_ok X G (c.d.fact 52 (f := .int "MOST_LETTERS" 8) rfl)
    i_MOST_RULES := He.int_ok X G (c.d.fact 53 (f := .int "MOST_RULES" 12) rfl)
    i_MOST_DEEP := He.int_ok X G (c.d.fact 54 (f := .int "MOST_DEEP" 6) rfl)
    i_MOST_IN_A_RULE := He.int_ok X G (c.d.fact 55 (f := .int "MOST_IN_A_RULE" 30) rfl)
    i_MOST_TREES := He.int_ok X G (c.d.fact 56 (f := .int "MOST_TREES" 40) rfl)
    s_LETTERS := He.str_ok X G (c.d.fact 57 (f := .str "LETTERS" "abcdefghijklmnopqrstuvwxyz") rfl)
    c_Nothing := He.cls_ok (c.d.fact 58 (f := .cls "Nothing") rfl)
    k_Nothing := He.keep_ok (c.d.fact 59 (f := .keep "Nothing") rfl)
    c_Tree := He.cls_ok (c.d.fact 60 (f := .cls "Tree") rfl)
    k_Tree := He.keep_ok (c.d.fact 61 (f := .keep "Tree") rfl)
    n_Tree_word := He.noat_ok (c.d.fact 62 (f := .noat "Tree" "word") rfl)
    n_Tree_name := He.noat_ok (c.d.fact 63 (f := .noat "Tree" "name") rfl)
    mk_Tree := He.mkr_ok (c.d.fact 64 (f := .mkr "Tree") rfl)
    c_Chain := He.cls_ok (c.d.fact 65 (f := .cls "Chain") rfl)
    k_Chain := He.keep_ok (c.d.fact 66 (f := .keep "Chain") rfl)
    n_Chain_parts := He.noat_ok (c.d.fact 67 (f := .noat "Chain" "parts") rfl)
    mk_Chain := He.mkr_ok (c.d.fact 68 (f := .mkr "Chain") rfl)
    c_Either := He.cls_ok (c.d.fact 69 (f := .cls "Either") rfl)
    k_Either := He.keep_ok (c.d.fact 70 (f := .keep "Either") rfl)
    n_Either_parts := He.noat_ok (c.d.fact 71 (f := .noat "Either" "parts") rfl)
    mk_Either := He.mkr_ok (c.d.fact 72 (f := .mkr "Either") rfl)
    c_Many := He.cls_ok (c.d.fact 73 (f := .cls "Many") rfl)
    k_Many := He.keep_ok (c.d.fact 74 (f := .keep "Many") rfl)
    n_Many_part := He.noat_ok (c.d.fact 75 (f := .noat "Many" "part") rfl)
    mk_Many := He.mkr_ok (c.d.fact 76 (f := .mkr "Many") rfl)
    c_Some := He.cls_ok (c.d.fact 77 (f := .cls "Some") rfl)
    k_Some := He.keep_ok (c.d.fact 78 (f := .keep "Some") rfl)
    n_Some_part := He.noat_ok (c.d.fact 79 (f := .noat "Some" "part") rfl)
    mk_Some := He.mkr_ok (c.d.fact 80 (f := .mkr "Some") rfl)
    c_Maybe := He.cls_ok (c.d.fact 81 (f := .cls "Maybe") rfl)
    k_Maybe := He.keep_ok (c.d.fact 82 (f := .keep "Maybe") rfl)
    n_Maybe_part := He.noat_ok (c.d.fact 83 (f := .noat "Maybe" "part") rfl)
    mk_Maybe := He.mkr_ok (c.d.fact 84 (f := .mkr "Maybe") rfl)
    c_Shaped := He.cls_ok (c.d.fact 85 (f := .cls "Shaped") rfl)
    k_Shaped := He.keep_ok (c.d.fact 86 (f := .keep "Shaped") rfl)
    n_Shaped_name := He.noat_ok (c.d.fact 87 (f := .noat "Shaped" "name") rfl)
    n_Shaped_shape := He.noat_ok (c.d.fact 88 (f := .noat "Shaped" "shape") rfl)
    mk_Shaped := He.mkr_ok (c.d.fact 89 (f := .mkr "Shaped") rfl)
    c_Turned := He.cls_ok (c.d.fact 90 (f := .cls "Turned") rfl)
    k_Turned := He.keep_ok (c.d.fact 91 (f := .keep "Turned") rfl)
    n_Turned_name := He.noat_ok (c.d.fact 92 (f := .noat "Turned" "name") rfl)
    n_Turned_one := He.noat_ok (c.d.fact 93 (f := .noat "Turned" "one") rfl)
    mk_Turned := He.mkr_ok (c.d.fact 94 (f := .mkr "Turned") rfl)
    c_Both := He.cls_ok (c.d.fact 95 (f := .cls "Both") rfl)
    k_Both := He.keep_ok (c.d.fact 96 (f := .keep "Both") rfl)
    n_Both_name := He.noat_ok (c.d.fact 97 (f := .noat "Both" "name") rfl)
    n_Both_one := He.noat_ok (c.d.fact 98 (f := .noat "Both" "one") rfl)
    n_Both_other := He.noat_ok (c.d.fact 99 (f := .noat "Both" "other") rfl)
    mk_Both := He.mkr_ok (c.d.fact 100 (f := .mkr "Both") rfl)
    c_Any := He.cls_ok (c.d.fact 101 (f := .cls "Any") rfl)
    k_Any := He.keep_ok (c.d.fact 102 (f := .keep "Any") rfl)
    n_Any_name := He.noat_ok (c.d.fact 103 (f := .noat "Any" "name") rfl)
    n_Any_one := He.noat_ok (c.d.fact 104 (f := .noat "Any" "one") rfl)
    n_Any_other := He.noat_ok (c.d.fact 105 (f := .noat "Any" "other") rfl)
    mk_Any := He.mkr_ok (c.d.fact 106 (f := .mkr "Any") rfl)
    c_Forms := He.cls_ok (c.d.fact 107 (f := .cls "Forms") rfl)
    k_Forms := He.keep_ok (c.d.fact 108 (f := .keep "Forms") rfl)
    n_Forms_rules := He.noat_ok (c.d.fact 109 (f := .noat "Forms" "rules") rfl)
    mk_Forms := He.mkr_ok (c.d.fact 110 (f := .mkr "Forms") rfl)
    c_Meaning := He.cls_ok (c.d.fact 111 (f := .cls "Meaning") rfl)
    k_Meaning := He.keep_ok (c.d.fact 112 (f := .keep "Meaning") rfl)
    n_Meaning_forms := He.noat_ok (c.d.fact 113 (f := .noat "Meaning" "forms") rfl)
    n_Meaning_known := He.noat_ok (c.d.fact 114 (f := .noat "Meaning" "known") rfl)
    mk_Meaning := He.mkr_ok (c.d.fact 115 (f := .mkr "Meaning") rfl)
    k_Rule := He.keep_ok (c.d.fact 116 (f := .keep "Rule") rfl)
    m_Nothing_inner := He.meth_ok (c.d.fact 117 (f := .meth "Nothing" "inner") rfl)
    m_Nothing_trees := He.meth_ok (c.d.fact 118 (f := .meth "Nothing" "trees") rfl)
    m_Tree_trees := He.meth_ok (c.d.fact 119 (f := .meth "Tree" "trees") rfl)
    m_Chain_inner := He.meth_ok (c.d.fact 120 (f := .meth "Chain" "inner") rfl)
    m_Chain_trees := He.meth_ok (c.d.fact 121 (f := .meth "Chain" "trees") rfl)
    m_Either_inner := He.meth_ok (c.d.fact 122 (f := .meth "Either" "inner") rfl)
    m_Either_trees := He.meth_ok (c.d.fact 123 (f := .meth "Either" "trees") rfl)
    m_Many_inner := He.meth_ok (c.d.fact 124 (f := .meth "Many" "inner") rfl)
    m_Many_trees := He.meth_ok (c.d.fact 125 (f := .meth "Many" "trees") rfl)
    m_Some_inner := He.meth_ok (c.d.fact 126 (f := .meth "Some" "inner") rfl)
    m_Some_trees := He.meth_ok (c.d.fact 127 (f := .meth "Some" "trees") rfl)
    m_Maybe_inner := He.meth_ok (c.d.fact 128 (f := .meth "Maybe" "inner") rfl)
    m_Maybe_trees := He.meth_ok (c.d.fact 129 (f := .meth "Maybe" "trees") rfl)
    m_Rule_init := He.meth_ok (c.d.fact 130 (f := .meth "Rule" "__init__") rfl)
    m_Shaped_trees := He.meth_ok (c.d.fact 131 (f := .meth "Shaped" "trees") rfl)
    m_Shaped_leans_on := He.meth_ok (c.d.fact 132 (f := .meth "Shaped" "leans_on") rfl)
    m_Turned_trees := He.meth_ok (c.d.fact 133 (f := .meth "Turned" "trees") rfl)
    m_Turned_leans_on := He.meth_ok (c.d.fact 134 (f := .meth "Turned" "leans_on") rfl)
    m_Both_trees := He.meth_ok (c.d.fact 135 (f := .meth "Both" "trees") rfl)
    m_Both_leans_on := He.meth_ok (c.d.fact 136 (f := .meth "Both" "leans_on") rfl)
    m_Any_trees := He.meth_ok (c.d.fact 137 (f := .meth "Any" "trees") rfl)
    m_Any_leans_on := He.meth_ok (c.d.fact 138 (f := .meth "Any" "leans_on") rfl)
    m_Forms_names := He.meth_ok (c.d.fact 139 (f := .meth "Forms" "names") rfl)
    m_Forms_rule := He.meth_ok (c.d.fact 140 (f := .meth "Forms" "rule") rfl)
    m_Meaning_is_of := He.meth_ok (c.d.fact 141 (f := .meth "Meaning" "is_of") rfl)
    m_Meaning_is_by := He.meth_ok (c.d.fact 142 (f := .meth "Meaning" "is_by") rfl)
    m_Meaning_is_told := He.meth_ok (c.d.fact 143 (f := .meth "Meaning" "is_told") rfl)
    m_Meaning_ends_of := He.meth_ok (c.d.fact 144 (f := .meth "Meaning" "ends_of") rfl)
    g_KEPT := He.glo_ok X G (c.d.fact 145 (f := .glo "KEPT") rfl)
    d_is_name := (fun ⟨_, F⟩ => fd_of (st := sIsName) F) (c.d.def_ 0 (d := dIsName) rfl)
    d_is_shape := (fun ⟨_, F⟩ => fd_of (st := sIsShape) F) (c.d.def_ 1 (d := dIsShape) rfl)
    d_is_rule := (fun ⟨_, F⟩ => fd_of (st := sIsRule) F) (c.d.def_ 2 (d := dIsRule) rfl)
    d_need_rules := (fun ⟨_, F⟩ => fd_of (st := sNeedRules) F) (c.d.def_ 3 (d := dNeedRules) rfl)
    d_row_text := (fun ⟨_, F⟩ => fd_of (st := sRowText) F) (c.d.def_ 4 (d := dRowText) rfl)
    d_rows_within := (fun ⟨_, F⟩ => fd_of (st := sRowsWithin) F) (c.d.def_ 5 (d := dRowsWithin) rfl)
    d_fits := (fun ⟨_, F⟩ => fd_of (st := sFits) F) (c.d.def_ 6 (d := dFits) rfl)
    d_law_mixed := (fun ⟨_, F⟩ => fd_of (st := sMixed) F) (c.d.def_ 7 (d := dMixed) rfl)
    d_law_cell_at := (fun ⟨_, F⟩ => fd_of (st := sCellAt) F) (c.d.def_ 8 (d := dCellAt) rfl)
    d_law_next := (fun ⟨_, F⟩ => fd_of (st := sNext) F) (c.d.def_ 9 (d := dNext) rfl)
    d_law_kept := (fun ⟨_, F⟩ => fd_of (st := sKept) F) (c.d.def_ 10 (d := dKept) rfl)
    d_law_names := (fun ⟨_, F⟩ => fd_of (st := sNames) F) (c.d.def_ 11 (d := dNames) rfl)
    d_law_row_by := (fun ⟨_, F⟩ => fd_of (st := sRowBy) F) (c.d.def_ 12 (d := dRowBy) rfl)
    d_law_shape := (fun ⟨_, F⟩ => fd_of (st := sShape) F) (c.d.def_ 13 (d := dShape) rfl)
    d_law_rules := (fun ⟨_, F⟩ => fd_of (st := sRules) F) (c.d.def_ 14 (d := dRules) rfl)
    d_law_shape_made := (fun ⟨_, F⟩ => fd_of (st := sShapeMade) F) (c.d.def_ 15 (d := dShapeMade) rfl)
    d_law_forms_made := (fun ⟨_, F⟩ => fd_of (st := sFormsMade) F) (c.d.def_ 16 (d := dFormsMade) rfl)
    d_law_named := (fun ⟨_, F⟩ => fd_of (st := sNamed) F) (c.d.def_ 17 (d := dNamed) rfl)
    d_law_all_shapes := (fun ⟨_, F⟩ => fd_of (st := sAllShapes) F) (c.d.def_ 18 (d := dAllShapes) rfl)
    d_law_trees := (fun ⟨_, F⟩ => fd_of (st := sTrees) F) (c.d.def_ 19 (d := dTrees) rfl)
    d_law_due := (fun ⟨_, F⟩ => fd_of (st := sDue) F) (c.d.def_ 20 (d := dDue) rfl)
    d_law_of_shape := (fun ⟨_, F⟩ => fd_of (st := sOfShape) F) (c.d.def_ 21 (d := dOfShape) rfl)
    d_law_of_rule := (fun ⟨_, F⟩ => fd_of (st := sOfRule) F) (c.d.def_ 22 (d := dOfRule) rfl)
    d_law_joined := (fun ⟨_, F⟩ => fd_of (st := sJoined) F) (c.d.def_ 23 (d := dJoined) rfl)
    d_law := (fun ⟨_, F⟩ => fd_of (st := sLaw) F) (c.d.def_ 24 (d := dLaw) rfl)
    d_Nothing_inner := (fun ⟨_, F⟩ => fd_of (st := sShapeInner) F) (c.d.def_ 25 (d := dNothingInner) rfl)
    d_Nothing_trees := (fun ⟨_, F⟩ => fd_of (st := sShapeTrees) F) (c.d.def_ 26 (d := dNothingTrees) rfl)
    d_Tree_init := (fun ⟨_, F⟩ => fd_of (st := sTreeInit) F) (c.d.def_ 27 (d := dTreeInit) rfl)
    d_Tree_trees := (fun ⟨_, F⟩ => fd_of (st := sTreeTrees) F) (c.d.def_ 28 (d := dTreeTrees) rfl)
    d_Chain_init := (fun ⟨_, F⟩ => fd_of (st := sJoinedInit) F) (c.d.def_ 29 (d := dChainInit) rfl)
    d_Chain_inner := (fun ⟨_, F⟩ => fd_of (st := sJoinedInner) F) (c.d.def_ 30 (d := dChainInner) rfl)
    d_Chain_trees := (fun ⟨_, F⟩ => fd_of (st := sShapeTrees) F) (c.d.def_ 31 (d := dChainTrees) rfl)
    d_Either_init := (fun ⟨_, F⟩ => fd_of (st := sJoinedInit) F) (c.d.def_ 32 (d := dEitherInit) rfl)
    d_Either_inner := (fun ⟨_, F⟩ => fd_of (st := sJoinedInner) F) (c.d.def_ 33 (d := dEitherInner) rfl)
    d_Either_trees := (fun ⟨_, F⟩ => fd_of (st := sShapeTrees) F) (c.d.def_ 34 (d := dEitherTrees) rfl)
    d_Many_init := (fun ⟨_, F⟩ => fd_of (st := sSignedInit) F) (c.d.def_ 35 (d := dManyInit) rfl)
    d_Many_inner := (fun ⟨_, F⟩ => fd_of (st := sSignedInner) F) (c.d.def_ 36 (d := dManyInner) rfl)
    d_Many_trees := (fun ⟨_, F⟩ => fd_of (st := sShapeTrees) F) (c.d.def_ 37 (d := dManyTrees) rfl)
    d_Some_init := (fun ⟨_, F⟩ => fd_of (st := sSignedInit) F) (c.d.def_ 38 (d := dSomeInit) rfl)
    d_Some_inner := (fun ⟨_, F⟩ => fd_of (st := sSignedInner) F) (c.d.def_ 39 (d := dSomeInner) rfl)
    d_Some_trees := (fun ⟨_, F⟩ => fd_of (st := sShapeTrees) F) (c.d.def_ 40 (d := dSomeTrees) rfl)
    d_Maybe_init := (fun ⟨_, F⟩ => fd_of (st := sSignedInit) F) (c.d.def_ 41 (d := dMaybeInit) rfl)
    d_Maybe_inner := (fun ⟨_, F⟩ => fd_of (st := sSignedInner) F) (c.d.def_ 42 (d := dMaybeInner) rfl)
    d_Maybe_trees := (fun ⟨_, F⟩ => fd_of (st := sShapeTrees) F) (c.d.def_ 43 (d := dMaybeTrees) rfl)
    d_Rule_init := (fun ⟨_, F⟩ => fd_of (st := sRuleInit) F) (c.d.def_ 44 (d := dRuleInit) rfl)
    d_Shaped_init := (fun ⟨_, F⟩ => fd_of (st := sShapedInit) F) (c.d.def_ 45 (d := dShapedInit) rfl)
    d_Shaped_trees := (fun ⟨_, F⟩ => fd_of (st := sShapedTrees) F) (c.d.def_ 46 (d := dShapedTrees) rfl)
    d_Shaped_leans_on := (fun ⟨_, F⟩ => fd_of (st := sRuleLeansOn) F) (c.d.def_ 47 (d := dShapedLeansOn) rfl)
    d_Turned_init := (fun ⟨_, F⟩ => fd_of (st := sTurnedInit) F) (c.d.def_ 48 (d := dTurnedInit) rfl)
    d_Turned_trees := (fun ⟨_, F⟩ => fd_of (st := sRuleTrees) F) (c.d.def_ 49 (d := dTurnedTrees) rfl)
    d_Turned_leans_on := (fun ⟨_, F⟩ => fd_of (st := sTurnedLeansOn) F) (c.d.def_ 50 (d := dTurnedLeansOn) rfl)
    d_Both_init := (fun ⟨_, F⟩ => fd_of (st := sBothInit) F) (c.d.def_ 51 (d := dBothInit) rfl)
    d_Both_trees := (fun ⟨_, F⟩ => fd_of (st := sRuleTrees) F) (c.d.def_ 52 (d := dBothTrees) rfl)
    d_Both_leans_on := (fun ⟨_, F⟩ => fd_of (st := sBothLeansOn) F) (c.d.def_ 53 (d := dBothLeansOn) rfl)
    d_Any_init := (fun ⟨_, F⟩ => fd_of (st := sAnyInit) F) (c.d.def_ 54 (d := dAnyInit) rfl)
    d_Any_trees := (fun ⟨_, F⟩ => fd_of (st := sRuleTrees) F) (c.d.def_ 55 (d := dAnyTrees) rfl)
    d_Any_leans_on := (fun ⟨_, F⟩ => fd_of (st := sAnyLeansOn) F) (c.d.def_ 56 (d := dAnyLeansOn) rfl)
    d_Forms_init := (fun ⟨_, F⟩ => fd_of (st := sFormsInit) F) (c.d.def_ 57 (d := dFormsInit) rfl)
    d_Forms_names := (fun ⟨_, F⟩ => fd_of (st := sFormsNames) F) (c.d.def_ 58 (d := dFormsNames) rfl)
    d_Forms_rule := (fun ⟨_, F⟩ => fd_of (st := sFormsRule) F) (c.d.def_ 59 (d := dFormsRule) rfl)
    d_Meaning_init := (fun ⟨_, F⟩ => fd_of (st := sMeaningInit) F) (c.d.def_ 60 (d := dMeaningInit) rfl)
    d_Meaning_is_of := (fun ⟨_, F⟩ => fd_of (st := sMeaningIsOf) F) (c.d.def_ 61 (d := dMeaningIsOf) rfl)
    d_Meaning_is_by := (fun ⟨_, F⟩ => fd_of (st := sMeaningIsBy) F) (c.d.def_ 62 (d := dMeaningIsBy) rfl)
    d_Meaning_is_told := (fun ⟨_, F⟩ => fd_of (st := sMeaningIsTold) F) (c.d.def_ 63 (d := dMeaningIsTold) rfl)
    d_Meaning_ends_of := (fun ⟨_, F⟩ => fd_of (st := sMeaningEndsOf) F) (c.d.def_ 64 (d := dMeaningEndsOf) rfl)
    hn := of_decide_eq_true m1
    htk := of_decide_eq_true m2
    ty_Nothing := ty 0 _ rfl
    ty_Tree := ty 1 _ rfl
    ty_Chain := ty 2 _ rfl
    ty_Either := ty 3 _ rfl
    ty_Many := ty 4 _ rfl
    ty_Some := ty 5 _ rfl
    ty_Maybe := ty 6 _ rfl
    ty_Shaped := ty 7 _ rfl
    ty_Turned := ty 8 _ rfl
    ty_Both := ty 9 _ rfl
    ty_Any := ty 10 _ rfl
    kit_Nothing_Nothing := kt 0 ("Nothing", "Nothing", true) rfl
    kit_Nothing_Tree := kt 1 ("Nothing", "Tree", false) rfl
    kit_Nothing_Chain := kt 2 ("Nothing", "Chain", false) rfl
    kit_Nothing_Either := kt 3 ("Nothing", "Either", false) rfl
    kit_Nothing_Many := kt 4 ("Nothing", "Many", false) rfl
    kit_Nothing_Some := kt 5 ("Nothing", "Some", false) rfl
    kit_Nothing_Maybe := kt 6 ("Nothing", "Maybe", false) rfl
    kit_Tree_Nothing := kt 7 ("Tree", "Nothing", false) rfl
    kit_Tree_Tree := kt 8 ("Tree", "Tree", true) rfl
    kit_Tree_Chain := kt 9 ("Tree", "Chain", false) rfl
    kit_Tree_Either := kt 10 ("Tree", "Either", false) rfl
    kit_Tree_Many := kt 11 ("Tree", "Many", false) rfl
    kit_Tree_Some := kt 12 ("Tree", "Some", false) rfl
    kit_Tree_Maybe := kt 13 ("Tree", "Maybe", false) rfl
    kit_Chain_Nothing := kt 14 ("Chain", "Nothing", false) rfl
    kit_Chain_Tree := kt 15 ("Chain", "Tree", false) rfl
    kit_Chain_Chain := kt 16 ("Chain", "Chain", true) rfl
    kit_Chain_Either := kt 17 ("Chain", "Either", false) rfl
    kit_Chain_Many := kt 18 ("Chain", "Many", false) rfl
    kit_Chain_Some := kt 19 ("Chain", "Some", false) rfl
    kit_Chain_Maybe := kt 20 ("Chain", "Maybe", false) rfl
    kit_Either_Nothing := kt 21 ("Either", "Nothing", false) rfl
    kit_Either_Tree := kt 22 ("Either", "Tree", false) rfl
    kit_Either_Chain := kt 23 ("Either", "Chain", false) rfl
    kit_Either_Either := kt 24 ("Either", "Either", true) rfl
    kit_Either_Many := kt 25 ("Either", "Many", false) rfl
    kit_Either_Some := kt 26 ("Either", "Some", false) rfl
    kit_Either_Maybe := kt 27 ("Either", "Maybe", false) rfl
    kit_Many_Nothing := kt 28 ("Many", "Nothing", false) rfl
    kit_Many_Tree := kt 29 ("Many", "Tree", false) rfl
    kit_Many_Chain := kt 30 ("Many", "Chain", false) rfl
    kit_Many_Either := kt 31 ("Many", "Either", false) rfl
    kit_Many_Many := kt 32 ("Many", "Many", true) rfl
    kit_Many_Some := kt 33 ("Many", "Some", false) rfl
    kit_Many_Maybe := kt 34 ("Many", "Maybe", false) rfl
    kit_Some_Nothing := kt 35 ("Some", "Nothing", false) rfl
    kit_Some_Tree := kt 36 ("Some", "Tree", false) rfl
    kit_Some_Chain := kt 37 ("Some", "Chain", false) rfl
    kit_Some_Either := kt 38 ("Some", "Either", false) rfl
    kit_Some_Many := kt 39 ("Some", "Many", false) rfl
    kit_Some_Some := kt 40 ("Some", "Some", true) rfl
    kit_Some_Maybe := kt 41 ("Some", "Maybe", false) rfl
    kit_Maybe_Nothing := kt 42 ("Maybe", "Nothing", false) rfl
    kit_Maybe_Tree := kt 43 ("Maybe", "Tree", false) rfl
    kit_Maybe_Chain := kt 44 ("Maybe", "Chain", false) rfl
    kit_Maybe_Either := kt 45 ("Maybe", "Either", false) rfl
    kit_Maybe_Many := kt 46 ("Maybe", "Many", false) rfl
    kit_Maybe_Some := kt 47 ("Maybe", "Some", false) rfl
    kit_Maybe_Maybe := kt 48 ("Maybe", "Maybe", true) rfl
    kit_Shaped_Rule := kt 49 ("Shaped", "Rule", true) rfl
    kit_Shaped_Shaped := kt 50 ("Shaped", "Shaped", true) rfl
    kit_Shaped_Turned := kt 51 ("Shaped", "Turned", false) rfl
    kit_Shaped_Both := kt 52 ("Shaped", "Both", false) rfl
    kit_Turned_Rule := kt 53 ("Turned", "Rule", true) rfl
    kit_Turned_Shaped := kt 54 ("Turned", "Shaped", false) rfl
    kit_Turned_Turned := kt 55 ("Turned", "Turned", true) rfl
    kit_Turned_Both := kt 56 ("Turned", "Both", false) rfl
    kit_Both_Rule := kt 57 ("Both", "Rule", true) rfl
    kit_Both_Shaped := kt 58 ("Both", "Shaped", false) rfl
    kit_Both_Turned := kt 59 ("Both", "Turned", false) rfl
    kit_Both_Both := kt 60 ("Both", "Both", true) rfl
    kit_Any_Rule := kt 61 ("Any", "Rule", true) rfl
    kit_Any_Shaped := kt 62 ("Any", "Shaped", false) rfl
    kit_Any_Turned := kt 63 ("Any", "Turned", false) rfl
    kit_Any_Both := kt 64 ("Any", "Both", false) rfl
    kept := fun H => by
        have z := He.tupB_ok m5 H
        rw [List.map_map] at z
        exact z
    mkNothing := m6
    initNothing := of_decide_eq_true m7
    readsRule := m8
    gaRule := of_decide_eq_true m9
    initRule := ir
  }
theorem bd_is_name {K : PySem.W.Frag} {mg : Str → Option Value} (T : Tx K mg) : Binds K (fdOf K (ca K "is_name")) pIsName [] := T.d_is_name.bindsN fun _ _ _ _ _ _ us hl => match us, hl with | [_], _ => rfl
theorem bd_is_shape {K : PySem.W.Frag} {mg : Str → Option Value} (T : Tx K mg) : Binds K (fdOf K (ca K "is_shape")) pIsShape [] := T.d_is_shape.bindsN fun _ _ _ _ _ _ us hl => match us, hl with | [_, _], _ => rfl
theorem bd_is_rule {K : PySem.W.Frag} {mg : Str → Option Value} (T : Tx K mg) : Binds K (fdOf K (ca K "is_rule")) pIsRule [] := T.d_is_rule.bindsN fun _ _ _ _ _ _ us hl => match us, hl with | [_, _], _ => rfl
theorem bd_need_rules {K : PySem.W.Frag} {mg : Str → Option Value} (T : Tx K mg) : Binds K (fdOf K (ca K "need_rules")) pNeedRules [] := T.d_need_rules.bindsN fun _ _ _ _ _ _ us hl => match us, hl with | [_], _ => rfl
theorem bd_row_text {K : PySem.W.Frag} {mg : Str → Option Value} (T : Tx K mg) : Binds K (fdOf K (ca K "row_text")) pRowText [] := T.d_row_text.bindsN fun _ _ _ _ _ _ us hl => match us, hl with | [_], _ => rfl
theorem bd_rows_within {K : PySem.W.Frag} {mg : Str → Option Value} (T : Tx K mg) : Binds K (fdOf K (ca K "rows_within")) pRowsWithin [] := T.d_rows_within.bindsN fun _ _ _ _ _ _ us hl => match us, hl with | [_], _ => rfl
theorem bd_fits {K : PySem.W.Frag} {mg : Str → Option Value} (T : Tx K mg) : Binds K (fdOf K (ca K "fits")) pFits [] := T.d_fits.bindsN fun _ _ _ _ _ _ us hl => match us, hl with | [_, _, _], _ => rfl
theorem bd_law_mixed {K : PySem.W.Frag} {mg : Str → Option Value} (T : Tx K mg) : Binds K (fdOf K (ca K "_law_mixed")) pMixed [] := T.d_law_mixed.bindsN fun _ _ _ _ _ _ us hl => match us, hl with | [_, _], _ => rfl
theorem bd_law_cell_at {K : PySem.W.Frag} {mg : Str → Option Value} (T : Tx K mg) : Binds K (fdOf K (ca K "_law_cell_at")) pCellAt [] := T.d_law_cell_at.bindsN fun _ _ _ _ _ _ us hl => match us, hl with | [_, _], _ => rfl
theorem bd_law_next {K : PySem.W.Frag} {mg : Str → Option Value} (T : Tx K mg) : Binds K (fdOf K (ca K "_law_next")) pNext [] := T.d_law_next.bindsN fun _ _ _ _ _ _ us hl => match us, hl with | [_, _], _ => rfl
theorem bd_law_kept {K : PySem.W.Frag} {mg : Str → Option Value} (T : Tx K mg) : Binds K (fdOf K (ca K "_law_kept")) pKept [] := T.d_law_kept.bindsN fun _ _ _ _ _ _ us hl => match us, hl with | [], _ => rfl
theorem bd_law_names {K : PySem.W.Frag} {mg : Str → Option Value} (T : Tx K mg) : Binds K (fdOf K (ca K "_law_names")) pNames [] := T.d_law_names.bindsN fun _ _ _ _ _ _ us hl => match us, hl with | [_, _], _ => rfl
theorem bd_law_row_by {K : PySem.W.Frag} {mg : Str → Option Value} (T : Tx K mg) : Binds K (fdOf K (ca K "_law_row_by")) pRowBy [] := T.d_law_row_by.bindsN fun _ _ _ _ _ _ us hl => match us, hl with | [_, _, _, _], _ => rfl
theorem bd_law_shape {K : PySem.W.Frag} {mg : Str → Option Value} (T : Tx K mg) : Binds K (fdOf K (ca K "_law_shape")) pShape [] := T.d_law_shape.bindsN fun _ _ _ _ _ _ us hl => match us, hl with | [_, _, _, _], _ => rfl
theorem bd_law_rules {K : PySem.W.Frag} {mg : Str → Option Value} (T : Tx K mg) : Binds K (fdOf K (ca K "_law_rules")) pRules [] := T.d_law_rules.bindsN fun _ _ _ _ _ _ us hl => match us, hl with | [_, _, _], _ => rfl
theorem bd_law_shape_made {K : PySem.W.Frag} {mg : Str → Option Value} (T : Tx K mg) : Binds K (fdOf K (ca K "_law_shape_made")) pShapeMade [] := T.d_law_shape_made.bindsN fun _ _ _ _ _ _ us hl => match us, hl with | [_], _ => rfl
theorem bd_law_forms_made {K : PySem.W.Frag} {mg : Str → Option Value} (T : Tx K mg) : Binds K (fdOf K (ca K "_law_forms_made")) pFormsMade [] := T.d_law_forms_made.bindsN fun _ _ _ _ _ _ us hl => match us, hl with | [_], _ => rfl
theorem bd_law_named {K : PySem.W.Frag} {mg : Str → Option Value} (T : Tx K mg) : Binds K (fdOf K (ca K "_law_named")) pNamed [] := T.d_law_named.bindsN fun _ _ _ _ _ _ us hl => match us, hl with | [_, _, _], _ => rfl
theorem bd_law_all_shapes {K : PySem.W.Frag} {mg : Str → Option Value} (T : Tx K mg) : Binds K (fdOf K (ca K "_law_all_shapes")) pAllShapes [] := T.d_law_all_shapes.bindsN fun _ _ _ _ _ _ us hl => match us, hl with | [_, _], _ => rfl
theorem bd_law_trees {K : PySem.W.Frag} {mg : Str → Option Value} (T : Tx K mg) : Binds K (fdOf K (ca K "_law_trees")) pTrees [] := T.d_law_trees.bindsN fun _ _ _ _ _ _ us hl => match us, hl with | [_], _ => rfl
theorem bd_law_due {K : PySem.W.Frag} {mg : Str → Option Value} (T : Tx K mg) : Binds K (fdOf K (ca K "_law_due")) pDue [] := T.d_law_due.bindsN fun _ _ _ _ _ _ us hl => match us, hl with | [_, _, _], _ => rfl
theorem bd_law_of_shape {K : PySem.W.Frag} {mg : Str → Option Value} (T : Tx K mg) : Binds K (fdOf K (ca K "_law_of_shape")) pOfShape [] := T.d_law_of_shape.bindsN fun _ _ _ _ _ _ us hl => match us, hl with | [_, _, _, _, _], _ => rfl
theorem bd_law_of_rule {K : PySem.W.Frag} {mg : Str → Option Value} (T : Tx K mg) : Binds K (fdOf K (ca K "_law_of_rule")) pOfRule [] := T.d_law_of_rule.bindsN fun _ _ _ _ _ _ us hl => match us, hl with | [_, _, _, _, _], _ => rfl
theorem bd_law_joined {K : PySem.W.Frag} {mg : Str → Option Value} (T : Tx K mg) : Binds K (fdOf K (ca K "_law_joined")) pJoined [] := T.d_law_joined.bindsN fun _ _ _ _ _ _ us hl => match us, hl with | [_, _, _], _ => rfl
theorem bd_law {K : PySem.W.Frag} {mg : Str → Option Value} (T : Tx K mg) : Binds K (fdOf K (ca K "law")) pLaw [] := T.d_law.bindsN fun _ _ _ _ _ _ us hl => match us, hl with | [_], _ => rfl
theorem bd_Nothing_inner {K : PySem.W.Frag} {mg : Str → Option Value} (T : Tx K mg) : Binds K (fdOf K (me K "Nothing" "inner")) pShapeInner [] := T.d_Nothing_inner.bindsN fun _ _ _ _ _ _ us hl => match us, hl with | [_], _ => rfl
theorem bd_Nothing_trees {K : PySem.W.Frag} {mg : Str → Option Value} (T : Tx K mg) : Binds K (fdOf K (me K "Nothing" "trees")) pShapeTrees [] := T.d_Nothing_trees.bindsN fun _ _ _ _ _ _ us hl => match us, hl with | [_], _ => rfl
theorem bd_Tree_init {K : PySem.W.Frag} {mg : Str → Option Value} (T : Tx K mg) : Binds K (fdOf K (me K "Tree" "__init__")) pTreeInit [] := T.d_Tree_init.bindsN fun _ _ _ _ _ _ us hl => match us, hl with | [_, _, _], _ => rfl
theorem bd_Tree_trees {K : PySem.W.Frag} {mg : Str → Option Value} (T : Tx K mg) : Binds K (fdOf K (me K "Tree" "trees")) pTreeTrees [] := T.d_Tree_trees.bindsN fun _ _ _ _ _ _ us hl => match us, hl with | [_], _ => rfl
theorem bd_Chain_init {K : PySem.W.Frag} {mg : Str → Option Value} (T : Tx K mg) : Binds K (fdOf K (me K "Chain" "__init__")) pJoinedInit [] := T.d_Chain_init.bindsN fun _ _ _ _ _ _ us hl => match us, hl with | [_, _], _ => rfl
theorem bd_Chain_inner {K : PySem.W.Frag} {mg : Str → Option Value} (T : Tx K mg) : Binds K (fdOf K (me K "Chain" "inner")) pJoinedInner [] := T.d_Chain_inner.bindsN fun _ _ _ _ _ _ us hl => match us, hl with | [_], _ => rfl
theorem bd_Chain_trees {K : PySem.W.Frag} {mg : Str → Option Value} (T : Tx K mg) : Binds K (fdOf K (me K "Chain" "trees")) pShapeTrees [] := T.d_Chain_trees.bindsN fun _ _ _ _ _ _ us hl => match us, hl with | [_], _ => rfl
theorem bd_Either_init {K : PySem.W.Frag} {mg : Str → Option Value} (T : Tx K mg) : Binds K (fdOf K (me K "Either" "__init__")) pJoinedInit [] := T.d_Either_init.bindsN fun _ _ _ _ _ _ us hl => match us, hl with | [_, _], _ => rfl
theorem bd_Either_inner {K : PySem.W.Frag} {mg : Str → Option Value} (T : Tx K mg) : Binds K (fdOf K (me K "Either" "inner")) pJoinedInner [] := T.d_Either_inner.bindsN fun _ _ _ _ _ _ us hl => match us, hl with | [_], _ => rfl
theorem bd_Either_trees {K : PySem.W.Frag} {mg : Str → Option Value} (T : Tx K mg) : Binds K (fdOf K (me K "Either" "trees")) pShapeTrees [] := T.d_Either_trees.bindsN fun _ _ _ _ _ _ us hl => match us, hl with | [_], _ => rfl
theorem bd_Many_init {K : PySem.W.Frag} {mg : Str → Option Value} (T : Tx K mg) : Binds K (fdOf K (me K "Many" "__init__")) pSignedInit [] := T.d_Many_init.bindsN fun _ _ _ _ _ _ us hl => match us, hl with | [_, _], _ => rfl
theorem bd_Many_inner {K : PySem.W.Frag} {mg : Str → Option Value} (T : Tx K mg) : Binds K (fdOf K (me K "Many" "inner")) pSignedInner [] := T.d_Many_inner.bindsN fun _ _ _ _ _ _ us hl => match us, hl with | [_], _ => rfl
theorem bd_Many_trees {K : PySem.W.Frag} {mg : Str → Option Value} (T : Tx K mg) : Binds K (fdOf K (me K "Many" "trees")) pShapeTrees [] := T.d_Many_trees.bindsN fun _ _ _ _ _ _ us hl => match us, hl with | [_], _ => rfl
theorem bd_Some_init {K : PySem.W.Frag} {mg : Str → Option Value} (T : Tx K mg) : Binds K (fdOf K (me K "Some" "__init__")) pSignedInit [] := T.d_Some_init.bindsN fun _ _ _ _ _ _ us hl => match us, hl with | [_, _], _ => rfl
theorem bd_Some_inner {K : PySem.W.Frag} {mg : Str → Option Value} (T : Tx K mg) : Binds K (fdOf K (me K "Some" "inner")) pSignedInner [] := T.d_Some_inner.bindsN fun _ _ _ _ _ _ us hl => match us, hl with | [_], _ => rfl
theorem bd_Some_trees {K : PySem.W.Frag} {mg : Str → Option Value} (T : Tx K mg) : Binds K (fdOf K (me K "Some" "trees")) pShapeTrees [] := T.d_Some_trees.bindsN fun _ _ _ _ _ _ us hl => match us, hl with | [_], _ => rfl
theorem bd_Maybe_init {K : PySem.W.Frag} {mg : Str → Option Value} (T : Tx K mg) : Binds K (fdOf K (me K "Maybe" "__init__")) pSignedInit [] := T.d_Maybe_init.bindsN fun _ _ _ _ _ _ us hl => match us, hl with | [_, _], _ => rfl
theorem bd_Maybe_inner {K : PySem.W.Frag} {mg : Str → Option Value} (T : Tx K mg) : Binds K (fdOf K (me K "Maybe" "inner")) pSignedInner [] := T.d_Maybe_inner.bindsN fun _ _ _ _ _ _ us hl => match us, hl with | [_], _ => rfl
theorem bd_Maybe_trees {K : PySem.W.Frag} {mg : Str → Option Value} (T : Tx K mg) : Binds K (fdOf K (me K "Maybe" "trees")) pShapeTrees [] := T.d_Maybe_trees.bindsN fun _ _ _ _ _ _ us hl => match us, hl with | [_], _ => rfl
theorem bd_Rule_init {K : PySem.W.Frag} {mg : Str → Option Value} (T : Tx K mg) : Binds K (fdOf K (me K "Rule" "__init__")) pRuleInit [] := T.d_Rule_init.bindsN fun _ _ _ _ _ _ us hl => match us, hl with | [_, _], _ => rfl
theorem bd_Shaped_init {K : PySem.W.Frag} {mg : Str → Option Value} (T : Tx K mg) : Binds K (fdOf K (me K "Shaped" "__init__")) pShapedInit [] := T.d_Shaped_init.bindsN fun _ _ _ _ _ _ us hl => match us, hl with | [_, _, _], _ => rfl
theorem bd_Shaped_trees {K : PySem.W.Frag} {mg : Str → Option Value} (T : Tx K mg) : Binds K (fdOf K (me K "Shaped" "trees")) pShapedTrees [] := T.d_Shaped_trees.bindsN fun _ _ _ _ _ _ us hl => match us, hl with | [_], _ => rfl
theorem bd_Shaped_leans_on {K : PySem.W.Frag} {mg : Str → Option Value} (T : Tx K mg) : Binds K (fdOf K (me K "Shaped" "leans_on")) pRuleLeansOn [] := T.d_Shaped_leans_on.bindsN fun _ _ _ _ _ _ us hl => match us, hl with | [_], _ => rfl
theorem bd_Turned_init {K : PySem.W.Frag} {mg : Str → Option Value} (T : Tx K mg) : Binds K (fdOf K (me K "Turned" "__init__")) pTurnedInit [] := T.d_Turned_init.bindsN fun _ _ _ _ _ _ us hl => match us, hl with | [_, _, _], _ => rfl
theorem bd_Turned_trees {K : PySem.W.Frag} {mg : Str → Option Value} (T : Tx K mg) : Binds K (fdOf K (me K "Turned" "trees")) pRuleTrees [] := T.d_Turned_trees.bindsN fun _ _ _ _ _ _ us hl => match us, hl with | [_], _ => rfl
theorem bd_Turned_leans_on {K : PySem.W.Frag} {mg : Str → Option Value} (T : Tx K mg) : Binds K (fdOf K (me K "Turned" "leans_on")) pTurnedLeansOn [] := T.d_Turned_leans_on.bindsN fun _ _ _ _ _ _ us hl => match us, hl with | [_], _ => rfl
theorem bd_Both_init {K : PySem.W.Frag} {mg : Str → Option Value} (T : Tx K mg) : Binds K (fdOf K (me K "Both" "__init__")) pBothInit [] := T.d_Both_init.bindsN fun _ _ _ _ _ _ us hl => match us, hl with | [_, _, _, _], _ => rfl
theorem bd_Both_trees {K : PySem.W.Frag} {mg : Str → Option Value} (T : Tx K mg) : Binds K (fdOf K (me K "Both" "trees")) pRuleTrees [] := T.d_Both_trees.bindsN fun _ _ _ _ _ _ us hl => match us, hl with | [_], _ => rfl
theorem bd_Both_leans_on {K : PySem.W.Frag} {mg : Str → Option Value} (T : Tx K mg) : Binds K (fdOf K (me K "Both" "leans_on")) pBothLeansOn [] := T.d_Both_leans_on.bindsN fun _ _ _ _ _ _ us hl => match us, hl with | [_], _ => rfl
theorem bd_Any_init {K : PySem.W.Frag} {mg : Str → Option Value} (T : Tx K mg) : Binds K (fdOf K (me K "Any" "__init__")) pAnyInit [] := T.d_Any_init.bindsN fun _ _ _ _ _ _ us hl => match us, hl with | [_, _, _, _], _ => rfl
theorem bd_Any_trees {K : PySem.W.Frag} {mg : Str → Option Value} (T : Tx K mg) : Binds K (fdOf K (me K "Any" "trees")) pRuleTrees [] := T.d_Any_trees.bindsN fun _ _ _ _ _ _ us hl => match us, hl with | [_], _ => rfl
theorem bd_Any_leans_on {K : PySem.W.Frag} {mg : Str → Option Value} (T : Tx K mg) : Binds K (fdOf K (me K "Any" "leans_on")) pAnyLeansOn [] := T.d_Any_leans_on.bindsN fun _ _ _ _ _ _ us hl => match us, hl with | [_], _ => rfl
theorem bd_Forms_init {K : PySem.W.Frag} {mg : Str → Option Value} (T : Tx K mg) : Binds K (fdOf K (me K "Forms" "__init__")) pFormsInit [] := T.d_Forms_init.bindsN fun _ _ _ _ _ _ us hl => match us, hl with | [_, _], _ => rfl
theorem bd_Forms_names {K : PySem.W.Frag} {mg : Str → Option Value} (T : Tx K mg) : Binds K (fdOf K (me K "Forms" "names")) pFormsNames [] := T.d_Forms_names.bindsN fun _ _ _ _ _ _ us hl => match us, hl with | [_], _ => rfl
theorem bd_Forms_rule {K : PySem.W.Frag} {mg : Str → Option Value} (T : Tx K mg) : Binds K (fdOf K (me K "Forms" "rule")) pFormsRule [] := T.d_Forms_rule.bindsN fun _ _ _ _ _ _ us hl => match us, hl with | [_, _], _ => rfl
theorem bd_Meaning_init {K : PySem.W.Frag} {mg : Str → Option Value} (T : Tx K mg) : Binds K (fdOf K (me K "Meaning" "__init__")) pMeaningInit [] := T.d_Meaning_init.bindsN fun _ _ _ _ _ _ us hl => match us, hl with | [_, _], _ => rfl
theorem bd_Meaning_is_of {K : PySem.W.Frag} {mg : Str → Option Value} (T : Tx K mg) : Binds K (fdOf K (me K "Meaning" "is_of")) pMeaningIsOf [] := T.d_Meaning_is_of.bindsN fun _ _ _ _ _ _ us hl => match us, hl with | [_, _, _], _ => rfl
theorem bd_Meaning_is_by {K : PySem.W.Frag} {mg : Str → Option Value} (T : Tx K mg) : Binds K (fdOf K (me K "Meaning" "is_by")) pMeaningIsBy [] := T.d_Meaning_is_by.bindsN fun _ _ _ _ _ _ us hl => match us, hl with | [_, _, _], _ => rfl
theorem bd_Meaning_is_told {K : PySem.W.Frag} {mg : Str → Option Value} (T : Tx K mg) : Binds K (fdOf K (me K "Meaning" "is_told")) pMeaningIsTold [] := T.d_Meaning_is_told.bindsN fun _ _ _ _ _ _ us hl => match us, hl with | [_, _, _], _ => rfl
theorem bd_Meaning_ends_of {K : PySem.W.Frag} {mg : Str → Option Value} (T : Tx K mg) : Binds K (fdOf K (me K "Meaning" "ends_of")) pMeaningEndsOf [] := T.d_Meaning_ends_of.bindsN fun _ _ _ _ _ _ us hl => match us, hl with | [_, _, _, _], _ => rfl
end K17
end PartK17Tx
section PartK17D1
set_option Elab.async false
set_option linter.all false
set_option maxRecDepth 100000
set_option maxHeartbeats 4000000
/-! The law's small defs: mixed, cell_at, next, kept. -/
namespace K17
open PySem PySem.Spec PyProof.Rows L2
abbrev FO (P : Program) (w : World) (K : PySem.W.Frag) (mg : Str → Option Value) (base : Heap) (k : Nat) (a : Addr) (ps : List Str) (sp : Sp) : Prop := FnOk P w K mg base CX0 k a (fdOf K a) ps sp
theorem sl5 {n : Nat} (h : n ≤ 100000) : n < sizeLine := Nat.lt_of_le_of_lt h (by decide)
/-- a list that is a draw: two ints -/
def DrawAt (H : Hp) (d : Addr) : Prop := ∃ c n : Int, H d = some (.lst [.int c, .int n])
def spMixed : Sp := fun vs H Q _ => ∃ c k : Int, vs = [.int c, .int k] ∧ ∀ r : Int, 0 ≤ r → r < 2147483399 → Q (.int r) H
def spCellAt (K : PySem.W.Frag) : Sp := fun vs H Q _ => ∃ (a : Addr) (ns : List Int) (k : Int), vs = [.ref a, .int k] ∧ SqL K H a (ns.map V.int) ∧ 0 ≤ k ∧ ∀ r : Int, 0 ≤ r → r < 2147483399 → Q (.int r) H
def spNext : Sp := fun vs H Q _ => ∃ (d : Addr) (n : Int), vs = [.ref d, .int n] ∧ DrawAt H d ∧ 0 < n ∧ ∀ (r : Int) (H' : Hp), 0 ≤ r → r < n → Ext [d] H H' → DrawAt H' d → (∀ b, b ≠ d → H' b = H b) → Q (.int r) H'
section
variable {P : Program} {w : World} {K : PySem.W.Frag} {mg : Str → Option Value} {base : Heap}
/-- a def without defaults that lets nothing out, by its body -/
theorem _root_.L2.FunD.ok0 {x qual : Str} {params : Arguments} {body : List Stmt} {scope : Scope} {f : Addr} {fd : FuncData} {N ps : List Str} {k : Nat} {sp : Sp} (F : FunD K x qual params body scope [] [] f fd) (S : FnScope N ps scope) (len : ∀ vs H Q E, sp vs H Q E → vs.length = ps.length)
    (hbody : ∀ (cdv : Value) (A : Around) (outer : List Env) (s : Shared) (H : Hp) (vs : List V) (Q : VK) (E : XK), Room k (A.deeper (envOfC qual scope s.heap.objs.size f cdv)) → sp vs H Q E →
      ∃ t, PSs (cxOf CX0 P w K mg base N qual scope f cdv A outer s H E).nox body t ∧ t { nx := fun _ H' => Q .non H', rt := Q } (start N vs) H) : FnOk P w K mg base CX0 (k + 1) f fd ps sp := by
  refine F.ok S len fun cdv A outer s H vs Q E hr hsp => ?_
  obtain ⟨t, h, q⟩ := hbody cdv A outer s H vs Q E hr hsp
  exact ⟨t, h.nox, q⟩
theorem lt_of_atI {ns : List Int} {k : Int} (h0 : 0 ≤ k) (h : k < ((ns.map V.int).length : Int)) : ∃ v : Int, atI (ns.map V.int) k = some (.int v) := by
  rw [List.length_map] at h
  have hk : k.toNat < ns.length := by omega
  have ek : k = ((k.toNat : Nat) : Int) := by omega
  have q : atI (ns.map V.int) ((k.toNat : Nat) : Int) = some (.int ns[k.toNat]) := atI_nat (by rw [List.getElem?_map, List.getElem?_eq_getElem hk]; rfl)
  rw [← ek] at q
  exact ⟨_, q⟩
theorem ok_mixed (T : Tx K mg) : FO P w K mg base 1 (ca K "_law_mixed") pMixed spMixed := by
  refine T.d_law_mixed.ok0 scMixed (fun vs H Q E h => ?_) (fun cdv A outer s H vs Q E hr h => ?_)
  · obtain ⟨c, k, rfl, _⟩ := h
    rfl
  · obtain ⟨c, k, rfl, q⟩ := h
    refine ⟨_, pss_cons (ps_set (i := 2) scMixed.nd rfl (.inl rfl) (pe_op op_mod (pe_op op_mul (pe_op op_add (pe_op op_add (pv 0) (pe_op op_mul pe_int (pv 1))) pe_int) pe_int) pe_int))
      (pss_one (ps_ret (pe_op op_mod (pe_op op_add (pe_op op_mul (pv 2) (pv 2)) (pe_op op_mul pe_int (pv 2))) pe_int))), ?_⟩
    refine ⟨_, rfl, _, rfl, _, _, rfl, rfl, .inl ⟨by decide, by decide⟩, _, _, rfl, rfl, _, _, rfl, rfl, _, _, rfl, rfl, .inr ⟨by decide, by decide⟩, _, _, rfl, rfl, (by show (0 : Int) < 2147483647; decide), ?_⟩
    have h1 := Int.emod_nonneg ((c + 7919 * k + 11) * 48271) (show (2147483647 : Int) ≠ 0 by decide)
    have h2 := Int.emod_lt_of_pos ((c + 7919 * k + 11) * 48271) (show (0 : Int) < 2147483647 by decide)
    refine ⟨_, rfl, _, rfl, _, _, rfl, rfl, .inl ⟨by omega, by omega⟩, _, rfl, _, _, rfl, rfl, .inl ⟨by decide, by decide⟩, _, _, rfl, rfl, _, _, rfl, rfl, (by show (0 : Int) < 2147483399; decide), ?_⟩
    exact q _ (Int.emod_nonneg _ (by decide)) (Int.emod_lt_of_pos _ (by decide))
theorem ok_cell (T : Tx K mg) : FO P w K mg base 2 (ca K "_law_cell_at") pCellAt (spCellAt K) := by
  have G : FO P w K mg base 1 (ca K "_law_mixed") pMixed spMixed := ok_mixed T
  refine T.d_law_cell_at.ok0 scCellAt (fun vs H Q E h => ?_) (fun cdv A outer s H vs Q E hr h => ?_)
  · obtain ⟨a, ns, k, rfl, _⟩ := h
    rfl
  · obtain ⟨a, ns, k, rfl, hS, h0, q⟩ := h
    refine ⟨_, pss_cons (ps_set (i := 2) scCellAt.nd rfl (.inl rfl) pe_int)
      (pss_cons (ps_if (pt_cmpR op_lt (pv 1) (pe_callB call_len_seq (by rfl) T.b_len PySem.boot_len (pa_cons (pv 0) pa_nil)) (nomark _)) (pss_one (ps_set (i := 2) scCellAt.nd rfl (.inl rfl) (pe_ix ix_list (pv 0) (pv 1) (fun _ _ => rfl)))) pss_nil)
      (pss_one (ps_ret (pe_call G hr rfl T.g_law_mixed T.d_law_mixed.kp (bd_law_mixed T) .nil pass0 (pa_cons (pv 2) (pa_cons (pe_op op_add pe_int (pv 1)) pa_nil)))))), ?_⟩
    refine ⟨_, rfl, _, rfl, a, _, rfl, .inl hS, _, _, rfl, rfl, _, rfl, ?_⟩
    refine ite2 (fun c => ?_) (fun c => ?_)
    · obtain ⟨v, hv⟩ := lt_of_atI h0 (of_decide_eq_true c)
      exact ⟨_, rfl, _, rfl, a, _, k, _, rfl, rfl, hS, hv, _, rfl, _, rfl, _, _, rfl, rfl, v, 300 + k, rfl, q⟩
    · exact ⟨_, rfl, _, rfl, _, _, rfl, rfl, 0, 300 + k, rfl, q⟩
theorem ok_next (T : Tx K mg) : FO P w K mg base 2 (ca K "_law_next") pNext spNext := by
  have G : FO P w K mg base 1 (ca K "_law_mixed") pMixed spMixed := ok_mixed T
  refine T.d_law_next.ok0 scNext (fun vs H Q E h => ?_) (fun cdv A outer s H vs Q E hr h => ?_)
  · obtain ⟨d, n, rfl, _⟩ := h
    rfl
  · obtain ⟨d, n, rfl, ⟨c, m, hd⟩, h0, q⟩ := h
    refine ⟨_, pss_cons (ps_augS (pv 0) pe_int pget_list pe_int ip_add set_list)
      (pss_one (ps_ret (pe_op op_modN (pe_op op_fdiv (pe_call G hr rfl T.g_law_mixed T.d_law_mixed.kp (bd_law_mixed T) .nil pass0 (pa_cons (pe_ix ix_list (pv 0) pe_int (fun _ _ => rfl)) (pa_cons (pe_ix ix_list (pv 0) pe_int (fun _ _ => rfl)) pa_nil))) pe_int) (pv 1)))), ?_⟩
    refine ⟨_, rfl, d, _, 1, .int m, rfl, rfl, by decide, SqL.of hd, rfl, _, _, rfl, rfl, d, _, 1, 1, rfl, rfl, hd, rfl, ?_⟩
    refine ⟨_, rfl, d, _, 0, .int c, rfl, rfl, SqL.of upd_same, atI_nat (j := 0) rfl, _, rfl, d, _, 1, .int (m + 1), rfl, rfl, SqL.of upd_same, atI_nat (j := 1) rfl, c, m + 1, rfl, fun r r0 r1 => ?_⟩
    refine ⟨_, _, rfl, rfl, ⟨by decide, by decide⟩, _, rfl, _, _, rfl, rfl, by omega, ?_⟩
    refine q _ _ ?_ ?_ (Ext.upd_in (List.mem_cons_self ..) _) ⟨c, m + 1, upd_same⟩ fun b hb => upd_ne hb
    · exact Int.fmod_nonneg_of_pos _ h0
    · exact Int.fmod_lt_of_pos _ h0
/-- the kept words -/
def spKept : Sp := fun vs H Q _ => vs = [] ∧ ∀ (p : Addr) (H' : Hp), H p = none → H' = upd H p (.lst (kept.map V.str)) → Q (.ref p) H'
theorem ok_kept (T : Tx K mg) : FO P w K mg base 1 (ca K "_law_kept") pKept spKept := by
  refine T.d_law_kept.ok0 scKept (fun vs H Q E h => ?_) (fun cdv A outer s H vs Q E hr h => ?_)
  · obtain ⟨rfl, _⟩ := h
    rfl
  · obtain ⟨rfl, q⟩ := h
    refine ⟨_, pss_one (ps_ret (pe_lst (pa_cons pe_str (pa_cons pe_str (pa_cons pe_str (pa_cons pe_str (pa_cons pe_str (pa_cons pe_str (pa_cons pe_str (pa_cons pe_str (pa_cons pe_str pa_nil))))))))))), ?_⟩
    exact ⟨(by show 9 ≤ sizeLine; decide), fun p hp => q p _ hp rfl⟩
end
end K17
end PartK17D1
section PartK17Text
set_option Elab.async false
set_option linter.all false
/-! A row's text: what it is, that unlike rows have unlike texts, its length. -/
namespace K17
open PySem PySem.Spec PyProof.Rows
/-- small letters alone -/
def Ltr (x : Str) : Prop := ∀ c ∈ x.cps.toList, 97 ≤ c ∧ c ≤ 122
/-- a word of a tree -/
def Wd (x : Str) : Prop := 1 ≤ x.length ∧ x.length ≤ 8 ∧ Ltr x
def WRow : Row → Prop
  | .nil => True
  | .cons w i r => Wd w ∧ WRow i ∧ WRow r
theorem app_cps (a y : Str) : (a ++ y).cps.toList = a.cps.toList ++ y.cps.toList := by
  show (a.cps ++ y.cps).toList = _
  simp
theorem len_app (a y : Str) : (a ++ y).length = a.length + y.length := by
  show (a.cps ++ y.cps).size = a.cps.size + y.cps.size
  simp
theorem len_cps (a : Str) : a.cps.toList.length = a.length := by simp [Str.length]
theorem ext_cps {a b : Str} (h : a.cps.toList = b.cps.toList) : a = b := by
  cases a
  cases b
  simp at h
  rw [h]
/-- the texts of a row's trees -/
def pcs : Row → List Str
  | .nil => []
  | .cons w i r => (if i = .nil then w else w ++ "(" ++ Str.join " " (pcs i) ++ ")") :: pcs r
def rowTx (r : Row) : Str := Str.join " " (pcs r)
/-- the same as codes -/
def cds : Row → List Nat
  | .nil => []
  | .cons w i r => w.cps.toList ++ ((if i = .nil then [] else 40 :: (cds i ++ [41])) ++ (if r = .nil then [] else 32 :: cds r))
theorem st_open : ("(" : Str).cps.toList = [40] := by decide +kernel
theorem st_close : (")" : Str).cps.toList = [41] := by decide +kernel
theorem st_blank : (" " : Str).cps.toList = [32] := by decide +kernel
theorem pcs_nil {r : Row} : pcs r = [] ↔ r = .nil := by
  cases r <;> simp [pcs]
theorem tx_cds : ∀ r : Row, (rowTx r).cps.toList = cds r
  | .nil => rfl
  | .cons w i r => by
    have i1 := tx_cds i
    have i2 := tx_cds r
    have hd : (if i = .nil then w else w ++ "(" ++ Str.join " " (pcs i) ++ ")").cps.toList = w.cps.toList ++ (if i = .nil then [] else 40 :: (cds i ++ [41])) := by
      by_cases h : i = .nil
      · simp [h]
      · simp only [h, if_false]
        rw [app_cps, app_cps, app_cps, st_open, st_close]
        show w.cps.toList ++ [40] ++ (rowTx i).cps.toList ++ [41] = _
        rw [i1]
        simp
    show (Str.join " " ((if i = .nil then w else w ++ "(" ++ Str.join " " (pcs i) ++ ")") :: pcs r)).cps.toList = _
    cases r with
    | nil =>
      show (if i = .nil then w else w ++ "(" ++ Str.join " " (pcs i) ++ ")").cps.toList = _
      rw [hd]
      simp [cds]
    | cons w2 j r2 =>
      have e : Str.join " " ((if i = .nil then w else w ++ "(" ++ Str.join " " (pcs i) ++ ")") :: pcs (.cons w2 j r2)) = (if i = .nil then w else w ++ "(" ++ Str.join " " (pcs i) ++ ")") ++ " " ++ rowTx (.cons w2 j r2) := rfl
      rw [e, app_cps, app_cps, hd, i2, st_blank]
      simp [cds]
/-- what may stand behind a row's text: nothing, or a sign ) -/
def Bhd (s : List Nat) : Prop := s = [] ∨ ∃ t, s = 41 :: t
/-- what stands behind a word begins with no letter -/
def Brk (s : List Nat) : Prop := s = [] ∨ ∃ c t, s = c :: t ∧ c < 97
theorem word_eq : ∀ {a b s t : List Nat}, (∀ c ∈ a, 97 ≤ c) → (∀ c ∈ b, 97 ≤ c) → Brk s → Brk t → a ++ s = b ++ t → a = b ∧ s = t
  | [], [], _, _, _, _, _, _, e => ⟨rfl, e⟩
  | [], b :: bs, s, t, _, hb, hs, _, e => by
    rcases hs with rfl | ⟨c, u, rfl, hc⟩
    · simp at e
    · have e1 : c = b := by
        have := congrArg List.head? e
        simpa using this
      have := hb b (List.mem_cons_self ..)
      omega
  | a :: as, [], s, t, ha, _, _, ht, e => by
    rcases ht with rfl | ⟨c, u, rfl, hc⟩
    · simp at e
    · have e1 : a = c := by
        have := congrArg List.head? e
        simpa using this
      have := ha a (List.mem_cons_self ..)
      omega
  | a :: as, b :: bs, s, t, ha, hb, hs, ht, e => by
    simp only [List.cons_append, List.cons.injEq] at e
    obtain ⟨h1, h2⟩ := word_eq (fun c hc => ha c (List.mem_cons_of_mem _ hc)) (fun c hc => hb c (List.mem_cons_of_mem _ hc)) hs ht e.2
    exact ⟨by rw [e.1, h1], h2⟩
def opn (i : Row) : List Nat := if i = .nil then [] else 40 :: (cds i ++ [41])
def rst (r : Row) : List Nat := if r = .nil then [] else 32 :: cds r
theorem cds_cons (w : Str) (i r : Row) : cds (.cons w i r) = w.cps.toList ++ (opn i ++ rst r) := rfl
theorem bhd_brk {s : List Nat} (h : Bhd s) : Brk s := by
  rcases h with rfl | ⟨t, rfl⟩
  · exact .inl rfl
  · exact .inr ⟨41, t, rfl, by decide⟩
theorem brk_rst {r : Row} {s : List Nat} (h : Bhd s) : Brk (rst r ++ s) := by
  unfold rst
  by_cases q : r = .nil
  · simp only [q, if_true, List.nil_append]
    exact bhd_brk h
  · simp only [q, if_false]
    exact .inr ⟨32, _, rfl, by decide⟩
theorem brk_all {i r : Row} {s : List Nat} (h : Bhd s) : Brk (opn i ++ (rst r ++ s)) := by
  unfold opn
  by_cases q : i = .nil
  · simp only [q, if_true, List.nil_append]
    exact brk_rst h
  · simp only [q, if_false]
    exact .inr ⟨40, _, rfl, by decide⟩
theorem cds_inj : ∀ {r1 r2 : Row} {s1 s2 : List Nat}, WRow r1 → WRow r2 → Bhd s1 → Bhd s2 → cds r1 ++ s1 = cds r2 ++ s2 → r1 = r2 ∧ s1 = s2 := by
  intro r1
  induction r1 with
  | nil =>
    intro r2 s1 s2 _ h2 b1 b2 e
    cases r2 with
    | nil => exact ⟨rfl, e⟩
    | cons w i r =>
      exfalso
      obtain ⟨⟨l1, _, l3⟩, _⟩ := h2
      rw [cds_cons] at e
      cases ew : w.cps.toList with
      | nil =>
        have := len_cps w
        rw [ew] at this
        simp at this
        omega
      | cons c cs =>
        rw [ew] at e
        have hc := (l3 c (by rw [ew]; exact List.mem_cons_self ..)).1
        rcases b1 with rfl | ⟨t, rfl⟩
        · simp [cds] at e
        · have := congrArg List.head? e
          simp [cds] at this
          omega
  | cons w1 i1 r1 ihi ihr =>
    intro r2 s1 s2 h1 h2 b1 b2 e
    cases r2 with
    | nil =>
      exfalso
      obtain ⟨⟨l1, _, l3⟩, _⟩ := h1
      rw [cds_cons] at e
      cases ew : w1.cps.toList with
      | nil =>
        have := len_cps w1
        rw [ew] at this
        simp at this
        omega
      | cons c cs =>
        rw [ew] at e
        have hc := (l3 c (by rw [ew]; exact List.mem_cons_self ..)).1
        rcases b2 with rfl | ⟨t, rfl⟩
        · simp [cds] at e
        · have := congrArg List.head? e
          simp [cds] at this
          omega
    | cons w2 i2 r2 =>
      obtain ⟨⟨_, _, l1⟩, hi1, hr1⟩ := h1
      obtain ⟨⟨_, _, l2⟩, hi2, hr2⟩ := h2
      rw [cds_cons, cds_cons, List.append_assoc, List.append_assoc, List.append_assoc, List.append_assoc] at e
      obtain ⟨ew, e2⟩ := word_eq (fun c hc => (l1 c hc).1) (fun c hc => (l2 c hc).1) (brk_all b1) (brk_all b2) e
      have ew := ext_cps ew
      -- the rows within
      have key : i1 = i2 ∧ rst r1 ++ s1 = rst r2 ++ s2 := by
        unfold opn at e2
        have lead : ∀ {r : Row} {s : List Nat} {u : List Nat}, Bhd s → rst r ++ s ≠ 40 :: u := by
          intro r s u hb z
          unfold rst at z
          by_cases q : r = .nil
          · simp only [q, if_true, List.nil_append] at z
            rcases hb with rfl | ⟨t, rfl⟩
            · cases z
            · cases z
          · simp only [q, if_false, List.cons_append] at z
            cases z
        by_cases q1 : i1 = .nil
        · by_cases q2 : i2 = .nil
          · simp only [q1, q2, if_true, List.nil_append] at e2
            exact ⟨by rw [q1, q2], e2⟩
          · simp only [q1, q2, if_true, if_false, List.nil_append] at e2
            exact absurd e2 (lead b1)
        · by_cases q2 : i2 = .nil
          · simp only [q1, q2, if_true, if_false, List.nil_append] at e2
            exact absurd e2.symm (lead b2)
          · simp only [q1, q2, if_false, List.cons_append, List.append_assoc, List.nil_append, List.cons.injEq, true_and] at e2
            obtain ⟨g1, g2⟩ := ihi hi1 hi2 (.inr ⟨_, rfl⟩) (.inr ⟨_, rfl⟩) e2
            injection g2 with _ g3
            exact ⟨g1, g3⟩
      obtain ⟨ei, e3⟩ := key
      unfold rst at e3
      have lead2 : ∀ {s : List Nat} {u : List Nat}, Bhd s → s ≠ 32 :: u := by
        rintro s u (rfl | ⟨t, rfl⟩) z
        · cases z
        · cases z
      by_cases q1 : r1 = .nil
      · by_cases q2 : r2 = .nil
        · simp only [q1, q2, if_true, List.nil_append] at e3
          exact ⟨by rw [ew, ei, q1, q2], e3⟩
        · simp only [q1, q2, if_true, if_false, List.nil_append] at e3
          exact absurd e3 (lead2 b1)
      · by_cases q2 : r2 = .nil
        · simp only [q1, q2, if_true, if_false, List.nil_append] at e3
          exact absurd e3.symm (lead2 b2)
        · simp only [q1, q2, if_false, List.cons_append, List.cons.injEq, true_and] at e3
          obtain ⟨g1, g2⟩ := ihr hr1 hr2 b1 b2 e3
          exact ⟨by rw [ew, ei, g1], g2⟩
theorem tx_inj {r1 r2 : Row} (h1 : WRow r1) (h2 : WRow r2) (e : rowTx r1 = rowTx r2) : r1 = r2 := by
  have q : cds r1 ++ [] = cds r2 ++ [] := by
    rw [List.append_nil, List.append_nil, ← tx_cds, ← tx_cds, e]
  exact (cds_inj h1 h2 (.inl rfl) (.inl rfl) q).1
theorem cds_len : ∀ {r : Row}, WRow r → (cds r).length ≤ 11 * r.size
  | .nil, _ => Nat.le_refl _
  | .cons w i r, ⟨⟨_, hw, _⟩, hi, hr⟩ => by
    have i1 := cds_len hi
    have i2 := cds_len hr
    rw [cds_cons, List.length_append, List.length_append, len_cps]
    have o : (opn i).length ≤ (cds i).length + 2 := by
      unfold opn
      split <;> simp
    have t : (rst r).length ≤ (cds r).length + 1 := by
      unfold rst
      split <;> simp
    show _ ≤ 11 * (i.size + r.size + 1)
    omega
theorem tx_len {r : Row} (h : WRow r) : (rowTx r).length ≤ 11 * r.size := by
  rw [← len_cps, tx_cds]
  exact cds_len h
theorem wrow_nth : ∀ {r : Row} {k : Nat} {p : Str × Row}, WRow r → r.nth k = some p → Wd p.1 ∧ WRow p.2
  | .cons w i r, 0, p, h, e => by
    cases e
    exact ⟨h.1, h.2.1⟩
  | .cons w i r, k + 1, p, h, e => wrow_nth (r := r) h.2.2 e
theorem wrow_take : ∀ (k : Nat) {r : Row}, WRow r → WRow (r.take k)
  | 0, _, _ => trivial
  | _ + 1, .nil, _ => trivial
  | k + 1, .cons w i r, h => ⟨h.1, h.2.1, wrow_take k h.2.2⟩
theorem wrow_drop : ∀ (k : Nat) {r : Row}, WRow r → WRow (r.drop k)
  | 0, _, h => h
  | _ + 1, .nil, _ => trivial
  | k + 1, .cons w i r, h => wrow_drop k h.2.2
theorem wrow_app : ∀ {r s : Row}, WRow r → WRow s → WRow (r.app s)
  | .nil, _, _, h => h
  | .cons w i r, _, h, q => ⟨h.1, h.2.1, wrow_app h.2.2 q⟩
end K17
end PartK17Text
section PartK17D2
set_option Elab.async false
set_option linter.all false
set_option maxRecDepth 100000
set_option maxHeartbeats 4000000
/-! is_name. -/
namespace K17
open PySem PySem.Spec PyProof.Rows L2 PySem.Builtin PySem.Builtin.Str
/-- a name -/
def Nm (x : Str) : Prop := 1 ≤ x.length ∧ x.length ≤ 8 ∧ Ltr x ∧ ¬ x ∈ kept
theorem letters_has (c : Nat) (h1 : 97 ≤ c) (h2 : c ≤ 122) : ("abcdefghijklmnopqrstuvwxyz" : Str).cps.contains c = true := by
  have e : ∀ k : Fin 26, ("abcdefghijklmnopqrstuvwxyz" : Str).cps.contains (97 + k.val) = true := by decide +kernel
  have q := e ⟨c - 97, by omega⟩
  rw [show 97 + (c - 97) = c by omega] at q
  exact q
theorem strip_ltr {x : Str} (h : Ltr x) : Txt.stripChars x "abcdefghijklmnopqrstuvwxyz" = "" := by
  have go : ∀ k, k < x.length → ("abcdefghijklmnopqrstuvwxyz" : Str).cps.contains (x.cps.getD k 0) = true := fun k hk => by
    have m : x.cps.getD k 0 ∈ x.cps.toList := by
      have hk' : k < x.cps.size := hk
      simp [Array.getD, hk']
    exact letters_has _ (h _ m).1 (h _ m).2
  unfold Txt.stripChars
  rw [stripBy_eq]
  obtain ⟨l1, l2, l3⟩ := lo_facts ("abcdefghijklmnopqrstuvwxyz" : Str).cps.contains x
  have e1 : stripLo ("abcdefghijklmnopqrstuvwxyz" : Str).cps.contains true x = x.length := by
    rcases l3 with z | z
    · exact z
    · by_cases q : stripLo ("abcdefghijklmnopqrstuvwxyz" : Str).cps.contains true x < x.length
      · rw [go _ q] at z
        cases z
      · omega
  rw [e1]
  obtain ⟨h1, h2, _⟩ := hi_facts ("abcdefghijklmnopqrstuvwxyz" : Str).cps.contains x x.length (Nat.le_refl _)
  have e2 : stripHi ("abcdefghijklmnopqrstuvwxyz" : Str).cps.contains true x x.length = x.length := by omega
  rw [e2]
  show (⟨x.cps.extract x.length x.length⟩ : Str) = ""
  have e3 : x.cps.extract x.length x.length = #[] := by
    simp
    exact Nat.min_le_left _ _
  rw [e3]
  decide +kernel
theorem inV_strs (x : Str) : ∀ l : List Str, inV (.str x) (l.map V.str) = decide (x ∈ l)
  | [] => by simp [inV]
  | y :: l => by
    have ih := inV_strs x l
    unfold inV at ih ⊢
    rw [List.map_cons, List.any_cons, ih]
    show (decide (y = x) || decide (x ∈ l)) = _
    by_cases h : y = x
    · simp [h]
    · have h' : ¬ x = y := fun z => h z.symm
      simp [h, h']
theorem flat_strs : ∀ l : List Str, (l.map V.str).all flatV = true
  | [] => rfl
  | y :: l => by
    rw [List.map_cons, List.all_cons, flat_strs l]
    rfl
def spName : Sp := fun vs H Q _ => ∃ x : Str, vs = [.str x] ∧ Nm x ∧ Q (.bl true) H
section
variable {P : Program} {w : World} {K : PySem.W.Frag} {mg : Str → Option Value} {base : Heap}
theorem ok_name (T : Tx K mg) : FO P w K mg base 1 (ca K "is_name") pIsName spName := by
  obtain ⟨t1, hML⟩ := T.i_MOST_LETTERS
  obtain ⟨t2, hLE⟩ := T.s_LETTERS
  refine T.d_is_name.ok0 scIsName (fun vs H Q E h => ?_) (fun cdv A outer s H vs Q E hr h => ?_)
  · obtain ⟨x, rfl, _⟩ := h
    rfl
  · obtain ⟨x, rfl, ⟨n1, n2, n3, n4⟩, q⟩ := h
    refine ⟨_, pss_cons (ps_if (PW.pt (pw_or (pt_not (pt_val (pe_callB call_isi (by rfl) T.b_isinstance (by decide +kernel) (pa_cons (pv 0) (pa_cons (pe_bltn (v := .ty "str") (by rfl) T.b_str (by decide +kernel) rfl) pa_nil)))))
      (pw_or1 (pt_not (pt_chain op_le op_le pe_int (pe_callB call_len_str (by rfl) T.b_len PySem.boot_len (pa_cons (pv 0) pa_nil)) (pe_glob (v := .int 8) (by rfl) hML ⟨_, rfl⟩)))))) (pss_one (ps_ret pe_bl)) pss_nil)
      (pss_one (ps_ret (pe_and (pe_cmpR op_eq (pe_bm PySem.F.plainAttrs_str PySem.F.slot_str_strip PySem.F.type_str_strip mt_stripChars (pv 0) (pa_cons (pe_glob (v := .str "abcdefghijklmnopqrstuvwxyz") (by rfl) hLE ⟨_, rfl⟩) pa_nil)) pe_str (nomark _))
        (pe_one (pe_cmpR op_notIn_seq (pv 0) (pe_glob (v := .ref (ca K "KEPT")) (by rfl) T.g_KEPT rfl) rfl))))), ?_⟩
    have hz : x.length ≤ sizeLine := Nat.le_of_lt (small1000 (by omega))
    refine ⟨_, rfl, .str x, .ty "str", _, _, true, rfl, .ty "str", .base (.str x), kit_ty (by decide +kernel), true, rfl, ?_⟩
    refine iteF ?_
    have d1 : decide ((1 : Int) ≤ (x.length : Int)) = true := decide_eq_true (by omega)
    have d2 : decide ((x.length : Int) ≤ (8 : Int)) = true := decide_eq_true (by omega)
    refine ⟨_, rfl, x, rfl, hz, _, _, rfl, rfl, _, rfl, ?_⟩
    rw [d1]
    refine iteT ⟨_, _, rfl, rfl, _, rfl, ?_⟩
    rw [d2]
    refine iteF ⟨_, rfl, rfl, x, _, rfl, rfl, hz, ?_⟩
    rw [strip_ltr n3]
    refine ⟨rfl, _, rfl, ?_⟩
    have d3 : decide (V.str ("" : Str) = V.str ("" : Str)) = true := decide_eq_true rfl
    rw [d3]
    refine iteT ⟨_, rfl, _, _, rfl, .inr (T.kept H), rfl, flat_strs _, ?_⟩
    have d4 : inV (.str x) (kept.map V.str) = false := by
      rw [inV_strs]
      exact decide_eq_false n4
    rw [d4]
    exact q
end
end K17
end PartK17D2
section PartK17Py
set_option Elab.async false
set_option linter.all false
set_option maxRecDepth 100000
/-! Rows and told shapes as plain data, for ==, !=, in. -/
namespace K17
open PySem PySem.Spec PyProof.Rows L2
theorem strOk_ltr {x : Str} (h : Ltr x) : PyData.strOk x = true := by
  unfold PyData.strOk
  rw [← Array.all_toList, List.all_eq_true]
  intro c hc
  have := h c hc
  simp
  omega
mutual
theorem data_eqv : ∀ a b : NestedKey, PyData.eqv a.data b.data = NestedKey.beq a b
  | .none, .none => by simp [NestedKey.data, PyData.eqv, NestedKey.beq]
  | .num i, .num j => by
    simp only [NestedKey.data, PyData.eqv, NestedKey.beq]
    by_cases h : i = j <;> simp [h]
  | .text x, .text y => by
    simp only [NestedKey.data, PyData.eqv, NestedKey.beq]
    by_cases h : x = y <;> simp [h]
  | .tup a, .tup b => by
    simp only [NestedKey.data, PyData.eqv, NestedKey.beq]
    exact datas_eqv a b
  | .none, .num _ => by simp [NestedKey.data, PyData.eqv, NestedKey.beq]
  | .none, .text _ => by simp [NestedKey.data, PyData.eqv, NestedKey.beq]
  | .none, .tup _ => by simp [NestedKey.data, PyData.eqv, NestedKey.beq]
  | .num _, .none => by simp [NestedKey.data, PyData.eqv, NestedKey.beq]
  | .num _, .text _ => by simp [NestedKey.data, PyData.eqv, NestedKey.beq]
  | .num _, .tup _ => by simp [NestedKey.data, PyData.eqv, NestedKey.beq]
  | .text _, .none => by simp [NestedKey.data, PyData.eqv, NestedKey.beq]
  | .text _, .num _ => by simp [NestedKey.data, PyData.eqv, NestedKey.beq]
  | .text _, .tup _ => by simp [NestedKey.data, PyData.eqv, NestedKey.beq]
  | .tup _, .none => by simp [NestedKey.data, PyData.eqv, NestedKey.beq]
  | .tup _, .num _ => by simp [NestedKey.data, PyData.eqv, NestedKey.beq]
  | .tup _, .text _ => by simp [NestedKey.data, PyData.eqv, NestedKey.beq]
theorem datas_eqv : ∀ a b : List NestedKey, PyData.eqvAll (NestedKey.datas a) (NestedKey.datas b) = NestedKey.beqAll a b
  | [], [] => by simp [NestedKey.datas, PyData.eqvAll, NestedKey.beqAll]
  | a :: as, b :: bs => by
    simp only [NestedKey.datas, PyData.eqvAll, NestedKey.beqAll]
    rw [data_eqv a b, datas_eqv as bs]
  | [], _ :: _ => by simp [NestedKey.datas, PyData.eqvAll, NestedKey.beqAll]
  | _ :: _, [] => by simp [NestedKey.datas, PyData.eqvAll, NestedKey.beqAll]
end
mutual
theorem data_depth : ∀ a : NestedKey, PyData.depth a.data = a.depth
  | .none => by simp [NestedKey.data, PyData.depth, NestedKey.depth]
  | .num i => by simp [NestedKey.data, PyData.depth, NestedKey.depth]
  | .text i => by simp [NestedKey.data, PyData.depth, NestedKey.depth]
  | .tup ks => by simp only [NestedKey.data, PyData.depth, NestedKey.depth, datas_depth ks]
theorem datas_depth : ∀ a : List NestedKey, PyData.depthAll (NestedKey.datas a) = NestedKey.depthAll a
  | [] => by simp [NestedKey.datas, PyData.depthAll, NestedKey.depthAll]
  | a :: as => by simp only [NestedKey.datas, PyData.depthAll, NestedKey.depthAll, data_depth a, datas_depth as]
end
theorem datas_app : ∀ a b : List NestedKey, NestedKey.datas (a ++ b) = NestedKey.datas a ++ NestedKey.datas b
  | [], b => by simp [NestedKey.datas]
  | a :: as, b => by simp [NestedKey.datas, datas_app as b]
theorem canLay_app : ∀ a b : List PyData, PyData.canLayAll0 (a ++ b) = (PyData.canLayAll0 a && PyData.canLayAll0 b)
  | [], b => by simp [PyData.canLayAll0]
  | a :: as, b => by simp [PyData.canLayAll0, canLay_app as b, Bool.and_assoc]
/-- a told shape as data -/
def pyT (s : Sh) : List PyData := NestedKey.datas (nk s)
def WT (s : Sh) : Prop := s.all fun w n => (∀ x, w = some x → Ltr x) ∧ Ltr n
theorem st_ok : PyData.strOk "nothing" = true ∧ PyData.strOk "tree" = true ∧ PyData.strOk "many" = true ∧ PyData.strOk "some" = true ∧ PyData.strOk "maybe" = true ∧ PyData.strOk "chain" = true ∧ PyData.strOk "either" = true := by decide +kernel
theorem pyT_lay : ∀ {s : Sh}, WT s → PyData.canLayAll0 (pyT s) = true
  | .nothing, _ => by simp [pyT, nk, NestedKey.datas, NestedKey.data, PyData.canLayAll0, PyData.canLay0, st_ok]
  | .tree w n, h => by
    have hn := strOk_ltr h.2
    cases w with
    | none => simp [pyT, nk, wk, NestedKey.datas, NestedKey.data, PyData.canLayAll0, PyData.canLay0, st_ok, hn]
    | some x =>
      have hx := strOk_ltr (h.1 x rfl)
      simp [pyT, nk, wk, NestedKey.datas, NestedKey.data, PyData.canLayAll0, PyData.canLay0, st_ok, hn, hx]
  | .many p, h => by
    have ih := pyT_lay (s := p) h
    unfold pyT at ih
    simp [pyT, nk, NestedKey.datas, NestedKey.data, PyData.canLayAll0, PyData.canLay0, st_ok, ih]
  | .some p, h => by
    have ih := pyT_lay (s := p) h
    unfold pyT at ih
    simp [pyT, nk, NestedKey.datas, NestedKey.data, PyData.canLayAll0, PyData.canLay0, st_ok, ih]
  | .maybe p, h => by
    have ih := pyT_lay (s := p) h
    unfold pyT at ih
    simp [pyT, nk, NestedKey.datas, NestedKey.data, PyData.canLayAll0, PyData.canLay0, st_ok, ih]
  | .chain p, h => by
    have ih := pyT_lay (s := p) h
    unfold pyT at ih
    simp [pyT, nk, NestedKey.datas, NestedKey.data, PyData.canLayAll0, PyData.canLay0, st_ok, ih]
  | .either p, h => by
    have ih := pyT_lay (s := p) h
    unfold pyT at ih
    simp [pyT, nk, NestedKey.datas, NestedKey.data, PyData.canLayAll0, PyData.canLay0, st_ok, ih]
  | .nil, _ => by simp [pyT, nk, NestedKey.datas, PyData.canLayAll0]
  | .cons p ps, h => by
    have i1 := pyT_lay (s := p) h.1
    have i2 := pyT_lay (s := ps) h.2
    unfold pyT at i1 i2
    simp [pyT, nk, datas_app, canLay_app, i1, i2]
theorem pyT_depth (s : Sh) : PyData.depthAll (pyT s) ≤ 2 * s.deep := by
  unfold pyT
  rw [datas_depth]
  exact nk_depth s
theorem dpAll_app {K : PySem.W.Frag} {H : Hp} : ∀ {vs ws : List V} {ds es : List PyData}, DpAll K H vs ds → DpAll K H ws es → DpAll K H (vs ++ ws) (ds ++ es)
  | [], _, _, _, a, b => by cases a; exact b
  | v :: vs, _, _, _, a, b => by
    cases a with
    | cons x y => exact .cons x (dpAll_app y b)
theorem dp_told {K : PySem.W.Frag} {H : Hp} : ∀ {s : Sh} {vs : List V}, TAt H s vs → DpAll K H vs (pyT s) := by
  intro s
  induction s with
  | nothing =>
    rintro vs ⟨a, rfl, e⟩
    exact .cons (.tup (SqT.of e) (.cons (.str _) .nil)) .nil
  | tree w n =>
    rintro vs ⟨a, rfl, e⟩
    refine .cons (.tup (SqT.of e) (.cons (.str _) (.cons ?_ (.cons (.str _) .nil)))) .nil
    cases w with
    | none => exact .non
    | some x => exact .str x
  | many p ih =>
    rintro vs ⟨a, b, rfl, e, q⟩
    exact .cons (.tup (SqT.of e) (.cons (.str _) (ih q))) .nil
  | some p ih =>
    rintro vs ⟨a, b, rfl, e, q⟩
    exact .cons (.tup (SqT.of e) (.cons (.str _) (ih q))) .nil
  | maybe p ih =>
    rintro vs ⟨a, b, rfl, e, q⟩
    exact .cons (.tup (SqT.of e) (.cons (.str _) (ih q))) .nil
  | chain ps ih =>
    rintro vs ⟨a, t, us, rfl, e, e2, q⟩
    exact .cons (.tup (SqT.of e) (.cons (.str _) (.cons (.tup (SqT.of e2) (ih q)) .nil))) .nil
  | either ps ih =>
    rintro vs ⟨a, t, us, rfl, e, e2, q⟩
    exact .cons (.tup (SqT.of e) (.cons (.str _) (.cons (.tup (SqT.of e2) (ih q)) .nil))) .nil
  | nil =>
    rintro vs e
    rw [show vs = [] from e]
    exact .nil
  | cons p ps ih1 ih2 =>
    rintro vs ⟨b, us, rfl, q1, q2⟩
    have z := dpAll_app (ih1 q1) (ih2 q2)
    unfold pyT at z ⊢
    show DpAll K H _ (NestedKey.datas (nk p ++ nk ps))
    rw [datas_app]
    exact z
/-- a row as data -/
def pyR : Row → List PyData
  | .nil => []
  | .cons w i r => .tuple [.str w, .tuple (pyR i)] :: pyR r
theorem dp_row {K : PySem.W.Frag} {H : Hp} : ∀ {r : Row} {vs : List V}, RAt H r vs → DpAll K H vs (pyR r)
  | .nil, _, e => by
    rw [show _ = [] from e]
    exact .nil
  | .cons w i r, _, ⟨t, b, us, vs', e, h1, h2, h3, h4⟩ => by
    rw [e]
    exact .cons (.tup (SqT.of h1) (.cons (.str _) (.cons (.tup (SqT.of h2) (dp_row h3)) .nil))) (dp_row h4)
theorem pyR_lay : ∀ {r : Row}, WRow r → PyData.canLayAll0 (pyR r) = true
  | .nil, _ => by simp [pyR, PyData.canLayAll0]
  | .cons w i r, h => by
    have hw := strOk_ltr h.1.2.2
    have i1 := pyR_lay (r := i) h.2.1
    have i2 := pyR_lay (r := r) h.2.2
    simp [pyR, PyData.canLayAll0, PyData.canLay0, hw, i1, i2]
theorem pyR_depth : ∀ r : Row, PyData.depthAll (pyR r) ≤ 2 * r.depth
  | .nil => by simp [pyR, PyData.depthAll]
  | .cons w i r => by
    have i1 := pyR_depth i
    have i2 := pyR_depth r
    simp only [pyR, PyData.depthAll, PyData.depth, Row.depth]
    omega
theorem shaped_row {r : Row} (h : WRow r) (d : r.depth ≤ 20) : SeqAt.shaped (.tuple (pyR r)) = true := by
  have z := pyR_depth r
  show (PyData.canLay0 _ && decide (PyData.depth _ ≤ 64)) = true
  rw [Bool.and_eq_true]
  refine ⟨by simp only [PyData.canLay0]; exact pyR_lay h, decide_eq_true ?_⟩
  simp only [PyData.depth]
  omega
theorem shaped_unit : SeqAt.shaped (.tuple []) = true := by decide +kernel
theorem row_unit (r : Row) : PyData.eqv (.tuple (pyR r)) (.tuple []) = decide (r = .nil) := by
  cases r <;> simp [pyR, PyData.eqv, PyData.eqvAll]
theorem dp_rowAt {K : PySem.W.Frag} {H : Hp} {r : Row} {a : Addr} (h : RowAt H r a) : Dp K H (.ref a) (.tuple (pyR r)) := let ⟨us, h1, h2⟩ := h; .tup (SqT.of h1) (dp_row h2)
theorem shaped_told {s : Sh} (h : WT s) (d : s.deep ≤ 20) {x : PyData} (hx : x ∈ pyT s) : SeqAt.shaped x = true := by
  have z := pyT_depth s
  have l := pyT_lay h
  have go : ∀ {ds : List PyData}, x ∈ ds → PyData.canLayAll0 ds = true → x.canLay0 = true ∧ x.depth ≤ PyData.depthAll ds := by
    intro ds
    induction ds with
    | nil => intro h; cases h
    | cons y ds ih =>
      intro hm hl
      simp only [PyData.canLayAll0, Bool.and_eq_true] at hl
      simp only [PyData.depthAll]
      rcases List.mem_cons.mp hm with rfl | hm
      · exact ⟨hl.1, by omega⟩
      · obtain ⟨a, b⟩ := ih hm hl.2
        exact ⟨a, by omega⟩
  obtain ⟨a, b⟩ := go hx l
  show (PyData.canLay0 _ && decide (PyData.depth _ ≤ 64)) = true
  rw [Bool.and_eq_true]
  exact ⟨a, decide_eq_true (by omega)⟩
end K17
end PartK17Py
section PartK17D3
set_option Elab.async false
set_option linter.all false
set_option maxRecDepth 100000
set_option maxHeartbeats 4000000
/-! row_text, rows_within. -/
namespace K17
open PySem PySem.Spec PyProof.Rows L2
def pc1 (p : Str × Row) : Str := if p.2 = .nil then p.1 else p.1 ++ "(" ++ rowTx p.2 ++ ")"
theorem pcs_nth : ∀ {r : Row} {k : Nat} {p : Str × Row}, r.nth k = some p → (pcs r)[k]? = some (pc1 p)
  | .cons w i r, 0, p, h => by
    cases h
    rfl
  | .cons w i r, k + 1, p, h => by
    have q := pcs_nth (r := r) h
    simpa [pcs] using q
theorem pcs_len : ∀ r : Row, (pcs r).length = r.len
  | .nil => rfl
  | .cons w i r => congrArg (· + 1) (pcs_len r)
theorem pcs_sum : ∀ {r : Row}, WRow r → ((pcs r).map (·.length)).sum ≤ 11 * r.size
  | .nil, _ => Nat.le_refl _
  | .cons w i r, ⟨⟨h1, h2, h3⟩, hi, hr⟩ => by
    have i2 := pcs_sum hr
    have i1 := tx_len hi
    have e : (pcs (.cons w i r)).map (·.length) = (pc1 (w, i)).length :: (pcs r).map (·.length) := rfl
    rw [e, List.sum_cons]
    have l : (pc1 (w, i)).length ≤ w.length + 2 + 11 * i.size := by
      unfold pc1
      split
      · show w.length ≤ _
        omega
      · show (w ++ "(" ++ rowTx i ++ ")").length ≤ _
        rw [len_app, len_app, len_app]
        have q1 : ("(" : Str).length = 1 := by decide +kernel
        have q2 : (")" : Str).length = 1 := by decide +kernel
        omega
    show _ ≤ 11 * (i.size + r.size + 1)
    omega
theorem size_nth : ∀ {r : Row} {k : Nat} {p : Str × Row}, r.nth k = some p → p.2.size + 1 ≤ r.size
  | .cons w i r, 0, p, h => by
    cases h
    show i.size + 1 ≤ i.size + r.size + 1
    omega
  | .cons w i r, k + 1, p, h => by
    have q := size_nth (r := r) h
    show _ ≤ i.size + r.size + 1
    omega
theorem len_size : ∀ r : Row, r.len ≤ r.size
  | .nil => Nat.le_refl _
  | .cons w i r => by
    have q := len_size r
    show r.len + 1 ≤ i.size + r.size + 1
    omega
/-- rows as the law makes them: words, at most a thousand trees, at most n deep -/
def Rok (n : Nat) (r : Row) : Prop := WRow r ∧ r.size ≤ 1000 ∧ r.depth ≤ n
theorem Rok.nth {n : Nat} {r : Row} {k : Nat} {p : Str × Row} (h : Rok (n + 1) r) (e : r.nth k = some p) : Rok n p.2 := by
  have h1 := size_nth e
  have h2 := nth_depth e
  obtain ⟨a, b, c⟩ := h
  exact ⟨(wrow_nth a e).2, by omega, by omega⟩
theorem Rok.mono {n m : Nat} {r : Row} (h : Rok n r) (l : n ≤ m) : Rok m r := ⟨h.1, h.2.1, Nat.le_trans h.2.2 l⟩
def spText (n : Nat) : Sp := fun vs H Q _ => ∃ (a : Addr) (r : Row), vs = [.ref a] ∧ RowAt H r a ∧ WRow r ∧ r.size ≤ 1000 ∧ r.depth < n ∧ n ≤ 10 ∧ ∀ H', Same H H' → Q (.str (rowTx r)) H'
section
variable {P : Program} {w : World} {K : PySem.W.Frag} {mg : Str → Option Value} {base : Heap}
theorem fo_zero {a : Addr} {ps : List Str} {sp : Sp} (no : ∀ vs H Q E, ¬ sp vs H Q E) : FO P w K mg base 0 a ps sp :=
  ⟨fun vs H Q E h => absurd h (no vs H Q E), fun A outer s H args us vs Q E _ _ _ _ h => absurd h (no vs H Q E)⟩
theorem text_step (T : Tx K mg) {n : Nat} (G : FO P w K mg base n (ca K "row_text") pRowText (spText n)) : FO P w K mg base (n + 1) (ca K "row_text") pRowText (spText (n + 1)) := by
  refine T.d_row_text.ok0 scRowText (fun vs H Q E h => ?_) (fun cdv A outer s H vs Q E hr h => ?_)
  · obtain ⟨a, r, rfl, _⟩ := h
    rfl
  · obtain ⟨a, r, rfl, ⟨us, ha, hR⟩, hW, hz, hd, hn, q⟩ := h
    have hu := hr.units
    refine ⟨_, pss_cons (ps_set (i := 1) scRowText.nd rfl (.inl rfl) (pe_lst pa_nil))
      (pss_cons (ps_for PassesOwn.never rfl (pi_tup (pv 0)) (pg_tup rfl (pgs_cons (pg_name (i := 2) scRowText.nd rfl (.inl rfl)) (pgs_cons (pg_name (i := 3) scRowText.nd rfl (.inl rfl)) pgs_nil)))
        (pss_one (ps_expr (pe_bm PySem.F.plainAttrs_list PySem.F.slot_list_append PySem.F.type_list_append mt_append (pv 1) (pa_cons (pe_ifExp (pt_cmpR (op_neD hu) (pv 3) (pe_tup pa_nil) (nomark _))
          (pe_op op_add_str (pe_op op_add_str (pe_op op_add_str (pv 2) pe_str) (pe_call G hr rfl T.g_row_text T.d_row_text.kp (bd_row_text T) .nil pass0 (pa_cons (pv 3) pa_nil))) pe_str) (pv 2)) pa_nil)))))
      (pss_one (ps_ret (pe_join pe_str (pv 1))))), ?_⟩
    refine ⟨Nat.zero_le _, fun l hl => ?_⟩
    have s0 : Same H (upd H l (.lst [])) := same_new hl _
    refine ⟨_, rfl, a, rfl, ⟨_, SqT.of (s0 _ _ ha)⟩, for_tup (K := K) (a := a) (xs := us) (fun k σ H' => ∃ v2 v3, σ = [some (.ref a), some (.ref l), v2, v3] ∧ Same H H' ∧ H' l = some (.lst (((pcs r).take k).map V.str)))
      ⟨none, none, rfl, s0, upd_same⟩ (fun k σ H' _ ⟨_, _, _, S, _⟩ => SqT.of (S _ _ ha)) ?_ ?_⟩
    · rintro k x σ H' hk ⟨v2, v3, rfl, S, hL⟩
      have hk' : k < r.len := by
        rw [← hR.len]
        exact (List.getElem?_eq_some_iff.mp hk).1
      obtain ⟨p, hp⟩ := nth_some hk'
      obtain ⟨t, b, e1, e2, e3⟩ := RAt.nth hR hp
      rw [hk] at e1
      cases e1
      obtain ⟨⟨w1, w2, w3⟩, wi⟩ := wrow_nth hW hp
      have zi := size_nth hp
      have di := nth_depth hp
      have e3' := e3.imm (Same.imm S)
      refine ⟨t, _, rfl, SqT.of (S _ _ e2), rfl, _, _, rfl, _, _, rfl, rfl, ?_⟩
      refine ⟨_, rfl, .inl ⟨rfl, _, SqL.of hL⟩, ?_⟩
      refine ⟨_, rfl, Nat.zero_le _, fun un hun => ?_⟩
      have S1 : Same H' (upd H' un (.tup [])) := same_new hun _
      refine ⟨_, _, dp_rowAt (e3'.imm (Same.imm S1)), .tup (SqT.of upd_same) .nil, shaped_row wi (by omega), shaped_unit, _, rfl, ?_⟩
      have fin : ∀ (z : Str) (H2 : Hp), z = pc1 p → Same H' H2 → ∃ l' xs y, (V.ref l) = .ref l' ∧ [V.str z] = [y] ∧ H2 l' = some (.lst xs) ∧ xs.length < sizeLine ∧ (fun σ2 H3 => ∃ v2 v3, σ2 = [some (V.ref a), some (.ref l), v2, v3] ∧ Same H H3 ∧ H3 l = some (.lst (((pcs r).take (k + 1)).map V.str))) [some (V.ref a), some (.ref l), some (.str p.1), some (.ref b)] (upd H2 l' (.lst (xs ++ [y]))) := by
        rintro z H2 rfl S2
        refine ⟨l, _, _, rfl, rfl, S2 _ _ hL, ?_, _, _, rfl, ?_, ?_⟩
        · rw [List.length_map, List.length_take]
          have q1 := pcs_len r
          have q2 := len_size r
          exact small1000 (by omega)
        · intro c o ho
          have nl : c ≠ l := ne_of_none ho hl
          rw [upd_ne nl]
          exact S2 _ _ (S _ _ ho)
        · rw [upd_same]
          have e4 := pcs_nth hp
          rw [List.take_add_one, e4]
          simp
      rw [row_unit]
      by_cases c : p.2 = .nil
      · rw [decide_eq_true c]
        refine iteF ⟨_, rfl, ?_⟩
        exact fin _ _ (by unfold pc1; rw [if_pos c]) S1
      · rw [decide_eq_false c]
        refine iteT ⟨_, rfl, _, _, rfl, rfl, ?_, _, rfl, b, p.2, rfl, e3'.imm (Same.imm S1), wi, by omega, by omega, by omega, fun H2 S2 => ?_⟩
        · have q1 : ("(" : Str).length = 1 := by decide +kernel
          exact Nat.le_of_lt (small1000 (by omega))
        have q1 : ("(" : Str).length = 1 := by decide +kernel
        have q2 : (")" : Str).length = 1 := by decide +kernel
        have q3 := tx_len wi
        have q4 : (20000 : Nat) < sizeLine := by decide
        refine ⟨_, _, rfl, rfl, by rw [len_app]; omega, _, _, rfl, rfl, by rw [len_app, len_app]; omega, ?_⟩
        exact fin _ _ (by unfold pc1; rw [if_neg c]) (S1.trans S2)
    · rintro σ H' ⟨v2, v3, rfl, S, hL⟩
      refine ⟨⟨_, rfl⟩, _, rfl, _, l, pcs r, rfl, rfl, .inl (SqL.of ?_), ?_, ?_⟩
      · rw [hL]
        have e : us.length = (pcs r).length := by rw [hR.len, pcs_len]
        rw [e, List.take_length]
      · have q1 := pcs_sum hW
        have q2 := pcs_len r
        have q3 := len_size r
        have q4 : (" " : Str).length = 1 := by decide +kernel
        rw [q4]
        omega
      · have e : Txt.join " " (pcs r) = rowTx r := PySem.StrLaws.glued_eq_join _ _
        show Q (.str (Txt.join " " (pcs r))) H'
        rw [e]
        exact q _ S
theorem ok_text (T : Tx K mg) : ∀ n : Nat, FO P w K mg base n (ca K "row_text") pRowText (spText n)
  | 0 => fo_zero fun vs H Q E ⟨_, _, _, _, _, _, h, _⟩ => absurd h (Nat.not_lt_zero _)
  | n + 1 => text_step T (ok_text T n)
end
end K17
end PartK17D3
section PartK17D4
set_option Elab.async false
set_option linter.all false
set_option maxRecDepth 100000
set_option maxHeartbeats 4000000
/-! rows_within. -/
namespace K17
open PySem PySem.Spec PyProof.Rows L2
/-- the rows right in a row -/
def Row.inners : Row → List Row
  | .nil => []
  | .cons _ i r => i :: r.inners
/-- all rows within a row -/
def Row.subs : Row → List Row
  | .nil => []
  | .cons _ i r => i :: (i.subs ++ r.subs)
theorem subs_len : ∀ r : Row, r.subs.length = r.size
  | .nil => rfl
  | .cons w i r => by
    have i1 := subs_len i
    have i2 := subs_len r
    show (i.subs ++ r.subs).length + 1 = i.size + r.size + 1
    rw [List.length_append]
    omega
theorem subs_trans : ∀ {r s t : Row}, s ∈ r.subs → t ∈ s.subs → t ∈ r.subs
  | .cons w i r, s, t, h, q => by
    rcases List.mem_cons.mp h with rfl | h
    · exact List.mem_cons_of_mem _ (List.mem_append_left _ q)
    · rcases List.mem_append.mp h with h | h
      · exact List.mem_cons_of_mem _ (List.mem_append_left _ (subs_trans h q))
      · exact List.mem_cons_of_mem _ (List.mem_append_right _ (subs_trans h q))
theorem inners_subs : ∀ {r s : Row}, s ∈ r.inners → s ∈ r.subs
  | .cons w i r, s, h => by
    rcases List.mem_cons.mp h with rfl | h
    · exact List.mem_cons_self ..
    · exact List.mem_cons_of_mem _ (List.mem_append_right _ (inners_subs h))
theorem nth_inners : ∀ {r : Row} {k : Nat} {p : Str × Row}, r.nth k = some p → r.inners[k]? = some p.2
  | .cons w i r, 0, p, h => by
    cases h
    rfl
  | .cons w i r, k + 1, p, h => by
    have q := nth_inners (r := r) h
    simpa [Row.inners] using q
theorem inners_len : ∀ r : Row, r.inners.length = r.len
  | .nil => rfl
  | .cons w i r => congrArg (· + 1) (inners_len r)
/-- a row, or one within it -/
def Win (r0 r : Row) : Prop := r = r0 ∨ r ∈ r0.subs
theorem Win.inner {r0 r s : Row} (h : Win r0 r) (q : s ∈ r.inners) : Win r0 s := by
  rcases h with rfl | h
  · exact .inr (inners_subs q)
  · exact .inr (subs_trans h (inners_subs q))
def cost (rs : List Row) : Nat := (rs.map fun r => r.size + 1).sum
theorem cost_app (a b : List Row) : cost (a ++ b) = cost a + cost b := by
  unfold cost
  rw [List.map_append, List.sum_append]
theorem cost_len : ∀ rs : List Row, rs.length ≤ cost rs
  | [] => Nat.le_refl _
  | r :: rs => by
    have q := cost_len rs
    show rs.length + 1 ≤ (r.size + 1) + cost rs
    omega
theorem cost_inners : ∀ r : Row, cost r.inners = r.size
  | .nil => rfl
  | .cons w i r => by
    have q := cost_inners r
    show (i.size + 1) + cost r.inners = i.size + r.size + 1
    omega
theorem subs_rok : ∀ {r s : Row}, WRow r → s ∈ r.subs → WRow s ∧ s.size ≤ r.size ∧ s.depth ≤ r.depth
  | .cons w i r, s, h, q => by
    rcases List.mem_cons.mp q with rfl | q
    · refine ⟨h.2.1, ?_, ?_⟩
      · show s.size ≤ s.size + r.size + 1
        omega
      · show s.depth ≤ max (s.depth + 1) r.depth
        omega
    · rcases List.mem_append.mp q with q | q
      · obtain ⟨a, b, c⟩ := subs_rok h.2.1 q
        refine ⟨a, ?_, ?_⟩
        · show s.size ≤ i.size + r.size + 1
          omega
        · show s.depth ≤ max (i.depth + 1) r.depth
          omega
      · obtain ⟨a, b, c⟩ := subs_rok h.2.2 q
        refine ⟨a, ?_, ?_⟩
        · show s.size ≤ i.size + r.size + 1
          omega
        · show s.depth ≤ max (i.depth + 1) r.depth
          omega
theorem Win.rok {r0 r : Row} {n : Nat} (h : Win r0 r) (q : Rok n r0) : Rok n r := by
  rcases h with rfl | h
  · exact q
  · obtain ⟨a, b, c⟩ := subs_rok q.1 h
    exact ⟨a, Nat.le_trans b q.2.1, Nat.le_trans c q.2.2⟩
/-- rows as values -/
def RowsAt (H : Hp) : List V → List Row → Prop := Paired fun v r => ∃ a, v = .ref a ∧ RowAt H r a
theorem RowsAt.imm {H H' : Hp} (m : Imm H H') : ∀ {vs : List V} {rs : List Row}, RowsAt H vs rs → RowsAt H' vs rs
  | _, _, .nil => .nil
  | _, _, .cons ⟨a, e, h⟩ t => .cons ⟨a, e, h.imm m⟩ (RowsAt.imm m t)
theorem RowsAt.app {H : Hp} : ∀ {vs ws : List V} {rs ss : List Row}, RowsAt H vs rs → RowsAt H ws ss → RowsAt H (vs ++ ws) (rs ++ ss)
  | _, _, _, _, .nil, h => h
  | _, _, _, _, .cons r t, h => .cons r (RowsAt.app t h)
theorem RowsAt.len {H : Hp} {vs : List V} {rs : List Row} (h : RowsAt H vs rs) : vs.length = rs.length := Paired.length h
theorem RowsAt.dp {K : PySem.W.Frag} {H : Hp} : ∀ {vs : List V} {rs : List Row}, RowsAt H vs rs → DpAll K H vs (rs.map fun r => .tuple (pyR r))
  | _, _, .nil => .nil
  | _, _, .cons ⟨a, e, h⟩ t => by
    subst e
    exact .cons (dp_rowAt h) (RowsAt.dp t)
theorem rows_lay : ∀ {rs : List Row}, (∀ r ∈ rs, WRow r) → PyData.canLayAll0 (rs.map fun r => .tuple (pyR r)) = true
  | [], _ => by simp [PyData.canLayAll0]
  | r :: rs, h => by
    have i1 := pyR_lay (h r (List.mem_cons_self ..))
    have i2 := rows_lay (rs := rs) fun s hs => h s (List.mem_cons_of_mem _ hs)
    simp [PyData.canLayAll0, PyData.canLay0, i1, i2]
theorem rows_depth {n : Nat} : ∀ {rs : List Row}, (∀ r ∈ rs, r.depth ≤ n) → PyData.depthAll (rs.map fun r => .tuple (pyR r)) ≤ 2 * n + 1
  | [], _ => by simp [PyData.depthAll]
  | r :: rs, h => by
    have i1 := pyR_depth r
    have i0 := h r (List.mem_cons_self ..)
    have i2 := rows_depth (n := n) (rs := rs) fun s hs => h s (List.mem_cons_of_mem _ hs)
    simp only [List.map_cons, PyData.depthAll, PyData.depth]
    omega
theorem shaped_rows {n : Nat} {rs : List Row} (h : ∀ r ∈ rs, Rok n r) (hn : n ≤ 20) : SeqAt.shaped (.list (rs.map fun r => .tuple (pyR r))) = true := by
  have z := rows_depth (n := n) fun r hr => (h r hr).2.2
  show (PyData.canLay0 _ && decide (PyData.depth _ ≤ 64)) = true
  rw [Bool.and_eq_true]
  refine ⟨by simp only [PyData.canLay0]; exact rows_lay fun r hr => (h r hr).1, decide_eq_true ?_⟩
  simp only [PyData.depth]
  omega
theorem shaped_listN : SeqAt.shaped (.list []) = true := by decide +kernel
theorem rows_unit (rs : List Row) : PyData.eqv (.list (rs.map fun r => .tuple (pyR r))) (.list []) = decide (rs = []) := by
  cases rs <;> simp [PyData.eqv, PyData.eqvAll]
theorem paired_last {α β : Type} {F : α → β → Prop} : ∀ {xs : List α} {ys : List β}, Paired F xs ys → xs ≠ [] → ∃ x y, xs[xs.length - 1]? = some x ∧ ys = ys.dropLast ++ [y] ∧ F x y ∧ Paired F xs.dropLast ys.dropLast
  | _, _, .nil, h => absurd rfl h
  | [x], [y], .cons r .nil, _ => ⟨x, y, rfl, rfl, r, .nil⟩
  | x :: x2 :: xs, y :: y2 :: ys, .cons r (.cons r2 t), _ => by
    obtain ⟨a, b, h1, h2, h3, h4⟩ := paired_last (Paired.cons r2 t) (by simp)
    refine ⟨a, b, ?_, ?_, h3, .cons r h4⟩
    · simpa using h1
    · rw [List.dropLast_cons₂, List.cons_append, ← h2]
def spWithin : Sp := fun vs H Q _ => ∃ (a : Addr) (r : Row), vs = [.ref a] ∧ RowAt H r a ∧ Rok 10 r ∧ ∀ (p : Addr) (H' : Hp) (xs : List V) (rs : List Row), Same H H' → H p = none → H' p = some (.lst xs) → RowsAt H' xs rs → (∀ s ∈ rs, Win r s) → xs.length ≤ 1001 → Q (.ref p) H'
section
variable {P : Program} {w : World} {K : PySem.W.Frag} {mg : Str → Option Value} {base : Heap}
theorem ok_within (T : Tx K mg) : FO P w K mg base 1 (ca K "rows_within") pRowsWithin spWithin := by
  refine T.d_rows_within.ok0 scRowsWithin (fun vs H Q E h => ?_) (fun cdv A outer s H vs Q E hr h => ?_)
  · obtain ⟨a, r, rfl, _⟩ := h
    rfl
  · obtain ⟨a, r, rfl, ha, hK, q⟩ := h
    have hu := hr.units
    have nd := scRowsWithin.nd
    refine ⟨_, pss_cons (ps_set (i := 1) nd rfl (.inl rfl) (pe_lst pa_nil))
      (pss_cons (ps_set (i := 2) nd rfl (.inl rfl) (pe_lst (pa_cons (pv 0) pa_nil)))
      (pss_cons (ps_while PassesOwn.never (pt_cmpR (op_neD hu) (pv 2) (pe_lst pa_nil) (nomark _))
        (pss_cons (ps_set (i := 3) nd rfl (.inl rfl) (pe_bm0 PySem.F.plainAttrs_list PySem.F.slot_list_pop PySem.F.type_list_pop mt_pop (pv 2)))
        (pss_cons (ps_expr (pe_bm PySem.F.plainAttrs_list PySem.F.slot_list_append PySem.F.type_list_append mt_append (pv 1) (pa_cons (pv 3) pa_nil)))
        (pss_one (ps_expr (pe_bm PySem.F.plainAttrs_list PySem.F.slot_list_extend PySem.F.type_list_extend mt_extend (pv 2) (pa_cons
          (pe_lc (own := [("word", 4), ("inner", 5)]) (g := gTup K 2 (gCons (gName 4) (gCons (gName 5) gNil))) (tt := tYes) (te := tVar 5) rfl nd (pi_tup (pv 3)) (blkOk_by (N := nRowsWithin) (sc := defScope sRowsWithin) (by decide +kernel)) (fun _ _ _ _ _ => pg_tup (n := 2) rfl (pgs_cons (pg_name (i := 4) nd rfl (.inl rfl) (.inr rfl)) (pgs_cons (pg_name (i := 5) nd rfl (.inl rfl) (.inr rfl)) pgs_nil))) (fun _ _ _ _ _ => pts_nil) (fun _ _ _ _ _ => pv 5)) pa_nil)))))))
      (pss_one (ps_ret (pe_revL (pv 1)))))), ?_⟩
    refine ⟨Nat.zero_le _, fun f hf => ?_⟩
    have S1 : Same H (upd H f (.lst [])) := same_new hf _
    refine ⟨_, rfl, (by show 1 ≤ sizeLine; decide), fun g hg => ?_⟩
    have S2 : Same (upd H f (.lst [])) (upd (upd H f (.lst [])) g (.lst [.ref a])) := same_new hg _
    have nfg : f ≠ g := fun z => by
      rw [← z, upd_same] at hg
      cases hg
    have hg0 : H g = none := S1.free hg
    refine ⟨fun m σ H' => ∃ (v3 : Option V) (ws fs : List V) (rs ss : List Row), σ = [some (.ref a), some (.ref f), some (.ref g), v3, none, none] ∧ Same H H' ∧ H' f = some (.lst fs) ∧ H' g = some (.lst ws) ∧ RowsAt H' ws rs ∧ RowsAt H' fs ss ∧
      (∀ s ∈ rs, Win r s) ∧ (∀ s ∈ ss, Win r s) ∧ m = cost rs ∧ fs.length + m ≤ 1001, ⟨_, none, [.ref a], [], [r], [], rfl, S1.trans S2, ?_, upd_same, .cons ⟨a, rfl, ha.imm (Same.imm (S1.trans S2))⟩ .nil, .nil, fun s hs => ?_, fun s hs => (by cases hs), rfl, ?_⟩, ?_⟩
    · rw [upd_ne nfg, upd_same]
    · rw [List.mem_singleton.mp hs]
      exact .inl rfl
    · have z := hK.2.1
      show 0 + ((r.size + 1) + 0) ≤ 1001
      omega
    rintro m σ H' ⟨v3, ws, fs, rs, ss, rfl, S, hF, hG, hW, hX, w1, w2, rfl, hlen⟩
    have ok1 : ∀ s ∈ rs, Rok 10 s := fun s hs => (w1 s hs).rok hK
    refine ⟨_, rfl, Nat.zero_le _, fun un hun => ?_⟩
    have S3 : Same H' (upd H' un (.lst [])) := same_new hun _
    refine ⟨_, _, .lst (SqL.of (S3 _ _ hG)) (RowsAt.dp (hW.imm (Same.imm S3))), .lst (SqL.of upd_same) .nil, shaped_rows ok1 (by decide), shaped_listN, _, rfl, ?_⟩
    rw [rows_unit]
    by_cases c : rs = []
    · rw [decide_eq_true c]
      refine iteF ?_
      refine ⟨_, rfl, f, fs, rfl, SqL.of (S3 _ _ hF), fun p hp => ?_⟩
      have S4 : Same (upd H' un (.lst [])) (upd (upd H' un (.lst [])) p (.lst fs.reverse)) := same_new hp _
      have rev : ∀ {vs : List V} {ts : List Row} {H2 : Hp}, RowsAt H2 vs ts → RowsAt H2 vs.reverse ts.reverse := by
        intro vs ts H2 h
        induction h with
        | nil => exact .nil
        | cons r t ih =>
          rw [List.reverse_cons, List.reverse_cons]
          exact RowsAt.app ih (.cons r .nil)
      refine q p _ fs.reverse ss.reverse (S.trans (S3.trans S4)) (S.free (S3.free hp)) upd_same (rev (hX.imm (Same.imm (S3.trans S4)))) (fun s hs => w2 s (List.mem_reverse.mp hs)) ?_
      rw [List.length_reverse]
      omega
    · rw [decide_eq_false c]
      refine iteT ⟨fun σ' H2 => _, fun σ' H2 z => z, ?_⟩
      have hws : ws ≠ [] := fun z => by
        rw [z] at hW
        cases hW
        exact c rfl
      obtain ⟨x, s, e1, e2, ⟨b, rfl, hb⟩, h4⟩ := paired_last hW hws
      have hs : s ∈ rs := by
        rw [e2]
        exact List.mem_append_right _ (List.mem_cons_self ..)
      obtain ⟨us, hb1, hb2⟩ := hb
      refine ⟨_, rfl, .inl ⟨rfl, _, SqL.of (S3 _ _ hG)⟩, g, ws, _, rfl, rfl, S3 _ _ hG, e1, ?_⟩
      -- found.append(one)
      have nfg' : f ≠ g := nfg
      have hF4 : (upd (upd H' un (.lst [])) g (.lst ws.dropLast)) f = some (.lst fs) := by
        rw [upd_ne nfg]
        exact S3 _ _ hF
      refine ⟨_, rfl, .inl ⟨rfl, _, SqL.of hF4⟩, _, rfl, f, fs, _, rfl, rfl, hF4, sl5 (by omega), ?_⟩
      -- waiting.extend([..])
      have I5 : Imm H' (upd (upd (upd H' un (.lst [])) g (.lst ws.dropLast)) f (.lst (fs ++ [.ref b]))) := (Same.imm S3).trans ((imm_lst (S3 _ _ hG) _).trans (imm_lst hF4 _))
      have hG5 : (upd (upd (upd H' un (.lst [])) g (.lst ws.dropLast)) f (.lst (fs ++ [.ref b]))) g = some (.lst ws.dropLast) := by
        rw [upd_ne nfg.symm, upd_same]
      have hF5 : (upd (upd (upd H' un (.lst [])) g (.lst ws.dropLast)) f (.lst (fs ++ [.ref b]))) f = some (.lst (fs ++ [.ref b])) := upd_same
      have S5 : Same H (upd (upd (upd H' un (.lst [])) g (.lst ws.dropLast)) f (.lst (fs ++ [.ref b]))) := fun d o ho => by
        rw [upd_ne (ne_of_none ho hf), upd_ne (ne_of_none ho hg0)]
        exact S3 _ _ (S _ _ ho)
      generalize hH5 : (upd (upd (upd H' un (.lst [])) g (.lst ws.dropLast)) f (.lst (fs ++ [.ref b]))) = H5 at I5 hG5 hF5 S5
      refine ⟨_, rfl, .inl ⟨rfl, _, SqL.of hG5⟩, _, rfl, b, rfl, ⟨us, SqT.of (I5.1 _ _ hb1)⟩, fun D hD => ?_⟩
      have S6 : Same H5 (upd H5 D (.lst [])) := same_new hD _
      refine lc_tup (K := K) (a := b) (xs := us) (fun k H6 => ∃ acc : List V, Same H5 H6 ∧ H6 D = some (.lst acc) ∧ RowsAt H6 acc (s.inners.take k)) ⟨[], S6, upd_same, .nil⟩ (fun k H6 _ ⟨acc, S7, _⟩ => SqT.of (S7 _ _ (I5.1 _ _ hb1))) ?_ ?_
      · rintro k x H6 hk ⟨acc, S7, hA, hR⟩
        have hk' : k < s.len := by
          rw [← hb2.len]
          exact (List.getElem?_eq_some_iff.mp hk).1
        obtain ⟨p, hp⟩ := nth_some hk'
        obtain ⟨t, b2, g1, g2, g3⟩ := RAt.nth hb2 hp
        rw [hk] at g1
        cases g1
        refine ⟨t, _, rfl, SqT.of (S7 _ _ (I5.1 _ _ g2)), rfl, _, _, rfl, _, _, rfl, rfl, rfl, ?_⟩
        dsimp only [tYes]
        rw [if_pos rfl]
        refine ⟨_, rfl, acc, hA, ?_, acc ++ [.ref b2], ?_, upd_same, ?_⟩
        · have z1 := hR.len
          rw [List.length_take, inners_len] at z1
          have z2 := len_size s
          have z3 := (ok1 s hs).2.1
          exact sl5 (by omega)
        · intro d o ho
          rw [upd_ne (ne_of_none ho hD)]
          exact S7 _ _ ho
        · have im : Imm H6 (upd H6 D (.lst (acc ++ [.ref b2]))) := imm_lst hA _
          have e := nth_inners hp
          rw [List.take_add_one, e]
          exact RowsAt.app (hR.imm im) (.cons ⟨b2, rfl, g3.imm (I5.trans ((Same.imm S7).trans im))⟩ .nil)
      · rintro H6 ⟨acc, S7, hA, hR⟩
        have e : us.length = s.inners.length := by rw [hb2.len, inners_len]
        rw [e, List.take_length] at hR
        refine ⟨g, D, _, acc, rfl, rfl, S7 _ _ hG5, hA, ?_, cost (rs.dropLast ++ s.inners), ?_, _, ws.dropLast ++ acc, fs ++ [.ref b], rs.dropLast ++ s.inners, ss ++ [s], rfl, ?_, ?_, upd_same, ?_, ?_, ?_, ?_, rfl, ?_⟩
        · have z1 := hR.len
          have z2 := h4.length
          have z3 := (ok1 s hs).2.1
          have z4 := len_size s
          have z5 := inners_len s
          have z6 := cost_len rs
          have z7 : rs.dropLast.length ≤ rs.length := by
            rw [List.length_dropLast]
            omega
          exact Nat.le_of_lt (sl5 (by omega))
        · have z : cost rs = cost rs.dropLast + (s.size + 1) := by
            have z := congrArg cost e2
            rw [cost_app] at z
            exact z
          rw [cost_app, cost_inners, z]
          omega
        · intro d o ho
          rw [upd_ne (ne_of_none ho hg0)]
          exact S7 _ _ (S5 _ _ ho)
        · rw [upd_ne nfg]
          exact S7 _ _ hF5
        · have im := (I5.trans (Same.imm S7)).trans (imm_lst (S7 _ _ hG5) (.lst (ws.dropLast ++ acc)))
          exact RowsAt.app (RowsAt.imm im h4) (hR.imm (imm_lst (S7 _ _ hG5) _))
        · have im := (I5.trans (Same.imm S7)).trans (imm_lst (S7 _ _ hG5) (.lst (ws.dropLast ++ acc)))
          exact RowsAt.app (hX.imm im) (.cons ⟨b, rfl, RowAt.imm im ⟨us, hb1, hb2⟩⟩ .nil)
        · intro t ht
          rcases List.mem_append.mp ht with z | z
          · exact w1 t (by rw [e2]; exact List.mem_append_left _ z)
          · exact (w1 s hs).inner z
        · intro t ht
          rcases List.mem_append.mp ht with z | z
          · exact w2 t z
          · rw [List.mem_singleton.mp z]
            exact w1 s hs
        · have z : cost rs = cost rs.dropLast + (s.size + 1) := by
            have z := congrArg cost e2
            rw [cost_app] at z
            exact z
          rw [cost_app, cost_inners, List.length_append, List.length_singleton]
          omega
end
end K17
end PartK17D4
section PartK17Obj
set_option Elab.async false
set_option linter.all false
set_option maxRecDepth 100000
set_option maxHeartbeats 4000000
/-! Shapes and rules as objects; a method called on an object whose class is told as it comes; the makers. -/
namespace K17
open PySem PySem.Spec PyProof.Rows L2
/-! ### a method, whatever the class -/
def tMethA (X : Cx) (k : Nat) (m : Str) (ta : TE) (t : TA) : TE := fun σ H Q => ta σ H fun x H1 => ∃ (C f : Addr) (fd : FuncData) (ps : List Str) (sp : Sp) (a dx : Addr) (fs : List (Str × V)), x = .ref a ∧ H1 a = some (.ins C dx fs) ∧ Cls X.K C ∧ Meth X.K C m f ∧ FnOk X.prog X.w X.K X.mg X.base CX0 k f fd ps sp ∧ Binds X.K fd ps [] ∧ fs.lookup m = none ∧
  t σ H1 fun vs H2 => sp (x :: vs) H2 Q E0
section
variable {X : Cx}
theorem pe_methA0 {k : Nat} {o : Expr} {m : Str} {apos pos : Pos} {ta : TE} {pl : Sem Bool} (he : PE X o ta) (hr : Room k X.A)
    (ht : eval (.Call (.Attribute o m apos) [] [] pos) X.env = (do
      let ov ← eval o X.env
      standAt apos.atName
      let (f, first) ← holding [ov] (getMethod ov m pl)
      callWith pos f first (backTo pos (starEach [] X.env)) (backToKw pos (keywordEach [] X.env))) := by rfl) :
    PE X (.Call (.Attribute o m apos) [] [] pos) (tMethA X k m ta tNil) := by
  refine ⟨fun pins s σ H Q I hq => ?_⟩
  refine PySem.W.methodCall_KW (pl := pl) (thn (he.run pins s σ H _ I hq) fun u s1 ⟨x, H1, I1, rx, C, f, fd, ps, sp, a, dx, fs, ex, ea, hc, hm, hF, hb, hl, q⟩ => ?_) ht
  subst ex
  obtain rfl : u = Value.ref a := rx
  refine getmeth_ok I1 ea hc hm hl ?_
  exact PySem.W.callWith_K0 (first := [.ref a]) I1.kIn hm.kp (run_fn (us := [.ref a]) (vs := [.ref a]) hF hr hb .nil pass0 I1 (.cons rfl .nil) q)
end
/-! ### attributes -/
theorem lk_hd {f : Str} {v : V} {r : List (Str × V)} : ((f, v) :: r).lookup f = some v := by simp [List.lookup]
theorem lk_tl {f g : Str} {v : V} {r : List (Str × V)} (h : (f == g) = false) : ((g, v) :: r).lookup f = r.lookup f := by simp [List.lookup, h]
theorem put_new2 {f g : Str} {x y : V} (h : (f == g) = false) : putF g y [(f, x)] = [(f, x), (g, y)] := by
  have h' : ¬ f = g := fun z => by rw [z] at h; simp at h
  simp [putF, h']
theorem put_new3 {f g k : Str} {x y z : V} (h : (f == k) = false) (h2 : (g == k) = false) : putF k z [(f, x), (g, y)] = [(f, x), (g, y), (k, z)] := by
  have h' : ¬ f = k := fun z => by rw [z] at h; simp at h
  have h2' : ¬ g = k := fun z => by rw [z] at h2; simp at h2
  simp [putF, h', h2']
abbrev fTree (w n : V) : List (Str × V) := [("word", w), ("name", n)]
abbrev fParts (t : V) : List (Str × V) := [("parts", t)]
abbrev fPart (v : V) : List (Str × V) := [("part", v)]
abbrev fNS (n s : V) : List (Str × V) := [("name", n), ("shape", s)]
abbrev fNO (n o : V) : List (Str × V) := [("name", n), ("one", o)]
abbrev fNOO (n o u : V) : List (Str × V) := [("name", n), ("one", o), ("other", u)]
/-! ### shapes -/
def SAt (K : PySem.W.Frag) (H : Hp) : Sh → List V → Prop
  | .nothing, vs => ∃ a dx : Addr, vs = [.ref a] ∧ H a = some (.ins (ca K "Nothing") dx [])
  | .tree w n, vs => ∃ a dx : Addr, vs = [.ref a] ∧ H a = some (.ins (ca K "Tree") dx (fTree (wV w) (.str n)))
  | .many p, vs => ∃ a dx b : Addr, vs = [.ref a] ∧ H a = some (.ins (ca K "Many") dx (fPart (.ref b))) ∧ SAt K H p [.ref b]
  | .some p, vs => ∃ a dx b : Addr, vs = [.ref a] ∧ H a = some (.ins (ca K "Some") dx (fPart (.ref b))) ∧ SAt K H p [.ref b]
  | .maybe p, vs => ∃ a dx b : Addr, vs = [.ref a] ∧ H a = some (.ins (ca K "Maybe") dx (fPart (.ref b))) ∧ SAt K H p [.ref b]
  | .chain ps, vs => ∃ (a dx t : Addr) (us : List V), vs = [.ref a] ∧ H a = some (.ins (ca K "Chain") dx (fParts (.ref t))) ∧ H t = some (.tup us) ∧ SAt K H ps us
  | .either ps, vs => ∃ (a dx t : Addr) (us : List V), vs = [.ref a] ∧ H a = some (.ins (ca K "Either") dx (fParts (.ref t))) ∧ H t = some (.tup us) ∧ SAt K H ps us
  | .nil, vs => vs = []
  | .cons p ps, vs => ∃ (b : Addr) (us : List V), vs = .ref b :: us ∧ SAt K H p [.ref b] ∧ SAt K H ps us
theorem SAt.imm {K : PySem.W.Frag} {H H' : Hp} (m : Imm H H') : ∀ {s : Sh} {vs : List V}, SAt K H s vs → SAt K H' s vs
  | .nothing, _, ⟨a, dx, e, h⟩ => ⟨a, dx, e, m.2 _ _ _ _ h⟩
  | .tree w n, _, ⟨a, dx, e, h⟩ => ⟨a, dx, e, m.2 _ _ _ _ h⟩
  | .many p, _, ⟨a, dx, b, e, h, q⟩ => ⟨a, dx, b, e, m.2 _ _ _ _ h, SAt.imm m q⟩
  | .some p, _, ⟨a, dx, b, e, h, q⟩ => ⟨a, dx, b, e, m.2 _ _ _ _ h, SAt.imm m q⟩
  | .maybe p, _, ⟨a, dx, b, e, h, q⟩ => ⟨a, dx, b, e, m.2 _ _ _ _ h, SAt.imm m q⟩
  | .chain ps, _, ⟨a, dx, t, us, e, h, h2, q⟩ => ⟨a, dx, t, us, e, m.2 _ _ _ _ h, m.1 _ _ h2, SAt.imm m q⟩
  | .either ps, _, ⟨a, dx, t, us, e, h, h2, q⟩ => ⟨a, dx, t, us, e, m.2 _ _ _ _ h, m.1 _ _ h2, SAt.imm m q⟩
  | .nil, _, h => h
  | .cons p ps, _, ⟨b, us, e, h, q⟩ => ⟨b, us, e, SAt.imm m h, SAt.imm m q⟩
/-- the k-th part -/
def Sh.part : Sh → Nat → Option Sh
  | .cons p _, 0 => Option.some p
  | .cons _ ps, k + 1 => ps.part k
  | _, _ => none
theorem part_some : ∀ {s : Sh} {k : Nat}, k < s.cnt → ∃ p, s.part k = Option.some p
  | .cons p ps, 0, _ => ⟨p, rfl⟩
  | .cons p ps, k + 1, h => part_some (s := ps) (Nat.lt_of_succ_lt_succ h)
  | .nil, _, h => absurd h (Nat.not_lt_zero _)
  | .nothing, _, h => absurd h (Nat.not_lt_zero _)
  | .tree _ _, _, h => absurd h (Nat.not_lt_zero _)
  | .many _, _, h => absurd h (Nat.not_lt_zero _)
  | .some _, _, h => absurd h (Nat.not_lt_zero _)
  | .maybe _, _, h => absurd h (Nat.not_lt_zero _)
  | .chain _, _, h => absurd h (Nat.not_lt_zero _)
  | .either _, _, h => absurd h (Nat.not_lt_zero _)
theorem SAt.part {K : PySem.W.Frag} {H : Hp} : ∀ {s : Sh} {vs : List V} {k : Nat} {p : Sh}, SAt K H s vs → s.part k = Option.some p → ∃ b : Addr, vs[k]? = some (.ref b) ∧ SAt K H p [.ref b]
  | .cons p ps, _, 0, _, ⟨b, us, e, h, q⟩, z => by
    cases z
    subst e
    exact ⟨b, rfl, h⟩
  | .cons p ps, _, k + 1, _, ⟨b, us, e, h, q⟩, z => by
    subst e
    obtain ⟨c, h1, h2⟩ := SAt.part (s := ps) (k := k) q z
    exact ⟨c, by simpa using h1, h2⟩
theorem SAt.len {K : PySem.W.Frag} {H : Hp} : ∀ {s : Sh} {vs : List V}, s.ok true → SAt K H s vs → vs.length = s.cnt
  | .nil, _, _, h => by rw [show _ = [] from h]; rfl
  | .cons p ps, _, o, ⟨b, us, e, h, q⟩ => by
    rw [e]
    exact congrArg (· + 1) (SAt.len o.2.2 q)
theorem TAt.part {H : Hp} : ∀ {s : Sh} {vs : List V} {k : Nat} {p : Sh}, TAt H s vs → s.part k = Option.some p → ∃ b : Addr, vs[k]? = some (.ref b) ∧ TAt H p [.ref b]
  | .cons p ps, _, 0, _, ⟨b, us, e, h, q⟩, z => by
    cases z
    subst e
    exact ⟨b, rfl, h⟩
  | .cons p ps, _, k + 1, _, ⟨b, us, e, h, q⟩, z => by
    subst e
    obtain ⟨c, h1, h2⟩ := TAt.part (s := ps) (k := k) q z
    exact ⟨c, by simpa using h1, h2⟩
theorem part_ok : ∀ {s : Sh} {k : Nat} {p : Sh}, s.ok true → s.part k = Option.some p → p.ok false
  | .cons p ps, 0, _, o, z => by
    cases z
    exact o.2.1
  | .cons p ps, k + 1, _, o, z => part_ok (s := ps) o.2.2 z
theorem part_deep : ∀ {s : Sh} {k : Nat} {p : Sh}, s.part k = Option.some p → p.deep ≤ s.deep
  | .cons p ps, 0, _, z => by
    cases z
    exact Nat.le_max_left _ _
  | .cons p ps, k + 1, _, z => Nat.le_trans (part_deep (s := ps) z) (Nat.le_max_right _ _)
theorem part_all {P : Option Str → Str → Prop} : ∀ {s : Sh} {k : Nat} {p : Sh}, s.all P → s.part k = Option.some p → p.all P
  | .cons p ps, 0, _, o, z => by
    cases z
    exact o.1
  | .cons p ps, k + 1, _, o, z => part_all (s := ps) o.2 z
/-- its class's name -/
def Sh.cls : Sh → Str
  | .nothing => "Nothing"
  | .tree _ _ => "Tree"
  | .many _ => "Many"
  | .some _ => "Some"
  | .maybe _ => "Maybe"
  | .chain _ => "Chain"
  | .either _ => "Either"
  | .nil => ""
  | .cons _ _ => ""
theorem SAt.ins {K : PySem.W.Frag} {H : Hp} : ∀ {s : Sh} {a : Addr}, s.ok false → SAt K H s [.ref a] → ∃ dx fs, H a = some (.ins (ca K s.cls) dx fs)
  | .nothing, _, _, ⟨a, dx, e, h⟩ => by cases e; exact ⟨_, _, h⟩
  | .tree w n, _, _, ⟨a, dx, e, h⟩ => by cases e; exact ⟨_, _, h⟩
  | .many p, _, _, ⟨a, dx, b, e, h, q⟩ => by cases e; exact ⟨_, _, h⟩
  | .some p, _, _, ⟨a, dx, b, e, h, q⟩ => by cases e; exact ⟨_, _, h⟩
  | .maybe p, _, _, ⟨a, dx, b, e, h, q⟩ => by cases e; exact ⟨_, _, h⟩
  | .chain ps, _, _, ⟨a, dx, t, us, e, h, h2, q⟩ => by cases e; exact ⟨_, _, h⟩
  | .either ps, _, _, ⟨a, dx, t, us, e, h, h2, q⟩ => by cases e; exact ⟨_, _, h⟩
/-! ### rules -/
def UAt (K : PySem.W.Frag) (H : Hp) (a : Addr) : Rl → Prop
  | .shaped n s => ∃ dx b : Addr, H a = some (.ins (ca K "Shaped") dx (fNS (.str n) (.ref b))) ∧ SAt K H s [.ref b]
  | .turned n o => ∃ dx : Addr, H a = some (.ins (ca K "Turned") dx (fNO (.str n) (.str o)))
  | .both n o u => ∃ dx : Addr, H a = some (.ins (ca K "Both") dx (fNOO (.str n) (.str o) (.str u)))
  | .any n o u => ∃ dx : Addr, H a = some (.ins (ca K "Any") dx (fNOO (.str n) (.str o) (.str u)))
theorem UAt.imm {K : PySem.W.Frag} {H H' : Hp} {a : Addr} (m : Imm H H') : ∀ {r : Rl}, UAt K H a r → UAt K H' a r
  | .shaped n s, ⟨dx, b, h, q⟩ => ⟨dx, b, m.2 _ _ _ _ h, q.imm m⟩
  | .turned n o, ⟨dx, h⟩ => ⟨dx, m.2 _ _ _ _ h⟩
  | .both n o u, ⟨dx, h⟩ => ⟨dx, m.2 _ _ _ _ h⟩
  | .any n o u, ⟨dx, h⟩ => ⟨dx, m.2 _ _ _ _ h⟩
def UsAt (K : PySem.W.Frag) (H : Hp) : List V → List Rl → Prop := Paired fun v r => ∃ a : Addr, v = .ref a ∧ UAt K H a r
theorem UsAt.imm {K : PySem.W.Frag} {H H' : Hp} (m : Imm H H') : ∀ {vs : List V} {rs : List Rl}, UsAt K H vs rs → UsAt K H' vs rs
  | _, _, .nil => .nil
  | _, _, .cons ⟨a, e, h⟩ t => .cons ⟨a, e, h.imm m⟩ (UsAt.imm m t)
theorem UsAt.len {K : PySem.W.Frag} {H : Hp} {vs : List V} {rs : List Rl} (h : UsAt K H vs rs) : vs.length = rs.length := Paired.length h
theorem UsAt.nth {K : PySem.W.Frag} {H : Hp} : ∀ {vs : List V} {rs : List Rl} {k : Nat} {v : V}, UsAt K H vs rs → vs[k]? = some v → ∃ a r, v = .ref a ∧ rs[k]? = some r ∧ UAt K H a r
  | _, _, 0, v, .cons (b := r) ⟨a, e, h⟩ t, z => by
    cases z
    exact ⟨a, r, e, rfl, h⟩
  | _, _, k + 1, v, .cons _ t, z => by
    obtain ⟨a, r, h1, h2, h3⟩ := UsAt.nth (k := k) t (by simpa using z)
    exact ⟨a, r, h1, by simpa using h2, h3⟩
theorem UsAt.app {K : PySem.W.Frag} {H : Hp} : ∀ {vs ws : List V} {rs ss : List Rl}, UsAt K H vs rs → UsAt K H ws ss → UsAt K H (vs ++ ws) (rs ++ ss)
  | _, _, _, _, .nil, h => h
  | _, _, _, _, .cons r t, h => .cons r (UsAt.app t h)
def Rl.cls : Rl → Str
  | .shaped _ _ => "Shaped"
  | .turned _ _ => "Turned"
  | .both _ _ _ => "Both"
  | .any _ _ _ => "Any"
/-! ### the makers -/
def spInitTree (K : PySem.W.Frag) : Sp := fun vs H Q _ => ∃ (p dx : Addr) (x y : V), vs = [.ref p, x, y] ∧ H p = some (.ins (ca K "Tree") dx []) ∧ ∀ H', H' = upd H p (.ins (ca K "Tree") dx (fTree x y)) → Q .non H'
def spInit1 (C : Addr) (f : Str) : Sp := fun vs H Q _ => ∃ (p dx : Addr) (x : V), vs = [.ref p, x] ∧ H p = some (.ins C dx []) ∧ ∀ H', H' = upd H p (.ins C dx [(f, x)]) → Q .non H'
section
variable {P : Program} {w : World} {K : PySem.W.Frag} {mg : Str → Option Value} {base : Heap}
theorem ok_tree_init (T : Tx K mg) : FO P w K mg base 1 (me K "Tree" "__init__") pTreeInit (spInitTree K) := by
  refine T.d_Tree_init.ok0 scTreeInit (fun vs H Q E h => ?_) (fun cdv A outer s H vs Q E hr h => ?_)
  · obtain ⟨p, dx, x, y, rfl, _⟩ := h
    rfl
  · obtain ⟨p, dx, x, y, rfl, hp, q⟩ := h
    refine ⟨_, pss_cons (ps_fld (pv 0) (pv 1) rfl) (pss_one (ps_fld (pv 0) (pv 2) rfl)), ?_⟩
    refine ⟨_, rfl, _, rfl, p, _, dx, _, rfl, hp, T.c_Tree, T.n_Tree_word, (by show 0 < 1000; decide), _, rfl, _, rfl, p, _, dx, _, rfl, upd_same, T.c_Tree, T.n_Tree_name, (by show 1 < 1000; decide), ?_⟩
    refine q _ ?_
    rw [upd_upd]
    have e : putF "name" y (putF "word" x []) = fTree x y := put_new2 (by decide +kernel)
    rw [e]
theorem init1 {C f : Addr} {fld q : Str} {st : Stmt} (hc : Cls K C) (hn : NoAttr K C fld) (F : FD K "__init__" q st f) (S : FnScope ["self", fld] ["self", fld] (defScope st)) {p1 p2 p3 p4 : Pos} (hb : defBody st = [.Assign [.Attribute (.Name "self" p1) fld p2] (.Name fld p3) p4])
    (hl : (p3.line == p4.line) = true → True) (hv : Vis (defScope st) "self") (hv2 : Vis (defScope st) fld) (hd : (fld == ("__debug__" : Str)) = false) (hcd : (fld == ("__classdict__" : Str)) = false) : FO P w K mg base 1 f ["self", fld] (spInit1 C fld) := by
  refine F.ok0 S (fun vs H Q E h => ?_) (fun cdv A outer s H vs Q E hr h => ?_)
  · obtain ⟨p, dx, x, rfl, _⟩ := h
    rfl
  · obtain ⟨p, dx, x, rfl, hp, q⟩ := h
    rw [hb]
    refine ⟨_, pss_one (ps_fld (pv 0 rfl hv) (pv 1 rfl hv2 hd hcd) rfl), ?_⟩
    exact ⟨_, rfl, _, rfl, p, _, dx, _, rfl, hp, hc, hn, (by show 0 < 1000; decide), q _ rfl⟩
end
end K17
end PartK17Obj
section PartK17E1
set_option Elab.async false
set_option linter.all false
set_option maxRecDepth 100000
set_option maxHeartbeats 4000000
/-! The makers: __init__ of each class; objects made by calls of classes. -/
namespace K17
open PySem PySem.Spec PyProof.Rows L2
abbrev fs1 (x : V) : List (Str × V) := [("name", x)]
def spInit2 (C : Addr) (f : Str) : Sp := fun vs H Q _ => ∃ (p dx : Addr) (x y : V), vs = [.ref p, x, y] ∧ H p = some (.ins C dx []) ∧ ∀ H', H' = upd H p (.ins C dx [("name", x), (f, y)]) → Q .non H'
def spInit3 (C : Addr) : Sp := fun vs H Q _ => ∃ (p dx : Addr) (x y z : V), vs = [.ref p, x, y, z] ∧ H p = some (.ins C dx []) ∧ ∀ H', H' = upd H p (.ins C dx (fNOO x y z)) → Q .non H'
section
variable {P : Program} {w : World} {K : PySem.W.Frag} {mg : Str → Option Value} {base : Heap}
theorem ok_chain_init (T : Tx K mg) : FO P w K mg base 1 (me K "Chain" "__init__") pJoinedInit (spInit1 (ca K "Chain") "parts") :=
  init1 T.c_Chain T.n_Chain_parts T.d_Chain_init scJoinedInit rfl (fun _ => trivial) (.inl rfl) (.inl rfl) rfl rfl
theorem ok_either_init (T : Tx K mg) : FO P w K mg base 1 (me K "Either" "__init__") pJoinedInit (spInit1 (ca K "Either") "parts") :=
  init1 T.c_Either T.n_Either_parts T.d_Either_init scJoinedInit rfl (fun _ => trivial) (.inl rfl) (.inl rfl) rfl rfl
theorem ok_many_init (T : Tx K mg) : FO P w K mg base 1 (me K "Many" "__init__") pSignedInit (spInit1 (ca K "Many") "part") :=
  init1 T.c_Many T.n_Many_part T.d_Many_init scSignedInit rfl (fun _ => trivial) (.inl rfl) (.inl rfl) rfl rfl
theorem ok_some_init (T : Tx K mg) : FO P w K mg base 1 (me K "Some" "__init__") pSignedInit (spInit1 (ca K "Some") "part") :=
  init1 T.c_Some T.n_Some_part T.d_Some_init scSignedInit rfl (fun _ => trivial) (.inl rfl) (.inl rfl) rfl rfl
theorem ok_maybe_init (T : Tx K mg) : FO P w K mg base 1 (me K "Maybe" "__init__") pSignedInit (spInit1 (ca K "Maybe") "part") :=
  init1 T.c_Maybe T.n_Maybe_part T.d_Maybe_init scSignedInit rfl (fun _ => trivial) (.inl rfl) (.inl rfl) rfl rfl
theorem ok_rule_init (T : Tx K mg) {C : Addr} (hc : Cls K C) (hn : NoAttr K C "name") : FO P w K mg base 1 (me K "Rule" "__init__") pRuleInit (spInit1 C "name") :=
  init1 hc hn T.d_Rule_init scRuleInit rfl (fun _ => trivial) (.inl rfl) (.inl rfl) rfl rfl
theorem ok_shaped_init (T : Tx K mg) : FO P w K mg base 2 (me K "Shaped" "__init__") pShapedInit (spInit2 (ca K "Shaped") "shape") := by
  have G : FO P w K mg base 1 (me K "Rule" "__init__") pRuleInit (spInit1 (ca K "Shaped") "name") := ok_rule_init T T.c_Shaped T.n_Shaped_name
  refine T.d_Shaped_init.ok0 scShapedInit (fun vs H Q E h => ?_) (fun cdv A outer s H vs Q E hr h => ?_)
  · obtain ⟨p, dx, x, y, rfl, _⟩ := h
    rfl
  · obtain ⟨p, dx, x, y, rfl, hp, q⟩ := h
    refine ⟨_, pss_cons (ps_expr (pe_cfn (pe_glob (v := .ref (ca K "Rule")) (by rfl) T.g_Rule rfl) T.readsRule T.gaRule T.initRule T.d_Rule_init.kp G hr (bd_Rule_init T) (pa_cons (pv 0) (pa_cons (pv 1) pa_nil)))) (pss_one (ps_fld (pv 0) (pv 2) rfl)), ?_⟩
    refine ⟨_, rfl, _, rfl, p, dx, x, rfl, hp, fun H' e => ?_⟩
    subst e
    refine ⟨_, rfl, _, rfl, p, _, dx, _, rfl, upd_same, T.c_Shaped, T.n_Shaped_shape, (by show 1 < 1000; decide), q _ ?_⟩
    rw [upd_upd]
    have e : putF "shape" y (fs1 x) = fNS x y := put_new2 (by decide +kernel)
    rw [e]
theorem ok_turned_init (T : Tx K mg) : FO P w K mg base 2 (me K "Turned" "__init__") pTurnedInit (spInit2 (ca K "Turned") "one") := by
  have G : FO P w K mg base 1 (me K "Rule" "__init__") pRuleInit (spInit1 (ca K "Turned") "name") := ok_rule_init T T.c_Turned T.n_Turned_name
  refine T.d_Turned_init.ok0 scTurnedInit (fun vs H Q E h => ?_) (fun cdv A outer s H vs Q E hr h => ?_)
  · obtain ⟨p, dx, x, y, rfl, _⟩ := h
    rfl
  · obtain ⟨p, dx, x, y, rfl, hp, q⟩ := h
    refine ⟨_, pss_cons (ps_expr (pe_cfn (pe_glob (v := .ref (ca K "Rule")) (by rfl) T.g_Rule rfl) T.readsRule T.gaRule T.initRule T.d_Rule_init.kp G hr (bd_Rule_init T) (pa_cons (pv 0) (pa_cons (pv 1) pa_nil)))) (pss_one (ps_fld (pv 0) (pv 2) rfl)), ?_⟩
    refine ⟨_, rfl, _, rfl, p, dx, x, rfl, hp, fun H' e => ?_⟩
    subst e
    refine ⟨_, rfl, _, rfl, p, _, dx, _, rfl, upd_same, T.c_Turned, T.n_Turned_one, (by show 1 < 1000; decide), q _ ?_⟩
    rw [upd_upd]
    have e : putF "one" y (fs1 x) = fNO x y := put_new2 (by decide +kernel)
    rw [e]
theorem ok_both_init (T : Tx K mg) : FO P w K mg base 2 (me K "Both" "__init__") pBothInit (spInit3 (ca K "Both")) := by
  have G : FO P w K mg base 1 (me K "Rule" "__init__") pRuleInit (spInit1 (ca K "Both") "name") := ok_rule_init T T.c_Both T.n_Both_name
  refine T.d_Both_init.ok0 scBothInit (fun vs H Q E h => ?_) (fun cdv A outer s H vs Q E hr h => ?_)
  · obtain ⟨p, dx, x, y, z, rfl, _⟩ := h
    rfl
  · obtain ⟨p, dx, x, y, z, rfl, hp, q⟩ := h
    refine ⟨_, pss_cons (ps_expr (pe_cfn (pe_glob (v := .ref (ca K "Rule")) (by rfl) T.g_Rule rfl) T.readsRule T.gaRule T.initRule T.d_Rule_init.kp G hr (bd_Rule_init T) (pa_cons (pv 0) (pa_cons (pv 1) pa_nil)))) (pss_cons (ps_fld (pv 0) (pv 2) rfl) (pss_one (ps_fld (pv 0) (pv 3) rfl))), ?_⟩
    refine ⟨_, rfl, _, rfl, p, dx, x, rfl, hp, fun H' e => ?_⟩
    subst e
    have e : putF "one" y (fs1 x) = fNO x y := put_new2 (by decide +kernel)
    have e2 : putF "other" z (fNO x y) = fNOO x y z := put_new3 (by decide +kernel) (by decide +kernel)
    refine ⟨_, rfl, _, rfl, p, _, dx, _, rfl, upd_same, T.c_Both, T.n_Both_one, (by show 1 < 1000; decide), ?_⟩
    rw [upd_upd, e]
    refine ⟨_, rfl, _, rfl, p, _, dx, _, rfl, upd_same, T.c_Both, T.n_Both_other, (by show 2 < 1000; decide), q _ ?_⟩
    rw [upd_upd, e2]
theorem ok_any_init (T : Tx K mg) : FO P w K mg base 2 (me K "Any" "__init__") pAnyInit (spInit3 (ca K "Any")) := by
  have G : FO P w K mg base 1 (me K "Rule" "__init__") pRuleInit (spInit1 (ca K "Any") "name") := ok_rule_init T T.c_Any T.n_Any_name
  refine T.d_Any_init.ok0 scAnyInit (fun vs H Q E h => ?_) (fun cdv A outer s H vs Q E hr h => ?_)
  · obtain ⟨p, dx, x, y, z, rfl, _⟩ := h
    rfl
  · obtain ⟨p, dx, x, y, z, rfl, hp, q⟩ := h
    refine ⟨_, pss_cons (ps_expr (pe_cfn (pe_glob (v := .ref (ca K "Rule")) (by rfl) T.g_Rule rfl) T.readsRule T.gaRule T.initRule T.d_Rule_init.kp G hr (bd_Rule_init T) (pa_cons (pv 0) (pa_cons (pv 1) pa_nil)))) (pss_cons (ps_fld (pv 0) (pv 2) rfl) (pss_one (ps_fld (pv 0) (pv 3) rfl))), ?_⟩
    refine ⟨_, rfl, _, rfl, p, dx, x, rfl, hp, fun H' e => ?_⟩
    subst e
    have e : putF "one" y (fs1 x) = fNO x y := put_new2 (by decide +kernel)
    have e2 : putF "other" z (fNO x y) = fNOO x y z := put_new3 (by decide +kernel) (by decide +kernel)
    refine ⟨_, rfl, _, rfl, p, _, dx, _, rfl, upd_same, T.c_Any, T.n_Any_one, (by show 1 < 1000; decide), ?_⟩
    rw [upd_upd, e]
    refine ⟨_, rfl, _, rfl, p, _, dx, _, rfl, upd_same, T.c_Any, T.n_Any_other, (by show 2 < 1000; decide), q _ ?_⟩
    rw [upd_upd, e2]
end
/-- a new object: two new cells -/
theorem made {H : Hp} {x dx C : Addr} {fs : List (Str × V)} (hx : H x = none) (hdx : H dx = none) (hne : dx ≠ x) : Same H (upd (upd (upd H dx (.own x)) x (.ins C dx [])) x (.ins C dx fs)) := by
  rw [upd_upd]
  intro a o h
  rw [upd_ne (ne_of_none h hx), upd_ne (ne_of_none h hdx)]
  exact h
end K17
end PartK17E1
section PartK17E2
set_option Elab.async false
set_option linter.all false
set_option maxRecDepth 100000
set_option maxHeartbeats 4000000
/-! Asking a told shape's first word; the law's shape_made. -/
namespace K17
open PySem PySem.Spec PyProof.Rows L2
abbrev tTag (K : PySem.W.Frag) (i : Nat) (y : Str) : TT := tTest (tOp rEq (tOp (rIxT K) (tVar i) (tC (.int 0))) (tC (.str y)))
abbrev tAt (K : PySem.W.Frag) (i : Nat) (j : Int) : TE := tOp (rIxT K) (tVar i) (tC (.int j))
theorem rd_tag {K : PySem.W.Frag} {i : Nat} {y x : Str} {σ : L2.St} {H : Hp} {Q : Bool → Hp → Prop} {a : Addr} {xs : List V} (e : σ[i]? = some (some (.ref a))) (h : H a = some (.tup (.str x :: xs))) (q : Q (decide (x = y)) H) : tTag K i y σ H Q := by
  refine ⟨_, e, a, _, 0, .str x, rfl, rfl, SqT.of h, atI_nat (j := 0) rfl, rfl, ?_⟩
  have e2 : decide (V.str x = V.str y) = decide (x = y) := by
    by_cases c : x = y
    · simp [c]
    · have c' : ¬ V.str x = V.str y := fun z => c (by injection z)
      rw [decide_eq_false c, decide_eq_false c']
  rw [e2]
  exact ⟨_, rfl, q⟩
theorem if_tagF {K : PySem.W.Frag} {i : Nat} {y x : Str} {σ : L2.St} {H : Hp} {D : Ends} {a : Addr} {xs : List V} {t u : TS} (e : σ[i]? = some (some (.ref a))) (h : H a = some (.tup (.str x :: xs))) (d : decide (x = y) = false) (q : u D σ H) : tIfS (tTag K i y) t u D σ H := by
  refine rd_tag e h ?_
  rw [d]
  exact iteF q
theorem if_tagT {K : PySem.W.Frag} {i : Nat} {y x : Str} {σ : L2.St} {H : Hp} {D : Ends} {a : Addr} {xs : List V} {t u : TS} (e : σ[i]? = some (some (.ref a))) (h : H a = some (.tup (.str x :: xs))) (d : decide (x = y) = true) (q : t D σ H) : tIfS (tTag K i y) t u D σ H := by
  refine rd_tag e h ?_
  rw [d]
  exact iteT q
theorem TAt.tag {H : Hp} : ∀ {s : Sh} {a : Addr}, s.ok false → TAt H s [.ref a] → ∃ xs, H a = some (.tup (.str s.tag :: xs))
  | .nothing, _, _, ⟨a, e, h⟩ => by cases e; exact ⟨_, h⟩
  | .tree w n, _, _, ⟨a, e, h⟩ => by cases e; exact ⟨_, h⟩
  | .many p, _, _, ⟨a, b, e, h, q⟩ => by cases e; exact ⟨_, h⟩
  | .some p, _, _, ⟨a, b, e, h, q⟩ => by cases e; exact ⟨_, h⟩
  | .maybe p, _, _, ⟨a, b, e, h, q⟩ => by cases e; exact ⟨_, h⟩
  | .chain ps, _, _, ⟨a, t, us, e, h, h2, q⟩ => by cases e; exact ⟨_, h⟩
  | .either ps, _, _, ⟨a, t, us, e, h, h2, q⟩ => by cases e; exact ⟨_, h⟩
theorem cnt_sz : ∀ {s : Sh}, s.ok true → s.cnt ≤ s.sz
  | .nil, _ => Nat.le_refl _
  | .cons p ps, h => by
    have i1 := cnt_sz h.2.2
    have i2 : 1 ≤ p.sz := by
      have h2 := h.2.1
      cases p with
      | nothing => exact Nat.le_refl _
      | tree _ _ => exact Nat.le_refl _
      | many p => exact Nat.le_add_left _ _
      | some p => exact Nat.le_add_left _ _
      | maybe p => exact Nat.le_add_left _ _
      | chain p => exact Nat.le_add_left _ _
      | either p => exact Nat.le_add_left _ _
      | nil => cases h2
      | cons _ _ => cases h2.1
    show ps.cnt + 1 ≤ p.sz + ps.sz
    omega
theorem part_sz : ∀ {s : Sh} {k : Nat} {p : Sh}, s.part k = Option.some p → p.sz ≤ s.sz
  | .cons p ps, 0, _, z => by
    cases z
    exact Nat.le_add_right _ _
  | .cons p ps, k + 1, _, z => Nat.le_trans (part_sz (s := ps) z) (Nat.le_add_left _ _)
theorem deep_pos : ∀ {s : Sh}, s.ok false → 0 < s.deep
  | .nothing, _ => Nat.succ_pos _
  | .tree _ _, _ => Nat.succ_pos _
  | .many _, _ => Nat.succ_pos _
  | .some _, _ => Nat.succ_pos _
  | .maybe _, _ => Nat.succ_pos _
  | .chain _, _ => Nat.succ_pos _
  | .either _, _ => Nat.succ_pos _
theorem deepT_pos : ∀ {s : Sh}, s.ok true → 2 ≤ s.cnt → 0 < s.deep
  | .cons p ps, h, _ => Nat.lt_of_lt_of_le (deep_pos h.2.1) (Nat.le_max_left _ _)
  | .nil, _, h => absurd h (by decide)
/-- the first k parts -/
def Sh.takeP : Nat → Sh → Sh
  | 0, _ => .nil
  | k + 1, .cons p ps => .cons p (ps.takeP k)
  | _ + 1, _ => .nil
theorem sat_app {K : PySem.W.Frag} {H : Hp} : ∀ {s : Sh} {vs : List V} {k : Nat} {p : Sh} {b : Addr}, SAt K H (s.takeP k) vs → s.part k = Option.some p → SAt K H p [.ref b] → SAt K H (s.takeP (k + 1)) (vs ++ [.ref b])
  | .cons p ps, _, 0, _, b, h, z, q => by
    cases z
    rw [show _ = [] from h]
    exact ⟨b, [], rfl, q, by cases ps <;> rfl⟩
  | .cons p ps, _, k + 1, _, b, ⟨c, us, e, h1, h2⟩, z, q => by
    subst e
    exact ⟨c, _, rfl, h1, sat_app (s := ps) (k := k) h2 z q⟩
theorem take_all : ∀ {s : Sh}, s.ok true → s.takeP s.cnt = s
  | .nil, _ => rfl
  | .cons p ps, h => by
    show Sh.cons p (ps.takeP ps.cnt) = _
    rw [take_all h.2.2]
theorem takeP_cnt : ∀ {s : Sh} {k : Nat}, (s.takeP k).cnt ≤ k
  | _, 0 => Nat.le_refl _
  | .cons p ps, k + 1 => Nat.succ_le_succ (takeP_cnt (s := ps))
  | .nil, k + 1 => Nat.zero_le _
  | .nothing, k + 1 => Nat.zero_le _
  | .tree _ _, k + 1 => Nat.zero_le _
  | .many _, k + 1 => Nat.zero_le _
  | .some _, k + 1 => Nat.zero_le _
  | .maybe _, k + 1 => Nat.zero_le _
  | .chain _, k + 1 => Nat.zero_le _
  | .either _, k + 1 => Nat.zero_le _
theorem takeP_ok : ∀ {s : Sh} {k : Nat}, s.ok true → (s.takeP k).ok true
  | .nil, 0, h => rfl
  | .nil, k + 1, h => rfl
  | .cons p ps, 0, h => rfl
  | .cons p ps, k + 1, h => ⟨rfl, h.2.1, takeP_ok (s := ps) h.2.2⟩
def spMade (K : PySem.W.Frag) (n : Nat) : Sp := fun vs H Q _ => ∃ (a : Addr) (s : Sh), vs = [.ref a] ∧ TAt H s [.ref a] ∧ s.ok false ∧ s.sz ≤ 1000 ∧ s.deep ≤ n ∧ 0 < n ∧ ∀ (b : Addr) (H' : Hp), Same H H' → SAt K H' s [.ref b] → Q (.ref b) H'
section
variable {P : Program} {w : World} {K : PySem.W.Frag} {mg : Str → Option Value} {base : Heap}
theorem fo_none {k : Nat} {a : Addr} {ps : List Str} {sp : Sp} (no : ∀ vs H Q E, ¬ sp vs H Q E) : FO P w K mg base k a ps sp := (fo_zero no).mono (Nat.zero_le _)
theorem made_step (T : Tx K mg) {n : Nat} (G : FO P w K mg base (n + 2) (ca K "_law_shape_made") pShapeMade (spMade K n)) : FO P w K mg base (n + 3) (ca K "_law_shape_made") pShapeMade (spMade K (n + 1)) := by
  refine T.d_law_shape_made.ok0 scShapeMade (fun vs H Q E h => ?_) (fun cdv A outer s H vs Q E hr h => ?_)
  · obtain ⟨a, s, rfl, _⟩ := h
    rfl
  · obtain ⟨a, s, rfl, hT, ok, hz, hd, _, q⟩ := h
    have hr2 : Room 2 _ := hr.mono (j := 2) (by omega)
    have nd := scShapeMade.nd
    refine ⟨_, pss_cons (ps_if (pt_cmpR op_eq (pe_ix ix_tup (pv 0) pe_int (fun _ _ => rfl)) pe_str (nomark _)) (pss_one (ps_ret (pe_mk0 (by rfl) T.g_Nothing T.k_Nothing T.mkNothing T.initNothing))) pss_nil)
      (pss_cons (ps_if (pt_cmpR op_eq (pe_ix ix_tup (pv 0) pe_int (fun _ _ => rfl)) pe_str (nomark _)) (pss_one (ps_ret (pe_make T.mk_Tree (ok_tree_init T) hr2 (by rfl) T.g_Tree (bd_Tree_init T) .nil pass0 (pa_cons (pe_ix ix_tup (pv 0) pe_int (fun _ _ => rfl)) (pa_cons (pe_ix ix_tup (pv 0) pe_int (fun _ _ => rfl)) pa_nil))))) pss_nil)
      (pss_cons (ps_if (pt_cmpR op_eq (pe_ix ix_tup (pv 0) pe_int (fun _ _ => rfl)) pe_str (nomark _)) (pss_one (ps_ret (pe_make T.mk_Many (ok_many_init T) hr2 (by rfl) T.g_Many (bd_Many_init T) .nil pass0
        (pa_cons (pe_call G hr rfl T.g_law_shape_made T.d_law_shape_made.kp (bd_law_shape_made T) .nil pass0 (pa_cons (pe_ix ix_tup (pv 0) pe_int (fun _ _ => rfl)) pa_nil)) pa_nil)))) pss_nil)
      (pss_cons (ps_if (pt_cmpR op_eq (pe_ix ix_tup (pv 0) pe_int (fun _ _ => rfl)) pe_str (nomark _)) (pss_one (ps_ret (pe_make T.mk_Some (ok_some_init T) hr2 (by rfl) T.g_Some (bd_Some_init T) .nil pass0
        (pa_cons (pe_call G hr rfl T.g_law_shape_made T.d_law_shape_made.kp (bd_law_shape_made T) .nil pass0 (pa_cons (pe_ix ix_tup (pv 0) pe_int (fun _ _ => rfl)) pa_nil)) pa_nil)))) pss_nil)
      (pss_cons (ps_if (pt_cmpR op_eq (pe_ix ix_tup (pv 0) pe_int (fun _ _ => rfl)) pe_str (nomark _)) (pss_one (ps_ret (pe_make T.mk_Maybe (ok_maybe_init T) hr2 (by rfl) T.g_Maybe (bd_Maybe_init T) .nil pass0
        (pa_cons (pe_call G hr rfl T.g_law_shape_made T.d_law_shape_made.kp (bd_law_shape_made T) .nil pass0 (pa_cons (pe_ix ix_tup (pv 0) pe_int (fun _ _ => rfl)) pa_nil)) pa_nil)))) pss_nil)
      (pss_cons (ps_set (i := 1) nd rfl (.inl rfl) (pe_tupleOf (by rfl) T.b_tuple (pe_lc (own := [("_law_part", 2)]) (g := gName 2) (tt := tYes) (te := tCall (spMade K n) [] E0 (tCons (tVar 2) tNil)) rfl nd (pi_tup (pe_ix ix_tup (pv 0) pe_int (fun _ _ => rfl))) (blkOk_by (N := nShapeMade) (sc := defScope sShapeMade) (by decide +kernel))
        (fun _ _ _ _ _ => pg_name (i := 2) nd rfl (.inl rfl) (.inr rfl)) (fun _ _ _ _ _ => pts_nil) (fun _ _ _ _ _ => pe_call G hr rfl T.g_law_shape_made T.d_law_shape_made.kp (bd_law_shape_made T) .nil pass0 (pa_cons (pv 2) pa_nil)))))
      (pss_cons (ps_if (pt_cmpR op_eq (pe_ix ix_tup (pv 0) pe_int (fun _ _ => rfl)) pe_str (nomark _)) (pss_one (ps_ret (pe_make T.mk_Chain (ok_chain_init T) hr2 (by rfl) T.g_Chain (bd_Chain_init T) .nil pass0 (pa_cons (pv 1) pa_nil)))) pss_nil)
      (pss_one (ps_ret (pe_make T.mk_Either (ok_either_init T) hr2 (by rfl) T.g_Either (bd_Either_init T) .nil pass0 (pa_cons (pv 1) pa_nil)))))))))), ?_⟩
    have parts : ∀ (ps : Sh) (t : Addr) (us : List V) (x : Str) (Qt : V → Hp → Prop), H a = some (.tup [.str x, .ref t]) → H t = some (.tup us) → TAt H ps us → ps.ok true → ps.sz ≤ 999 → ps.deep ≤ n → 0 < n →
        (∀ (l : Addr) (H' : Hp) (vs : List V), Same H H' → H' l = some (.tup vs) → SAt K H' ps vs → Qt (.ref l) H') →
        tThen (tLc (iTup K (tAt K 0 1)) (gName 2) tYes (tCall (spMade K n) [] E0 (tCons (tVar 2) tNil)) [2]) (kTup K) [some (.ref a), none, none] H Qt := by
      intro ps t us x Qt ha ht hP okp hzp hdp hn hq
      refine ⟨_, rfl, a, _, 1, .ref t, rfl, rfl, SqT.of ha, atI_nat (j := 1) rfl, t, rfl, ⟨us, SqT.of ht⟩, fun D hD => ?_⟩
      refine lc_tup (K := K) (a := t) (xs := us) (fun k H6 => ∃ acc : List V, Same H H6 ∧ H6 D = some (.lst acc) ∧ acc.length = k ∧ SAt K H6 (ps.takeP k) acc) ⟨[], same_new hD _, upd_same, rfl, by cases ps <;> rfl⟩ (fun k H6 _ ⟨acc, S7, _⟩ => SqT.of (S7 _ _ ht)) ?_ ?_
      · rintro k x H6 hk ⟨acc, S7, hA, hL, hR⟩
        have hk' : k < ps.cnt := by
          rw [← TAt.len okp hP]
          exact (List.getElem?_eq_some_iff.mp hk).1
        obtain ⟨p, hp⟩ := part_some hk'
        obtain ⟨b, g1, g2⟩ := TAt.part hP hp
        rw [hk] at g1
        cases g1
        refine ⟨rfl, ?_⟩
        dsimp only [tYes]
        rw [if_pos rfl]
        refine ⟨_, rfl, b, p, rfl, TAt.imm (Same.imm S7) g2, part_ok okp hp, Nat.le_trans (part_sz hp) (by omega), Nat.le_trans (part_deep hp) hdp, hn, fun c H7 S8 hS => ?_⟩
        have z := cnt_sz okp
        have hA7 := S8 _ _ hA
        refine ⟨acc, hA7, sl5 (by omega), acc ++ [.ref c], fun d o ho => ?_, upd_same, by rw [List.length_append, hL]; rfl, ?_⟩
        · rw [upd_ne (ne_of_none ho hD)]
          exact S8 _ _ (S7 _ _ ho)
        · have im : Imm H7 (upd H7 D (.lst (acc ++ [.ref c]))) := imm_lst hA7 _
          exact sat_app (hR.imm ((Same.imm S8).trans im)) hp (hS.imm im)
      · rintro H6 ⟨acc, S7, hA, hL, hR⟩
        refine .inl ⟨D, acc, rfl, SqL.of hA, fun l hl => ?_⟩
        have S8 : Same H6 (upd H6 l (.tup acc)) := same_new hl _
        refine hq l _ acc (S7.trans S8) upd_same ?_
        have e : us.length = ps.cnt := TAt.len okp hP
        rw [e, take_all okp] at hR
        exact hR.imm (Same.imm S8)
    cases s with
    | nothing =>
      obtain ⟨a', e, ha⟩ := hT
      cases e
      refine if_tagT rfl ha (by decide +kernel) ?_
      intro x dx hx hdx hne
      refine q x _ (fun d o ho => ?_) ⟨x, dx, rfl, upd_same⟩
      rw [upd_ne (ne_of_none ho hx), upd_ne (ne_of_none ho hdx)]
      exact ho
    | tree w' n' =>
      obtain ⟨a', e, ha⟩ := hT
      cases e
      refine if_tagF rfl ha (by decide +kernel) (if_tagT rfl ha (by decide +kernel) ?_)
      refine ⟨_, rfl, a, _, 1, wV w', rfl, rfl, SqT.of ha, atI_nat (j := 1) rfl, _, rfl, a, _, 2, .str n', rfl, rfl, SqT.of ha, atI_nat (j := 2) rfl, fun x dx hx hdx hne => ?_⟩
      refine ⟨x, dx, _, _, rfl, upd_same, fun H' e => ⟨rfl, ?_⟩⟩
      subst e
      exact q x _ (made hx hdx hne) ⟨x, dx, rfl, upd_same⟩
    | many p =>
      obtain ⟨a', b, e, ha, hp⟩ := hT
      cases e
      have hd' : p.deep ≤ n := Nat.le_of_succ_le_succ hd
      have hz' : p.sz + 1 ≤ 1000 := hz
      refine if_tagF rfl ha (by decide +kernel) (if_tagF rfl ha (by decide +kernel) (if_tagT rfl ha (by decide +kernel) ?_))
      refine ⟨_, rfl, a, _, 1, .ref b, rfl, rfl, SqT.of ha, atI_nat (j := 1) rfl, b, p, rfl, hp, ok.2, by omega, hd', ?_, fun c H' S hS x dx hx hdx hne => ?_⟩
      · have := deep_pos ok.2
        omega
      refine ⟨x, dx, _, rfl, upd_same, fun H2 e => ⟨rfl, ?_⟩⟩
      subst e
      exact q x _ (S.trans (made hx hdx hne)) ⟨x, dx, c, rfl, upd_same, hS.imm (Same.imm (made hx hdx hne))⟩
    | some p =>
      obtain ⟨a', b, e, ha, hp⟩ := hT
      cases e
      have hd' : p.deep ≤ n := Nat.le_of_succ_le_succ hd
      have hz' : p.sz + 1 ≤ 1000 := hz
      refine if_tagF rfl ha (by decide +kernel) (if_tagF rfl ha (by decide +kernel) (if_tagF rfl ha (by decide +kernel) (if_tagT rfl ha (by decide +kernel) ?_)))
      refine ⟨_, rfl, a, _, 1, .ref b, rfl, rfl, SqT.of ha, atI_nat (j := 1) rfl, b, p, rfl, hp, ok.2, by omega, hd', ?_, fun c H' S hS x dx hx hdx hne => ?_⟩
      · have := deep_pos ok.2
        omega
      refine ⟨x, dx, _, rfl, upd_same, fun H2 e => ⟨rfl, ?_⟩⟩
      subst e
      exact q x _ (S.trans (made hx hdx hne)) ⟨x, dx, c, rfl, upd_same, hS.imm (Same.imm (made hx hdx hne))⟩
    | maybe p =>
      obtain ⟨a', b, e, ha, hp⟩ := hT
      cases e
      have hd' : p.deep ≤ n := Nat.le_of_succ_le_succ hd
      have hz' : p.sz + 1 ≤ 1000 := hz
      refine if_tagF rfl ha (by decide +kernel) (if_tagF rfl ha (by decide +kernel) (if_tagF rfl ha (by decide +kernel) (if_tagF rfl ha (by decide +kernel) (if_tagT rfl ha (by decide +kernel) ?_))))
      refine ⟨_, rfl, a, _, 1, .ref b, rfl, rfl, SqT.of ha, atI_nat (j := 1) rfl, b, p, rfl, hp, ok.2, by omega, hd', ?_, fun c H' S hS x dx hx hdx hne => ?_⟩
      · have := deep_pos ok.2
        omega
      refine ⟨x, dx, _, rfl, upd_same, fun H2 e => ⟨rfl, ?_⟩⟩
      subst e
      exact q x _ (S.trans (made hx hdx hne)) ⟨x, dx, c, rfl, upd_same, hS.imm (Same.imm (made hx hdx hne))⟩
    | chain ps =>
      obtain ⟨a', t, us, e, ha, ht, hP⟩ := hT
      cases e
      have hd' : ps.deep ≤ n := Nat.le_of_succ_le_succ hd
      have hz' : ps.sz + 1 ≤ 1000 := hz
      have pos : 0 < n := Nat.lt_of_lt_of_le (deepT_pos ok.2.1 ok.2.2) hd'
      refine if_tagF rfl ha (by decide +kernel) (if_tagF rfl ha (by decide +kernel) (if_tagF rfl ha (by decide +kernel) (if_tagF rfl ha (by decide +kernel) (if_tagF rfl ha (by decide +kernel) ?_))))
      refine parts ps t us _ _ ha ht hP ok.2.1 (by omega) hd' pos fun l H' vs S hl hS => ?_
      refine if_tagT rfl (S _ _ ha) (by decide +kernel) ?_
      refine ⟨_, rfl, fun x dx hx hdx hne => ?_⟩
      refine ⟨x, dx, _, rfl, upd_same, fun H2 e => ⟨rfl, ?_⟩⟩
      subst e
      have S2 := made (C := ca K "Chain") (fs := fParts (.ref l)) hx hdx hne
      exact q x _ (S.trans S2) ⟨x, dx, l, vs, rfl, upd_same, S2 _ _ hl, hS.imm (Same.imm S2)⟩
    | either ps =>
      obtain ⟨a', t, us, e, ha, ht, hP⟩ := hT
      cases e
      have hd' : ps.deep ≤ n := Nat.le_of_succ_le_succ hd
      have hz' : ps.sz + 1 ≤ 1000 := hz
      have pos : 0 < n := Nat.lt_of_lt_of_le (deepT_pos ok.2.1 ok.2.2) hd'
      refine if_tagF rfl ha (by decide +kernel) (if_tagF rfl ha (by decide +kernel) (if_tagF rfl ha (by decide +kernel) (if_tagF rfl ha (by decide +kernel) (if_tagF rfl ha (by decide +kernel) ?_))))
      refine parts ps t us _ _ ha ht hP ok.2.1 (by omega) hd' pos fun l H' vs S hl hS => ?_
      refine if_tagF rfl (S _ _ ha) (by decide +kernel) ?_
      refine ⟨_, rfl, fun x dx hx hdx hne => ?_⟩
      refine ⟨x, dx, _, rfl, upd_same, fun H2 e => ⟨rfl, ?_⟩⟩
      subst e
      have S2 := made (C := ca K "Either") (fs := fParts (.ref l)) hx hdx hne
      exact q x _ (S.trans S2) ⟨x, dx, l, vs, rfl, upd_same, S2 _ _ hl, hS.imm (Same.imm S2)⟩
    | nil => cases ok
    | cons p ps => cases ok.1
theorem ok_made (T : Tx K mg) : ∀ n : Nat, FO P w K mg base (n + 2) (ca K "_law_shape_made") pShapeMade (spMade K n)
  | 0 => fo_none fun vs H Q E ⟨_, _, _, _, _, _, _, h, _⟩ => absurd h (Nat.lt_irrefl _)
  | n + 1 => made_step T (ok_made T n)
end
end K17
end PartK17E2
section PartK17E3
set_option Elab.async false
set_option linter.all false
set_option maxRecDepth 100000
set_option maxHeartbeats 4000000
/-! inner and trees of shapes; what isinstance answers. -/
namespace K17
open PySem PySem.Spec PyProof.Rows L2
/-! ### the parts -/
def Sh.kids : Sh → Sh
  | .many p => .cons p .nil
  | .some p => .cons p .nil
  | .maybe p => .cons p .nil
  | .chain ps => ps
  | .either ps => ps
  | _ => .nil
/-- the Trees of a shape, in the order of the text -/
def Sh.lvs : Sh → List (Option Str × Str)
  | .nothing => []
  | .tree w n => [(w, n)]
  | .many p => p.lvs
  | .some p => p.lvs
  | .maybe p => p.lvs
  | .chain ps => ps.lvs
  | .either ps => ps.lvs
  | .nil => []
  | .cons p ps => p.lvs ++ ps.lvs
theorem lvs_len : ∀ s : Sh, s.lvs.length = s.trees
  | .nothing => rfl
  | .tree w n => rfl
  | .many p => lvs_len p
  | .some p => lvs_len p
  | .maybe p => lvs_len p
  | .chain ps => lvs_len ps
  | .either ps => lvs_len ps
  | .nil => rfl
  | .cons p ps => by
    show (p.lvs ++ ps.lvs).length = p.trees + ps.trees
    rw [List.length_append, lvs_len p, lvs_len ps]
theorem lvs_kids {s : Sh} (nt : ∀ w n, s ≠ .tree w n) (ok : s.ok false) : s.kids.lvs = s.lvs := by
  cases s with
  | tree w n => exact absurd rfl (nt w n)
  | many p => exact List.append_nil _
  | some p => exact List.append_nil _
  | maybe p => exact List.append_nil _
  | cons p ps => cases ok.1
  | _ => rfl
theorem lvs_all {P : Option Str → Str → Prop} : ∀ {s : Sh}, s.all P → ∀ x ∈ s.lvs, P x.1 x.2
  | .nothing, _, x, h => by cases h
  | .tree w n, q, x, h => by
    rw [List.mem_singleton.mp h]
    exact q
  | .many p, q, x, h => lvs_all (s := p) q x h
  | .some p, q, x, h => lvs_all (s := p) q x h
  | .maybe p, q, x, h => lvs_all (s := p) q x h
  | .chain p, q, x, h => lvs_all (s := p) q x h
  | .either p, q, x, h => lvs_all (s := p) q x h
  | .nil, _, x, h => by cases h
  | .cons p ps, q, x, h => by
    rcases List.mem_append.mp h with z | z
    · exact lvs_all (s := p) q.1 x z
    · exact lvs_all (s := ps) q.2 x z
def LfAt (K : PySem.W.Frag) (H : Hp) : List V → List (Option Str × Str) → Prop := Paired fun v x => ∃ a dx : Addr, v = .ref a ∧ H a = some (.ins (ca K "Tree") dx (fTree (wV x.1) (.str x.2)))
theorem LfAt.imm {K : PySem.W.Frag} {H H' : Hp} (m : Imm H H') : ∀ {vs : List V} {ls : List (Option Str × Str)}, LfAt K H vs ls → LfAt K H' vs ls
  | _, _, .nil => .nil
  | _, _, .cons ⟨a, dx, e, h⟩ t => .cons ⟨a, dx, e, m.2 _ _ _ _ h⟩ (LfAt.imm m t)
theorem LfAt.app {K : PySem.W.Frag} {H : Hp} : ∀ {vs ws : List V} {ls ms : List (Option Str × Str)}, LfAt K H vs ls → LfAt K H ws ms → LfAt K H (vs ++ ws) (ls ++ ms)
  | _, _, _, _, .nil, h => h
  | _, _, _, _, .cons r t, h => .cons r (LfAt.app t h)
theorem LfAt.len {K : PySem.W.Frag} {H : Hp} {vs : List V} {ls : List (Option Str × Str)} (h : LfAt K H vs ls) : vs.length = ls.length := Paired.length h
theorem kids_ok {s : Sh} (ok : s.ok false) : s.kids.ok true := by
  cases s with
  | nothing => rfl
  | tree w n => rfl
  | many p => exact ⟨rfl, ok.2, rfl⟩
  | some p => exact ⟨rfl, ok.2, rfl⟩
  | maybe p => exact ⟨rfl, ok.2, rfl⟩
  | chain ps => exact ok.2.1
  | either ps => exact ok.2.1
  | nil => rfl
  | cons p ps => cases ok.1
theorem kids_deep {s : Sh} (ok : s.ok false) : s.kids.deep + 1 ≤ s.deep := by
  cases s with
  | nothing => exact Nat.le_refl _
  | tree w n => exact Nat.le_refl _
  | many p => exact Nat.le_of_eq (by simp [Sh.kids, Sh.deep])
  | some p => exact Nat.le_of_eq (by simp [Sh.kids, Sh.deep])
  | maybe p => exact Nat.le_of_eq (by simp [Sh.kids, Sh.deep])
  | chain ps => exact Nat.le_refl _
  | either ps => exact Nat.le_refl _
  | nil => cases ok
  | cons p ps => cases ok.1
theorem kids_sz {s : Sh} (ok : s.ok false) : s.kids.sz ≤ s.sz := by
  cases s <;> simp [Sh.kids, Sh.sz]
theorem lvs_take {s : Sh} : ∀ {k : Nat} {p : Sh}, s.part k = Option.some p → (s.takeP (k + 1)).lvs = (s.takeP k).lvs ++ p.lvs := by
  induction s with
  | cons p ps _ ih =>
    intro k p' h
    cases k with
    | zero =>
      cases h
      show p.lvs ++ (ps.takeP 0).lvs = (Sh.takeP 0 (.cons p ps)).lvs ++ p.lvs
      have e : ps.takeP 0 = .nil := by cases ps <;> rfl
      rw [e]
      exact List.append_nil _
    | succ k =>
      show p.lvs ++ (ps.takeP (k + 1)).lvs = (p.lvs ++ (ps.takeP k).lvs) ++ p'.lvs
      rw [ih h, List.append_assoc]
  | _ => intro k p h; cases k <;> cases h
theorem part_lvs {s : Sh} : ∀ {k : Nat} {p : Sh}, s.part k = Option.some p → (s.takeP k).lvs.length + p.lvs.length ≤ s.lvs.length := by
  induction s with
  | cons p ps _ ih =>
    intro k p' h
    cases k with
    | zero =>
      cases h
      show 0 + p.lvs.length ≤ (p.lvs ++ ps.lvs).length
      rw [List.length_append]
      omega
    | succ k =>
      have z := ih (k := k) (p := p') h
      show (p.lvs ++ (ps.takeP k).lvs).length + p'.lvs.length ≤ (p.lvs ++ ps.lvs).length
      rw [List.length_append, List.length_append]
      omega
  | _ => intro k p h; cases k <;> cases h
section
variable {K : PySem.W.Frag} {H : Hp}
theorem SAt.ins2 : ∀ {s : Sh} {a : Addr}, s.ok false → SAt K H s [.ref a] → ∃ dx fs, H a = some (.ins (ca K s.cls) dx fs) ∧ fs.lookup ("trees" : Str) = none ∧ fs.lookup ("inner" : Str) = none
  | .nothing, _, _, ⟨a, dx, e, h⟩ => by cases e; exact ⟨_, _, h, rfl, rfl⟩
  | .tree w n, _, _, ⟨a, dx, e, h⟩ => by cases e; exact ⟨_, _, h, rfl, rfl⟩
  | .many p, _, _, ⟨a, dx, b, e, h, q⟩ => by cases e; exact ⟨_, _, h, rfl, rfl⟩
  | .some p, _, _, ⟨a, dx, b, e, h, q⟩ => by cases e; exact ⟨_, _, h, rfl, rfl⟩
  | .maybe p, _, _, ⟨a, dx, b, e, h, q⟩ => by cases e; exact ⟨_, _, h, rfl, rfl⟩
  | .chain ps, _, _, ⟨a, dx, t, us, e, h, h2, q⟩ => by cases e; exact ⟨_, _, h, rfl, rfl⟩
  | .either ps, _, _, ⟨a, dx, t, us, e, h, h2, q⟩ => by cases e; exact ⟨_, _, h, rfl, rfl⟩
end
/-! ### what isinstance answers -/
section
variable {K : PySem.W.Frag} {mg : Str → Option Value}
theorem sh_cls (T : Tx K mg) : ∀ {s : Sh}, s.ok false → Cls K (ca K s.cls)
  | .nothing, _ => T.c_Nothing
  | .tree _ _, _ => T.c_Tree
  | .many _, _ => T.c_Many
  | .some _, _ => T.c_Some
  | .maybe _, _ => T.c_Maybe
  | .chain _, _ => T.c_Chain
  | .either _, _ => T.c_Either
theorem sh_ty (T : Tx K mg) : ∀ {s : Sh}, s.ok false → TyC K s.cls
  | .nothing, _ => T.ty_Nothing
  | .tree _ _, _ => T.ty_Tree
  | .many _, _ => T.ty_Many
  | .some _, _ => T.ty_Some
  | .maybe _, _ => T.ty_Maybe
  | .chain _, _ => T.ty_Chain
  | .either _, _ => T.ty_Either
theorem sh_tyx (T : Tx K mg) {s : Sh} {H : Hp} {a dx : Addr} {fs : List (Str × V)} (ok : s.ok false) (h : H a = some (.ins (ca K s.cls) dx fs)) : TyX K H (.ref a) (.ref (ca K s.cls)) :=
  .base (.ins h (sh_cls T ok) (sh_ty T ok).ha T.hn T.htk (sh_ty T ok).hm)
theorem kit_nothing (T : Tx K mg) : ∀ {s : Sh}, s.ok false → PySem.W.kitOne K (.ref (ca K s.cls)) (.ref (ca K "Nothing")) = some (decide (s.cd = 0))
  | .nothing, _ => T.kit_Nothing_Nothing
  | .tree _ _, _ => T.kit_Tree_Nothing
  | .many _, _ => T.kit_Many_Nothing
  | .some _, _ => T.kit_Some_Nothing
  | .maybe _, _ => T.kit_Maybe_Nothing
  | .chain _, _ => T.kit_Chain_Nothing
  | .either _, _ => T.kit_Either_Nothing
theorem kit_tree (T : Tx K mg) : ∀ {s : Sh}, s.ok false → PySem.W.kitOne K (.ref (ca K s.cls)) (.ref (ca K "Tree")) = some (decide (s.cd = 1))
  | .nothing, _ => T.kit_Nothing_Tree
  | .tree _ _, _ => T.kit_Tree_Tree
  | .many _, _ => T.kit_Many_Tree
  | .some _, _ => T.kit_Some_Tree
  | .maybe _, _ => T.kit_Maybe_Tree
  | .chain _, _ => T.kit_Chain_Tree
  | .either _, _ => T.kit_Either_Tree
theorem kit_many (T : Tx K mg) : ∀ {s : Sh}, s.ok false → PySem.W.kitOne K (.ref (ca K s.cls)) (.ref (ca K "Many")) = some (decide (s.cd = 2))
  | .nothing, _ => T.kit_Nothing_Many
  | .tree _ _, _ => T.kit_Tree_Many
  | .many _, _ => T.kit_Many_Many
  | .some _, _ => T.kit_Some_Many
  | .maybe _, _ => T.kit_Maybe_Many
  | .chain _, _ => T.kit_Chain_Many
  | .either _, _ => T.kit_Either_Many
theorem kit_some (T : Tx K mg) : ∀ {s : Sh}, s.ok false → PySem.W.kitOne K (.ref (ca K s.cls)) (.ref (ca K "Some")) = some (decide (s.cd = 3))
  | .nothing, _ => T.kit_Nothing_Some
  | .tree _ _, _ => T.kit_Tree_Some
  | .many _, _ => T.kit_Many_Some
  | .some _, _ => T.kit_Some_Some
  | .maybe _, _ => T.kit_Maybe_Some
  | .chain _, _ => T.kit_Chain_Some
  | .either _, _ => T.kit_Either_Some
theorem kit_maybe (T : Tx K mg) : ∀ {s : Sh}, s.ok false → PySem.W.kitOne K (.ref (ca K s.cls)) (.ref (ca K "Maybe")) = some (decide (s.cd = 4))
  | .nothing, _ => T.kit_Nothing_Maybe
  | .tree _ _, _ => T.kit_Tree_Maybe
  | .many _, _ => T.kit_Many_Maybe
  | .some _, _ => T.kit_Some_Maybe
  | .maybe _, _ => T.kit_Maybe_Maybe
  | .chain _, _ => T.kit_Chain_Maybe
  | .either _, _ => T.kit_Either_Maybe
theorem kit_chain (T : Tx K mg) : ∀ {s : Sh}, s.ok false → PySem.W.kitOne K (.ref (ca K s.cls)) (.ref (ca K "Chain")) = some (decide (s.cd = 5))
  | .nothing, _ => T.kit_Nothing_Chain
  | .tree _ _, _ => T.kit_Tree_Chain
  | .many _, _ => T.kit_Many_Chain
  | .some _, _ => T.kit_Some_Chain
  | .maybe _, _ => T.kit_Maybe_Chain
  | .chain _, _ => T.kit_Chain_Chain
  | .either _, _ => T.kit_Either_Chain
theorem kit_either (T : Tx K mg) : ∀ {s : Sh}, s.ok false → PySem.W.kitOne K (.ref (ca K s.cls)) (.ref (ca K "Either")) = some (decide (s.cd = 6))
  | .nothing, _ => T.kit_Nothing_Either
  | .tree _ _, _ => T.kit_Tree_Either
  | .many _, _ => T.kit_Many_Either
  | .some _, _ => T.kit_Some_Either
  | .maybe _, _ => T.kit_Maybe_Either
  | .chain _, _ => T.kit_Chain_Either
  | .either _, _ => T.kit_Either_Either
theorem sh_trees (T : Tx K mg) : ∀ {s : Sh}, s.ok false → Meth K (ca K s.cls) "trees" (me K s.cls "trees")
  | .nothing, _ => T.m_Nothing_trees
  | .tree _ _, _ => T.m_Tree_trees
  | .many _, _ => T.m_Many_trees
  | .some _, _ => T.m_Some_trees
  | .maybe _, _ => T.m_Maybe_trees
  | .chain _, _ => T.m_Chain_trees
  | .either _, _ => T.m_Either_trees
theorem sh_btrees (T : Tx K mg) : ∀ {s : Sh}, s.ok false → Binds K (fdOf K (me K s.cls "trees")) ["self"] []
  | .nothing, _ => bd_Nothing_trees T
  | .tree _ _, _ => bd_Tree_trees T
  | .many _, _ => bd_Many_trees T
  | .some _, _ => bd_Some_trees T
  | .maybe _, _ => bd_Maybe_trees T
  | .chain _, _ => bd_Chain_trees T
  | .either _, _ => bd_Either_trees T
end
/-! ### inner -/
def spInner0 : Sp := fun vs H Q _ => ∃ x, vs = [x] ∧ ∀ t, H t = none → Q (.ref t) (upd H t (.tup []))
def spInnerJ (K : PySem.W.Frag) : Sp := fun vs H Q _ => ∃ (a C dx : Addr) (v : V), vs = [.ref a] ∧ H a = some (.ins C dx (fParts v)) ∧ Cls K C ∧ NoAttr K C "parts" ∧ Q v H
def spInnerS (K : PySem.W.Frag) : Sp := fun vs H Q _ => ∃ (a C dx : Addr) (v : V), vs = [.ref a] ∧ H a = some (.ins C dx (fPart v)) ∧ Cls K C ∧ NoAttr K C "part" ∧ ∀ t, H t = none → Q (.ref t) (upd H t (.tup [v]))
section
variable {P : Program} {w : World} {K : PySem.W.Frag} {mg : Str → Option Value} {base : Heap}
theorem inner0 {f : Addr} {q : Str} (F : FD K "inner" q sShapeInner f) : FO P w K mg base 1 f pShapeInner spInner0 := by
  refine F.ok0 scShapeInner (fun vs H Q E h => ?_) (fun cdv A outer s H vs Q E hr h => ?_)
  · obtain ⟨x, rfl, _⟩ := h
    rfl
  · obtain ⟨x, rfl, q⟩ := h
    exact ⟨_, pss_one (ps_ret (pe_tup pa_nil)), Nat.zero_le _, q⟩
theorem innerJ {f : Addr} {q : Str} (F : FD K "inner" q sJoinedInner f) : FO P w K mg base 1 f pJoinedInner (spInnerJ K) := by
  refine F.ok0 scJoinedInner (fun vs H Q E h => ?_) (fun cdv A outer s H vs Q E hr h => ?_)
  · obtain ⟨a, C, dx, v, rfl, _⟩ := h
    rfl
  · obtain ⟨a, C, dx, v, rfl, ha, hc, hn, q⟩ := h
    exact ⟨_, pss_one (ps_ret (pe_fld (pv 0) rfl)), _, rfl, a, C, dx, _, v, rfl, ha, hc, hn, lk_hd, q⟩
theorem innerS {f : Addr} {q : Str} (F : FD K "inner" q sSignedInner f) : FO P w K mg base 1 f pSignedInner (spInnerS K) := by
  refine F.ok0 scSignedInner (fun vs H Q E h => ?_) (fun cdv A outer s H vs Q E hr h => ?_)
  · obtain ⟨a, C, dx, v, rfl, _⟩ := h
    rfl
  · obtain ⟨a, C, dx, v, rfl, ha, hc, hn, q⟩ := h
    exact ⟨_, pss_one (ps_ret (pe_tup (pa_cons (pe_fld (pv 0) rfl) pa_nil))), _, rfl, a, C, dx, _, v, rfl, ha, hc, hn, lk_hd, (by show 1 ≤ sizeLine; decide), q⟩
end
section
variable {X : Cx}
theorem rd_inner (T : Tx X.K X.mg) {k : Nat} (hk : 1 ≤ k) {i : Nat} {σ : L2.St} {H : Hp} {Q : VK} {a : Addr} {s : Sh} (e : σ[i]? = some (some (.ref a))) (h : SAt X.K H s [.ref a]) (ok : s.ok false) (nt : ∀ w n, s ≠ .tree w n)
    (q : ∀ t us H', Same H H' → H' t = some (.tup us) → SAt X.K H' s.kids us → Q (.ref t) H') : tMethA X k "inner" (tVar i) tNil σ H Q := by
  refine ⟨_, e, ?_⟩
  have sg1 : ∀ {C dx b g : Addr} {p : Sh}, H a = some (.ins C dx (fPart (.ref b))) → SAt X.K H p [.ref b] → Cls X.K C → NoAttr X.K C "part" → Meth X.K C "inner" g → FD X.K "inner" "Signed.inner" sSignedInner g → Binds X.K (fdOf X.K g) ["self"] [] →
      s.kids = .cons p .nil → ∃ (C f : Addr) (fd : FuncData) (ps : List Str) (sp : Sp) (a' dx : Addr) (fs : List (Str × V)), V.ref a = .ref a' ∧ H a' = some (.ins C dx fs) ∧ Cls X.K C ∧ Meth X.K C "inner" f ∧ FnOk X.prog X.w X.K X.mg X.base CX0 k f fd ps sp ∧ Binds X.K fd ps [] ∧ fs.lookup ("inner" : Str) = none ∧ tNil σ H fun vs H2 => sp (V.ref a :: vs) H2 Q E0 := by
    intro C dx b g p ha hp hc hn hm F hb ek
    refine ⟨C, g, _, _, _, a, dx, _, rfl, ha, hc, hm, (innerS F).mono hk, hb, rfl, a, C, dx, _, rfl, ha, hc, hn, fun t ht => ?_⟩
    have S : Same H (upd H t (.tup [.ref b])) := same_new ht _
    refine q t _ _ S upd_same ?_
    rw [ek]
    exact ⟨b, [], rfl, hp.imm (Same.imm S), rfl⟩
  have jn1 : ∀ {C dx t g : Addr} {us : List V} {ps : Sh}, H a = some (.ins C dx (fParts (.ref t))) → H t = some (.tup us) → SAt X.K H ps us → Cls X.K C → NoAttr X.K C "parts" → Meth X.K C "inner" g → FD X.K "inner" "Joined.inner" sJoinedInner g → Binds X.K (fdOf X.K g) ["self"] [] →
      s.kids = ps → ∃ (C f : Addr) (fd : FuncData) (ps : List Str) (sp : Sp) (a' dx : Addr) (fs : List (Str × V)), V.ref a = .ref a' ∧ H a' = some (.ins C dx fs) ∧ Cls X.K C ∧ Meth X.K C "inner" f ∧ FnOk X.prog X.w X.K X.mg X.base CX0 k f fd ps sp ∧ Binds X.K fd ps [] ∧ fs.lookup ("inner" : Str) = none ∧ tNil σ H fun vs H2 => sp (V.ref a :: vs) H2 Q E0 := by
    intro C dx t g us ps ha ht hp hc hn hm F hb ek
    refine ⟨C, g, _, _, _, a, dx, _, rfl, ha, hc, hm, (innerJ F).mono hk, hb, rfl, a, C, dx, _, rfl, ha, hc, hn, ?_⟩
    refine q t us H (fun _ _ z => z) ht ?_
    rw [ek]
    exact hp
  cases s with
  | nothing =>
    obtain ⟨a', dx, e', ha⟩ := h
    cases e'
    refine ⟨_, _, _, _, _, a, dx, _, rfl, ha, T.c_Nothing, T.m_Nothing_inner, (inner0 T.d_Nothing_inner).mono hk, bd_Nothing_inner T, rfl, _, rfl, fun t ht => q t _ _ (same_new ht _) upd_same rfl⟩
  | tree w n => exact absurd rfl (nt w n)
  | many p =>
    obtain ⟨a', dx, b, e', ha, hp⟩ := h
    cases e'
    exact sg1 ha hp T.c_Many T.n_Many_part T.m_Many_inner T.d_Many_inner (bd_Many_inner T) rfl
  | some p =>
    obtain ⟨a', dx, b, e', ha, hp⟩ := h
    cases e'
    exact sg1 ha hp T.c_Some T.n_Some_part T.m_Some_inner T.d_Some_inner (bd_Some_inner T) rfl
  | maybe p =>
    obtain ⟨a', dx, b, e', ha, hp⟩ := h
    cases e'
    exact sg1 ha hp T.c_Maybe T.n_Maybe_part T.m_Maybe_inner T.d_Maybe_inner (bd_Maybe_inner T) rfl
  | chain ps =>
    obtain ⟨a', dx, t, us, e', ha, ht, hp⟩ := h
    cases e'
    exact jn1 ha ht hp T.c_Chain T.n_Chain_parts T.m_Chain_inner T.d_Chain_inner (bd_Chain_inner T) rfl
  | either ps =>
    obtain ⟨a', dx, t, us, e', ha, ht, hp⟩ := h
    cases e'
    exact jn1 ha ht hp T.c_Either T.n_Either_parts T.m_Either_inner T.d_Either_inner (bd_Either_inner T) rfl
  | nil => cases ok
  | cons p ps => cases ok.1
end
/-! ### trees -/
def spTr (K : PySem.W.Frag) (c : Str) (n : Nat) : Sp := fun vs H Q _ => ∃ (a : Addr) (s : Sh), vs = [.ref a] ∧ s.cls = c ∧ SAt K H s [.ref a] ∧ s.ok false ∧ s.sz ≤ 1000 ∧ s.lvs.length ≤ 1000 ∧ s.deep ≤ n ∧
  ∀ (p : Addr) (xs : List V) (H' : Hp), Same H H' → H p = none → H' p = some (.lst xs) → LfAt K H' xs s.lvs → Q (.ref p) H'
abbrev TrG (P : Program) (w : World) (K : PySem.W.Frag) (mg : Str → Option Value) (base : Heap) (n : Nat) : Prop := ∀ s : Sh, s.ok false → FO P w K mg base (n + 1) (me K s.cls "trees") ["self"] (spTr K s.cls n)
theorem rd_trees {X : Cx} (T : Tx X.K X.mg) {n : Nat} (G : TrG X.prog X.w X.K X.mg X.base n) {σ : L2.St} {H : Hp} {Q : VK} {a : Addr} {s : Sh} {ta : TE} (e : ta σ H fun x H1 => x = .ref a ∧ H1 = H) (mono : ∀ {R R' : VK}, (∀ v H, R v H → R' v H) → ta σ H R → ta σ H R') (h : SAt X.K H s [.ref a]) (ok : s.ok false) (hz : s.sz ≤ 1000) (hl : s.lvs.length ≤ 1000) (hd : s.deep ≤ n)
    (q : ∀ (p : Addr) (xs : List V) (H' : Hp), Same H H' → H p = none → H' p = some (.lst xs) → LfAt X.K H' xs s.lvs → Q (.ref p) H') : tMethA X (n + 1) "trees" ta tNil σ H Q := by
  refine mono (fun v H1 z => ?_) e
  obtain ⟨rfl, rfl⟩ := z
  obtain ⟨dx, fs, ha, l1, l2⟩ := h.ins2 ok
  exact ⟨_, _, _, _, _, a, dx, fs, rfl, ha, sh_cls T ok, sh_trees T ok, G s ok, sh_btrees T ok, l1, a, s, rfl, rfl, h, ok, hz, hl, hd, q⟩
section
variable {P : Program} {w : World} {K : PySem.W.Frag} {mg : Str → Option Value} {base : Heap}
theorem trees_step (T : Tx K mg) {n : Nat} (G : TrG P w K mg base n) {c : Str} (hc : c ≠ "Tree") (F : FD K "trees" "Shape.trees" sShapeTrees (me K c "trees")) : FO P w K mg base (n + 2) (me K c "trees") ["self"] (spTr K c (n + 1)) := by
  refine F.ok0 scShapeTrees (fun vs H Q E h => ?_) (fun cdv A outer s H vs Q E hr h => ?_)
  · obtain ⟨a, s, rfl, _⟩ := h
    rfl
  · obtain ⟨a, s, rfl, hcs, hS, ok, hz, hl, hd, q⟩ := h
    have nd := scShapeTrees.nd
    have nt : ∀ w n, s ≠ .tree w n := fun w n z => hc (by rw [← hcs, z]; rfl)
    refine ⟨_, pss_cons (ps_set (i := 1) nd rfl (.inl rfl) (pe_lst pa_nil))
      (pss_cons (ps_for PassesOwn.never rfl (pi_tup (pe_methA0 (k := n + 1) (pv 0) hr)) (pg_name (i := 2) nd rfl (.inl rfl))
        (pss_one (ps_expr (pe_bm PySem.F.plainAttrs_list PySem.F.slot_list_extend PySem.F.type_list_extend mt_extend (pv 1) (pa_cons (pe_methA0 (k := n + 1) (pv 2) hr) pa_nil)))))
      (pss_one (ps_ret (pv 1)))), ?_⟩
    refine ⟨Nat.zero_le _, fun f hf => ?_⟩
    have S0 : Same H (upd H f (.lst [])) := same_new hf _
    refine rd_inner T (Nat.succ_le_succ (Nat.zero_le _)) rfl (hS.imm (Same.imm S0)) ok nt fun t us H1 S1 ht hk => ?_
    refine ⟨t, rfl, ⟨us, SqT.of ht⟩, for_tup (K := K) (a := t) (xs := us) (fun k σ H' => ∃ v2 acc, σ = [some (.ref a), some (.ref f), v2] ∧ Same H H' ∧ Imm H1 H' ∧ H' f = some (.lst acc) ∧ LfAt K H' acc (s.kids.takeP k).lvs)
      ⟨none, [], rfl, S0.trans S1, Imm.refl _, S1 _ _ upd_same, ?_⟩ (fun k σ H' _ ⟨_, _, _, _, I, _⟩ => SqT.of (I.1 _ _ ht)) ?_ ?_⟩
    · have e : (s.kids.takeP 0).lvs = [] := by cases s.kids <;> rfl
      rw [e]
      exact .nil
    · rintro k x σ H' hx ⟨v2, acc, rfl, S, I, hF, hL⟩
      have hk' : k < s.kids.cnt := by
        rw [← SAt.len (kids_ok ok) hk]
        exact (List.getElem?_eq_some_iff.mp hx).1
      obtain ⟨p, hp⟩ := part_some hk'
      obtain ⟨b, g1, g2⟩ := SAt.part hk hp
      rw [hx] at g1
      cases g1
      have z1 := part_sz hp
      have z2 := kids_sz ok
      have z3 := part_lvs hp
      have z4 := lvs_kids nt ok
      have z5 := part_deep hp
      have z6 := kids_deep ok
      refine ⟨_, rfl, .inl ⟨rfl, _, SqL.of hF⟩, ?_⟩
      refine rd_trees T G (ta := tVar 2) (a := b) ⟨_, rfl, rfl, rfl⟩ (fun h ⟨v, e, q⟩ => ⟨v, e, h _ _ q⟩) (g2.imm I) (part_ok (kids_ok ok) hp) (by omega) (by rw [z4] at z3; omega) (by omega) fun l xs H2 S2 hl0 hl1 hx2 => ?_
      have nfl : f ≠ l := fun z => by
        rw [← z, hF] at hl0
        cases hl0
      have z7 := hL.len
      have z8 := hx2.len
      refine ⟨f, l, acc, xs, rfl, rfl, S2 _ _ hF, hl1, ?_, _, acc ++ xs, rfl, ?_, ?_, upd_same, ?_⟩
      · exact Nat.le_of_lt (sl5 (by rw [z4] at z3; omega))
      · intro d o ho
        rw [upd_ne (ne_of_none ho hf)]
        exact S2 _ _ (S _ _ ho)
      · exact I.trans ((Same.imm S2).trans (imm_lst (S2 _ _ hF) _))
      · rw [lvs_take hp]
        exact LfAt.app (hL.imm ((Same.imm S2).trans (imm_lst (S2 _ _ hF) _))) (hx2.imm (imm_lst (S2 _ _ hF) _))
    · rintro σ H' ⟨v2, acc, rfl, S, I, hF, hL⟩
      refine ⟨_, rfl, q f acc H' S hf hF ?_⟩
      have e : us.length = s.kids.cnt := SAt.len (kids_ok ok) hk
      rw [e, take_all (kids_ok ok), lvs_kids nt ok] at hL
      exact hL
theorem trees_tree (T : Tx K mg) {n : Nat} : FO P w K mg base 1 (me K "Tree" "trees") ["self"] (spTr K "Tree" n) := by
  refine T.d_Tree_trees.ok0 scTreeTrees (fun vs H Q E h => ?_) (fun cdv A outer s H vs Q E hr h => ?_)
  · obtain ⟨a, s, rfl, _⟩ := h
    rfl
  · obtain ⟨a, s, rfl, hcs, hS, ok, hz, hl, hd, q⟩ := h
    have ht : ∃ w n, s = .tree w n := by
      cases s with
      | tree w n => exact ⟨w, n, rfl⟩
      | nothing => exact absurd hcs (by decide +kernel)
      | many p => exact absurd hcs (by show ¬ ("Many" : Str) = "Tree"; decide +kernel)
      | some p => exact absurd hcs (by show ¬ ("Some" : Str) = "Tree"; decide +kernel)
      | maybe p => exact absurd hcs (by show ¬ ("Maybe" : Str) = "Tree"; decide +kernel)
      | chain p => exact absurd hcs (by show ¬ ("Chain" : Str) = "Tree"; decide +kernel)
      | either p => exact absurd hcs (by show ¬ ("Either" : Str) = "Tree"; decide +kernel)
      | nil => cases ok
      | cons _ _ => cases ok.1
    obtain ⟨w', n', rfl⟩ := ht
    obtain ⟨a', dx, e', ha⟩ := hS
    cases e'
    refine ⟨_, pss_one (ps_ret (pe_lst (pa_cons (pv 0) pa_nil))), _, rfl, (by show 1 ≤ sizeLine; decide), fun l hl => ?_⟩
    have S : Same H (upd H l (.lst [.ref a])) := same_new hl _
    exact q l _ _ S hl upd_same (.cons ⟨a, dx, rfl, S _ _ ha⟩ .nil)
theorem ok_trees (T : Tx K mg) : ∀ n : Nat, TrG P w K mg base n
  | 0 => fun s ok => fo_none fun vs H Q E ⟨a, s, _, _, _, ok, _, _, h, _⟩ => by
    have := deep_pos ok
    omega
  | n + 1 => fun s ok => by
    have G := ok_trees T n
    cases s with
    | nothing => exact trees_step T G (by show ¬ ("Nothing" : Str) = "Tree"; decide +kernel) T.d_Nothing_trees
    | tree w' n' => exact (trees_tree T).mono (Nat.succ_le_succ (Nat.zero_le _))
    | many p => exact trees_step T G (by show ¬ ("Many" : Str) = "Tree"; decide +kernel) T.d_Many_trees
    | some p => exact trees_step T G (by show ¬ ("Some" : Str) = "Tree"; decide +kernel) T.d_Some_trees
    | maybe p => exact trees_step T G (by show ¬ ("Maybe" : Str) = "Tree"; decide +kernel) T.d_Maybe_trees
    | chain p => exact trees_step T G (by show ¬ ("Chain" : Str) = "Tree"; decide +kernel) T.d_Chain_trees
    | either p => exact trees_step T G (by show ¬ ("Either" : Str) = "Tree"; decide +kernel) T.d_Either_trees
    | nil => cases ok
    | cons _ _ => cases ok.1
end
end K17
end PartK17E3
section PartK17E4
set_option Elab.async false
set_option linter.all false
set_option maxRecDepth 100000
set_option maxHeartbeats 4000000
/-! is_shape. -/
namespace K17
open PySem PySem.Spec PyProof.Rows L2
/-- names and words of Trees are names -/
def NS (s : Sh) : Prop := s.all fun w n => (∀ x, w = some x → Nm x) ∧ Nm n
def spIsSh (K : PySem.W.Frag) (n : Nat) : Sp := fun vs H Q _ => ∃ (a : Addr) (s : Sh) (r : Nat), vs = [.ref a, .int (r : Int)] ∧ SAt K H s [.ref a] ∧ s.ok false ∧ s.sz ≤ 1000 ∧ NS s ∧ s.deep ≤ n ∧ s.deep ≤ r ∧ ∀ H', Same H H' → Q (.bl true) H'
def rLenS (K : PySem.W.Frag) : List V → Hp → VK → Prop := fun xs H Q => ∃ p ys, xs = [.ref p] ∧ (SqL K H p ys ∨ SqT K H p ys) ∧ Q (.int ys.length) H
theorem call_lenS {X : Cx} : CallR X (.builtin "len") (rLenS X.K) := call_len_seq
theorem rd_isi {K : PySem.W.Frag} {σ : L2.St} {H : Hp} {Q : Bool → Hp → Prop} {i : Nat} {a C : Addr} {t : Value} {b : Bool} (e : σ[i]? = some (some (.ref a))) (ty : TyX K H (.ref a) t) (k : PySem.W.kitOne K t (.ref C) = some b) (q : Q b H) :
    tB (tCB (rIsi K) (tCons (tVar i) (tCons (tC (.ref C)) tNil))) σ H Q := ⟨_, e, _, _, _, _, _, rfl, .own _, ty, k, _, rfl, q⟩
theorem rd_isi2 {K : PySem.W.Frag} {σ : L2.St} {H : Hp} {Q : Bool → Hp → Prop} {i : Nat} {a C D dx : Addr} {fs : List (Str × V)} {c : Str} {b d : Bool} (e : σ[i]? = some (some (.ref a))) (ha : H a = some (.ins (ca K c) dx fs)) (ty : ∀ H', H' a = some (.ins (ca K c) dx fs) → TyX K H' (.ref a) (.ref (ca K c))) (k : PySem.W.kitOne K (.ref (ca K c)) (.ref C) = some b)
    (k2 : PySem.W.kitOne K (.ref (ca K c)) (.ref D) = some d) (q : ∀ H', Same H H' → Q (b || d) H') :
    tB (tCB (rIsiT K) (tCons (tVar i) (tCons (tTup (tCons (tC (.ref C)) (tCons (tC (.ref D)) tNil))) tNil))) σ H Q := by
  refine ⟨_, e, (by show 2 ≤ sizeLine; decide), fun p hp => ?_⟩
  have S := same_new hp (.tup [.ref C, .ref D])
  refine ⟨_, p, _, _, _, (b || d), rfl, upd_same, .cons (.own _) (.cons (.own _) .nil), ty _ (S _ _ ha), ?_, _, rfl, q _ S⟩
  exact kitAny_cons k (fun h => by rw [h]; exact kitAny_cons k2 (fun h2 => by rw [h2]; exact kitAny_nil) (fun h2 => by rw [h2]; rfl)) (fun h => by rw [h]; rfl)
theorem rd_isi3 {K : PySem.W.Frag} {σ : L2.St} {H : Hp} {Q : Bool → Hp → Prop} {i : Nat} {a C D E dx : Addr} {fs : List (Str × V)} {c : Str} {b d f : Bool} (e : σ[i]? = some (some (.ref a))) (ha : H a = some (.ins (ca K c) dx fs)) (ty : ∀ H', H' a = some (.ins (ca K c) dx fs) → TyX K H' (.ref a) (.ref (ca K c))) (k : PySem.W.kitOne K (.ref (ca K c)) (.ref C) = some b)
    (k2 : PySem.W.kitOne K (.ref (ca K c)) (.ref D) = some d) (k3 : PySem.W.kitOne K (.ref (ca K c)) (.ref E) = some f) (q : ∀ H', Same H H' → Q (b || (d || f)) H') :
    tB (tCB (rIsiT K) (tCons (tVar i) (tCons (tTup (tCons (tC (.ref C)) (tCons (tC (.ref D)) (tCons (tC (.ref E)) tNil)))) tNil))) σ H Q := by
  refine ⟨_, e, (by show 3 ≤ sizeLine; decide), fun p hp => ?_⟩
  have S := same_new hp (.tup [.ref C, .ref D, .ref E])
  refine ⟨_, p, _, _, _, (b || (d || f)), rfl, upd_same, .cons (.own _) (.cons (.own _) (.cons (.own _) .nil)), ty _ (S _ _ ha), ?_, _, rfl, q _ S⟩
  exact kitAny_cons k (fun h => by rw [h]; exact kitAny_cons k2 (fun h2 => by rw [h2]; exact kitAny_cons k3 (fun h3 => by rw [h3]; exact kitAny_nil) (fun h3 => by rw [h3]; rfl)) (fun h2 => by rw [h2]; rfl)) (fun h => by rw [h]; rfl)
section
variable {P : Program} {w : World} {K : PySem.W.Frag} {mg : Str → Option Value} {base : Heap}
theorem same_two {H : Hp} {p q : Addr} {o u : HO} (hp : H p = none) (hq : upd H p o q = none) : Same H (upd (upd H p o) q u) := Same.trans (same_new hp _) (same_new hq _)
theorem isSh_step (T : Tx K mg) {n : Nat} (G : FO P w K mg base (n + 1) (ca K "is_shape") pIsShape (spIsSh K n)) : FO P w K mg base (n + 2) (ca K "is_shape") pIsShape (spIsSh K (n + 1)) := by
  have N : FO P w K mg base (n + 1) (ca K "is_name") pIsName spName := (ok_name T).mono (Nat.succ_le_succ (Nat.zero_le _))
  refine T.d_is_shape.ok0 scIsShape (fun vs H Q E h => ?_) (fun cdv A outer st H vs Q E hr h => ?_)
  · obtain ⟨a, s, r, rfl, _⟩ := h
    rfl
  · obtain ⟨a, s, r, rfl, hS, ok, hz, hn, hd, hdr, q⟩ := h
    have nd := scIsShape.nd
    refine ⟨_, pss_cons (ps_if (pt_cmpR op_eq (pv 1) pe_int (nomark _)) (pss_one (ps_ret pe_bl)) pss_nil)
      (pss_cons (ps_if (pt_val (pe_callB call_isi (by rfl) T.b_isinstance (by decide +kernel) (pa_cons (pv 0) (pa_cons (pe_glob (v := .ref (ca K "Nothing")) (by rfl) T.g_Nothing rfl) pa_nil)))) (pss_one (ps_ret pe_bl)) pss_nil)
      (pss_cons (ps_if (pt_val (pe_callB call_isi (by rfl) T.b_isinstance (by decide +kernel) (pa_cons (pv 0) (pa_cons (pe_glob (v := .ref (ca K "Tree")) (by rfl) T.g_Tree rfl) pa_nil))))
        (pss_one (ps_ret (pe_and (pe_call N hr rfl T.g_is_name T.d_is_name.kp (bd_is_name T) .nil pass0 (pa_cons (pe_fld (pv 0) rfl) pa_nil))
          (pe_one (pe_or (pe_cmpR op_isN1 (pe_fld (pv 0) rfl) pe_non rfl) (pe_one (pe_call N hr rfl T.g_is_name T.d_is_name.kp (bd_is_name T) .nil pass0 (pa_cons (pe_fld (pv 0) rfl) pa_nil)))))))) pss_nil)
      (pss_cons (ps_if (pt_val (pe_callB call_isiT (by rfl) T.b_isinstance (by decide +kernel) (pa_cons (pv 0) (pa_cons (pe_tup (pa_cons (pe_glob (v := .ref (ca K "Many")) (by rfl) T.g_Many rfl) (pa_cons (pe_glob (v := .ref (ca K "Some")) (by rfl) T.g_Some rfl) (pa_cons (pe_glob (v := .ref (ca K "Maybe")) (by rfl) T.g_Maybe rfl) pa_nil)))) pa_nil))))
        (pss_one (ps_ret (pe_call G hr rfl T.g_is_shape T.d_is_shape.kp (bd_is_shape T) .nil pass0 (pa_cons (pe_fld (pv 0) rfl) (pa_cons (pe_op op_sub (pv 1) pe_int) pa_nil))))) pss_nil)
      (pss_cons (ps_if (PW.pt (pw_or (pt_not (pt_val (pe_callB call_isiT (by rfl) T.b_isinstance (by decide +kernel) (pa_cons (pv 0) (pa_cons (pe_tup (pa_cons (pe_glob (v := .ref (ca K "Chain")) (by rfl) T.g_Chain rfl) (pa_cons (pe_glob (v := .ref (ca K "Either")) (by rfl) T.g_Either rfl) pa_nil))) pa_nil)))))
          (pw_or (pt_not (pt_val (pe_callB call_isi (by rfl) T.b_isinstance (by decide +kernel) (pa_cons (pe_fld (pv 0) rfl) (pa_cons (pe_bltn (v := .ty "tuple") (by rfl) T.b_tuple (by decide +kernel) rfl) pa_nil)))))
          (pw_or1 (pt_cmpR op_lt (pe_callB call_lenS (by rfl) T.b_len PySem.boot_len (pa_cons (pe_fld (pv 0) rfl) pa_nil)) pe_int (nomark _)))))) (pss_one (ps_ret pe_bl)) pss_nil)
      (pss_one (ps_ret (pe_callB (cr_all rfl) (by rfl) T.b_all (by decide +kernel) (pa_cons (pe_lc (own := [("part", 2)]) (g := gName 2) (tt := tYes) (te := tCall (spIsSh K n) [] E0 (tCons (tVar 2) (tCons (tOp (rI0 fun i j => .int (i - j)) (tVar 1) (tC (.int 1))) tNil))) rfl nd (pi_tup (pe_fld (pv 0) rfl)) (blkOk_by (N := nIsShape) (sc := defScope sIsShape) (by decide +kernel))
        (fun _ _ _ _ _ => pg_name (i := 2) nd rfl (.inl rfl) (.inr rfl)) (fun _ _ _ _ _ => pts_nil) (fun _ _ _ _ _ => pe_call G hr rfl T.g_is_shape T.d_is_shape.kp (bd_is_shape T) .nil pass0 (pa_cons (pv 2) (pa_cons (pe_op op_sub (pv 1) pe_int) pa_nil)))) pa_nil)))))))), ?_⟩
    have hp := deep_pos ok
    obtain ⟨dx, fs, ha, _, _⟩ := hS.ins2 ok
    have ty : ∀ H' : Hp, H' a = some (.ins (ca K s.cls) dx fs) → TyX K H' (.ref a) (.ref (ca K s.cls)) := fun H' h => sh_tyx T ok h
    have e0 : decide (V.int (r : Int) = V.int 0) = false := decide_eq_false (fun z => by injection z with z; omega)
    refine ⟨_, rfl, rfl, _, rfl, ?_⟩
    rw [e0]
    refine iteF ?_
    have er : ((r : Int) - 1) = ((r - 1 : Nat) : Int) := by omega
    have er2 : ∀ b : Addr, ([V.ref b, V.int ((r : Int) - 1)] : List V) = [.ref b, .int ((r - 1 : Nat) : Int)] := fun b => by rw [er]
    have parts1 : ∀ (t : Addr) (us : List V) (C : Addr) (H1 : Hp) (Q1 : Bool → Hp → Prop), H1 a = some (.ins C dx (fParts (.ref t))) → Cls K C → NoAttr K C "parts" → H1 t = some (.tup us) → 2 ≤ us.length → Q1 false H1 →
        tOr (tNot (tB (tCB (rIsi K) (tCons (tFld K (tVar 0) "parts") (tCons (tC (.ty "tuple")) tNil))))) (tTest (tOp (rI0 fun i j => .bl (decide (i < j))) (tCB (rLenS K) (tCons (tFld K (tVar 0) "parts") tNil)) (tC (.int 2)))) [some (.ref a), some (.int r), none] H1 Q1 := by
      intro t us C H1 Q1 h1 hc hn ht hl q1
      refine ⟨_, rfl, a, C, dx, _, _, rfl, h1, hc, hn, lk_hd, _, _, _, _, true, rfl, .ty "tuple", .base (.tup ht), kit_ty (by decide +kernel), _, rfl, ?_⟩
      refine iteF ⟨_, rfl, a, C, dx, _, _, rfl, h1, hc, hn, lk_hd, t, us, rfl, .inr (SqT.of ht), _, _, rfl, rfl, _, rfl, ?_⟩
      rw [decide_eq_false (by omega)]
      exact q1
    have parts2 : ∀ (ps : Sh) (t : Addr) (us : List V) (C : Addr) (H1 : Hp), Same H H1 → H1 a = some (.ins C dx (fParts (.ref t))) → Cls K C → NoAttr K C "parts" → H1 t = some (.tup us) → SAt K H1 ps us → ps.ok true → ps.sz ≤ 1000 → ps.deep ≤ n → ps.deep ≤ r - 1 → NS ps →
        tCB (rAll K) (tCons (tLc (iTup K (tFld K (tVar 0) "parts")) (gName 2) tYes (tCall (spIsSh K n) [] E0 (tCons (tVar 2) (tCons (tOp (rI0 fun i j => .int (i - j)) (tVar 1) (tC (.int 1))) tNil))) [2]) tNil) [some (.ref a), some (.int r), none] H1 Q := by
      intro ps t us C H1 S1 h1 hc hn ht hP okp hzp hdp hdr' hns
      refine ⟨_, rfl, a, C, dx, _, _, rfl, h1, hc, hn, lk_hd, t, rfl, ⟨us, SqT.of ht⟩, fun D hD => ?_⟩
      refine lc_tup (K := K) (a := t) (xs := us) (fun k H6 => Same H1 H6 ∧ H6 D = some (.lst ((List.replicate k true).map V.bl))) ⟨same_new hD _, upd_same⟩ (fun k H6 _ ⟨S7, _⟩ => SqT.of (S7 _ _ ht)) ?_ ?_
      · rintro k x H6 hk ⟨S7, hA⟩
        have hk' : k < ps.cnt := by
          rw [← SAt.len okp hP]
          exact (List.getElem?_eq_some_iff.mp hk).1
        obtain ⟨p, hp'⟩ := part_some hk'
        obtain ⟨b, g1, g2⟩ := SAt.part hP hp'
        rw [hk] at g1
        cases g1
        have z1 := part_deep hp'
        have z2 := cnt_sz okp
        refine ⟨rfl, ?_⟩
        dsimp only [tYes]
        rw [if_pos rfl]
        refine ⟨_, rfl, _, rfl, _, _, rfl, rfl, b, p, r - 1, er2 b, SAt.imm (Same.imm S7) g2, part_ok okp hp', Nat.le_trans (part_sz hp') hzp, part_all hns hp', by omega, by omega, fun H7 S8 => ?_⟩
        refine ⟨_, S8 _ _ hA, ?_, fun d o ho => ?_, ?_⟩
        · rw [List.length_map, List.length_replicate]
          exact sl5 (by omega)
        · rw [upd_ne (ne_of_none ho hD)]
          exact S8 _ _ (S7 _ _ ho)
        · rw [upd_same, List.replicate_succ', List.map_append]
          rfl
      · rintro H6 ⟨S7, hA⟩
        refine ⟨D, _, rfl, SqL.of hA, ?_⟩
        have e : (List.replicate us.length true).all id = true := by simp
        rw [e]
        exact q H6 (S1.trans S7)
    cases s with
    | nothing =>
      obtain ⟨a', dx', e', ha'⟩ := hS
      cases e'
      rw [ha] at ha'
      cases ha'
      refine rd_isi rfl (ty _ ha) T.kit_Nothing_Nothing ?_
      exact iteT (q H fun _ _ z => z)
    | tree w' n' =>
      obtain ⟨a', dx', e', ha'⟩ := hS
      cases e'
      rw [ha] at ha'
      cases ha'
      refine rd_isi rfl (ty _ ha) T.kit_Tree_Nothing (iteF ?_)
      refine rd_isi rfl (ty _ ha) T.kit_Tree_Tree (iteT ?_)
      refine ⟨_, rfl, a, _, dx, _, .str n', rfl, ha, T.c_Tree, T.n_Tree_name, rfl, n', rfl, hn.2, _, rfl, iteT ?_⟩
      refine ⟨_, rfl, a, _, dx, _, wV w', rfl, ha, T.c_Tree, T.n_Tree_word, rfl, rfl, _, rfl, ?_⟩
      cases w' with
      | none => exact iteT (q H fun _ _ z => z)
      | some x => exact iteF ⟨_, rfl, a, _, dx, _, .str x, rfl, ha, T.c_Tree, T.n_Tree_word, rfl, x, rfl, hn.1 x rfl, q H fun _ _ z => z⟩
    | many p =>
      obtain ⟨a', dx', b, e', ha', hp'⟩ := hS
      cases e'
      rw [ha] at ha'
      cases ha'
      refine rd_isi rfl (ty _ ha) T.kit_Many_Nothing (iteF ?_)
      refine rd_isi rfl (ty _ ha) T.kit_Many_Tree (iteF ?_)
      refine rd_isi3 rfl ha ty T.kit_Many_Many T.kit_Many_Some T.kit_Many_Maybe fun H1 S1 => iteT ?_
      have hd1 : p.deep + 1 ≤ n + 1 := hd
      have hd2 : p.deep + 1 ≤ r := hdr
      have hz1 : p.sz + 1 ≤ 1000 := hz
      exact ⟨_, rfl, a, _, dx, _, _, rfl, S1 _ _ ha, T.c_Many, T.n_Many_part, lk_hd, _, rfl, _, _, rfl, rfl, b, p, r - 1, er2 b, hp'.imm (Same.imm S1), ok.2, by omega, hn, by omega, by omega, fun H2 S2 => q H2 (S1.trans S2)⟩
    | some p =>
      obtain ⟨a', dx', b, e', ha', hp'⟩ := hS
      cases e'
      rw [ha] at ha'
      cases ha'
      refine rd_isi rfl (ty _ ha) T.kit_Some_Nothing (iteF ?_)
      refine rd_isi rfl (ty _ ha) T.kit_Some_Tree (iteF ?_)
      refine rd_isi3 rfl ha ty T.kit_Some_Many T.kit_Some_Some T.kit_Some_Maybe fun H1 S1 => iteT ?_
      have hd1 : p.deep + 1 ≤ n + 1 := hd
      have hd2 : p.deep + 1 ≤ r := hdr
      have hz1 : p.sz + 1 ≤ 1000 := hz
      exact ⟨_, rfl, a, _, dx, _, _, rfl, S1 _ _ ha, T.c_Some, T.n_Some_part, lk_hd, _, rfl, _, _, rfl, rfl, b, p, r - 1, er2 b, hp'.imm (Same.imm S1), ok.2, by omega, hn, by omega, by omega, fun H2 S2 => q H2 (S1.trans S2)⟩
    | maybe p =>
      obtain ⟨a', dx', b, e', ha', hp'⟩ := hS
      cases e'
      rw [ha] at ha'
      cases ha'
      refine rd_isi rfl (ty _ ha) T.kit_Maybe_Nothing (iteF ?_)
      refine rd_isi rfl (ty _ ha) T.kit_Maybe_Tree (iteF ?_)
      refine rd_isi3 rfl ha ty T.kit_Maybe_Many T.kit_Maybe_Some T.kit_Maybe_Maybe fun H1 S1 => iteT ?_
      have hd1 : p.deep + 1 ≤ n + 1 := hd
      have hd2 : p.deep + 1 ≤ r := hdr
      have hz1 : p.sz + 1 ≤ 1000 := hz
      exact ⟨_, rfl, a, _, dx, _, _, rfl, S1 _ _ ha, T.c_Maybe, T.n_Maybe_part, lk_hd, _, rfl, _, _, rfl, rfl, b, p, r - 1, er2 b, hp'.imm (Same.imm S1), ok.2, by omega, hn, by omega, by omega, fun H2 S2 => q H2 (S1.trans S2)⟩
    | chain ps =>
      obtain ⟨a', dx', t, us, e', ha', ht, hP⟩ := hS
      cases e'
      rw [ha] at ha'
      cases ha'
      have hd1 : ps.deep + 1 ≤ n + 1 := hd
      have hd2 : ps.deep + 1 ≤ r := hdr
      have hz1 : ps.sz + 1 ≤ 1000 := hz
      refine rd_isi rfl (ty _ ha) T.kit_Chain_Nothing (iteF ?_)
      refine rd_isi rfl (ty _ ha) T.kit_Chain_Tree (iteF ?_)
      refine rd_isi3 rfl ha ty T.kit_Chain_Many T.kit_Chain_Some T.kit_Chain_Maybe fun H1 S1 => iteF ?_
      refine rd_isi2 rfl (S1 _ _ ha) ty T.kit_Chain_Chain T.kit_Chain_Either fun H2 S2 => iteF ?_
      have hl := SAt.len ok.2.1 hP
      have S3 := S1.trans S2
      refine parts1 t us _ H2 _ (S3 _ _ ha) T.c_Chain T.n_Chain_parts (S3 _ _ ht) (by rw [hl]; exact ok.2.2) (iteF ?_)
      exact parts2 ps t us _ H2 S3 (S3 _ _ ha) T.c_Chain T.n_Chain_parts (S3 _ _ ht) (hP.imm (Same.imm S3)) ok.2.1 (by omega) (by omega) (by omega) hn
    | either ps =>
      obtain ⟨a', dx', t, us, e', ha', ht, hP⟩ := hS
      cases e'
      rw [ha] at ha'
      cases ha'
      have hd1 : ps.deep + 1 ≤ n + 1 := hd
      have hd2 : ps.deep + 1 ≤ r := hdr
      have hz1 : ps.sz + 1 ≤ 1000 := hz
      refine rd_isi rfl (ty _ ha) T.kit_Either_Nothing (iteF ?_)
      refine rd_isi rfl (ty _ ha) T.kit_Either_Tree (iteF ?_)
      refine rd_isi3 rfl ha ty T.kit_Either_Many T.kit_Either_Some T.kit_Either_Maybe fun H1 S1 => iteF ?_
      refine rd_isi2 rfl (S1 _ _ ha) ty T.kit_Either_Chain T.kit_Either_Either fun H2 S2 => iteF ?_
      have hl := SAt.len ok.2.1 hP
      have S3 := S1.trans S2
      refine parts1 t us _ H2 _ (S3 _ _ ha) T.c_Either T.n_Either_parts (S3 _ _ ht) (by rw [hl]; exact ok.2.2) (iteF ?_)
      exact parts2 ps t us _ H2 S3 (S3 _ _ ha) T.c_Either T.n_Either_parts (S3 _ _ ht) (hP.imm (Same.imm S3)) ok.2.1 (by omega) (by omega) (by omega) hn
    | nil => cases ok
    | cons p ps => cases ok.1
theorem ok_isSh (T : Tx K mg) : ∀ n : Nat, FO P w K mg base (n + 1) (ca K "is_shape") pIsShape (spIsSh K n)
  | 0 => fo_none fun vs H Q E ⟨a, s, _, _, _, ok, _, _, h, _⟩ => by
    have := deep_pos ok
    omega
  | n + 1 => isSh_step T (ok_isSh T n)
end
end K17
end PartK17E4
section PartK17E5
set_option Elab.async false
set_option linter.all false
set_option maxRecDepth 100000
set_option maxHeartbeats 4000000
/-! leans_on and trees of rules; is_rule. -/
namespace K17
open PySem PySem.Spec PyProof.Rows L2
/-! ### a tuple == () -/
def rEqU (K : PySem.W.Frag) : R2 := fun x y H Q => ∃ (a b : Addr) (xs : List V), x = .ref a ∧ y = .ref b ∧ SqT K H a xs ∧ SqT K H b [] ∧ Q (.bl (decide (xs.length = 0))) H
theorem op_eqU {X : Cx} (hu : X.A.units + 64 < cLine) : OpR X (compareOp .Eq) (rEqU X.K) := by
  intro pins s σ H x y v u Q I rx ry h
  obtain ⟨a, b, xs, rfl, rfl, ha, hb, q⟩ := h
  obtain rfl : v = Value.ref a := rx
  obtain rfl : u = Value.ref b := ry
  obtain ⟨its, rv, p, hz⟩ := I.tuple ha
  obtain ⟨its2, rv2, p2, hz2⟩ := I.tuple hb
  cases rv2
  refine SeqAt.rcIn_tuples (e := fun _ => true) p p2 (by omega) (fun j h1 h2 => absurd h2 (Nat.not_lt_zero _)) ⟨.bl _, H, I, ?_, q⟩
  have hl := rv.length
  show Value.bool _ = Value.bool _
  congr 1
  cases xs with
  | nil => cases rv; rfl
  | cons x xs => cases rv; simp
/-! ### rules -/
def Rl.lvs : Rl → List (Option Str × Str)
  | .shaped _ s => s.lvs
  | _ => []
def Rl.shp (P : Sh → Prop) : Rl → Prop
  | .shaped _ s => P s
  | _ => True
/-- a shape of a rule -/
structure Sk (s : Sh) : Prop where
  ok : s.ok false
  sz : s.sz ≤ 1000
  lv : s.lvs.length ≤ 30
  deep : s.deep ≤ 6
  ns : NS s
structure Rk (r : Rl) : Prop where
  nm : Nm r.name
  ln : ∀ x ∈ r.leans, Nm x
  sh : r.shp Sk
section
variable {K : PySem.W.Frag} {mg : Str → Option Value}
theorem UAt.ins2 {H : Hp} {a : Addr} : ∀ {r : Rl}, UAt K H a r → ∃ dx fs, H a = some (.ins (ca K r.cls) dx fs) ∧ fs.lookup ("trees" : Str) = none ∧ fs.lookup ("leans_on" : Str) = none ∧ fs.lookup ("name" : Str) = some (.str r.name)
  | .shaped n s, ⟨dx, b, h, q⟩ => ⟨_, _, h, rfl, rfl, rfl⟩
  | .turned n o, ⟨dx, h⟩ => ⟨_, _, h, rfl, rfl, rfl⟩
  | .both n o u, ⟨dx, h⟩ => ⟨_, _, h, rfl, rfl, rfl⟩
  | .any n o u, ⟨dx, h⟩ => ⟨_, _, h, rfl, rfl, rfl⟩
theorem rl_cls (T : Tx K mg) : ∀ r : Rl, Cls K (ca K r.cls)
  | .shaped _ _ => T.c_Shaped
  | .turned _ _ => T.c_Turned
  | .both _ _ _ => T.c_Both
  | .any _ _ _ => T.c_Any
theorem rl_name (T : Tx K mg) : ∀ r : Rl, NoAttr K (ca K r.cls) "name"
  | .shaped _ _ => T.n_Shaped_name
  | .turned _ _ => T.n_Turned_name
  | .both _ _ _ => T.n_Both_name
  | .any _ _ _ => T.n_Any_name
theorem rl_ty (T : Tx K mg) : ∀ r : Rl, TyC K r.cls
  | .shaped _ _ => T.ty_Shaped
  | .turned _ _ => T.ty_Turned
  | .both _ _ _ => T.ty_Both
  | .any _ _ _ => T.ty_Any
theorem rl_tyx (T : Tx K mg) {r : Rl} {H : Hp} {a dx : Addr} {fs : List (Str × V)} (h : H a = some (.ins (ca K r.cls) dx fs)) : TyX K H (.ref a) (.ref (ca K r.cls)) :=
  .base (.ins h (rl_cls T r) (rl_ty T r).ha T.hn T.htk (rl_ty T r).hm)
theorem kitR_rule (T : Tx K mg) : ∀ r : Rl, PySem.W.kitOne K (.ref (ca K r.cls)) (.ref (ca K "Rule")) = some true
  | .shaped _ _ => T.kit_Shaped_Rule
  | .turned _ _ => T.kit_Turned_Rule
  | .both _ _ _ => T.kit_Both_Rule
  | .any _ _ _ => T.kit_Any_Rule
theorem rl_trees (T : Tx K mg) : ∀ r : Rl, Meth K (ca K r.cls) "trees" (me K r.cls "trees")
  | .shaped _ _ => T.m_Shaped_trees
  | .turned _ _ => T.m_Turned_trees
  | .both _ _ _ => T.m_Both_trees
  | .any _ _ _ => T.m_Any_trees
theorem rl_btrees (T : Tx K mg) : ∀ r : Rl, Binds K (fdOf K (me K r.cls "trees")) ["self"] []
  | .shaped _ _ => bd_Shaped_trees T
  | .turned _ _ => bd_Turned_trees T
  | .both _ _ _ => bd_Both_trees T
  | .any _ _ _ => bd_Any_trees T
end
/-! ### leans_on -/
def spLean (K : PySem.W.Frag) (c : Str) : Sp := fun vs H Q _ => ∃ (a : Addr) (r : Rl), vs = [.ref a] ∧ r.cls = c ∧ UAt K H a r ∧ ∀ t, H t = none → Q (.ref t) (upd H t (.tup (r.leans.map V.str)))
def spRTr (K : PySem.W.Frag) (c : Str) : Sp := fun vs H Q _ => ∃ (a : Addr) (r : Rl), vs = [.ref a] ∧ r.cls = c ∧ UAt K H a r ∧ r.shp Sk ∧
  ∀ (p : Addr) (xs : List V) (H' : Hp), Same H H' → H p = none → H' p = some (.lst xs) → LfAt K H' xs r.lvs → Q (.ref p) H'
theorem cls_turned {r : Rl} (h : r.cls = "Turned") : ∃ n o, r = .turned n o := by
  cases r with
  | turned n o => exact ⟨n, o, rfl⟩
  | shaped n s => exact absurd h (by show ¬ ("Shaped" : Str) = "Turned"; decide +kernel)
  | both n o u => exact absurd h (by show ¬ ("Both" : Str) = "Turned"; decide +kernel)
  | any n o u => exact absurd h (by show ¬ ("Any" : Str) = "Turned"; decide +kernel)
theorem cls_both {r : Rl} (h : r.cls = "Both") : ∃ n o u, r = .both n o u := by
  cases r with
  | both n o u => exact ⟨n, o, u, rfl⟩
  | shaped n s => exact absurd h (by show ¬ ("Shaped" : Str) = "Both"; decide +kernel)
  | turned n o => exact absurd h (by show ¬ ("Turned" : Str) = "Both"; decide +kernel)
  | any n o u => exact absurd h (by show ¬ ("Any" : Str) = "Both"; decide +kernel)
theorem cls_any {r : Rl} (h : r.cls = "Any") : ∃ n o u, r = .any n o u := by
  cases r with
  | any n o u => exact ⟨n, o, u, rfl⟩
  | shaped n s => exact absurd h (by show ¬ ("Shaped" : Str) = "Any"; decide +kernel)
  | turned n o => exact absurd h (by show ¬ ("Turned" : Str) = "Any"; decide +kernel)
  | both n o u => exact absurd h (by show ¬ ("Both" : Str) = "Any"; decide +kernel)
theorem cls_shaped {r : Rl} (h : r.cls = "Shaped") : ∃ n s, r = .shaped n s := by
  cases r with
  | shaped n s => exact ⟨n, s, rfl⟩
  | any n o u => exact absurd h (by show ¬ ("Any" : Str) = "Shaped"; decide +kernel)
  | turned n o => exact absurd h (by show ¬ ("Turned" : Str) = "Shaped"; decide +kernel)
  | both n o u => exact absurd h (by show ¬ ("Both" : Str) = "Shaped"; decide +kernel)
section
variable {P : Program} {w : World} {K : PySem.W.Frag} {mg : Str → Option Value} {base : Heap}
theorem lean_turned (T : Tx K mg) : FO P w K mg base 1 (me K "Turned" "leans_on") ["self"] (spLean K "Turned") := by
  refine T.d_Turned_leans_on.ok0 scTurnedLeansOn (fun vs H Q E h => ?_) (fun cdv A outer st H vs Q E hr h => ?_)
  · obtain ⟨a, r, rfl, _⟩ := h
    rfl
  · obtain ⟨a, r, rfl, hc, hU, q⟩ := h
    obtain ⟨n, o, rfl⟩ := cls_turned hc
    obtain ⟨dx, ha⟩ := hU
    exact ⟨_, pss_one (ps_ret (pe_tup (pa_cons (pe_fld (pv 0) rfl) pa_nil))), _, rfl, a, _, dx, _, _, rfl, ha, T.c_Turned, T.n_Turned_one, rfl, (by show 1 ≤ sizeLine; decide), q⟩
theorem lean_both (T : Tx K mg) : FO P w K mg base 1 (me K "Both" "leans_on") ["self"] (spLean K "Both") := by
  refine T.d_Both_leans_on.ok0 scBothLeansOn (fun vs H Q E h => ?_) (fun cdv A outer st H vs Q E hr h => ?_)
  · obtain ⟨a, r, rfl, _⟩ := h
    rfl
  · obtain ⟨a, r, rfl, hc, hU, q⟩ := h
    obtain ⟨n, o, u, rfl⟩ := cls_both hc
    obtain ⟨dx, ha⟩ := hU
    exact ⟨_, pss_one (ps_ret (pe_tup (pa_cons (pe_fld (pv 0) rfl) (pa_cons (pe_fld (pv 0) rfl) pa_nil)))), _, rfl, a, _, dx, _, _, rfl, ha, T.c_Both, T.n_Both_one, rfl, _, rfl, a, _, dx, _, _, rfl, ha, T.c_Both, T.n_Both_other, rfl, (by show 2 ≤ sizeLine; decide), q⟩
theorem lean_any (T : Tx K mg) : FO P w K mg base 1 (me K "Any" "leans_on") ["self"] (spLean K "Any") := by
  refine T.d_Any_leans_on.ok0 scAnyLeansOn (fun vs H Q E h => ?_) (fun cdv A outer st H vs Q E hr h => ?_)
  · obtain ⟨a, r, rfl, _⟩ := h
    rfl
  · obtain ⟨a, r, rfl, hc, hU, q⟩ := h
    obtain ⟨n, o, u, rfl⟩ := cls_any hc
    obtain ⟨dx, ha⟩ := hU
    exact ⟨_, pss_one (ps_ret (pe_tup (pa_cons (pe_fld (pv 0) rfl) (pa_cons (pe_fld (pv 0) rfl) pa_nil)))), _, rfl, a, _, dx, _, _, rfl, ha, T.c_Any, T.n_Any_one, rfl, _, rfl, a, _, dx, _, _, rfl, ha, T.c_Any, T.n_Any_other, rfl, (by show 2 ≤ sizeLine; decide), q⟩
/-! ### trees -/
theorem rtr_shaped (T : Tx K mg) : FO P w K mg base 8 (me K "Shaped" "trees") ["self"] (spRTr K "Shaped") := by
  refine T.d_Shaped_trees.ok0 scShapedTrees (fun vs H Q E h => ?_) (fun cdv A outer st H vs Q E hr h => ?_)
  · obtain ⟨a, r, rfl, _⟩ := h
    rfl
  · obtain ⟨a, r, rfl, hc, hU, hk, q⟩ := h
    obtain ⟨n, s, rfl⟩ := cls_shaped hc
    obtain ⟨dx, b, ha, hS⟩ := hU
    have G : TrG P w K mg base 6 := ok_trees T 6
    obtain ⟨k1, k2, k3, k4, k5⟩ := (show Sk s from hk)
    refine ⟨_, pss_one (ps_ret (pe_methA0 (k := 7) (pe_fld (pv 0) rfl) hr)), ?_⟩
    exact rd_trees T G (ta := tFld K (tVar 0) "shape") (a := b) ⟨_, rfl, a, _, dx, _, _, rfl, ha, T.c_Shaped, T.n_Shaped_shape, rfl, rfl, rfl⟩
      (fun h ⟨v, e, a', C, dx', fs, v', h1, h2, h3, h4, h5, q⟩ => ⟨v, e, a', C, dx', fs, v', h1, h2, h3, h4, h5, h _ _ q⟩) hS k1 k2 (by omega) k4 q
theorem rtr_rule {c : Str} (hc : c ≠ "Shaped") (F : FD K "trees" "Rule.trees" sRuleTrees (me K c "trees")) : FO P w K mg base 1 (me K c "trees") ["self"] (spRTr K c) := by
  refine F.ok0 scRuleTrees (fun vs H Q E h => ?_) (fun cdv A outer st H vs Q E hr h => ?_)
  · obtain ⟨a, r, rfl, _⟩ := h
    rfl
  · obtain ⟨a, r, rfl, hcr, hU, hk, q⟩ := h
    refine ⟨_, pss_one (ps_ret (pe_lst pa_nil)), Nat.zero_le _, fun l hl => ?_⟩
    refine q l _ _ (same_new hl _) hl upd_same ?_
    have e : r.lvs = [] := by
      cases r with
      | shaped n s => exact absurd hcr.symm hc
      | _ => rfl
    rw [e]
    exact .nil
theorem ok_rtr (T : Tx K mg) : ∀ r : Rl, FO P w K mg base 8 (me K r.cls "trees") ["self"] (spRTr K r.cls)
  | .shaped n s => rtr_shaped T
  | .turned n o => (rtr_rule (by show ¬ ("Turned" : Str) = "Shaped"; decide +kernel) T.d_Turned_trees).mono (by decide)
  | .both n o u => (rtr_rule (by show ¬ ("Both" : Str) = "Shaped"; decide +kernel) T.d_Both_trees).mono (by decide)
  | .any n o u => (rtr_rule (by show ¬ ("Any" : Str) = "Shaped"; decide +kernel) T.d_Any_trees).mono (by decide)
end
section
variable {X : Cx}
theorem rd_rtrees (T : Tx X.K X.mg) {i : Nat} {σ : L2.St} {H : Hp} {Q : VK} {a : Addr} {r : Rl} (e : σ[i]? = some (some (.ref a))) (h : UAt X.K H a r) (hk : r.shp Sk)
    (q : ∀ (p : Addr) (xs : List V) (H' : Hp), Same H H' → H p = none → H' p = some (.lst xs) → LfAt X.K H' xs r.lvs → Q (.ref p) H') : tMethA X 8 "trees" (tVar i) tNil σ H Q := by
  obtain ⟨dx, fs, ha, l1, l2, l3⟩ := h.ins2
  exact ⟨_, e, _, _, _, _, _, a, dx, fs, rfl, ha, rl_cls T r, rl_trees T r, ok_rtr T r, rl_btrees T r, l1, a, r, rfl, rfl, h, hk, q⟩
theorem rd_leans (T : Tx X.K X.mg) {k : Nat} (hk : 1 ≤ k) {i : Nat} {σ : L2.St} {H : Hp} {Q : VK} {a : Addr} {r : Rl} (e : σ[i]? = some (some (.ref a))) (h : UAt X.K H a r) (ns : ∀ n s, r ≠ .shaped n s)
    (q : ∀ t, H t = none → Q (.ref t) (upd H t (.tup (r.leans.map V.str)))) : tMethA X k "leans_on" (tVar i) tNil σ H Q := by
  obtain ⟨dx, fs, ha, l1, l2, l3⟩ := h.ins2
  cases r with
  | shaped n s => exact absurd rfl (ns n s)
  | turned n o => exact ⟨_, e, _, _, _, _, _, a, dx, fs, rfl, ha, T.c_Turned, T.m_Turned_leans_on, (lean_turned T).mono hk, bd_Turned_leans_on T, l2, a, _, rfl, rfl, h, q⟩
  | both n o u => exact ⟨_, e, _, _, _, _, _, a, dx, fs, rfl, ha, T.c_Both, T.m_Both_leans_on, (lean_both T).mono hk, bd_Both_leans_on T, l2, a, _, rfl, rfl, h, q⟩
  | any n o u => exact ⟨_, e, _, _, _, _, _, a, dx, fs, rfl, ha, T.c_Any, T.m_Any_leans_on, (lean_any T).mono hk, bd_Any_leans_on T, l2, a, _, rfl, rfl, h, q⟩
end
end K17
end PartK17E5
section PartK17E6
set_option Elab.async false
set_option linter.all false
set_option maxRecDepth 100000
set_option maxHeartbeats 4000000
/-! is_rule. -/
namespace K17
open PySem PySem.Spec PyProof.Rows L2
def spIsRule (K : PySem.W.Frag) : Sp := fun vs H Q _ => ∃ (a l : Addr) (r : Rl) (ns : List Str), vs = [.ref a, .ref l] ∧ UAt K H a r ∧ Rk r ∧ H l = some (.lst (ns.map V.str)) ∧ ¬ r.name ∈ ns ∧ (∀ x ∈ r.leans, x ∈ ns) ∧ ∀ H', Same H H' → Q (.bl true) H'
theorem leans_len (r : Rl) : r.leans.length ≤ 2 := by cases r <;> simp [Rl.leans]
theorem leans_pos {r : Rl} (ns : ∀ n s, r ≠ .shaped n s) : r.leans ≠ [] := by
  cases r with
  | shaped n s => exact absurd rfl (ns n s)
  | turned n o => exact fun z => by cases z
  | both n o u => exact fun z => by cases z
  | any n o u => exact fun z => by cases z
theorem dp_strs {K : PySem.W.Frag} {H : Hp} : ∀ l : List Str, DpAll K H (l.map V.str) (l.map PyData.str)
  | [] => .nil
  | x :: l => .cons (.str x) (dp_strs l)
theorem lay_strs : ∀ {l : List Str}, (∀ x ∈ l, Ltr x) → PyData.canLayAll0 (l.map PyData.str) = true
  | [], _ => by simp [PyData.canLayAll0]
  | x :: l, h => by
    have h1 := strOk_ltr (h x (List.mem_cons_self ..))
    have h2 := lay_strs (l := l) fun y hy => h y (List.mem_cons_of_mem _ hy)
    simp [PyData.canLayAll0, PyData.canLay0, h1, h2]
theorem depth_strs : ∀ l : List Str, PyData.depthAll (l.map PyData.str) ≤ 1
  | [] => by simp [PyData.depthAll]
  | x :: l => by
    have := depth_strs l
    simp only [List.map_cons, PyData.depthAll, PyData.depth]
    omega
theorem shaped_strs {l : List Str} (h : ∀ x ∈ l, Ltr x) : SeqAt.shaped (.tuple (l.map PyData.str)) = true := by
  have z := depth_strs l
  show (PyData.canLay0 _ && decide (PyData.depth _ ≤ 64)) = true
  rw [Bool.and_eq_true]
  refine ⟨by simp only [PyData.canLay0]; exact lay_strs h, decide_eq_true ?_⟩
  simp only [PyData.depth]
  omega
theorem strs_unit {l : List Str} (h : l ≠ []) : PyData.eqv (.tuple (l.map PyData.str)) (.tuple []) = false := by
  cases l with
  | nil => exact absurd rfl h
  | cons x l => simp [PyData.eqv, PyData.eqvAll]
theorem kitR_no {K : PySem.W.Frag} {mg : Str → Option Value} (T : Tx K mg) : ∀ {r : Rl}, (∀ n s, r ≠ .shaped n s) → PySem.W.kitOne K (.ref (ca K r.cls)) (.ref (ca K "Shaped")) = some false
  | .shaped n s, h => absurd rfl (h n s)
  | .turned _ _, _ => T.kit_Turned_Shaped
  | .both _ _ _, _ => T.kit_Both_Shaped
  | .any _ _ _, _ => T.kit_Any_Shaped
section
variable {P : Program} {w : World} {K : PySem.W.Frag} {mg : Str → Option Value} {base : Heap}
theorem ok_isRule (T : Tx K mg) : FO P w K mg base 9 (ca K "is_rule") pIsRule (spIsRule K) := by
  obtain ⟨t1, hMD⟩ := T.i_MOST_DEEP
  have N : FO P w K mg base 8 (ca K "is_name") pIsName spName := (ok_name T).mono (by decide)
  have G : FO P w K mg base 8 (ca K "is_shape") pIsShape (spIsSh K 6) := (ok_isSh T 6).mono (by decide)
  refine T.d_is_rule.ok0 scIsRule (fun vs H Q E h => ?_) (fun cdv A outer st H vs Q E hr h => ?_)
  · obtain ⟨a, l, r, ns, rfl, _⟩ := h
    rfl
  · obtain ⟨a, l, r, ns, rfl, hU, hk, hL, hn, hl, q⟩ := h
    have nd := scIsRule.nd
    have hu := hr.units
    refine ⟨_, pss_cons (ps_if (PW.pt (pw_or (pt_not (pt_val (pe_callB call_isi (by rfl) T.b_isinstance (by decide +kernel) (pa_cons (pv 0) (pa_cons (pe_glob (v := .ref (ca K "Rule")) (by rfl) T.g_Rule rfl) pa_nil)))))
        (pw_or (pt_not (pt_val (pe_call N hr rfl T.g_is_name T.d_is_name.kp (bd_is_name T) .nil pass0 (pa_cons (pe_fld (pv 0) rfl) pa_nil))))
        (pw_or1 (pt_cmpR op_in_seq (pe_fld (pv 0) rfl) (pv 1) rfl))))) (pss_one (ps_ret pe_bl)) pss_nil)
      (pss_cons (ps_if (pt_val (pe_callB call_isi (by rfl) T.b_isinstance (by decide +kernel) (pa_cons (pv 0) (pa_cons (pe_glob (v := .ref (ca K "Shaped")) (by rfl) T.g_Shaped rfl) pa_nil))))
        (pss_one (ps_ret (pe_call G hr rfl T.g_is_shape T.d_is_shape.kp (bd_is_shape T) .nil pass0 (pa_cons (pe_fld (pv 0) rfl) (pa_cons (pe_glob (v := .int 6) (by rfl) hMD ⟨_, rfl⟩) pa_nil))))) pss_nil)
      (pss_one (ps_ret (pe_and (pe_cmpR (op_neD hu) (pe_methA0 (k := 8) (pv 0) hr) (pe_tup pa_nil) rfl)
        (pe_one (pe_callB (cr_all rfl) (by rfl) T.b_all (by decide +kernel) (pa_cons (pe_lc (own := [("name", 2)]) (g := gName 2) (tt := tYes) (te := tOp (rIn K false) (tVar 2) (tVar 1)) rfl nd (pi_tup (pe_methA0 (k := 8) (pv 0) hr)) (blkOk_by (N := nIsRule) (sc := defScope sIsRule) (by decide +kernel))
        (fun _ _ _ _ _ => pg_name (i := 2) nd rfl (.inl rfl) (.inr rfl)) (fun _ _ _ _ _ => pts_nil) (fun _ _ _ _ _ => pe_cmpR op_in_seq (pv 2) (pv 1) rfl)) pa_nil))))))), ?_⟩
    obtain ⟨dx, fs, ha, l1, l2, l3⟩ := hU.ins2
    refine rd_isi rfl (rl_tyx T ha) (kitR_rule T r) (iteF ?_)
    refine ⟨_, rfl, a, _, dx, _, _, rfl, ha, rl_cls T r, rl_name T r, l3, r.name, rfl, hk.nm, _, rfl, iteF ?_⟩
    refine ⟨_, rfl, a, _, dx, _, _, rfl, ha, rl_cls T r, rl_name T r, l3, _, rfl, l, _, rfl, .inl (SqL.of hL), rfl, flat_strs _, _, rfl, ?_⟩
    rw [inV_strs, decide_eq_false hn]
    refine iteF ?_
    by_cases hs : ∃ n s, r = .shaped n s
    · obtain ⟨n, s, rfl⟩ := hs
      obtain ⟨dx', b, ha', hS⟩ := hU
      obtain ⟨k1, k2, k3, k4, k5⟩ := (show Sk s from hk.sh)
      refine rd_isi rfl (rl_tyx T ha) T.kit_Shaped_Shaped (iteT ?_)
      exact ⟨_, rfl, a, _, dx', _, _, rfl, ha', T.c_Shaped, T.n_Shaped_shape, rfl, b, s, 6, rfl, hS, k1, k2, k5, k4, k4, q⟩
    · have ns' : ∀ n s, r ≠ .shaped n s := fun n s z => hs ⟨n, s, z⟩
      refine rd_isi rfl (rl_tyx T ha) (kitR_no T ns') (iteF ?_)
      refine rd_leans T (by decide) rfl hU ns' fun t ht => ?_
      have S1 : Same H (upd H t (.tup (r.leans.map V.str))) := same_new ht _
      refine ⟨Nat.zero_le _, fun un hun => ?_⟩
      have S2 := same_new hun (.tup [])
      refine ⟨_, _, .tup (SqT.of (S2 _ _ upd_same)) (dp_strs _), .tup (SqT.of upd_same) .nil, shaped_strs (fun x hx => (hk.ln x hx).2.2.1), shaped_unit, _, rfl, ?_⟩
      rw [strs_unit (leans_pos ns')]
      refine iteT ?_
      have S3 := S1.trans S2
      refine rd_leans T (by decide) rfl (hU.imm (Same.imm S3)) ns' fun t2 ht2 => ?_
      have S4 := S3.trans (same_new ht2 (.tup (r.leans.map V.str)))
      refine ⟨t2, rfl, ⟨_, SqT.of upd_same⟩, fun D hD => ?_⟩
      refine lc_tup (K := K) (a := t2) (xs := r.leans.map V.str) (fun k H6 => Same (upd (upd (upd H t (.tup (r.leans.map V.str))) un (.tup [])) t2 (.tup (r.leans.map V.str))) H6 ∧ H6 D = some (.lst ((List.replicate k true).map V.bl))) ⟨same_new hD _, upd_same⟩ (fun k H6 _ ⟨S7, _⟩ => SqT.of (S7 _ _ upd_same)) ?_ ?_
      · rintro k x H6 hx ⟨S7, hA⟩
        rw [List.getElem?_map] at hx
        obtain ⟨y, hy, rfl⟩ := Option.map_eq_some_iff.mp hx
        have hy2 : y ∈ ns := hl y (List.mem_of_getElem? hy)
        have hk2 := (List.getElem?_eq_some_iff.mp hy).1
        have z1 := leans_len r
        refine ⟨rfl, ?_⟩
        dsimp only [tYes]
        rw [if_pos rfl]
        refine ⟨_, rfl, _, rfl, l, _, rfl, .inl (SqL.of (S7 _ _ (S4 _ _ hL))), rfl, flat_strs _, ?_⟩
        rw [inV_strs, decide_eq_true hy2]
        refine ⟨_, hA, ?_, fun d o ho => ?_, ?_⟩
        · rw [List.length_map, List.length_replicate]
          exact sl5 (by omega)
        · rw [upd_ne (ne_of_none ho hD)]
          exact S7 _ _ ho
        · rw [upd_same, List.replicate_succ', List.map_append]
          rfl
      · rintro H6 ⟨S7, hA⟩
        refine ⟨D, _, rfl, SqL.of hA, ?_⟩
        have e : (List.replicate (r.leans.map V.str).length true).all id = true := by simp
        rw [e]
        exact q H6 (S4.trans S7)
end
end K17
end PartK17E6
section PartK17E7
set_option Elab.async false
set_option linter.all false
set_option maxRecDepth 100000
set_option maxHeartbeats 4000000
/-! need_rules; Forms. -/
namespace K17
open PySem PySem.Spec PyProof.Rows L2
abbrev nms (rs : List Rl) : List Str := rs.map Rl.name
def tot (rs : List Rl) : Nat := (rs.map fun r => r.lvs.length).sum
theorem tot_take : ∀ (k : Nat) (rs : List Rl), tot (rs.take k) ≤ tot rs
  | 0, rs => by simp [tot]
  | k + 1, [] => Nat.le_refl _
  | k + 1, r :: rs => by
    have := tot_take k rs
    show r.lvs.length + tot (rs.take k) ≤ r.lvs.length + tot rs
    omega
theorem tot_succ : ∀ {k : Nat} {rs : List Rl} {r : Rl}, rs[k]? = some r → tot (rs.take (k + 1)) = tot (rs.take k) + r.lvs.length := by
  intro k rs r h
  rw [List.take_add_one, h]
  simp [tot]
theorem okl_nth : ∀ {rs : List Rl} {ah : List Str} {k : Nat} {r : Rl}, Okl ah rs → rs[k]? = some r → ¬ r.name ∈ ah ∧ ¬ r.name ∈ nms (rs.take k) ∧ ∀ x ∈ r.leans, x ∈ ah ∨ x ∈ nms (rs.take k)
  | r0 :: rs, ah, 0, r, h, e => by
    cases e
    exact ⟨h.1, by simp [nms], fun x hx => .inl (h.2.1 x hx)⟩
  | r0 :: rs, ah, k + 1, r, h, e => by
    obtain ⟨h1, h2, h3⟩ := okl_nth (k := k) h.2.2 (by simpa using e)
    refine ⟨fun z => h1 (List.mem_cons_of_mem _ z), fun z => ?_, fun x hx => ?_⟩
    · rcases List.mem_cons.mp z with z | z
      · exact h1 (by rw [z]; exact List.mem_cons_self ..)
      · exact h2 z
    · rcases h3 x hx with z | z
      · rcases List.mem_cons.mp z with z | z
        · exact .inr (by rw [z]; exact List.mem_cons_self ..)
        · exact .inl z
      · exact .inr (List.mem_cons_of_mem _ z)
/-- rules that Forms takes -/
structure Fk (rs : List Rl) : Prop where
  ne : 0 < rs.length
  len : rs.length ≤ 12
  ok : Okl [] rs
  rk : ∀ r ∈ rs, Rk r
  tot : tot rs ≤ 40
  nm : ∀ r ∈ rs, ∀ x ∈ r.lvs, x.2 ∈ nms rs
theorem Rk.lv {r : Rl} (h : Rk r) : r.lvs.length ≤ 30 := by
  cases r with
  | shaped n s => exact (show Sk s from h.sh).lv
  | _ => exact Nat.zero_le _
def spNeed (K : PySem.W.Frag) : Sp := fun vs H Q _ => ∃ (t : Addr) (us : List V) (rs : List Rl), vs = [.ref t] ∧ H t = some (.tup us) ∧ UsAt K H us rs ∧ Fk rs ∧ ∀ H', Same H H' → Q .non H'
theorem paired_get {α β : Type} {F : α → β → Prop} : ∀ {xs : List α} {ys : List β} {k : Nat} {x : α}, Paired F xs ys → xs[k]? = some x → ∃ y, ys[k]? = some y ∧ F x y
  | _, _, 0, x, .cons r t, e => by
    cases e
    exact ⟨_, rfl, r⟩
  | _, _, k + 1, x, .cons r t, e => by
    obtain ⟨y, h1, h2⟩ := paired_get (k := k) t (by simpa using e)
    exact ⟨y, by simpa using h1, h2⟩
section
variable {P : Program} {w : World} {K : PySem.W.Frag} {mg : Str → Option Value} {base : Heap}
theorem ok_need (T : Tx K mg) : FO P w K mg base 10 (ca K "need_rules") pNeedRules (spNeed K) := by
  obtain ⟨t1, hMR⟩ := T.i_MOST_RULES
  obtain ⟨t2, hMI⟩ := T.i_MOST_IN_A_RULE
  obtain ⟨t3, hMT⟩ := T.i_MOST_TREES
  have G : FO P w K mg base 9 (ca K "is_rule") pIsRule (spIsRule K) := ok_isRule T
  refine T.d_need_rules.ok0 scNeedRules (fun vs H Q E h => ?_) (fun cdv A outer st H vs Q E hr h => ?_)
  · obtain ⟨t, us, rs, rfl, _⟩ := h
    rfl
  · obtain ⟨t, us, rs, rfl, ht, hU, hF, q⟩ := h
    have nd := scNeedRules.nd
    have hu := hr.units
    have hr8 := hr.mono (j := 8) (by omega)
    refine ⟨_, pss_cons (ps_if (PW.pt (pw_or (pt_not (pt_val (pe_callB call_isi (by rfl) T.b_isinstance (by decide +kernel) (pa_cons (pv 0) (pa_cons (pe_bltn (v := .ty "tuple") (by rfl) T.b_tuple (by decide +kernel) rfl) pa_nil)))))
        (pw_or1 (pt_cmpR (op_eqU hu) (pv 0) (pe_tup pa_nil) (nomark _))))) pss_never pss_nil)
      (pss_cons (ps_set (i := 1) nd rfl (.inr rfl) (pe_lst pa_nil))
      (pss_cons (ps_set (i := 2) nd rfl (.inl rfl) pe_int)
      (pss_cons (ps_for PassesOwn.never rfl (pi_enumT (by rfl) T.b_enumerate (pa_cons (pv 0) pa_nil)) (pg_tup rfl (pgs_cons (pg_name (i := 3) nd rfl (.inl rfl)) (pgs_cons (pg_name (i := 4) nd rfl (.inl rfl)) pgs_nil)))
        (pss_cons (ps_if (PW.pt (pw_or (pt_cmpR op_eq (pv 3) (pe_glob (v := .int 12) (by rfl) hMR ⟨_, rfl⟩) (nomark _)) (pw_or1 (pt_not (pt_val (pe_call G hr rfl T.g_is_rule T.d_is_rule.kp (bd_is_rule T) .nil pass0 (pa_cons (pv 4) (pa_cons (pv 1) pa_nil)))))))) pss_never pss_nil)
        (pss_cons (ps_expr (pe_bm PySem.F.plainAttrs_list PySem.F.slot_list_append PySem.F.type_list_append mt_append (pv 1) (pa_cons (pe_fld (pv 4) rfl) pa_nil)))
        (pss_cons (ps_set (i := 5) nd rfl (.inl rfl) (pe_callB call_lenS (by rfl) T.b_len PySem.boot_len (pa_cons (pe_methA0 (k := 8) (pv 4) hr8) pa_nil)))
        (pss_cons (ps_aug (i := 2) nd rfl (.inl rfl) (pv 5) ip_add)
        (pss_one (ps_if (PW.pt (pw_or (pt_cmpR op_gt (pv 5) (pe_glob (v := .int 30) (by rfl) hMI ⟨_, rfl⟩) (nomark _)) (pw_or1 (pt_cmpR op_gt (pv 2) (pe_glob (v := .int 40) (by rfl) hMT ⟨_, rfl⟩) (nomark _))))) pss_never pss_nil)))))))
      (pss_one (ps_for PassesOwn.never rfl (pi_enumT (by rfl) T.b_enumerate (pa_cons (pv 0) pa_nil)) (pg_tup rfl (pgs_cons (pg_name (i := 3) nd rfl (.inl rfl)) (pgs_cons (pg_name (i := 4) nd rfl (.inl rfl)) pgs_nil)))
        (pss_one (ps_if (pt_not (pt_val (pe_callB (cr_all rfl) (by rfl) T.b_all (by decide +kernel) (pa_cons (pe_lc (own := [("tree", 6)]) (g := gName 6) (tt := tYes) (te := tOp (rIn K false) (tFld K (tVar 6) "name") (tVar 1)) rfl nd (pi_list (pe_methA0 (k := 8) (pv 4) hr8)) (blkOk_by (N := nNeedRules) (sc := defScope sNeedRules) (by decide +kernel))
          (fun _ _ _ _ _ => pg_name (i := 6) nd rfl (.inl rfl) (.inr rfl)) (fun _ _ _ _ _ => pts_nil) (fun _ _ _ _ _ => pe_cmpR op_in_seq (pe_fld (pv 6) rfl) (pv 1) rfl)) pa_nil)))) pss_never pss_nil))))))), ?_⟩
    have hlen := hU.len
    refine ⟨_, rfl, .ref t, .ty "tuple", _, _, true, rfl, .ty "tuple", .base (.tup ht), kit_ty (by decide +kernel), _, rfl, iteF ?_⟩
    refine ⟨_, rfl, Nat.zero_le _, fun un hun => ?_⟩
    have S1 : Same H (upd H un (.tup [])) := same_new hun _
    refine ⟨t, un, us, rfl, rfl, SqT.of (S1 _ _ ht), SqT.of upd_same, _, rfl, ?_⟩
    rw [decide_eq_false (by rw [hlen]; exact Nat.ne_of_gt hF.ne)]
    refine iteF ⟨Nat.zero_le _, fun l hl => ?_⟩
    have S2 : Same H (upd (upd H un (.tup [])) l (.lst [])) := S1.trans (same_new hl _)
    have hl0 : H l = none := S1.free hl
    generalize hH2 : upd (upd H un (.tup [])) l (.lst []) = H2 at S2
    have hL2 : H2 l = some (.lst []) := by rw [← hH2]; exact upd_same
    have ht2 : H2 t = some (.tup us) := S2 _ _ ht
    refine ⟨_, rfl, t, us, rfl, SqT.of ht2, for_enumT (K := K) (a := t) (xs := us) (fun k σ H' => ∃ v3 v4 v5, σ = [some (.ref t), some (.ref l), some (.int (tot (rs.take k))), v3, v4, v5, none] ∧ Same H H' ∧ H' l = some (.lst ((nms (rs.take k)).map V.str)))
      ⟨none, none, none, rfl, S2, hL2⟩ (fun k σ H' _ ⟨_, _, _, _, S, _⟩ => SqT.of (S _ _ ht)) ?_ ?_⟩
    · rintro k x σ H' p hx ⟨v3, v4, v5, rfl, S, hL⟩ hp
      obtain ⟨a, r, rfl, hr', hUa⟩ := UsAt.nth hU hx
      have hk : k < rs.length := (List.getElem?_eq_some_iff.mp hr').1
      have hmem : r ∈ rs := List.mem_of_getElem? hr'
      have hrk := hF.rk r hmem
      obtain ⟨o1, o2, o3⟩ := okl_nth hF.ok hr'
      have S3 : Same H' (upd H' p (.tup [.int (k : Nat), .ref a])) := same_new hp _
      refine ⟨p, _, rfl, SqT.of upd_same, rfl, _, _, rfl, _, _, rfl, rfl, ?_⟩
      refine ⟨_, rfl, rfl, _, rfl, ?_⟩
      have z0 := hF.len
      rw [decide_eq_false (fun z => by injection z with z; omega)]
      refine iteF ⟨_, rfl, _, rfl, a, l, r, _, rfl, hUa.imm (Same.imm (S.trans S3)), hrk, S3 _ _ hL, o2, fun y hy => (o3 y hy).elim (fun z => by cases z) id, fun H4 S4 => ?_⟩
      refine ⟨_, rfl, iteF ?_⟩
      have S5 := S.trans (S3.trans S4)
      have hL4 : H4 l = some (.lst ((nms (rs.take k)).map V.str)) := S4 _ _ (S3 _ _ hL)
      obtain ⟨dx, fs, ha, l1, l2, l3⟩ := (hUa.imm (Same.imm S5)).ins2
      refine ⟨_, rfl, .inl ⟨rfl, _, SqL.of hL4⟩, _, rfl, a, _, dx, _, _, rfl, ha, rl_cls T r, rl_name T r, l3, l, _, _, rfl, rfl, hL4, ?_, ?_⟩
      · rw [List.length_map, List.length_map, List.length_take]
        exact sl5 (by omega)
      have S6 : Same H (upd H4 l (.lst ((nms (rs.take k)).map V.str ++ [.str r.name]))) := fun d o ho => by
        rw [upd_ne (ne_of_none ho hl0)]
        exact S5 _ _ ho
      have hL6 : (upd H4 l (.lst ((nms (rs.take k)).map V.str ++ [.str r.name]))) l = some (.lst ((nms (rs.take (k + 1))).map V.str)) := by
        rw [upd_same, List.take_add_one, hr']
        simp
      generalize (upd H4 l (.lst ((nms (rs.take k)).map V.str ++ [.str r.name]))) = H6 at S6 hL6
      refine rd_rtrees T rfl (hUa.imm (Same.imm S6)) hrk.sh fun l7 xs H7 S7 f7 h7 hx7 => ?_
      have z1 := hx7.len
      have z2 := hrk.lv
      have z3 := tot_succ hr'
      have z4 := tot_take (k + 1) rs
      have z5 := hF.tot
      refine ⟨l7, xs, rfl, .inl (SqL.of h7), ?_⟩
      refine ⟨_, rfl, _, rfl, _, _, rfl, rfl, ?_⟩
      refine ⟨_, rfl, _, _, rfl, rfl, _, rfl, ?_⟩
      rw [decide_eq_false (by omega)]
      refine iteF ⟨_, rfl, _, _, rfl, rfl, _, rfl, ?_⟩
      rw [decide_eq_false (show ¬ ((40 : Int) < ((tot (rs.take k) : Nat) : Int) + ((xs.length : Nat) : Int)) by omega)]
      have e6 : ((tot (rs.take (k + 1)) : Nat) : Int) = ((tot (rs.take k) : Nat) : Int) + ((xs.length : Nat) : Int) := by omega
      refine iteF ⟨some (.int k), some (.ref a), some (.int xs.length), ?_, S6.trans S7, S7 _ _ hL6⟩
      rw [e6]
      rfl
    · rintro σ H' ⟨v3, v4, v5, rfl, S, hL⟩
      have e0 : us.length = rs.length := hlen
      rw [e0, List.take_length] at hL
      refine ⟨_, rfl, t, us, rfl, SqT.of (S _ _ ht), for_enumT (K := K) (a := t) (xs := us) (fun k σ H' => ∃ v2 v3 v4 v5, σ = [some (.ref t), some (.ref l), v2, v3, v4, v5, none] ∧ Same H H' ∧ H' l = some (.lst ((nms rs).map V.str)))
        ⟨_, v3, v4, v5, rfl, S, hL⟩ (fun k σ H' _ ⟨_, _, _, _, _, S, _⟩ => SqT.of (S _ _ ht)) ?_ ?_⟩
      · rintro k x σ H1 p hx ⟨v2, v3, v4, v5, rfl, S, hL⟩ hp
        obtain ⟨a, r, rfl, hr', hUa⟩ := UsAt.nth hU hx
        have hmem : r ∈ rs := List.mem_of_getElem? hr'
        have hrk := hF.rk r hmem
        have S3 : Same H1 (upd H1 p (.tup [.int (k : Nat), .ref a])) := same_new hp _
        refine ⟨p, _, rfl, SqT.of upd_same, rfl, _, _, rfl, _, _, rfl, rfl, ?_⟩
        refine rd_rtrees T rfl (hUa.imm (Same.imm (S.trans S3))) hrk.sh fun l7 xs H7 S7 f7 h7 hx7 => ?_
        have S8 := S.trans (S3.trans S7)
        have hL7 : H7 l = some (.lst ((nms rs).map V.str)) := S7 _ _ (S3 _ _ hL)
        refine ⟨l7, rfl, ⟨xs, SqL.of h7⟩, fun D hD => ?_⟩
        refine lc_list (K := K) (a := l7) (xs := xs) (fun k H6 => Same H7 H6 ∧ H6 D = some (.lst ((List.replicate k true).map V.bl))) ⟨same_new hD _, upd_same⟩ (fun k H6 _ ⟨S9, _⟩ => SqL.of (S9 _ _ h7)) ?_ ?_
        · rintro j y H6 hy ⟨S9, hA⟩
          obtain ⟨z, hz, b, dx, e, hb⟩ := paired_get hx7 hy
          have hz2 : z.2 ∈ nms rs := hF.nm r hmem z (List.mem_of_getElem? hz)
          have hj := (List.getElem?_eq_some_iff.mp hy).1
          have z1 := hx7.len
          have z2 := hrk.lv
          subst e
          refine ⟨rfl, ?_⟩
          dsimp only [tYes]
          rw [if_pos rfl]
          refine ⟨_, rfl, b, _, dx, _, _, rfl, S9 _ _ hb, T.c_Tree, T.n_Tree_name, rfl, _, rfl, l, _, rfl, .inl (SqL.of (S9 _ _ hL7)), rfl, flat_strs _, ?_⟩
          rw [inV_strs, decide_eq_true hz2]
          refine ⟨_, hA, ?_, fun d o ho => ?_, ?_⟩
          · rw [List.length_map, List.length_replicate]
            exact sl5 (by omega)
          · rw [upd_ne (ne_of_none ho hD)]
            exact S9 _ _ ho
          · rw [upd_same, List.replicate_succ', List.map_append]
            rfl
        · rintro H6 ⟨S9, hA⟩
          refine ⟨D, _, rfl, SqL.of hA, ?_⟩
          have e : (List.replicate xs.length true).all id = true := by simp
          rw [e]
          exact ⟨_, rfl, iteF ⟨_, _, _, _, rfl, S8.trans S9, S9 _ _ hL7⟩⟩
      · rintro σ H1 ⟨v2, v3, v4, v5, rfl, S, hL⟩
        exact q H1 S
end
end K17
end PartK17E7
section PartK17E8
set_option Elab.async false
set_option linter.all false
set_option maxRecDepth 100000
set_option maxHeartbeats 4000000
/-! Forms; the law's forms_made. -/
namespace K17
open PySem PySem.Spec PyProof.Rows L2
abbrev fRules (v : V) : List (Str × V) := [("rules", v)]
def FsAt (K : PySem.W.Frag) (H : Hp) (a : Addr) (rs : List Rl) : Prop := ∃ (dx t : Addr) (us : List V), H a = some (.ins (ca K "Forms") dx (fRules (.ref t))) ∧ H t = some (.tup us) ∧ UsAt K H us rs
theorem FsAt.imm {K : PySem.W.Frag} {H H' : Hp} {a : Addr} {rs : List Rl} (m : Imm H H') (h : FsAt K H a rs) : FsAt K H' a rs := let ⟨dx, t, us, h1, h2, h3⟩ := h; ⟨dx, t, us, m.2 _ _ _ _ h1, m.1 _ _ h2, h3.imm m⟩
/-- a rule as it is told -/
def QAt (H : Hp) (v : V) : Rl → Prop
  | .shaped n s => ∃ a b : Addr, v = .ref a ∧ H a = some (.tup [.str "shaped", .str n, .ref b]) ∧ TAt H s [.ref b]
  | .turned n o => ∃ a : Addr, v = .ref a ∧ H a = some (.tup [.str "turned", .str n, .str o])
  | .both n o u => ∃ a : Addr, v = .ref a ∧ H a = some (.tup [.str "both", .str n, .str o, .str u])
  | .any n o u => ∃ a : Addr, v = .ref a ∧ H a = some (.tup [.str "any", .str n, .str o, .str u])
theorem QAt.imm {H H' : Hp} {v : V} (m : Imm H H') : ∀ {r : Rl}, QAt H v r → QAt H' v r
  | .shaped n s, ⟨a, b, e, h, q⟩ => ⟨a, b, e, m.1 _ _ h, q.imm m⟩
  | .turned n o, ⟨a, e, h⟩ => ⟨a, e, m.1 _ _ h⟩
  | .both n o u, ⟨a, e, h⟩ => ⟨a, e, m.1 _ _ h⟩
  | .any n o u, ⟨a, e, h⟩ => ⟨a, e, m.1 _ _ h⟩
def QsAt (H : Hp) : List V → List Rl → Prop := Paired (QAt H)
theorem QsAt.imm {H H' : Hp} (m : Imm H H') : ∀ {vs : List V} {rs : List Rl}, QsAt H vs rs → QsAt H' vs rs
  | _, _, .nil => .nil
  | _, _, .cons r t => .cons (r.imm m) (QsAt.imm m t)
theorem QsAt.len {H : Hp} {vs : List V} {rs : List Rl} (h : QsAt H vs rs) : vs.length = rs.length := Paired.length h
theorem QsAt.app {H : Hp} : ∀ {vs ws : List V} {rs ss : List Rl}, QsAt H vs rs → QsAt H ws ss → QsAt H (vs ++ ws) (rs ++ ss)
  | _, _, _, _, .nil, h => h
  | _, _, _, _, .cons r t, h => .cons r (QsAt.app t h)
def spFInit (K : PySem.W.Frag) : Sp := fun vs H Q _ => ∃ (p dx t : Addr) (us : List V) (rs : List Rl), vs = [.ref p, .ref t] ∧ H p = some (.ins (ca K "Forms") dx []) ∧ H t = some (.tup us) ∧ UsAt K H us rs ∧ Fk rs ∧
  ∀ H1 H', Same H H1 → H' = upd H1 p (.ins (ca K "Forms") dx (fRules (.ref t))) → Q .non H'
def spFNames (K : PySem.W.Frag) : Sp := fun vs H Q _ => ∃ (a : Addr) (rs : List Rl), vs = [.ref a] ∧ FsAt K H a rs ∧ rs.length ≤ 1000 ∧ ∀ (t : Addr) (H' : Hp), Same H H' → H' t = some (.tup ((nms rs).map V.str)) → Q (.ref t) H'
def spFRule (K : PySem.W.Frag) : Sp := fun vs H Q _ => ∃ (a : Addr) (rs : List Rl) (x : Str), vs = [.ref a, .str x] ∧ FsAt K H a rs ∧ x ∈ nms rs ∧ ∀ (b : Addr) (r : Rl), r ∈ rs → r.name = x → UAt K H b r → Q (.ref b) H
def spFMade (K : PySem.W.Frag) : Sp := fun vs H Q _ => ∃ (l : Addr) (ws : List V) (rs : List Rl), vs = [.ref l] ∧ H l = some (.lst ws) ∧ QsAt H ws rs ∧ Fk rs ∧ ∀ (a : Addr) (H' : Hp), Same H H' → FsAt K H' a rs → Q (.ref a) H'
section
variable {P : Program} {w : World} {K : PySem.W.Frag} {mg : Str → Option Value} {base : Heap}
theorem ok_finit (T : Tx K mg) : FO P w K mg base 11 (me K "Forms" "__init__") pFormsInit (spFInit K) := by
  have G : FO P w K mg base 10 (ca K "need_rules") pNeedRules (spNeed K) := ok_need T
  refine T.d_Forms_init.ok0 scFormsInit (fun vs H Q E h => ?_) (fun cdv A outer st H vs Q E hr h => ?_)
  · obtain ⟨p, dx, t, us, rs, rfl, _⟩ := h
    rfl
  · obtain ⟨p, dx, t, us, rs, rfl, hp, ht, hU, hF, q⟩ := h
    refine ⟨_, pss_cons (ps_expr (pe_call G hr rfl T.g_need_rules T.d_need_rules.kp (bd_need_rules T) .nil pass0 (pa_cons (pv 1) pa_nil))) (pss_one (ps_fld (pv 0) (pv 1) rfl)), ?_⟩
    refine ⟨_, rfl, t, us, rs, rfl, ht, hU, hF, fun H1 S1 => ?_⟩
    exact ⟨_, rfl, _, rfl, p, _, dx, _, rfl, S1 _ _ hp, T.c_Forms, T.n_Forms_rules, (by show 0 < 1000; decide), q H1 _ S1 rfl⟩
theorem ok_fnames (T : Tx K mg) : FO P w K mg base 1 (me K "Forms" "names") pFormsNames (spFNames K) := by
  refine T.d_Forms_names.ok0 scFormsNames (fun vs H Q E h => ?_) (fun cdv A outer st H vs Q E hr h => ?_)
  · obtain ⟨a, rs, rfl, _⟩ := h
    rfl
  · obtain ⟨a, rs, rfl, ⟨dx, t, us, ha, ht, hU⟩, hn, q⟩ := h
    have nd := scFormsNames.nd
    refine ⟨_, pss_one (ps_ret (pe_tupleOf (by rfl) T.b_tuple (pe_lc (own := [("rule", 1)]) (g := gName 1) (tt := tYes) (te := tFld K (tVar 1) "name") rfl nd (pi_tup (pe_fld (pv 0) rfl)) (blkOk_by (N := nFormsNames) (sc := defScope sFormsNames) (by decide +kernel))
        (fun _ _ _ _ _ => pg_name (i := 1) nd rfl (.inl rfl) (.inr rfl)) (fun _ _ _ _ _ => pts_nil) (fun _ _ _ _ _ => pe_fld (pv 1) rfl)))), ?_⟩
    refine ⟨_, rfl, a, _, dx, _, _, rfl, ha, T.c_Forms, T.n_Forms_rules, lk_hd, t, rfl, ⟨us, SqT.of ht⟩, fun D hD => ?_⟩
    refine lc_tup (K := K) (a := t) (xs := us) (fun k H6 => Same H H6 ∧ H6 D = some (.lst ((nms (rs.take k)).map V.str))) ⟨same_new hD _, upd_same⟩ (fun k H6 _ ⟨S7, _⟩ => SqT.of (S7 _ _ ht)) ?_ ?_
    · rintro k x H6 hx ⟨S7, hA⟩
      obtain ⟨b, r, rfl, hr', hUb⟩ := UsAt.nth hU hx
      have hk := (List.getElem?_eq_some_iff.mp hr').1
      obtain ⟨dx2, fs, hb, l1, l2, l3⟩ := (hUb.imm (Same.imm S7)).ins2
      refine ⟨rfl, ?_⟩
      dsimp only [tYes]
      rw [if_pos rfl]
      refine ⟨_, rfl, b, _, dx2, _, _, rfl, hb, rl_cls T r, rl_name T r, l3, _, hA, ?_, fun d o ho => ?_, ?_⟩
      · rw [List.length_map, List.length_map, List.length_take]
        exact sl5 (by omega)
      · rw [upd_ne (ne_of_none ho hD)]
        exact S7 _ _ ho
      · rw [upd_same, List.take_add_one, hr']
        simp
    · rintro H6 ⟨S7, hA⟩
      refine .inl ⟨D, _, rfl, SqL.of hA, fun l hl => ?_⟩
      refine q l _ (S7.trans (same_new hl _)) ?_
      rw [upd_same, hU.len, List.take_length]
theorem ok_frule (T : Tx K mg) : FO P w K mg base 1 (me K "Forms" "rule") pFormsRule (spFRule K) := by
  refine T.d_Forms_rule.ok0 scFormsRule (fun vs H Q E h => ?_) (fun cdv A outer st H vs Q E hr h => ?_)
  · obtain ⟨a, rs, x, rfl, _⟩ := h
    rfl
  · obtain ⟨a, rs, x, rfl, ⟨dx, t, us, ha, ht, hU⟩, hx, q⟩ := h
    have nd := scFormsRule.nd
    refine ⟨_, pss_cons (ps_for PassesOwn.never rfl (pi_tup (pe_fld (pv 0) rfl)) (pg_name (i := 2) nd rfl (.inl rfl)) (pss_one (ps_if (pt_cmpR op_eq (pe_fld (pv 2) rfl) (pv 1) (nomark _)) (pss_one (ps_ret (pv 2))) pss_nil))) (pss_one ps_never), ?_⟩
    refine ⟨_, rfl, a, _, dx, _, _, rfl, ha, T.c_Forms, T.n_Forms_rules, lk_hd, t, rfl, ⟨us, SqT.of ht⟩, for_tup (K := K) (a := t) (xs := us) (fun k σ H' => H' = H ∧ (∃ v2, σ = [some (.ref a), some (.str x), v2]) ∧ ¬ x ∈ nms (rs.take k)) ⟨rfl, ⟨none, rfl⟩, by simp [nms]⟩ (fun k σ H' _ ⟨e, _⟩ => by rw [e]; exact SqT.of ht) ?_ ?_⟩
    · rintro k v σ H' hv ⟨rfl, ⟨v2, rfl⟩, hno⟩
      obtain ⟨b, r, rfl, hr', hUb⟩ := UsAt.nth hU hv
      obtain ⟨dx2, fs, hb, l1, l2, l3⟩ := hUb.ins2
      refine ⟨_, rfl, b, _, dx2, _, _, rfl, hb, rl_cls T r, rl_name T r, l3, _, rfl, rfl, _, rfl, ?_⟩
      by_cases c : r.name = x
      · rw [decide_eq_true (by rw [c])]
        exact iteT ⟨_, rfl, q b r (List.mem_of_getElem? hr') c hUb⟩
      · rw [decide_eq_false (fun z => c (by injection z))]
        refine iteF ⟨rfl, ⟨_, rfl⟩, ?_⟩
        rw [List.take_add_one, hr']
        intro z
        rw [nms, List.map_append] at z
        rcases List.mem_append.mp z with z | z
        · exact hno z
        · have z2 : x = r.name := by simpa using z
          exact c z2.symm
    · rintro σ H' ⟨rfl, _, hno⟩
      rw [hU.len, List.take_length] at hno
      exact absurd hx hno
theorem ok_fmade (T : Tx K mg) : FO P w K mg base 13 (ca K "_law_forms_made") pFormsMade (spFMade K) := by
  have G : FO P w K mg base 8 (ca K "_law_shape_made") pShapeMade (spMade K 6) := ok_made T 6
  refine T.d_law_forms_made.ok0 scFormsMade (fun vs H Q E h => ?_) (fun cdv A outer st H vs Q E hr h => ?_)
  · obtain ⟨l, ws, rs, rfl, _⟩ := h
    rfl
  · obtain ⟨l, ws, rs, rfl, hl, hQ, hF, q⟩ := h
    have nd := scFormsMade.nd
    have hr3 := hr.mono (j := 3) (by omega)
    have hr8 := hr.mono (j := 8) (by omega)
    refine ⟨_, pss_cons (ps_set (i := 1) nd rfl (.inl rfl) (pe_lst pa_nil))
      (pss_cons (ps_for PassesOwn.never rfl (pi_list (pv 0)) (pg_name (i := 2) nd rfl (.inl rfl))
        (pss_one (ps_if (pt_cmpR op_eq (pe_ix ix_tup (pv 2) pe_int (fun _ _ => rfl)) pe_str (nomark _))
          (pss_one (ps_expr (pe_bm PySem.F.plainAttrs_list PySem.F.slot_list_append PySem.F.type_list_append mt_append (pv 1) (pa_cons (pe_make T.mk_Shaped (ok_shaped_init T) hr3 (by rfl) T.g_Shaped (bd_Shaped_init T) .nil pass0 (pa_cons (pe_ix ix_tup (pv 2) pe_int (fun _ _ => rfl))
            (pa_cons (pe_call G hr8 rfl T.g_law_shape_made T.d_law_shape_made.kp (bd_law_shape_made T) .nil pass0 (pa_cons (pe_ix ix_tup (pv 2) pe_int (fun _ _ => rfl)) pa_nil)) pa_nil))) pa_nil))))
          (pss_one (ps_if (pt_cmpR op_eq (pe_ix ix_tup (pv 2) pe_int (fun _ _ => rfl)) pe_str (nomark _))
            (pss_one (ps_expr (pe_bm PySem.F.plainAttrs_list PySem.F.slot_list_append PySem.F.type_list_append mt_append (pv 1) (pa_cons (pe_make T.mk_Turned (ok_turned_init T) hr3 (by rfl) T.g_Turned (bd_Turned_init T) .nil pass0 (pa_cons (pe_ix ix_tup (pv 2) pe_int (fun _ _ => rfl)) (pa_cons (pe_ix ix_tup (pv 2) pe_int (fun _ _ => rfl)) pa_nil))) pa_nil))))
            (pss_one (ps_if (pt_cmpR op_eq (pe_ix ix_tup (pv 2) pe_int (fun _ _ => rfl)) pe_str (nomark _))
              (pss_one (ps_expr (pe_bm PySem.F.plainAttrs_list PySem.F.slot_list_append PySem.F.type_list_append mt_append (pv 1) (pa_cons (pe_make T.mk_Both (ok_both_init T) hr3 (by rfl) T.g_Both (bd_Both_init T) .nil pass0 (pa_cons (pe_ix ix_tup (pv 2) pe_int (fun _ _ => rfl)) (pa_cons (pe_ix ix_tup (pv 2) pe_int (fun _ _ => rfl)) (pa_cons (pe_ix ix_tup (pv 2) pe_int (fun _ _ => rfl)) pa_nil)))) pa_nil))))
              (pss_one (ps_expr (pe_bm PySem.F.plainAttrs_list PySem.F.slot_list_append PySem.F.type_list_append mt_append (pv 1) (pa_cons (pe_make T.mk_Any (ok_any_init T) hr3 (by rfl) T.g_Any (bd_Any_init T) .nil pass0 (pa_cons (pe_ix ix_tup (pv 2) pe_int (fun _ _ => rfl)) (pa_cons (pe_ix ix_tup (pv 2) pe_int (fun _ _ => rfl)) (pa_cons (pe_ix ix_tup (pv 2) pe_int (fun _ _ => rfl)) pa_nil)))) pa_nil)))))))))))
      (pss_one (ps_ret (pe_make T.mk_Forms (ok_finit T) hr (by rfl) T.g_Forms (bd_Forms_init T) .nil pass0 (pa_cons (pe_tupleOf (by rfl) T.b_tuple (pv 1)) pa_nil))))), ?_⟩
    refine ⟨Nat.zero_le _, fun f hf => ?_⟩
    have S0 : Same H (upd H f (.lst [])) := same_new hf _
    refine ⟨_, rfl, l, rfl, ⟨ws, SqL.of (S0 _ _ hl)⟩, for_list (K := K) (a := l) (xs := ws) (fun k σ H' => ∃ v2 acc, σ = [some (.ref l), some (.ref f), v2] ∧ Same H H' ∧ H' f = some (.lst acc) ∧ UsAt K H' acc (rs.take k))
      ⟨none, [], rfl, S0, upd_same, .nil⟩ (fun k σ H' _ ⟨_, _, _, S, _⟩ => SqL.of (S _ _ hl)) ?_ ?_⟩
    · rintro k x σ H' hx ⟨v2, acc, rfl, S, hA, hU⟩
      obtain ⟨r, hr', hq⟩ := paired_get hQ hx
      have hk := (List.getElem?_eq_some_iff.mp hr').1
      have hrk := hF.rk r (List.mem_of_getElem? hr')
      have hlen := hU.len
      have hz : acc.length ≤ 12 := by
        rw [hlen, List.length_take]
        have := hF.len
        omega
      have fin : ∀ (b : Addr) (H2 : Hp), Same H' H2 → UAt K H2 b r → ∃ l' xs y, (V.ref f) = .ref l' ∧ [V.ref b] = [y] ∧ H2 l' = some (.lst xs) ∧ xs.length < sizeLine ∧ (fun σ2 H3 => ∃ v2 acc, σ2 = [some (V.ref l), some (.ref f), v2] ∧ Same H H3 ∧ H3 f = some (.lst acc) ∧ UsAt K H3 acc (rs.take (k + 1))) [some (V.ref l), some (.ref f), some x] (upd H2 l' (.lst (xs ++ [y]))) := by
        intro b H2 S2 hb
        have hA2 := S2 _ _ hA
        have im : Imm H2 (upd H2 f (.lst (acc ++ [.ref b]))) := imm_lst hA2 _
        refine ⟨f, acc, _, rfl, rfl, hA2, sl5 (by omega), _, _, rfl, fun d o ho => ?_, upd_same, ?_⟩
        · rw [upd_ne (ne_of_none ho hf)]
          exact S2 _ _ (S _ _ ho)
        · rw [List.take_add_one, hr']
          exact UsAt.app (hU.imm ((Same.imm S2).trans im)) (.cons ⟨b, rfl, hb.imm im⟩ .nil)
      have hq' := hq.imm (Same.imm S)
      cases r with
      | shaped n s =>
        obtain ⟨a, b, rfl, ha, hT⟩ := hq'
        obtain ⟨k1, k2, k3, k4, k5⟩ := (show Sk s from hrk.sh)
        refine if_tagT rfl ha (by decide +kernel) ?_
        refine ⟨_, rfl, .inl ⟨rfl, _, SqL.of hA⟩, ?_⟩
        refine ⟨_, rfl, a, _, 1, .str n, rfl, rfl, SqT.of ha, atI_nat (j := 1) rfl, _, rfl, a, _, 2, .ref b, rfl, rfl, SqT.of ha, atI_nat (j := 2) rfl, b, s, rfl, hT, k1, k2, k4, by decide, fun c H2 S2 hS => ?_⟩
        intro p dx hp hdx hne
        refine ⟨p, dx, _, _, rfl, upd_same, fun H3 e => ⟨rfl, ?_⟩⟩
        subst e
        have S3 := made (C := ca K "Shaped") (fs := fNS (.str n) (.ref c)) hp hdx hne
        exact fin p _ (S2.trans S3) ⟨dx, c, upd_same, hS.imm (Same.imm S3)⟩
      | turned n o =>
        obtain ⟨a, rfl, ha⟩ := hq'
        refine if_tagF rfl ha (by decide +kernel) (if_tagT rfl ha (by decide +kernel) ?_)
        refine ⟨_, rfl, .inl ⟨rfl, _, SqL.of hA⟩, ?_⟩
        refine ⟨_, rfl, a, _, 1, .str n, rfl, rfl, SqT.of ha, atI_nat (j := 1) rfl, _, rfl, a, _, 2, .str o, rfl, rfl, SqT.of ha, atI_nat (j := 2) rfl, ?_⟩
        intro p dx hp hdx hne
        refine ⟨p, dx, _, _, rfl, upd_same, fun H3 e => ⟨rfl, ?_⟩⟩
        subst e
        exact fin p _ (made (C := ca K "Turned") (fs := fNO (.str n) (.str o)) hp hdx hne) ⟨dx, upd_same⟩
      | both n o u =>
        obtain ⟨a, rfl, ha⟩ := hq'
        refine if_tagF rfl ha (by decide +kernel) (if_tagF rfl ha (by decide +kernel) (if_tagT rfl ha (by decide +kernel) ?_))
        refine ⟨_, rfl, .inl ⟨rfl, _, SqL.of hA⟩, ?_⟩
        refine ⟨_, rfl, a, _, 1, .str n, rfl, rfl, SqT.of ha, atI_nat (j := 1) rfl, _, rfl, a, _, 2, .str o, rfl, rfl, SqT.of ha, atI_nat (j := 2) rfl, _, rfl, a, _, 3, .str u, rfl, rfl, SqT.of ha, atI_nat (j := 3) rfl, ?_⟩
        intro p dx hp hdx hne
        refine ⟨p, dx, _, _, _, rfl, upd_same, fun H3 e => ⟨rfl, ?_⟩⟩
        subst e
        exact fin p _ (made (C := ca K "Both") (fs := fNOO (.str n) (.str o) (.str u)) hp hdx hne) ⟨dx, upd_same⟩
      | any n o u =>
        obtain ⟨a, rfl, ha⟩ := hq'
        refine if_tagF rfl ha (by decide +kernel) (if_tagF rfl ha (by decide +kernel) (if_tagF rfl ha (by decide +kernel) ?_))
        refine ⟨_, rfl, .inl ⟨rfl, _, SqL.of hA⟩, ?_⟩
        refine ⟨_, rfl, a, _, 1, .str n, rfl, rfl, SqT.of ha, atI_nat (j := 1) rfl, _, rfl, a, _, 2, .str o, rfl, rfl, SqT.of ha, atI_nat (j := 2) rfl, _, rfl, a, _, 3, .str u, rfl, rfl, SqT.of ha, atI_nat (j := 3) rfl, ?_⟩
        intro p dx hp hdx hne
        refine ⟨p, dx, _, _, _, rfl, upd_same, fun H3 e => ⟨rfl, ?_⟩⟩
        subst e
        exact fin p _ (made (C := ca K "Any") (fs := fNOO (.str n) (.str o) (.str u)) hp hdx hne) ⟨dx, upd_same⟩
    · rintro σ H' ⟨v2, acc, rfl, S, hA, hU⟩
      rw [hQ.len, List.take_length] at hU
      refine ⟨_, rfl, .inl ⟨f, acc, rfl, SqL.of hA, fun t ht => ?_⟩⟩
      have S2 : Same H' (upd H' t (.tup acc)) := same_new ht _
      intro p dx hp hdx hne
      have S3 : Same (upd H' t (.tup acc)) (upd (upd (upd H' t (.tup acc)) dx (.own p)) p (.ins (ca K "Forms") dx [])) := fun d o ho => by
        rw [upd_ne (ne_of_none ho hp), upd_ne (ne_of_none ho hdx)]
        exact ho
      refine ⟨p, dx, t, acc, rs, rfl, upd_same, S3 _ _ upd_same, hU.imm (Same.imm (S2.trans S3)), hF, fun H3 H4 S4 e => ⟨rfl, ?_⟩⟩
      subst e
      have S5 : Same (upd H' t (.tup acc)) (upd H3 p (.ins (ca K "Forms") dx (fRules (.ref t)))) := fun d o ho => by
        rw [upd_ne (ne_of_none ho hp)]
        exact S4 _ _ (S3 _ _ ho)
      exact q p _ (S.trans (S2.trans S5)) ⟨dx, t, acc, upd_same, S5 _ _ upd_same, hU.imm (Same.imm (S2.trans S5))⟩
end
end K17
end PartK17E8
section PartK17F1
set_option Elab.async false
set_option linter.all false
set_option maxRecDepth 100000
set_option maxHeartbeats 4000000
/-! Meaning: what is known; is_told, is_of, is_by. -/
namespace K17
open PySem PySem.Spec PyProof.Rows L2
/-! ### rows that are not long -/
def Row.thin : Row → Prop
  | .nil => True
  | .cons _ i r => i.len ≤ 50 ∧ i.thin ∧ r.thin
def Tn (r : Row) : Prop := r.len ≤ 50 ∧ r.thin
theorem thin_subs : ∀ {r s : Row}, r.thin → s ∈ r.subs → Tn s
  | .cons w i r, s, h, q => by
    rcases List.mem_cons.mp q with rfl | q
    · exact ⟨h.1, h.2.1⟩
    · rcases List.mem_append.mp q with q | q
      · exact thin_subs h.2.1 q
      · exact thin_subs h.2.2 q
theorem Win.tn {r0 r : Row} (h : Win r0 r) (q : Tn r0) : Tn r := by
  rcases h with rfl | h
  · exact q
  · exact thin_subs q.2 h
theorem Win.nth {r0 r : Row} {k : Nat} {p : Str × Row} (h : Win r0 r) (e : r.nth k = some p) : Win r0 p.2 := h.inner (List.mem_of_getElem? (nth_inners e))
/-! ### what is known -/
theorem nodup_le {α : Type} [DecidableEq α] : ∀ {l m : List α}, l.Nodup → (∀ x ∈ l, x ∈ m) → l.length ≤ m.length
  | [], _, _, _ => Nat.zero_le _
  | x :: l, m, hn, hs => by
    obtain ⟨h1, h2⟩ := List.nodup_cons.mp hn
    have hx := hs x (List.mem_cons_self ..)
    have ih := nodup_le (l := l) (m := m.erase x) h2 fun y hy => by
      have ne : y ≠ x := fun z => h1 (by rw [← z]; exact hy)
      exact (List.mem_erase_of_ne ne).mpr (hs y (List.mem_cons_of_mem _ hy))
    rw [List.length_erase_of_mem hx] at ih
    have := List.length_pos_of_mem hx
    show l.length + 1 ≤ m.length
    omega
def keyOf (x : Str) (r : Row) : List L2.Key := [.inr x, .inr (rowTx r)]
def Kn (r0 : Row) (rs : List Rl) (kvs : List (List L2.Key × V)) : Prop := (kvs.map (·.1)).Nodup ∧ ∀ p ∈ kvs, ∃ r x, Win r0 r ∧ x ∈ nms rs ∧ p.1 = keyOf x r ∧ p.2 = .bl (F rs r x)
theorem Kn.len {r0 : Row} {rs : List Rl} {kvs : List (List L2.Key × V)} (h : Kn r0 rs kvs) (h1 : rs.length ≤ 12) (h2 : r0.size ≤ 1000) : kvs.length ≤ 20000 := by
  have e : kvs.length = (kvs.map (·.1)).length := (List.length_map ..).symm
  have z := nodup_le (m := (nms rs).flatMap fun x => (r0 :: r0.subs).map fun r => keyOf x r) h.1 fun k hk => by
    obtain ⟨p, hp, rfl⟩ := List.mem_map.mp hk
    obtain ⟨r, x, hw, hx, e, _⟩ := h.2 p hp
    rw [e]
    refine List.mem_flatMap.mpr ⟨x, hx, List.mem_map.mpr ⟨r, ?_, rfl⟩⟩
    rcases hw with rfl | hw
    · exact List.mem_cons_self ..
    · exact List.mem_cons_of_mem _ hw
  have l : ∀ ns : List Str, (ns.flatMap fun x => (r0 :: r0.subs).map fun r => keyOf x r).length = ns.length * (r0.size + 1) := by
    intro ns
    induction ns with
    | nil => simp
    | cons y ns ih =>
      rw [List.flatMap_cons, List.length_append, ih, List.length_map, List.length_cons, subs_len, List.length_cons, Nat.add_mul, Nat.one_mul]
      omega
  rw [← e, l, List.length_map] at z
  have : rs.length * (r0.size + 1) ≤ 12 * 1001 := Nat.mul_le_mul h1 (by omega)
  omega
theorem valV_mem {κ : Type} [DecidableEq κ] {kvs : List (κ × V)} {k : κ} {v : V} (h : valV kvs k = some v) : (k, v) ∈ kvs := by
  induction kvs with
  | nil => cases h
  | cons p kvs ih =>
    by_cases c : p.1 = k
    · rw [valV_pos c] at h
      injection h with h
      rw [← c, ← h]
      exact List.mem_cons_self ..
    · rw [valV_neg c] at h
      exact List.mem_cons_of_mem _ (ih h)
theorem key_inj {x y : Str} {r s : Row} (h1 : WRow r) (h2 : WRow s) (e : keyOf x r = keyOf y s) : x = y ∧ r = s := by
  injection e with e1 e2
  injection e2 with e3 _
  injection e1 with e1
  injection e3 with e3
  exact ⟨e1, tx_inj h1 h2 e3⟩
theorem Kn.get {r0 r : Row} {rs : List Rl} {kvs : List (List L2.Key × V)} {x : Str} {v : V} {n : Nat} (h : Kn r0 rs kvs) (hr : Rok n r0) (hw : Win r0 r) (e : valV kvs (keyOf x r) = some v) : v = .bl (F rs r x) := by
  obtain ⟨s, y, hs, _, e1, e2⟩ := h.2 _ (valV_mem e)
  obtain ⟨rfl, rfl⟩ := key_inj (hw.rok hr).1 (hs.rok hr).1 e1
  exact e2
theorem Kn.put {r0 r : Row} {rs : List Rl} {kvs : List (List L2.Key × V)} {x : Str} {n : Nat} (h : Kn r0 rs kvs) (hr : Rok n r0) (hw : Win r0 r) (hx : x ∈ nms rs) : Kn r0 rs (putK kvs (keyOf x r) (.bl (F rs r x))) ∧ valV (putK kvs (keyOf x r) (.bl (F rs r x))) (keyOf x r) = some (.bl (F rs r x)) := by
  refine ⟨?_, by rw [valV_put, if_pos rfl]⟩
  cases e : valV kvs (keyOf x r) with
  | none =>
    refine ⟨nd_putK _ h.1 e, fun p hp => ?_⟩
    rw [putK_new _ e] at hp
    rcases List.mem_append.mp hp with z | z
    · exact h.2 p z
    · rw [List.mem_singleton.mp z]
      exact ⟨r, x, hw, hx, rfl, rfl⟩
  | some v =>
    have hm := valV_mem e
    have e1 : (kvs.any fun kv => decide (kv.1 = keyOf x r)) = true := by
      rw [valV_any, e]
      rfl
    unfold putK
    rw [if_pos e1]
    have e2 : (kvs.map fun kv => if kv.1 = keyOf x r then (kv.1, V.bl (F rs r x)) else kv) = kvs := by
      have go : ∀ l : List (List L2.Key × V), (∀ p ∈ l, p.1 = keyOf x r → p.2 = .bl (F rs r x)) → (l.map fun kv => if kv.1 = keyOf x r then (kv.1, V.bl (F rs r x)) else kv) = l := by
        intro l
        induction l with
        | nil => intro _; rfl
        | cons p l ih =>
          intro hp
          rw [List.map_cons, ih fun q hq => hp q (List.mem_cons_of_mem _ hq)]
          by_cases c : p.1 = keyOf x r
          · rw [if_pos c, ← hp p (List.mem_cons_self ..) c]
          · rw [if_neg c]
      refine go kvs fun p hp c => ?_
      obtain ⟨s, y, hs, _, e3, e4⟩ := h.2 p hp
      rw [c] at e3
      obtain ⟨rfl, rfl⟩ := key_inj (hw.rok hr).1 (hs.rok hr).1 e3
      exact e4
    rw [e2]
    exact h
/-! ### the Meaning object -/
abbrev fMean (v u : V) : List (Str × V) := [("forms", v), ("known", u)]
def Mg (K : PySem.W.Frag) (H : Hp) (m fa d : Addr) (rs : List Rl) (r0 : Row) : Prop := Fk rs ∧ Rok 9 r0 ∧ Tn r0 ∧ ∃ (dx : Addr) (kvs : List (List L2.Key × V)), H m = some (.ins (ca K "Meaning") dx (fMean (.ref fa) (.ref d))) ∧ FsAt K H fa rs ∧ H d = some (.dT kvs) ∧ Kn r0 rs kvs
theorem Mg.dT {K : PySem.W.Frag} {H : Hp} {m fa d : Addr} {rs : List Rl} {r0 : Row} (h : Mg K H m fa d rs r0) : ∃ kvs, H d = some (.dT kvs) := let ⟨_, _, _, dx, kvs, _, _, h3, _⟩ := h; ⟨kvs, h3⟩
theorem Mg.same {K : PySem.W.Frag} {H H' : Hp} {m fa d : Addr} {rs : List Rl} {r0 : Row} (h : Mg K H m fa d rs r0) (S : Same H H') : Mg K H' m fa d rs r0 := by
  obtain ⟨a, b, c, dx, kvs, h1, h2, h3, h4⟩ := h
  exact ⟨a, b, c, dx, kvs, S _ _ h1, h2.imm (Same.imm S), S _ _ h3, h4⟩
/-- from H to H' only what stands at d changed -/
def Go (d : Addr) (H H' : Hp) : Prop := Ext [d] H H'
theorem Go.imm {K : PySem.W.Frag} {H H' : Hp} {m fa d : Addr} {rs : List Rl} {r0 : Row} (h : Mg K H m fa d rs r0) (g : Go d H H') : Imm H H' := by
  obtain ⟨kvs, e⟩ := h.dT
  refine Ext.imm g fun x hx => ?_
  rw [List.mem_singleton.mp hx, e]
  exact ⟨fun xs z => (by cases z), fun C dx fs z => (by cases z)⟩
theorem Go.lst {K : PySem.W.Frag} {H H' : Hp} {m fa d b : Addr} {rs : List Rl} {r0 : Row} {xs : List V} (h : Mg K H m fa d rs r0) (g : Go d H H') (e : H b = some (.lst xs)) : H' b = some (.lst xs) := by
  obtain ⟨kvs, e2⟩ := h.dT
  refine g b _ e fun z => ?_
  rw [List.mem_singleton.mp z, e2] at e
  cases e
theorem Go.dk {K : PySem.W.Frag} {H H' : Hp} {m fa d b : Addr} {rs : List Rl} {r0 : Row} {kv : List (L2.Key × V)} (h : Mg K H m fa d rs r0) (g : Go d H H') (e : H b = some (.dK kv)) : H' b = some (.dK kv) := by
  obtain ⟨kvs, e2⟩ := h.dT
  refine g b _ e fun z => ?_
  rw [List.mem_singleton.mp z, e2] at e
  cases e
theorem Go.of {d : Addr} {H H' : Hp} (S : Same H H') : Go d H H' := Ext.of_same S
theorem Go.trans {d : Addr} {H H1 H2 : Hp} (a : Go d H H1) (b : Go d H1 H2) : Go d H H2 := Ext.trans a b
theorem okl_uniq {rs : List Rl} (h : Okl [] rs) {i j : Nat} {r s : Rl} (hi : rs[i]? = some r) (hj : rs[j]? = some s) (e : r.name = s.name) : i = j := by
  have go : ∀ {i j : Nat} {r s : Rl}, rs[i]? = some r → rs[j]? = some s → r.name = s.name → ¬ i < j := by
    intro i j r s hi hj e l
    obtain ⟨_, h2, _⟩ := okl_nth h hj
    refine h2 ?_
    rw [← e]
    refine List.mem_map.mpr ⟨r, ?_, rfl⟩
    refine List.mem_of_getElem? (i := i) ?_
    rw [List.getElem?_take, if_pos l]
    exact hi
  have a := go hi hj e
  have b := go hj hi e.symm
  omega
theorem okl_leans {rs : List Rl} (h : Okl [] rs) {j : Nat} {r : Rl} (hj : rs[j]? = some r) {x : Str} (hx : x ∈ r.leans) : ∃ k s, k < j ∧ rs[k]? = some s ∧ s.name = x := by
  obtain ⟨_, _, h3⟩ := okl_nth h hj
  rcases h3 x hx with z | z
  · cases z
  · obtain ⟨s, hs, e⟩ := List.mem_map.mp z
    obtain ⟨k, hk, e2⟩ := List.mem_iff_getElem.mp hs
    rw [List.length_take] at hk
    refine ⟨k, s, by omega, ?_, e⟩
    rw [List.getElem_take] at e2
    rw [List.getElem?_eq_getElem (by omega), e2]
def tl0 (D : Nat) : Nat := 10 + 31 * D
def spTold (K : PySem.W.Frag) (D : Nat) : Sp := fun vs H Q _ => ∃ (m s t b fa d dx : Addr) (rs : List Rl) (r0 i : Row) (wo : Option Str) (n y : Str), vs = [.ref m, .ref s, .ref t] ∧ Mg K H m fa d rs r0 ∧ H s = some (.ins (ca K "Tree") dx (fTree (wV wo) (.str n))) ∧ H t = some (.tup [.str y, .ref b]) ∧
  RowAt H i b ∧ Win r0 i ∧ i.depth < D ∧ n ∈ nms rs ∧ ∀ H', Go d H H' → Mg K H' m fa d rs r0 → Q (.bl (wordOk wo y && F rs i n)) H'
/-- the rule's place is below i -/
def spIsOf (K : PySem.W.Frag) (D i : Nat) : Sp := fun vs H Q _ => ∃ (m a fa d : Addr) (x : Str) (rs : List Rl) (r0 r : Row) (j : Nat) (u : Rl), vs = [.ref m, .str x, .ref a] ∧ Mg K H m fa d rs r0 ∧ RowAt H r a ∧ Win r0 r ∧ r.depth ≤ D ∧ j < i ∧ rs[j]? = some u ∧ u.name = x ∧
  ∀ H', Go d H H' → Mg K H' m fa d rs r0 → Q (.bl (F rs r x)) H'
def spIsBy (K : PySem.W.Frag) (D i : Nat) : Sp := fun vs H Q _ => ∃ (m b a fa d : Addr) (rs : List Rl) (r0 r : Row) (j : Nat) (u : Rl), vs = [.ref m, .ref b, .ref a] ∧ Mg K H m fa d rs r0 ∧ UAt K H b u ∧ RowAt H r a ∧ Win r0 r ∧ r.depth ≤ D ∧ j ≤ i ∧ rs[j]? = some u ∧
  ∀ H', Go d H H' → Mg K H' m fa d rs r0 → Q (.bl (F rs r u.name)) H'
abbrev nzs (l : List Nat) : List V := l.map fun n : Nat => V.int (n : Int)
def spEnds (K : PySem.W.Frag) (D e : Nat) : Sp := fun vs H Q _ => ∃ (m b a l fa d : Addr) (rs : List Rl) (r0 r : Row) (s : Sh) (bs : List Nat), vs = [.ref m, .ref b, .ref a, .ref l] ∧ Mg K H m fa d rs r0 ∧ SAt K H s [.ref b] ∧ s.ok false ∧ s.sz ≤ 1000 ∧ s.deep ≤ e ∧ (∀ x ∈ s.lvs, x.2 ∈ nms rs) ∧ RowAt H r a ∧ Win r0 r ∧ r.depth ≤ D ∧
  H l = some (.lst (nzs bs)) ∧ bs.length ≤ 100 ∧ (∀ n ∈ bs, n ≤ r.len) ∧
  ∀ (p : Addr) (es : List Nat) (H' : Hp), Go d H H' → Mg K H' m fa d rs r0 → H' p = some (.lst (nzs es)) → es.length ≤ 100 → (∀ n, n ∈ es ↔ ∃ k ∈ bs, Re false s (sg rs r) k n) → Q (.ref p) H'
section
variable {P : Program} {w : World} {K : PySem.W.Frag} {mg : Str → Option Value} {base : Heap}
abbrev ToldG (P : Program) (w : World) (K : PySem.W.Frag) (mg : Str → Option Value) (base : Heap) (D : Nat) : Prop := FO P w K mg base (tl0 D) (me K "Meaning" "is_told") pMeaningIsTold (spTold K D)
abbrev IsOfG (P : Program) (w : World) (K : PySem.W.Frag) (mg : Str → Option Value) (base : Heap) (D i : Nat) : Prop := FO P w K mg base (tl0 D + 6 + 2 * i) (me K "Meaning" "is_of") pMeaningIsOf (spIsOf K D i)
abbrev IsByG (P : Program) (w : World) (K : PySem.W.Frag) (mg : Str → Option Value) (base : Heap) (D i : Nat) : Prop := FO P w K mg base (tl0 D + 7 + 2 * i) (me K "Meaning" "is_by") pMeaningIsBy (spIsBy K D i)
abbrev EndsG (P : Program) (w : World) (K : PySem.W.Frag) (mg : Str → Option Value) (base : Heap) (D e : Nat) : Prop := FO P w K mg base (tl0 D + e) (me K "Meaning" "ends_of") pMeaningEndsOf (spEnds K D e)
theorem inV_word (wo : Option Str) (y : Str) : inV (wV wo) [.non, .str y] = wordOk wo y := by
  cases wo with
  | none => rfl
  | some x =>
    show (false || ((y == x) || false)) = decide (x = y)
    by_cases c : x = y
    · simp [c]
    · have c' : ¬ y = x := fun z => c z.symm
      simp [c, c']
theorem flat_wV (wo : Option Str) : flatV (wV wo) = true := by cases wo <;> rfl
theorem told_step (T : Tx K mg) {D : Nat} (G : IsOfG P w K mg base D 12) : ToldG P w K mg base (D + 1) := by
  have G2 : FO P w K mg base (tl0 D + 30) (me K "Meaning" "is_of") pMeaningIsOf (spIsOf K D 12) := G
  show FO P w K mg base (tl0 (D + 1)) _ _ _
  have e : tl0 (D + 1) = (tl0 D + 30) + 1 := by unfold tl0; omega
  rw [e]
  refine T.d_Meaning_is_told.ok0 scMeaningIsTold (fun vs H Q E h => ?_) (fun cdv A outer st H vs Q E hr h => ?_)
  · obtain ⟨m, s, t, b, fa, d, dx, rs, r0, i, wo, n, y, rfl, _⟩ := h
    rfl
  · obtain ⟨m, s, t, b, fa, d, dx, rs, r0, i, wo, n, y, rfl, hM, hs, ht, hR, hW, hD, hn, q⟩ := h
    refine ⟨_, pss_one (ps_ret (pe_and (pe_cmpR op_in_seq (pe_fld (pv 1) rfl) (pe_tup (pa_cons pe_non (pa_cons (pe_ix ix_tup (pv 2) pe_int (fun _ _ => rfl)) pa_nil))) rfl)
      (pe_one (pe_meth (pv 0) T.c_Meaning T.m_Meaning_is_of G2 hr (bd_Meaning_is_of T) .nil pass0 (pa_cons (pe_fld (pv 1) rfl) (pa_cons (pe_ix ix_tup (pv 2) pe_int (fun _ _ => rfl)) pa_nil)))))), ?_⟩
    refine ⟨_, rfl, s, _, dx, _, _, rfl, hs, T.c_Tree, T.n_Tree_word, rfl, _, rfl, t, _, 0, .str y, rfl, rfl, SqT.of ht, atI_nat (j := 0) rfl, (by show 2 ≤ sizeLine; decide), fun p hp => ?_⟩
    have S1 : Same H (upd H p (.tup [.non, .str y])) := same_new hp _
    have hM1 := hM.same S1
    refine ⟨p, _, rfl, .inr (SqT.of upd_same), flat_wV wo, rfl, _, rfl, ?_⟩
    rw [inV_word]
    by_cases c : wordOk wo y = true
    · rw [c]
      refine iteT ?_
      obtain ⟨u, hu, hun⟩ := List.mem_map.mp hn
      obtain ⟨j, hj, hju⟩ := List.mem_iff_getElem.mp hu
      have hj2 : rs[j]? = some u := by rw [List.getElem?_eq_getElem hj, hju]
      have hlen := hM.1.len
      obtain ⟨_, _, _, dxm, kvs, hm, _⟩ := id hM1
      refine ⟨_, rfl, m, dxm, _, rfl, hm, rfl, ?_⟩
      refine ⟨_, rfl, s, _, dx, _, _, rfl, S1 _ _ hs, T.c_Tree, T.n_Tree_name, rfl, _, rfl, t, _, 1, .ref b, rfl, rfl, SqT.of (S1 _ _ ht), atI_nat (j := 1) rfl, ?_⟩
      refine ⟨m, b, fa, d, n, rs, r0, i, j, u, rfl, hM1, hR.imm (Same.imm S1), hW, by omega, by omega, hj2, hun, fun H' g hM' => ?_⟩
      have z := q H' ((Go.of S1).trans g) hM'
      rw [c, Bool.true_and] at z
      exact z
    · have c' : wordOk wo y = false := by simpa using c
      rw [c']
      have z := q _ (Go.of S1) hM1
      rw [c', Bool.false_and] at z
      exact iteF z
theorem isof_step (T : Tx K mg) {D i : Nat} (G : IsByG P w K mg base D i) : IsOfG P w K mg base D (i + 1) := by
  show FO P w K mg base (tl0 D + 6 + 2 * (i + 1)) _ _ _
  have e : tl0 D + 6 + 2 * (i + 1) = (tl0 D + 7 + 2 * i) + 1 := by omega
  rw [e]
  have Tx10 : FO P w K mg base (tl0 D + 7 + 2 * i) (ca K "row_text") pRowText (spText 10) := (ok_text T 10).mono (by unfold tl0; omega)
  have Rl1 : FO P w K mg base (tl0 D + 7 + 2 * i) (me K "Forms" "rule") pFormsRule (spFRule K) := (ok_frule T).mono (by omega)
  refine T.d_Meaning_is_of.ok0 scMeaningIsOf (fun vs H Q E h => ?_) (fun cdv A outer st H vs Q E hr h => ?_)
  · obtain ⟨m, a, fa, d, x, rs, r0, r, j, u, rfl, _⟩ := h
    rfl
  · obtain ⟨m, a, fa, d, x, rs, r0, r, j, u, rfl, hM, hR, hW, hD, hj, hju, hux, q⟩ := h
    have nd := scMeaningIsOf.nd
    have hu : _ + 64 < _ := hr.units
    have hu1 : (A.deeper (envOfC "Meaning.is_of" (defScope sMeaningIsOf) st.heap.objs.size (me K "Meaning" "is_of") cdv)).units + 1 < cLine := by omega
    refine ⟨_, pss_cons (ps_set (i := 3) nd rfl (.inl rfl) (pe_tup (pa_cons (pv 1) (pa_cons (pe_call Tx10 hr rfl T.g_row_text T.d_row_text.kp (bd_row_text T) .nil pass0 (pa_cons (pv 2) pa_nil)) pa_nil))))
      (pss_cons (ps_if (pt_cmp (pc_dnotin hu1 (pv 3) (pe_fld (pv 0) rfl)) rfl)
        (pss_one (ps_dput hu1 (pe_fld (pv 0) rfl) (pv 3) (pe_meth (pv 0) T.c_Meaning T.m_Meaning_is_by G hr (bd_Meaning_is_by T) .nil pass0 (pa_cons (pe_meth (pe_fld (pv 0) rfl) T.c_Forms T.m_Forms_rule Rl1 hr (bd_Forms_rule T) .nil pass0 (pa_cons (pv 1) pa_nil)) (pa_cons (pv 2) pa_nil))) rfl)) pss_nil)
      (pss_one (ps_ret (pe_dget hu1 (pe_fld (pv 0) rfl) (pv 3) (fun _ _ => rfl))))), ?_⟩
    obtain ⟨fk, rk, tn, dx, kvs, hm, hf, hd, hk⟩ := id hM
    have hx : x ∈ nms rs := List.mem_map.mpr ⟨u, List.mem_of_getElem? hju, hux⟩
    refine ⟨_, rfl, _, rfl, a, r, rfl, hR, (hW.rok rk).1, (hW.rok rk).2.1, Nat.lt_of_le_of_lt (hW.rok rk).2.2 (by decide), by decide, fun H1 S1 => ?_⟩
    refine ⟨(by show 2 ≤ sizeLine; decide), fun t ht => ?_⟩
    have S2 : Same H (upd H1 t (.tup [.str x, .str (rowTx r)])) := S1.trans (same_new ht _)
    have hM2 := hM.same S2
    have hk2 : (upd H1 t (.tup [.str x, .str (rowTx r)])) t = some (.tup ((keyOf x r).map kV)) := upd_same
    generalize upd H1 t (.tup [.str x, .str (rowTx r)]) = H2 at S2 hM2 hk2
    refine ⟨_, rfl, _, rfl, m, _, dx, _, _, rfl, S2 _ _ hm, T.c_Meaning, T.n_Meaning_known, rfl, d, _, rfl, DGet.t (S2 _ _ hd) hk2, _, rfl, ?_⟩
    have last : ∀ (H3 : Hp), Go d H H3 → Mg K H3 m fa d rs r0 → H3 t = some (.tup ((keyOf x r).map kV)) → (∀ kvs, H3 d = some (.dT kvs) → valV kvs (keyOf x r) = some (.bl (F rs r x))) →
        tRet (tDGet (tFld K (tVar 0) "known") (tVar 3)) { nx := fun _ H' => Q .non H', rt := Q } [some (.ref m), some (.str x), some (.ref a), some (.ref t)] H3 := by
      intro H3 g hM3 ht3 hv
      obtain ⟨_, _, _, dx3, kvs3, hm3, hf3, hd3, hk3⟩ := id hM3
      refine ⟨_, rfl, m, _, dx3, _, _, rfl, hm3, T.c_Meaning, T.n_Meaning_known, rfl, _, rfl, d, .bl (F rs r x), rfl, ?_, q H3 g hM3⟩
      rw [← hv kvs3 hd3]
      exact DGet.t hd3 ht3
    cases e : valV kvs (keyOf x r) with
    | some v =>
      refine iteF (last H2 (Go.of S2) hM2 hk2 fun kvs' hkv => ?_)
      rw [S2 _ _ hd] at hkv
      cases hkv
      rw [e, hk.get rk hW e]
    | none =>
      refine iteT ?_
      refine ⟨_, rfl, m, dx, _, rfl, S2 _ _ hm, rfl, ?_⟩
      obtain ⟨dxf, tf, uf, hfa, htf, hUf⟩ := hf.imm (Same.imm S2)
      refine ⟨_, rfl, m, _, dx, _, _, rfl, S2 _ _ hm, T.c_Meaning, T.n_Meaning_forms, rfl, fa, dxf, _, rfl, hfa, rfl, _, rfl, fa, rs, x, rfl, ⟨dxf, tf, uf, hfa, htf, hUf⟩, hx, fun b r' hr' hn' hU' => ?_⟩
      obtain ⟨j', hj', e'⟩ := List.mem_iff_getElem.mp hr'
      have hj2 : rs[j']? = some r' := by rw [List.getElem?_eq_getElem hj', e']
      have ej : j' = j := okl_uniq fk.ok hj2 hju (by rw [hn', hux])
      subst ej
      rw [hju] at hj2
      cases hj2
      refine ⟨_, rfl, m, b, a, fa, d, rs, r0, r, j', u, rfl, hM2, hU', hR.imm (Same.imm S2), hW, hD, by omega, hju, fun H3 g3 hM3 => ?_⟩
      rw [hux]
      obtain ⟨_, _, _, dx3, kvs3, hm3, hf3, hd3, hk3⟩ := id hM3
      have ht3 : H3 t = some (.tup ((keyOf x r).map kV)) := (Go.imm hM2 g3).1 _ _ hk2
      refine ⟨_, rfl, m, _, dx3, _, _, rfl, hm3, T.c_Meaning, T.n_Meaning_known, rfl, _, rfl, d, _, rfl, DPut.t hd3 ht3 (Nat.lt_of_le_of_lt (hk3.len fk.len rk.2.1) (sl5 (by decide))), ?_⟩
      obtain ⟨p1, p2⟩ := hk3.put rk hW hx
      have nmd : m ≠ d := fun z => by
        rw [z, hd3] at hm3
        cases hm3
      have g4 : Go d H3 (upd H3 d (.dT (putK kvs3 (keyOf x r) (.bl (F rs r x))))) := Ext.upd_in (List.mem_cons_self ..) _
      have im4 := Go.imm hM3 g4
      refine last _ ((Go.of S2).trans (g3.trans g4)) ⟨fk, rk, tn, dx3, _, im4.2 _ _ _ _ hm3, hf3.imm im4, upd_same, p1⟩ (im4.1 _ _ ht3) fun kvs' hkv => ?_
      rw [upd_same] at hkv
      cases hkv
      exact p2
end
end K17
end PartK17F1
section PartK17F2
set_option Elab.async false
set_option linter.all false
set_option maxRecDepth 100000
set_option maxHeartbeats 4000000
/-! is_by. -/
namespace K17
open PySem PySem.Spec PyProof.Rows L2
theorem inV_nzs (n : Nat) (l : List Nat) : inV (.int (n : Int)) (nzs l) = decide (n ∈ l) := by
  induction l with
  | nil => simp [inV]
  | cons m l ih =>
    unfold inV at ih ⊢
    rw [nzs, List.map_cons, List.any_cons]
    have ih' : ((l.map fun n : Nat => V.int (n : Int)).any fun y => eqV y (.int (n : Int))) = decide (n ∈ l) := ih
    rw [ih']
    show (((m : Int) == (n : Int)) || decide (n ∈ l)) = _
    by_cases c : n = m
    · simp [c]
    · have c' : ¬ (m : Int) = (n : Int) := fun z => c (by omega)
      have c2 : ((m : Int) == (n : Int)) = false := by simpa using c'
      rw [c2]
      simp [c]
theorem flat_nzs (l : List Nat) : (nzs l).all flatV = true := by
  induction l with
  | nil => rfl
  | cons m l ih =>
    rw [nzs, List.map_cons, List.all_cons]
    exact ih
section
variable {P : Program} {w : World} {K : PySem.W.Frag} {mg : Str → Option Value} {base : Heap}
theorem isby_step (T : Tx K mg) {D i : Nat} (G : IsOfG P w K mg base D i) (GE : EndsG P w K mg base D 6) : IsByG P w K mg base D i := by
  show FO P w K mg base (tl0 D + 7 + 2 * i) _ _ _
  have e : tl0 D + 7 + 2 * i = (tl0 D + 6 + 2 * i) + 1 := by omega
  rw [e]
  have GE2 : FO P w K mg base (tl0 D + 6 + 2 * i) (me K "Meaning" "ends_of") pMeaningEndsOf (spEnds K D 6) := FnOk.mono GE (by omega)
  have G2 : FO P w K mg base (tl0 D + 6 + 2 * i) (me K "Meaning" "is_of") pMeaningIsOf (spIsOf K D i) := G
  refine T.d_Meaning_is_by.ok0 scMeaningIsBy (fun vs H Q E h => ?_) (fun cdv A outer st H vs Q E hr h => ?_)
  · obtain ⟨m, b, a, fa, d, rs, r0, r, j, u, rfl, _⟩ := h
    rfl
  · obtain ⟨m, b, a, fa, d, rs, r0, r, j, u, rfl, hM, hU, hR, hW, hD, hj, hju, q⟩ := h
    refine ⟨_, pss_cons (ps_if (pt_val (pe_callB call_isi (by rfl) T.b_isinstance (by decide +kernel) (pa_cons (pv 1) (pa_cons (pe_glob (v := .ref (ca K "Shaped")) (by rfl) T.g_Shaped rfl) pa_nil))))
        (pss_one (ps_ret (pe_cmpR op_in_seq (pe_callB call_lenS (by rfl) T.b_len PySem.boot_len (pa_cons (pv 2) pa_nil)) (pe_meth (pv 0) T.c_Meaning T.m_Meaning_ends_of GE2 hr (bd_Meaning_ends_of T) .nil pass0 (pa_cons (pe_fld (pv 1) rfl) (pa_cons (pv 2) (pa_cons (pe_lst (pa_cons pe_int pa_nil)) pa_nil)))) rfl))) pss_nil)
      (pss_cons (ps_if (pt_val (pe_callB call_isi (by rfl) T.b_isinstance (by decide +kernel) (pa_cons (pv 1) (pa_cons (pe_glob (v := .ref (ca K "Turned")) (by rfl) T.g_Turned rfl) pa_nil))))
        (pss_one (ps_ret (pe_not (pe_meth (pv 0) T.c_Meaning T.m_Meaning_is_of G2 hr (bd_Meaning_is_of T) .nil pass0 (pa_cons (pe_fld (pv 1) rfl) (pa_cons (pv 2) pa_nil)))))) pss_nil)
      (pss_cons (ps_if (pt_val (pe_callB call_isi (by rfl) T.b_isinstance (by decide +kernel) (pa_cons (pv 1) (pa_cons (pe_glob (v := .ref (ca K "Both")) (by rfl) T.g_Both rfl) pa_nil))))
        (pss_one (ps_ret (pe_and (pe_meth (pv 0) T.c_Meaning T.m_Meaning_is_of G2 hr (bd_Meaning_is_of T) .nil pass0 (pa_cons (pe_fld (pv 1) rfl) (pa_cons (pv 2) pa_nil)))
          (pe_one (pe_meth (pv 0) T.c_Meaning T.m_Meaning_is_of G2 hr (bd_Meaning_is_of T) .nil pass0 (pa_cons (pe_fld (pv 1) rfl) (pa_cons (pv 2) pa_nil))))))) pss_nil)
      (pss_one (ps_ret (pe_or (pe_meth (pv 0) T.c_Meaning T.m_Meaning_is_of G2 hr (bd_Meaning_is_of T) .nil pass0 (pa_cons (pe_fld (pv 1) rfl) (pa_cons (pv 2) pa_nil)))
          (pe_one (pe_meth (pv 0) T.c_Meaning T.m_Meaning_is_of G2 hr (bd_Meaning_is_of T) .nil pass0 (pa_cons (pe_fld (pv 1) rfl) (pa_cons (pv 2) pa_nil))))))))), ?_⟩
    have mem : u ∈ rs := List.mem_of_getElem? hju
    have fk := hM.1
    have rk := hM.2.1
    have er := F_rule (row := r) fk.ok mem
    rw [er] at q
    obtain ⟨dx0, fs, hb, _, _, _⟩ := hU.ins2
    have ty : ∀ H' : Hp, H' b = some (.ins (ca K u.cls) dx0 fs) → TyX K H' (.ref b) (.ref (ca K u.cls)) := fun H' h => rl_tyx T h
    have ask : ∀ (H1 : Hp) (x : Str) (Q1 : VK), Mg K H1 m fa d rs r0 → RowAt H1 r a → x ∈ u.leans → (∀ H', Go d H1 H' → Mg K H' m fa d rs r0 → Q1 (.bl (F rs r x)) H') → spIsOf K D i [.ref m, .str x, .ref a] H1 Q1 E0 := by
      intro H1 x Q1 hM1 hR1 hx hq
      obtain ⟨k, s, hk, hks, hsn⟩ := okl_leans fk.ok hju hx
      exact ⟨m, a, fa, d, x, rs, r0, r, k, s, rfl, hM1, hR1, hW, hD, by omega, hks, hsn, hq⟩
    obtain ⟨_, _, _, dxm, kvm, hm, _⟩ := id hM
    cases u with
    | shaped n s =>
      obtain ⟨dx, c, hc, hS⟩ := hU
      obtain ⟨k1, k2, k3, k4, k5⟩ := (show Sk s from (fk.rk _ mem).sh)
      refine rd_isi rfl (ty _ hb) T.kit_Shaped_Shaped (iteT ?_)
      obtain ⟨us, ha, hus⟩ := id hR
      refine ⟨_, rfl, a, us, rfl, .inr (SqT.of ha), ?_⟩
      refine ⟨_, rfl, m, dxm, _, rfl, hm, rfl, ?_⟩
      refine ⟨_, rfl, b, _, dx, _, _, rfl, hc, T.c_Shaped, T.n_Shaped_shape, rfl, _, rfl, (by show 1 ≤ sizeLine; decide), fun l hl => ?_⟩
      have S1 : Same H (upd H l (.lst [.int 0])) := same_new hl _
      refine ⟨m, c, a, l, fa, d, rs, r0, r, s, [0], rfl, hM.same S1, hS.imm (Same.imm S1), k1, k2, k4, fun x hx => fk.nm _ mem x hx, hR.imm (Same.imm S1), hW, hD, upd_same, by decide, fun n hn => by rw [List.mem_singleton.mp hn]; exact Nat.zero_le _, fun p es H' g hM' hp hl' hes => ?_⟩
      refine ⟨p, _, rfl, .inl (SqL.of hp), rfl, flat_nzs _, ?_⟩
      rw [hus.len, inV_nzs]
      have e2 : decide (r.len ∈ es) = bv (K17.D s false (sg rs r)) := by
        have z : r.len ∈ es ↔ K17.D s false (sg rs r) := by
          rw [hes, ← re_whole, sg_len]
          simp
        unfold bv
        by_cases c : r.len ∈ es
        · rw [decide_eq_true c]
          exact (bv_true (z.mp c)).symm
        · rw [decide_eq_false c]
          exact (bv_false fun y => c (z.mpr y)).symm
      rw [e2]
      exact q H' ((Go.of S1).trans g) hM'
    | turned n o =>
      obtain ⟨dx, hc⟩ := hU
      refine rd_isi rfl (ty _ hb) T.kit_Turned_Shaped (iteF ?_)
      refine rd_isi rfl (ty _ hb) T.kit_Turned_Turned (iteT ?_)
      exact ⟨_, rfl, m, dxm, _, rfl, hm, rfl, _, rfl, b, _, dx, _, _, rfl, hc, T.c_Turned, T.n_Turned_one, rfl, _, rfl, by dsimp only [tNil]; refine ask H o _ hM hR (List.mem_singleton.mpr rfl) fun H' g hM' => ?_; exact ⟨_, rfl, q H' g hM'⟩⟩
    | both n o v =>
      obtain ⟨dx, hc⟩ := hU
      refine rd_isi rfl (ty _ hb) T.kit_Both_Shaped (iteF ?_)
      refine rd_isi rfl (ty _ hb) T.kit_Both_Turned (iteF ?_)
      refine rd_isi rfl (ty _ hb) T.kit_Both_Both (iteT ?_)
      refine ⟨_, rfl, m, dxm, _, rfl, hm, rfl, _, rfl, b, _, dx, _, _, rfl, hc, T.c_Both, T.n_Both_one, rfl, _, rfl, ?_⟩
      dsimp only [tNil]
      refine ask H o _ hM hR (List.mem_cons_self ..) fun H1 g1 hM1 => ?_
      refine ⟨_, rfl, ?_⟩
      have hc1 := (Go.imm hM g1).2 _ _ _ _ hc
      have hm1 := (Go.imm hM g1).2 _ _ _ _ hm
      by_cases c : F rs r o = true
      · rw [c]
        refine iteT ⟨_, rfl, m, dxm, _, rfl, hm1, rfl, _, rfl, b, _, dx, _, _, rfl, hc1, T.c_Both, T.n_Both_other, rfl, _, rfl, ?_⟩
        dsimp only [tNil]
        refine ask H1 v _ hM1 (hR.imm (Go.imm hM g1)) (List.mem_cons_of_mem _ (List.mem_singleton.mpr rfl)) fun H2 g2 hM2 => ?_
        have z := q H2 (g1.trans g2) hM2
        rw [show rv (F rs r) (sg rs r) (.both n o v) = (F rs r o && F rs r v) from rfl, c, Bool.true_and] at z
        exact z
      · have c' : F rs r o = false := by simpa using c
        rw [c']
        have z := q H1 g1 hM1
        rw [show rv (F rs r) (sg rs r) (.both n o v) = (F rs r o && F rs r v) from rfl, c', Bool.false_and] at z
        exact iteF z
    | any n o v =>
      obtain ⟨dx, hc⟩ := hU
      refine rd_isi rfl (ty _ hb) T.kit_Any_Shaped (iteF ?_)
      refine rd_isi rfl (ty _ hb) T.kit_Any_Turned (iteF ?_)
      refine rd_isi rfl (ty _ hb) T.kit_Any_Both (iteF ?_)
      refine ⟨_, rfl, m, dxm, _, rfl, hm, rfl, _, rfl, b, _, dx, _, _, rfl, hc, T.c_Any, T.n_Any_one, rfl, _, rfl, ?_⟩
      dsimp only [tNil]
      refine ask H o _ hM hR (List.mem_cons_self ..) fun H1 g1 hM1 => ?_
      refine ⟨_, rfl, ?_⟩
      have hc1 := (Go.imm hM g1).2 _ _ _ _ hc
      have hm1 := (Go.imm hM g1).2 _ _ _ _ hm
      by_cases c : F rs r o = true
      · rw [c]
        have z := q H1 g1 hM1
        rw [show rv (F rs r) (sg rs r) (.any n o v) = (F rs r o || F rs r v) from rfl, c, Bool.true_or] at z
        exact iteT z
      · have c' : F rs r o = false := by simpa using c
        rw [c']
        refine iteF ⟨_, rfl, m, dxm, _, rfl, hm1, rfl, _, rfl, b, _, dx, _, _, rfl, hc1, T.c_Any, T.n_Any_other, rfl, _, rfl, ?_⟩
        dsimp only [tNil]
        refine ask H1 v _ hM1 (hR.imm (Go.imm hM g1)) (List.mem_cons_of_mem _ (List.mem_singleton.mpr rfl)) fun H2 g2 hM2 => ?_
        have z := q H2 (g1.trans g2) hM2
        rw [show rv (F rs r) (sg rs r) (.any n o v) = (F rs r o || F rs r v) from rfl, c', Bool.false_or] at z
        exact z
end
end K17
end PartK17F2
section PartK17F3
set_option Elab.async false
set_option linter.all false
set_option maxRecDepth 100000
set_option maxHeartbeats 4000000
/-! ends_of: the dict of ends, the loop. -/
namespace K17
open PySem PySem.Spec PyProof.Rows L2
def fkv (ks : List Nat) : List (L2.Key × V) := ks.map fun n : Nat => (Sum.inl (n : Int), V.bl true)
def adds (ks : List Nat) (n : Nat) : List Nat := if n ∈ ks then ks else ks ++ [n]
theorem adds_mem {ks : List Nat} {n m : Nat} : m ∈ adds ks n ↔ m ∈ ks ∨ m = n := by
  unfold adds
  split
  · rename_i h
    constructor
    · exact .inl
    · rintro (z | rfl)
      · exact z
      · exact h
  · simp
theorem adds_nodup {ks : List Nat} {n : Nat} (h : ks.Nodup) : (adds ks n).Nodup := by
  unfold adds
  split
  · exact h
  · rename_i c
    exact nd_snoc h c
theorem fkv_val (ks : List Nat) (n : Nat) : valV (fkv ks) (Sum.inl (n : Int)) = if n ∈ ks then some (.bl true) else none := by
  induction ks with
  | nil => rfl
  | cons m ks ih =>
    by_cases c : m = n
    · subst c
      rw [if_pos (List.mem_cons_self ..)]
      exact valV_pos rfl
    · have e : ¬ (Sum.inl (m : Int) : L2.Key) = Sum.inl (n : Int) := fun z => c (by injection z with z; omega)
      have q : valV (fkv (m :: ks)) (Sum.inl (n : Int)) = valV (fkv ks) (Sum.inl (n : Int)) := valV_neg e
      rw [q, ih]
      have c' : ¬ n = m := fun z => c z.symm
      simp [c']
theorem fkv_some (ks : List Nat) (n : Nat) : (valV (fkv ks) (Sum.inl (n : Int))).isSome = decide (n ∈ ks) := by
  rw [fkv_val]
  by_cases c : n ∈ ks
  · rw [if_pos c, decide_eq_true c]
    rfl
  · rw [if_neg c, decide_eq_false c]
    rfl
theorem fkv_put (ks : List Nat) (n : Nat) : putK (fkv ks) (Sum.inl (n : Int)) (.bl true) = fkv (adds ks n) := by
  by_cases c : n ∈ ks
  · unfold putK adds
    rw [valV_any, fkv_some, decide_eq_true c, if_pos rfl, if_pos c]
    unfold fkv
    rw [List.map_map]
    congr 1
    funext m
    show (if (Sum.inl (m : Int) : L2.Key) = Sum.inl (n : Int) then ((Sum.inl (m : Int) : L2.Key), V.bl true) else _) = _
    split <;> rfl
  · have e : valV (fkv ks) (Sum.inl (n : Int)) = none := by rw [fkv_val, if_neg c]
    rw [putK_new _ e]
    unfold adds
    rw [if_neg c]
    unfold fkv
    rw [List.map_append]
    rfl
theorem fkv_keys (ks : List Nat) : (fkv ks).map (·.1) = (ks.map fun n : Nat => (n : Int)).map Sum.inl := by
  unfold fkv
  rw [List.map_map, List.map_map]
  rfl
theorem fkv_len (ks : List Nat) : (fkv ks).length = ks.length := List.length_map ..
theorem perm_nat {ys : List Int} {ks : List Nat} (h : ys.Perm (ks.map fun n : Nat => (n : Int))) : ∃ es : List Nat, ys.map V.int = nzs es ∧ (∀ n, n ∈ es ↔ n ∈ ks) ∧ es.length = ks.length := by
  refine ⟨ys.map Int.toNat, ?_, fun n => ?_, ?_⟩
  · rw [nzs, List.map_map]
    refine List.map_congr_left fun y hy => ?_
    obtain ⟨k, hk, e⟩ := List.mem_map.mp (h.mem_iff.mp hy)
    show V.int y = V.int ((y.toNat : Nat) : Int)
    rw [← e]
    rfl
  · constructor
    · intro q
      obtain ⟨y, hy, e⟩ := List.mem_map.mp q
      obtain ⟨k, hk, e2⟩ := List.mem_map.mp (h.mem_iff.mp hy)
      have e3 : k = n := by omega
      rw [← e3]
      exact hk
    · intro q
      exact List.mem_map.mpr ⟨(n : Int), h.mem_iff.mpr (List.mem_map.mpr ⟨n, q, rfl⟩), by simp⟩
  · rw [List.length_map, h.length_eq, List.length_map]
theorem bound_len {ks : List Nat} {N : Nat} (h : ks.Nodup) (b : ∀ n ∈ ks, n ≤ N) : ks.length ≤ N + 1 := by
  have z := nodup_le (m := List.range (N + 1)) h fun x hx => List.mem_range.mpr (Nat.lt_succ_of_le (b x hx))
  rw [List.length_range] at z
  exact z
/-- for at in ns: found[at] = True -/
theorem add_loop {K : PySem.W.Frag} {D : Ends} {H : Hp} {b f : Addr} {ns ks : List Nat} {N : Nat} {s0 s1 s2 s3 v4 s5 s7 s8 : Option V} (hb : H b = some (.lst (nzs ns))) (hf : H f = some (.dK (fkv ks))) (nd : ks.Nodup) (b1 : ∀ n ∈ ks, n ≤ N) (b2 : ∀ n ∈ ns, n ≤ N) (hN : N ≤ 60)
    (q : ∀ (v : Option V) (ms : List Nat), ms.Nodup → (∀ n, n ∈ ms ↔ n ∈ ks ∨ n ∈ ns) → D.nx [s0, s1, s2, s3, v, s5, some (.ref f), s7, s8] (upd H f (.dK (fkv ms)))) :
    ∃ W : Nat → Nat → L2.St → Hp → Prop, (∃ m, W 0 m [s0, s1, s2, s3, v4, s5, some (.ref f), s7, s8] H) ∧ ∀ i m σ H, W i m σ H →
      ((Itl K b).stop i H ∧ D.nx σ H) ∨ ((Itl K b).go i H ∧ ∃ N : L2.St → Hp → Prop, (∀ σ' H', N σ' H' → ∃ m', m' < m ∧ W (i + 1) m' σ' H') ∧ ∀ x H', (Itl K b).yld i H x H' → gName 4 x σ H' fun σ2 H2 => sDPut (tVar 6) (tVar 4) (tC (.bl true)) { D with nx := N, ct := N, bk := D.nx } σ2 H2) := by
  have nbf : b ≠ f := fun z => by
    rw [z, hf] at hb
    cases hb
  have hf0 : upd H f (.dK (fkv ks)) = H := by
    funext c
    by_cases e : c = f
    · rw [e, upd_same, hf]
    · rw [upd_ne e]
  refine for_list (K := K) (a := b) (xs := nzs ns) (fun k σ H' => ∃ v ms, σ = [s0, s1, s2, s3, v, s5, some (.ref f), s7, s8] ∧ ms.Nodup ∧ (∀ n, n ∈ ms ↔ n ∈ ks ∨ n ∈ ns.take k) ∧ H' = upd H f (.dK (fkv ms)))
    ⟨v4, ks, rfl, nd, by simp, hf0.symm⟩ (fun k σ H' _ ⟨v, ms, _, _, _, e⟩ => ?_) ?_ ?_
  · rw [e]
    exact SqL.of (by rw [upd_ne nbf]; exact hb)
  · rintro k x σ H' hx ⟨v, ms, rfl, hn, hm, rfl⟩
    rw [nzs, List.getElem?_map] at hx
    obtain ⟨n, hn2, rfl⟩ := Option.map_eq_some_iff.mp hx
    have bm : ms.length ≤ N + 1 := bound_len hn fun y hy => ((hm y).mp hy).elim (b1 y) fun z => b2 y (List.mem_of_mem_take z)
    refine ⟨_, rfl, _, rfl, f, _, rfl, DPut.k (k := Sum.inl (n : Int)) upd_same ?_, some (.int n), adds ms n, rfl, adds_nodup hn, fun y => ?_, ?_⟩
    · rw [fkv_len]
      exact sl5 (by omega)
    · rw [adds_mem, hm y, List.take_add_one, hn2]
      simp [or_assoc]
    · rw [upd_upd, fkv_put]
  · rintro σ H' ⟨v, ms, rfl, hn, hm, rfl⟩
    refine q v ms hn fun n => ?_
    rw [hm n]
    have e : (nzs ns).length = ns.length := List.length_map ..
    rw [e, List.take_length]
end K17
end PartK17F3
section PartK17F4
set_option Elab.async false
set_option linter.all false
set_option maxRecDepth 100000
set_option maxHeartbeats 4000000
/-! ends_of: the last three statements. -/
namespace K17
open PySem PySem.Spec PyProof.Rows L2
theorem dp_nzs {K : PySem.W.Frag} {H : Hp} : ∀ l : List Nat, DpAll K H (nzs l) (l.map fun n : Nat => PyData.int (n : Int))
  | [] => .nil
  | n :: l => .cons (.int _) (dp_nzs l)
theorem lay_nzs : ∀ l : List Nat, PyData.canLayAll0 (l.map fun n : Nat => PyData.int (n : Int)) = true
  | [] => by simp [PyData.canLayAll0]
  | n :: l => by
    have h2 := lay_nzs l
    simp [PyData.canLayAll0, PyData.canLay0, h2]
theorem depth_nzs : ∀ l : List Nat, PyData.depthAll (l.map fun n : Nat => PyData.int (n : Int)) ≤ 1
  | [] => by simp [PyData.depthAll]
  | n :: l => by
    have := depth_nzs l
    simp only [List.map_cons, PyData.depthAll, PyData.depth]
    omega
theorem shaped_nzs (l : List Nat) : SeqAt.shaped (.list (l.map fun n : Nat => PyData.int (n : Int))) = true := by
  have z := depth_nzs l
  show (PyData.canLay0 _ && decide (PyData.depth _ ≤ 64)) = true
  rw [Bool.and_eq_true]
  refine ⟨by simp only [PyData.canLay0]; exact lay_nzs l, decide_eq_true ?_⟩
  simp only [PyData.depth]
  omega
theorem nzs_unit (l : List Nat) : PyData.eqv (.list (l.map fun n : Nat => PyData.int (n : Int))) (.list []) = decide (l = []) := by
  cases l <;> simp [PyData.eqv, PyData.eqvAll]
abbrev endsTail : List Stmt := (defBody sMeaningEndsOf).drop 6
section
variable {P : Program} {w : World} {K : PySem.W.Frag} {mg : Str → Option Value} {base : Heap}
theorem ends_tail (T : Tx K mg) {D e : Nat} (G : EndsG P w K mg base D e) {cdv : Value} {A : Around} {outer : List Env} {st : Shared} {H0 : Hp} {E : XK} (hr : Room (tl0 D + e) (A.deeper (envOfC "Meaning.ends_of" (defScope sMeaningEndsOf) st.heap.objs.size (me K "Meaning" "ends_of") cdv))) :
    ∃ t, PSs (cxOf CX0 P w K mg base nMeaningEndsOf "Meaning.ends_of" (defScope sMeaningEndsOf) (me K "Meaning" "ends_of") cdv A outer st H0 E).nox endsTail t ∧
      ∀ (m b c a l f fa d dx : Addr) (rs : List Rl) (r0 r : Row) (p : Sh) (cl : Str) (my : Bool) (bs ks : List Nat) (v4 v5 v7 v8 : Option V) (H : Hp) (Dd : Ends) (J : List Nat → List Nat → Prop),
        Mg K H m fa d rs r0 → H b = some (.ins (ca K cl) dx (fPart (.ref c))) → Cls K (ca K cl) → TyC K cl → NoAttr K (ca K cl) "part" → PySem.W.kitOne K (.ref (ca K cl)) (.ref (ca K "Maybe")) = some my →
        SAt K H p [.ref c] → p.ok false → p.sz ≤ 1000 → p.deep ≤ e → (∀ x ∈ p.lvs, x.2 ∈ nms rs) → RowAt H r a → Win r0 r → r.depth ≤ D → H l = some (.lst (nzs bs)) → bs.length ≤ 100 → (∀ n ∈ bs, n ≤ r.len) → H f = some (.dK (fkv ks)) → ks.Nodup → (∀ n ∈ ks, n ≤ r.len) → J bs ks →
        (∀ fs ks more ks' : List Nat, J fs ks → (∀ n, n ∈ more ↔ (∃ k ∈ fs, Re false p (sg rs r) k n) ∧ ¬ n ∈ ks) → (∀ n, n ∈ ks' ↔ n ∈ ks ∨ n ∈ more) → J (if my = true then [] else more) ks') →
        (∀ (q : Addr) (es : List Nat) (H' : Hp) (hs : List Nat), Ext [d, f] H H' → Mg K H' m fa d rs r0 → H' q = some (.lst (nzs es)) → J [] hs → (∀ n, n ∈ es ↔ n ∈ hs) → es.length ≤ 100 → Dd.rt (.ref q) H') →
        t Dd [some (.ref m), some (.ref b), some (.ref a), some (.ref l), v4, v5, some (.ref f), v7, v8] H := by
  have nd := scMeaningEndsOf.nd
  have hu := hr.units
  have hu1 : (A.deeper (envOfC "Meaning.ends_of" (defScope sMeaningEndsOf) st.heap.objs.size (me K "Meaning" "ends_of") cdv)).units + 1 < cLine := by omega
  have G2 : FO P w K mg base (tl0 D + e) (me K "Meaning" "ends_of") pMeaningEndsOf (spEnds K D e) := G
  refine ⟨_, pss_cons (ps_set (i := 7) nd rfl (.inl rfl) (pv 3))
    (pss_cons (ps_while PassesOwn.never (pt_cmpR (op_neD hu) (pv 7) (pe_lst pa_nil) (nomark _))
      (pss_cons (ps_setLc (i := 8) (own := [("at", 4)]) (g := gName 4) (tt := tB (tDNotIn (tVar 4) (tVar 6))) (te := tVar 4) rfl nd rfl rfl (by rfl) (pi_list (pe_meth (pv 0) T.c_Meaning T.m_Meaning_ends_of G2 hr (bd_Meaning_ends_of T) .nil pass0 (pa_cons (pe_fld (pv 1) rfl) (pa_cons (pv 2) (pa_cons (pv 7) pa_nil)))))
        (blkOk_by (N := nMeaningEndsOf) (sc := defScope sMeaningEndsOf) (by decide +kernel)) (fun _ _ _ _ _ => pg_name (i := 4) nd rfl (.inl rfl) (.inr rfl)) (fun _ _ _ _ _ => pts_one (pt_cmp (pc_dnotin hu1 (pv 4) (pv 6)) rfl)) (fun _ _ _ _ _ => pv 4))
      (pss_cons (ps_for PassesOwn.never rfl (pi_list (pv 8)) (pg_name (i := 4) nd rfl (.inl rfl)) (pss_one (ps_dput hu1 (pv 6) (pv 4) pe_bl rfl)))
      (pss_one (ps_set (i := 7) nd rfl (.inl rfl) (pe_ifExp (pt_val (pe_callB call_isi (by rfl) T.b_isinstance (by decide +kernel) (pa_cons (pv 1) (pa_cons (pe_glob (v := .ref (ca K "Maybe")) (by rfl) T.g_Maybe rfl) pa_nil)))) (pe_lst pa_nil) (pv 8)))))))
    (pss_one (ps_ret (pe_callB (call_sortedDI rfl) (by rfl) T.b_sorted (by decide +kernel) (pa_cons (pv 6) pa_nil))))), ?_⟩
  intro m b c a l f fa d dx rs r0 r p cl my bs ks v4 v5 v7 v8 H Dd J hM hb hC hTy hN hkit hS hok hsz hdp hlv hR hW hD hl hbl hbb hf hnd hkb hJ hstep hend
  have tn := hW.tn hM.2.2.1
  have hlen : r.len ≤ 50 := tn.1
  obtain ⟨kvd, hd⟩ := hM.dT
  have nfd : f ≠ d := fun z => by
    rw [z, hd] at hf
    cases hf
  have imE : ∀ H', Ext [d, f] H H' → Imm H H' := fun H' g => Ext.imm g fun x hx => by
    rcases List.mem_cons.mp hx with z | z
    · rw [z, hd]
      exact ⟨fun xs z => (by cases z), fun C dx fs z => (by cases z)⟩
    · rw [List.mem_singleton.mp z, hf]
      exact ⟨fun xs z => (by cases z), fun C dx fs z => (by cases z)⟩
  refine ⟨_, rfl, ?_⟩
  refine ⟨fun μ σ H' => ∃ (v4 v8 : Option V) (g : Addr) (fs ks : List Nat), σ = [some (.ref m), some (.ref b), some (.ref a), some (.ref l), v4, v5, some (.ref f), some (.ref g), v8] ∧ Ext [d, f] H H' ∧ Mg K H' m fa d rs r0 ∧ H' g = some (.lst (nzs fs)) ∧ H' f = some (.dK (fkv ks)) ∧ ks.Nodup ∧
    (∀ n ∈ ks, n ≤ r.len) ∧ (∀ n ∈ fs, n ≤ r.len) ∧ fs.length ≤ 100 ∧ J fs ks ∧ μ = 2 * (r.len + 1 - ks.length) + (if fs = [] then 0 else 1), ⟨_, v4, v8, l, bs, ks, rfl, Ext.refl _ _, hM, hl, hf, hnd, hkb, hbb, hbl, hJ, rfl⟩, ?_⟩
  rintro μ σ H1 ⟨v4, v8, g, fs, ks, rfl, hE, hM1, hg, hf1, hnd, hkb, hfb, hfl, hJ, rfl⟩
  refine ⟨_, rfl, Nat.zero_le _, fun un hun => ?_⟩
  have S1 : Same H1 (upd H1 un (.lst [])) := same_new hun _
  refine ⟨_, _, .lst (SqL.of (S1 _ _ hg)) (dp_nzs fs), .lst (SqL.of upd_same) .nil, shaped_nzs fs, shaped_listN, _, rfl, ?_⟩
  rw [nzs_unit]
  have hM2 := hM1.same S1
  have hE2 : Ext [d, f] H (upd H1 un (.lst [])) := hE.trans (Ext.of_same S1)
  have hf2 := S1 _ _ hf1
  have hg2 := S1 _ _ hg
  generalize upd H1 un (.lst []) = H2 at S1 hM2 hE2 hf2 hg2
  have im2 := imE _ hE2
  have kl : ks.length ≤ r.len + 1 := bound_len hnd hkb
  by_cases cz : fs = []
  · rw [decide_eq_true cz]
    refine iteF ⟨_, rfl, f, fkv ks, ks.map fun n : Nat => (n : Int), rfl, .inl hf2, fkv_keys ks, by rw [List.length_map]; omega, fun ys q hperm hsort hq => ?_⟩
    obtain ⟨es, e1, e2, e3⟩ := perm_nat hperm
    rw [e1]
    have S3 : Same H2 (upd H2 q (.lst (nzs es))) := same_new hq _
    rw [cz] at hJ
    exact hend q es _ ks (hE2.trans (Ext.of_same S3)) (hM2.same S3) upd_same hJ e2 (by omega)
  · rw [decide_eq_false cz]
    refine iteT ⟨fun σ' H2 => _, fun σ' H2 z => z, ?_⟩
    obtain ⟨_, _, _, dxm, kvm, hm2, _⟩ := id hM2
    refine ⟨_, rfl, m, dxm, _, rfl, hm2, rfl, _, rfl, b, _, dx, _, _, rfl, im2.2 _ _ _ _ hb, hC, hN, lk_hd, _, rfl, _, rfl, ?_⟩
    refine ⟨m, c, a, g, fa, d, rs, r0, r, p, fs, rfl, hM2, hS.imm im2, hok, hsz, hdp, hlv, hR.imm im2, hW, hD, hg2, hfl, hfb, fun q es H3 g3 hM3 hq hel hes => ?_⟩
    have hf3 := Go.dk hM2 g3 hf2
    have hE3 : Ext [d, f] H H3 := hE2.trans (Ext.mono g3 fun x hx => by rw [List.mem_singleton.mp hx]; exact List.mem_cons_self ..)
    refine ⟨q, rfl, ⟨_, SqL.of hq⟩, fun L hL => ?_⟩
    refine lc_list (K := K) (a := q) (xs := nzs es) (fun k H6 => ∃ acc : List Nat, Same H3 H6 ∧ H6 L = some (.lst (nzs acc)) ∧ acc.length ≤ k ∧ ∀ n, n ∈ acc ↔ n ∈ es.take k ∧ ¬ n ∈ ks) ⟨[], same_new hL _, upd_same, Nat.le_refl _, by simp⟩ (fun k H6 _ ⟨_, S, _⟩ => SqL.of (S _ _ hq)) ?_ ?_
    · rintro k x H6 hx ⟨acc, S6, hA, hal, hac⟩
      have hk := (List.getElem?_eq_some_iff.mp hx).1
      have ek : (nzs es).length = es.length := List.length_map ..
      rw [nzs, List.getElem?_map] at hx
      obtain ⟨n, hn, rfl⟩ := Option.map_eq_some_iff.mp hx
      refine ⟨rfl, ?_⟩
      refine ⟨_, rfl, _, rfl, f, _, rfl, DGet.k (k := Sum.inl (n : Int)) (S6 _ _ hf3), _, rfl, ?_⟩
      rw [fkv_some]
      by_cases cn : n ∈ ks
      · rw [decide_eq_true cn]
        refine iteF ⟨acc, S6, hA, Nat.le_succ_of_le hal, fun y => ?_⟩
        rw [hac y, List.take_add_one, hn]
        constructor
        · rintro ⟨z1, z2⟩
          exact ⟨List.mem_append_left _ z1, z2⟩
        · rintro ⟨z1, z2⟩
          rcases List.mem_append.mp z1 with z1 | z1
          · exact ⟨z1, z2⟩
          · have e : y = n := by simpa using z1
            rw [e] at z2
            exact absurd cn z2
      · rw [decide_eq_false cn]
        refine iteT ⟨_, rfl, _, hA, ?_, acc ++ [n], fun u o ho => ?_, ?_, ?_, fun y => ?_⟩
        · rw [nzs, List.length_map]
          exact sl5 (by omega)
        · rw [upd_ne (ne_of_none ho hL)]
          exact S6 _ _ ho
        · rw [upd_same, nzs, nzs, List.map_append]
          rfl
        · rw [List.length_append]
          exact Nat.succ_le_succ hal
        · rw [List.take_add_one, hn, List.mem_append, List.mem_append, hac y]
          constructor
          · rintro (⟨z1, z2⟩ | z1)
            · exact ⟨.inl z1, z2⟩
            · have e : y = n := by simpa using z1
              rw [e]
              exact ⟨.inr (by simp), cn⟩
          · rintro ⟨z1 | z1, z2⟩
            · exact .inl ⟨z1, z2⟩
            · exact .inr (by simpa using z1)
    · rintro H6 ⟨more, S6, hA, hal, hac⟩
      have ek : (nzs es).length = es.length := List.length_map ..
      rw [ek] at hal hac
      rw [List.take_length] at hac
      have hM6 := hM3.same S6
      have hE6 : Ext [d, f] H H6 := hE3.trans (Ext.of_same S6)
      have hf6 := S6 _ _ hf3
      have hmb : ∀ n ∈ more, n ≤ r.len := fun n hn => by
        obtain ⟨k, hk, hre⟩ := (hes n).mp ((hac n).mp hn).1
        have z := hre.2.1
        rw [sg_len] at z
        exact z
      refine ⟨_, rfl, L, rfl, ⟨_, SqL.of hA⟩, add_loop (N := r.len) hA hf6 hnd hkb hmb (by omega) fun v ms hms hmm => ?_⟩
      have hE7 : Ext [d, f] H (upd H6 f (.dK (fkv ms))) := hE6.trans (Ext.upd_in (List.mem_cons_of_mem _ (List.mem_singleton.mpr rfl)) _)
      have im7 := imE _ hE7
      have hM7 : Mg K (upd H6 f (.dK (fkv ms))) m fa d rs r0 := by
        obtain ⟨x1, x2, x3, dx', kv', y1, y2, y3, y4⟩ := hM6
        have im : Imm H6 (upd H6 f (.dK (fkv ms))) := imm_upd _ (fun xs z => by rw [hf6] at z; cases z) (fun C dx fs z => by rw [hf6] at z; cases z)
        exact ⟨x1, x2, x3, dx', kv', im.2 _ _ _ _ y1, y2.imm im, by rw [upd_ne (Ne.symm nfd)]; exact y3, y4⟩
      have hmk : ∀ n ∈ ms, n ≤ r.len := fun n hn => ((hmm n).mp hn).elim (hkb n) (hmb n)
      have hJ' := hstep fs ks more ms hJ (fun n => by rw [hac n, hes n]) hmm
      have ml : ms.length ≤ r.len + 1 := bound_len hms hmk
      have grow : ks.length ≤ ms.length := nodup_le hnd fun x hx => (hmm x).mpr (.inl hx)
      have grow2 : more ≠ [] → ks.length + 1 ≤ ms.length := fun hne => by
        obtain ⟨y, hy⟩ := List.exists_mem_of_ne_nil more hne
        have z := nodup_le (l := ks ++ [y]) (m := ms) (nd_snoc hnd ((hac y).mp hy).2) fun x hx => by
          rcases List.mem_append.mp hx with q | q
          · exact (hmm x).mpr (.inl q)
          · rw [List.mem_singleton.mp q]
            exact (hmm y).mpr (.inr hy)
        rw [List.length_append] at z
        exact z
      have hmu : 2 * (r.len + 1 - ks.length) + (if fs = [] then 0 else 1) = 2 * (r.len + 1 - ks.length) + 1 := by rw [if_neg cz]
      have nLf : L ≠ f := fun z => by
        rw [z, hf6] at hA
        cases hA
      refine rd_isi rfl (.base (.ins (im7.2 _ _ _ _ hb) hC hTy.ha T.hn T.htk hTy.hm)) hkit ?_
      cases my with
      | true =>
        refine iteT ⟨Nat.zero_le _, fun u hu => ?_⟩
        have S8 : Same (upd H6 f (.dK (fkv ms))) (upd (upd H6 f (.dK (fkv ms))) u (.lst [])) := same_new hu _
        refine ⟨2 * (r.len + 1 - ms.length) + 0, by rw [hmu]; omega, v, _, u, [], ms, rfl, hE7.trans (Ext.of_same S8), hM7.same S8, upd_same, S8 _ _ upd_same, hms, hmk, fun n hn => (by cases hn), Nat.zero_le _, hJ', rfl⟩
      | false =>
        refine iteF ⟨_, rfl, ?_⟩
        refine ⟨2 * (r.len + 1 - ms.length) + (if more = [] then 0 else 1), ?_, v, _, L, more, ms, rfl, hE7, hM7, by rw [upd_ne nLf]; exact hA, upd_same, hms, hmk, hmb, by omega, hJ', rfl⟩
        rw [hmu]
        by_cases cm : more = []
        · rw [if_pos cm]
          omega
        · rw [if_neg cm]
          have := grow2 cm
          omega
end
end K17
end PartK17F4
section PartK17F5
set_option Elab.async false
set_option linter.all false
set_option maxRecDepth 100000
set_option maxHeartbeats 4000000
/-! ends_of. -/
namespace K17
open PySem PySem.Spec PyProof.Rows L2
/-! ### the loop's ends -/
def jMany (R : Nat → Nat → Prop) (bs fs ks : List Nat) : Prop := (∀ b ∈ bs, b ∈ ks) ∧ (∀ k ∈ ks, ∃ b ∈ bs, Rt R b k) ∧ (∀ x ∈ fs, x ∈ ks) ∧ ∀ k ∈ ks, ¬ k ∈ fs → ∀ n, R k n → n ∈ ks
def jSome (R : Nat → Nat → Prop) (bs fs ks : List Nat) : Prop := (∀ x ∈ fs, x ∈ bs ∨ x ∈ ks) ∧ (∀ k ∈ ks, ∃ b ∈ bs, ∃ m, R b m ∧ Rt R m k) ∧ ∀ x, x ∈ bs ∨ x ∈ ks → ¬ x ∈ fs → ∀ n, R x n → n ∈ ks
def jMaybe (R : Nat → Nat → Prop) (bs fs ks : List Nat) : Prop := (fs = bs ∧ ∀ n, n ∈ ks ↔ n ∈ bs) ∨ (fs = [] ∧ ∀ n, n ∈ ks ↔ n ∈ bs ∨ ∃ b ∈ bs, R b n)
section
variable {R : Nat → Nat → Prop} {bs fs ks more ks' : List Nat}
theorem jMany_step (h : jMany R bs fs ks) (hm : ∀ n, n ∈ more ↔ (∃ k ∈ fs, R k n) ∧ ¬ n ∈ ks) (hk : ∀ n, n ∈ ks' ↔ n ∈ ks ∨ n ∈ more) : jMany R bs more ks' := by
  obtain ⟨h1, h2, h3, h4⟩ := h
  refine ⟨fun b hb => (hk b).mpr (.inl (h1 b hb)), fun k q => ?_, fun x hx => (hk x).mpr (.inr hx), fun k q nk n r => ?_⟩
  · rcases (hk k).mp q with q | q
    · exact h2 k q
    · obtain ⟨⟨j, hj, hr⟩, _⟩ := (hm k).mp q
      obtain ⟨b, hb, rt⟩ := h2 j (h3 j hj)
      exact ⟨b, hb, rt.tail hr⟩
  · rcases (hk k).mp q with q | q
    · by_cases c : k ∈ fs
      · by_cases d : n ∈ ks
        · exact (hk n).mpr (.inl d)
        · exact (hk n).mpr (.inr ((hm n).mpr ⟨⟨k, c, r⟩, d⟩))
      · exact (hk n).mpr (.inl (h4 k q c n r))
    · exact absurd q nk
theorem jMany_end (h : jMany R bs [] ks) (n : Nat) : n ∈ ks ↔ ∃ b ∈ bs, Rt R b n := by
  obtain ⟨h1, h2, _, h4⟩ := h
  refine ⟨h2 n, fun ⟨b, hb, rt⟩ => ?_⟩
  have go : ∀ {x y}, Rt R x y → x ∈ ks → y ∈ ks := by
    intro x y r
    induction r with
    | refl => exact id
    | head r _ ih => exact fun hx => ih (h4 _ hx (by simp) _ r)
  exact go rt (h1 b hb)
theorem jSome_step (h : jSome R bs fs ks) (hm : ∀ n, n ∈ more ↔ (∃ k ∈ fs, R k n) ∧ ¬ n ∈ ks) (hk : ∀ n, n ∈ ks' ↔ n ∈ ks ∨ n ∈ more) : jSome R bs more ks' := by
  obtain ⟨h1, h2, h3⟩ := h
  refine ⟨fun x hx => .inr ((hk x).mpr (.inr hx)), fun k q => ?_, fun x hx nx n r => ?_⟩
  · rcases (hk k).mp q with q | q
    · exact h2 k q
    · obtain ⟨⟨j, hj, hr⟩, _⟩ := (hm k).mp q
      rcases h1 j hj with z | z
      · exact ⟨j, z, k, hr, .refl⟩
      · obtain ⟨b, hb, m, r1, r2⟩ := h2 j z
        exact ⟨b, hb, m, r1, r2.tail hr⟩
  · have hx' : x ∈ bs ∨ x ∈ ks := hx.elim .inl fun z => ((hk x).mp z).elim .inr fun z => absurd z nx
    by_cases c : x ∈ fs
    · by_cases d : n ∈ ks
      · exact (hk n).mpr (.inl d)
      · exact (hk n).mpr (.inr ((hm n).mpr ⟨⟨x, c, r⟩, d⟩))
    · exact (hk n).mpr (.inl (h3 x hx' c n r))
theorem jSome_end (h : jSome R bs [] ks) (n : Nat) : n ∈ ks ↔ ∃ b ∈ bs, ∃ m, R b m ∧ Rt R m n := by
  obtain ⟨h1, h2, h3⟩ := h
  refine ⟨h2 n, fun ⟨b, hb, m, r1, rt⟩ => ?_⟩
  have go : ∀ {x y}, Rt R x y → x ∈ ks → y ∈ ks := by
    intro x y r
    induction r with
    | refl => exact id
    | head r _ ih => exact fun hx => ih (h3 _ (.inr hx) (by simp) _ r)
  exact go rt (h3 b (.inl hb) (by simp) m r1)
theorem jMaybe_step (h : jMaybe R bs fs ks) (hm : ∀ n, n ∈ more ↔ (∃ k ∈ fs, R k n) ∧ ¬ n ∈ ks) (hk : ∀ n, n ∈ ks' ↔ n ∈ ks ∨ n ∈ more) : jMaybe R bs [] ks' := by
  refine .inr ⟨rfl, fun n => ?_⟩
  rcases h with ⟨rfl, h⟩ | ⟨rfl, h⟩
  · rw [hk n, hm n, h n]
    constructor
    · rintro (z | ⟨z, _⟩)
      · exact .inl z
      · exact .inr z
    · rintro (z | z)
      · exact .inl z
      · by_cases c : n ∈ fs
        · exact .inl c
        · exact .inr ⟨z, c⟩
  · rw [hk n, hm n, h n]
    constructor
    · rintro (z | ⟨⟨k, hk, _⟩, _⟩)
      · exact z
      · cases hk
    · exact .inl
theorem jMaybe_end (h : jMaybe R bs [] ks) (n : Nat) : n ∈ ks ↔ ∃ b ∈ bs, n = b ∨ R b n := by
  rcases h with ⟨e, h⟩ | ⟨_, h⟩
  · rw [h n, ← e]
    simp
  · rw [h n]
    constructor
    · rintro (z | ⟨b, hb, r⟩)
      · exact ⟨n, z, .inl rfl⟩
      · exact ⟨b, hb, .inr r⟩
    · rintro ⟨b, hb, rfl | r⟩
      · exact .inl hb
      · exact .inr ⟨b, hb, r⟩
end
theorem Mg.updL {K : PySem.W.Frag} {H : Hp} {m fa d p : Addr} {rs : List Rl} {r0 : Row} {xs : List V} {o : HO} (h : Mg K H m fa d rs r0) (e : H p = some (.lst xs)) : Mg K (upd H p o) m fa d rs r0 := by
  obtain ⟨x1, x2, x3, dx', kv', y1, y2, y3, y4⟩ := h
  have ne : d ≠ p := fun z => by
    rw [← z, y3] at e
    cases e
  exact ⟨x1, x2, x3, dx', kv', (imm_lst e _).2 _ _ _ _ y1, y2.imm (imm_lst e _), by rw [upd_ne ne]; exact y3, y4⟩
theorem Mg.updK {K : PySem.W.Frag} {H : Hp} {m fa d p : Addr} {rs : List Rl} {r0 : Row} {xs : List (L2.Key × V)} {o : HO} (h : Mg K H m fa d rs r0) (e : H p = some (.dK xs)) : Mg K (upd H p o) m fa d rs r0 := by
  obtain ⟨x1, x2, x3, dx', kv', y1, y2, y3, y4⟩ := h
  have ne : d ≠ p := fun z => by
    rw [← z, y3] at e
    cases e
  have im : Imm H (upd H p o) := imm_upd _ (fun xs z => by rw [e] at z; cases z) (fun C dx fs z => by rw [e] at z; cases z)
  exact ⟨x1, x2, x3, dx', kv', im.2 _ _ _ _ y1, y2.imm im, by rw [upd_ne ne]; exact y3, y4⟩
/-! ### the first parts -/
theorem re_takeF {l : List Sg} : ∀ {ps : Sh} {k : Nat} {p : Sh} {b n : Nat}, ps.part k = Option.some p → b ≤ l.length → (Re false (ps.takeP (k + 1)) l b n ↔ ∃ m, Re false (ps.takeP k) l b m ∧ Re false p l m n)
  | .cons p ps, 0, _, b, n, z, hb => by
    cases z
    have e : ps.takeP 0 = .nil := by cases ps <;> rfl
    show Re false (.cons p (ps.takeP 0)) l b n ↔ ∃ m, Re false (.nil) l b m ∧ _
    rw [e, re_consF]
    constructor
    · rintro ⟨m, h1, h2⟩
      have e2 := (re_nilF h1.2.1).mp h2
      subst e2
      exact ⟨b, (re_nilF hb).mpr rfl, h1⟩
    · rintro ⟨m, h1, h2⟩
      have e2 := (re_nilF hb).mp h1
      subst e2
      exact ⟨n, h2, (re_nilF h2.2.1).mpr rfl⟩
  | .cons p ps, k + 1, p', b, n, z, hb => by
    show Re false (.cons p (ps.takeP (k + 1))) l b n ↔ ∃ m, Re false (.cons p (ps.takeP k)) l b m ∧ _
    rw [re_consF]
    constructor
    · rintro ⟨m, h1, h2⟩
      obtain ⟨m2, h3, h4⟩ := (re_takeF (ps := ps) z h1.2.1).mp h2
      exact ⟨m2, re_consF.mpr ⟨m, h1, h3⟩, h4⟩
    · rintro ⟨m2, h1, h2⟩
      obtain ⟨m, h3, h4⟩ := re_consF.mp h1
      exact ⟨m, h3, (re_takeF (ps := ps) z h3.2.1).mpr ⟨m2, h4, h2⟩⟩
theorem re_takeT {l : List Sg} : ∀ {ps : Sh} {k : Nat} {p : Sh} {b n : Nat}, ps.part k = Option.some p → (Re true (ps.takeP (k + 1)) l b n ↔ Re true (ps.takeP k) l b n ∨ Re false p l b n)
  | .cons p ps, 0, _, b, n, z => by
    cases z
    have e : ps.takeP 0 = .nil := by cases ps <;> rfl
    show Re true (.cons p (ps.takeP 0)) l b n ↔ Re true .nil l b n ∨ _
    rw [e, re_consT]
    exact ⟨fun h => h.symm, fun h => h.symm⟩
  | .cons p ps, k + 1, p', b, n, z => by
    show Re true (.cons p (ps.takeP (k + 1))) l b n ↔ Re true (.cons p (ps.takeP k)) l b n ∨ _
    rw [re_consT, re_consT, re_takeT (ps := ps) z, or_assoc]
theorem part_names {ns : List Str} : ∀ {ps : Sh} {k : Nat} {p : Sh}, ps.part k = Option.some p → (∀ x ∈ ps.lvs, x.2 ∈ ns) → ∀ x ∈ p.lvs, x.2 ∈ ns
  | .cons p ps, 0, _, z, h, x, hx => by
    cases z
    exact h x (List.mem_append_left _ hx)
  | .cons p ps, k + 1, p', z, h, x, hx => part_names (ps := ps) z (fun y hy => h y (List.mem_append_right _ hy)) x hx
section
variable {P : Program} {w : World} {K : PySem.W.Frag} {mg : Str → Option Value} {base : Heap}
theorem ends_step (T : Tx K mg) {D e : Nat} (G : EndsG P w K mg base D e) (GT : ToldG P w K mg base D) : EndsG P w K mg base D (e + 1) := by
  show FO P w K mg base ((tl0 D + e) + 1) _ _ _
  have G2 : FO P w K mg base (tl0 D + e) (me K "Meaning" "ends_of") pMeaningEndsOf (spEnds K D e) := G
  have T2 : FO P w K mg base (tl0 D + e) (me K "Meaning" "is_told") pMeaningIsTold (spTold K D) := FnOk.mono GT (by omega)
  refine T.d_Meaning_ends_of.ok0 scMeaningEndsOf (fun vs H Q E h => ?_) (fun cdv A outer st H vs Q E hr h => ?_)
  · obtain ⟨m, b, a, l, fa, d, rs, r0, r, s, bs, rfl, _⟩ := h
    rfl
  · obtain ⟨m, b, a, l, fa, d, rs, r0, r, s, bs, rfl, hM, hS, hok, hsz, hdp, hlv, hR, hW, hD, hl, hbl, hbb, q⟩ := h
    have nd := scMeaningEndsOf.nd
    have hu := hr.units
    have hu1 : (A.deeper (envOfC "Meaning.ends_of" (defScope sMeaningEndsOf) st.heap.objs.size (me K "Meaning" "ends_of") cdv)).units + 1 < cLine := by omega
    obtain ⟨tt, htl, htq⟩ := ends_tail T G (cdv := cdv) (A := A) (outer := outer) (st := st) (H0 := H) (E := E) hr
    refine ⟨_, pss_cons (ps_if (pt_val (pe_callB call_isi (by rfl) T.b_isinstance (by decide +kernel) (pa_cons (pv 1) (pa_cons (pe_glob (v := .ref (ca K "Nothing")) (by rfl) T.g_Nothing rfl) pa_nil)))) (pss_one (ps_ret (pv 3))) pss_nil)
      (pss_cons (ps_if (pt_val (pe_callB call_isi (by rfl) T.b_isinstance (by decide +kernel) (pa_cons (pv 1) (pa_cons (pe_glob (v := .ref (ca K "Tree")) (by rfl) T.g_Tree rfl) pa_nil))))
        (pss_one (ps_ret (pe_lc (own := [("at", 4)]) (g := gName 4) (tt := tAnd (tTest (tOp (rI0 fun i j => .bl (decide (i < j))) (tVar 4) (tCB (rLenS K) (tCons (tVar 2) tNil)))) (tB (tMeth (ca K "Meaning") "is_told" (spTold K D) [] E0 (tVar 0) (tCons (tVar 1) (tCons (tOp (rIxT K) (tVar 2) (tVar 4)) tNil)))))
          (te := tOp (rI0 fun i j => .int (i + j)) (tVar 4) (tC (.int 1))) rfl nd (pi_list (pv 3)) (blkOk_by (N := nMeaningEndsOf) (sc := defScope sMeaningEndsOf) (by decide +kernel)) (fun _ _ _ _ _ => pg_name (i := 4) nd rfl (.inl rfl) (.inr rfl))
          (fun _ _ _ _ _ => pts_one (PW.pt (pw_and (pt_cmpR op_lt (pv 4) (pe_callB call_lenS (by rfl) T.b_len PySem.boot_len (pa_cons (pv 2) pa_nil)) rfl) (pw_and1 (pt_val (pe_meth (pv 0) T.c_Meaning T.m_Meaning_is_told T2 hr (bd_Meaning_is_told T) .nil pass0 (pa_cons (pv 1) (pa_cons (pe_ix ix_tup (pv 2) (pv 4) (fun _ _ => rfl)) pa_nil))))))))
          (fun _ _ _ _ _ => pe_op op_add (pv 4) pe_int)))) pss_nil)
      (pss_cons (ps_if (pt_val (pe_callB call_isi (by rfl) T.b_isinstance (by decide +kernel) (pa_cons (pv 1) (pa_cons (pe_glob (v := .ref (ca K "Chain")) (by rfl) T.g_Chain rfl) pa_nil))))
        (pss_cons (ps_for PassesOwn.never rfl (pi_tup (pe_fld (pv 1) rfl)) (pg_name (i := 5) nd rfl (.inl rfl)) (pss_one (ps_set (i := 3) nd rfl (.inl rfl) (pe_meth (pv 0) T.c_Meaning T.m_Meaning_ends_of G2 hr (bd_Meaning_ends_of T) .nil pass0 (pa_cons (pv 5) (pa_cons (pv 2) (pa_cons (pv 3) pa_nil)))))))
          (pss_one (ps_ret (pv 3)))) pss_nil)
      (pss_cons (ps_set (i := 6) nd rfl (.inr rfl) pe_dnewK)
      (pss_cons (ps_if (pt_val (pe_callB call_isi (by rfl) T.b_isinstance (by decide +kernel) (pa_cons (pv 1) (pa_cons (pe_glob (v := .ref (ca K "Either")) (by rfl) T.g_Either rfl) pa_nil))))
        (pss_cons (ps_for PassesOwn.never rfl (pi_tup (pe_fld (pv 1) rfl)) (pg_name (i := 5) nd rfl (.inl rfl)) (pss_one (ps_for PassesOwn.never rfl (pi_list (pe_meth (pv 0) T.c_Meaning T.m_Meaning_ends_of G2 hr (bd_Meaning_ends_of T) .nil pass0 (pa_cons (pv 5) (pa_cons (pv 2) (pa_cons (pv 3) pa_nil))))) (pg_name (i := 4) nd rfl (.inl rfl)) (pss_one (ps_dput hu1 (pv 6) (pv 4) pe_bl rfl)))))
          (pss_one (ps_ret (pe_callB (call_sortedDI rfl) (by rfl) T.b_sorted (by decide +kernel) (pa_cons (pv 6) pa_nil))))) pss_nil)
      (pss_cons (ps_if (pt_not (pt_val (pe_callB call_isi (by rfl) T.b_isinstance (by decide +kernel) (pa_cons (pv 1) (pa_cons (pe_glob (v := .ref (ca K "Some")) (by rfl) T.g_Some rfl) pa_nil)))))
        (pss_one (ps_for PassesOwn.never rfl (pi_list (pv 3)) (pg_name (i := 4) nd rfl (.inl rfl)) (pss_one (ps_dput hu1 (pv 6) (pv 4) pe_bl rfl)))) pss_nil)
      htl))))), ?_⟩
    have rk := hM.2.1
    have hlen : r.len ≤ 50 := (hW.tn hM.2.2.1).1
    have elen : (sg rs r).length = r.len := sg_len rs r
    obtain ⟨kvd, hd⟩ := hM.dT
    obtain ⟨_, _, _, dxm, kvm, hm, _⟩ := id hM
    obtain ⟨us, ha, hus⟩ := id hR
    obtain ⟨dx0, fs0, hb0, _, _⟩ := hS.ins2 hok
    have ty : ∀ H' : Hp, H' b = some (.ins (ca K s.cls) dx0 fs0) → TyX K H' (.ref b) (.ref (ca K s.cls)) := fun H' h => sh_tyx T hok h
    have getm : ∀ H', Mg K H' m fa d rs r0 → ∃ dx kvs, H' m = some (.ins (ca K "Meaning") dx (fMean (.ref fa) (.ref d))) ∧ H' d = some (.dT kvs) := fun H' h => by
      obtain ⟨_, _, _, dx, kvs, h1, _, h3, _⟩ := h
      exact ⟨dx, kvs, h1, h3⟩
    have bound : ∀ (s' : Sh) (fl : Bool) (ms : List Nat), (∀ n, n ∈ ms ↔ ∃ k ∈ bs, Re fl s' (sg rs r) k n) → ∀ n ∈ ms, n ≤ r.len := fun s' fl ms h n hn => by
      obtain ⟨k, _, z⟩ := (h n).mp hn
      have z2 := z.2.1
      rw [elen] at z2
      exact z2
    -- what the last three statements give
    have fin3 : ∀ (s' p : Sh) (c : Addr) (dx : Addr) (my : Bool) (ks : List Nat) (v4 : Option V) (J : List Nat → List Nat → Prop) (f : Addr), H f = none → H b = some (.ins (ca K s.cls) dx (fPart (.ref c))) → NoAttr K (ca K s.cls) "part" → PySem.W.kitOne K (.ref (ca K s.cls)) (.ref (ca K "Maybe")) = some my →
        SAt K H p [.ref c] → p.ok false → p.sz ≤ 1000 → p.deep ≤ e → (∀ x ∈ p.lvs, x.2 ∈ nms rs) → ks.Nodup → (∀ n ∈ ks, n ≤ r.len) → J bs ks →
        (∀ fs ks more ks' : List Nat, J fs ks → (∀ n, n ∈ more ↔ (∃ k ∈ fs, Re false p (sg rs r) k n) ∧ ¬ n ∈ ks) → (∀ n, n ∈ ks' ↔ n ∈ ks ∨ n ∈ more) → J (if my = true then [] else more) ks') →
        (∀ hs, J [] hs → ∀ n, n ∈ hs ↔ ∃ k ∈ bs, Re false s (sg rs r) k n) →
        tt { nx := fun _ H' => Q .non H', rt := Q } [some (.ref m), some (.ref b), some (.ref a), some (.ref l), v4, none, some (.ref f), none, none] (upd H f (.dK (fkv ks))) := by
      intro s' p c dx my ks v4 J f hf hbc hN hk hSp hpo hps hpd hpl hkn hkb hJ hst hen
      have S1 : Same H (upd H f (.dK (fkv ks))) := same_new hf _
      refine htq m b c a l f fa d dx rs r0 r p s.cls my bs ks v4 none none none _ _ J (hM.same S1) (S1 _ _ hbc) (sh_cls T hok) (sh_ty T hok) hN hk (hSp.imm (Same.imm S1)) hpo hps hpd hpl (hR.imm (Same.imm S1)) hW hD (S1 _ _ hl) hbl hbb upd_same hkn hkb hJ hst fun q1 es H' hs hE hM' hq hJ' hes hel => ?_
      refine q q1 es H' (fun u o hu nu => ?_) hM' hq hel fun n => by rw [hes n, hen hs hJ' n]
      refine hE u o (S1 _ _ hu) fun z => ?_
      rcases List.mem_cons.mp z with z | z
      · exact nu (List.mem_singleton.mpr z)
      · exact (ne_of_none hu hf) (List.mem_singleton.mp z)
    cases s with
    | nothing =>
      refine rd_isi rfl (ty _ hb0) T.kit_Nothing_Nothing (iteT ⟨_, rfl, ?_⟩)
      refine q l bs H (Ext.refl _ _) hM hl hbl fun n => ?_
      constructor
      · exact fun hn => ⟨n, hn, (re_nothing (by rw [elen]; exact hbb n hn)).mpr rfl⟩
      · rintro ⟨k, hk, hre⟩
        rw [(re_nothing (by rw [elen]; exact hbb k hk)).mp hre]
        exact hk
    | tree wo nm =>
      refine rd_isi rfl (ty _ hb0) T.kit_Tree_Nothing (iteF ?_)
      refine rd_isi rfl (ty _ hb0) T.kit_Tree_Tree (iteT ?_)
      obtain ⟨b', dxt, eb, hbt⟩ := hS
      cases eb
      refine ⟨_, rfl, l, rfl, ⟨_, SqL.of hl⟩, fun L hL => ?_⟩
      have S0 : Same H (upd H L (.lst [])) := same_new hL _
      refine lc_list (K := K) (a := l) (xs := nzs bs) (fun k H6 => ∃ acc : List Nat, Go d H H6 ∧ Mg K H6 m fa d rs r0 ∧ H6 L = some (.lst (nzs acc)) ∧ acc.length ≤ k ∧ ∀ n, n ∈ acc ↔ ∃ j ∈ bs.take k, Re false (.tree wo nm) (sg rs r) j n) ⟨[], Go.of S0, hM.same S0, upd_same, Nat.le_refl _, by simp⟩ (fun k H6 _ ⟨_, g, _⟩ => SqL.of (Go.lst hM g hl)) ?_ ?_
      · rintro k x H6 hx ⟨acc, g6, hM6, hA, hal, hac⟩
        have hk := (List.getElem?_eq_some_iff.mp hx).1
        have ek : (nzs bs).length = bs.length := List.length_map ..
        rw [nzs, List.getElem?_map] at hx
        obtain ⟨n, hn, rfl⟩ := Option.map_eq_some_iff.mp hx
        have im6 := Go.imm hM g6
        have etake : bs.take (k + 1) = bs.take k ++ [n] := by rw [List.take_add_one, hn]; rfl
        have skip : ∀ H7, Go d H H7 → Mg K H7 m fa d rs r0 → H7 L = some (.lst (nzs acc)) → (∀ y, ¬ Re false (.tree wo nm) (sg rs r) n y) → ∃ acc : List Nat, Go d H H7 ∧ Mg K H7 m fa d rs r0 ∧ H7 L = some (.lst (nzs acc)) ∧ acc.length ≤ k + 1 ∧ ∀ n, n ∈ acc ↔ ∃ j ∈ bs.take (k + 1), Re false (.tree wo nm) (sg rs r) j n := by
          intro H7 g7 hM7 hA7 no
          refine ⟨acc, g7, hM7, hA7, Nat.le_succ_of_le hal, fun y => ?_⟩
          rw [hac y, etake]
          constructor
          · rintro ⟨j, hj, hre⟩
            exact ⟨j, List.mem_append_left _ hj, hre⟩
          · rintro ⟨j, hj, hre⟩
            rcases List.mem_append.mp hj with z | z
            · exact ⟨j, z, hre⟩
            · rw [List.mem_singleton.mp z] at hre
              exact absurd hre (no y)
        refine ⟨rfl, ?_⟩
        refine ⟨_, rfl, _, rfl, a, us, rfl, .inr (SqT.of (im6.1 _ _ ha)), _, _, rfl, rfl, _, rfl, ?_⟩
        rw [hus.len]
        by_cases cl : n < r.len
        · rw [decide_eq_true (show (n : Int) < ((r.len : Nat) : Int) by omega)]
          refine iteT ?_
          obtain ⟨p, hp⟩ := nth_some cl
          obtain ⟨t, c, g1, g2, g3⟩ := RAt.nth hus hp
          obtain ⟨dx6, kv6, hm6, hd6⟩ := getm H6 hM6
          refine ⟨_, rfl, m, dx6, _, rfl, hm6, rfl, _, rfl, _, rfl, _, rfl, a, us, n, .ref t, rfl, rfl, SqT.of (im6.1 _ _ ha), atI_nat g1, ?_⟩
          refine ⟨m, b, t, c, fa, d, dxt, rs, r0, p.2, wo, nm, p.1, rfl, hM6, im6.2 _ _ _ _ hbt, im6.1 _ _ g2, g3.imm im6, hW.nth hp, Nat.lt_of_lt_of_le (nth_depth hp) hD, hlv (wo, nm) (List.mem_singleton.mpr rfl), fun H7 g7 hM7 => ?_⟩
          refine ⟨_, rfl, ?_⟩
          have hA7 := Go.lst hM6 g7 hA
          have es := sg_nth (rs := rs) hp
          by_cases co : (wordOk wo p.1 && F rs p.2 nm) = true
          · rw [co]
            rw [Bool.and_eq_true] at co
            have yes : ∀ y, Re false (.tree wo nm) (sg rs r) n y ↔ y = n + 1 := fun y => by
              rw [re_tree]
              exact ⟨fun z => z.1, fun z => ⟨z, _, es, co.1, co.2⟩⟩
            refine iteT ⟨_, rfl, _, _, rfl, rfl, _, hA7, ?_, acc ++ [n + 1], ?_, ?_, ?_, ?_, fun y => ?_⟩
            · rw [nzs, List.length_map]
              exact sl5 (by omega)
            · intro u o hu nu
              rw [upd_ne (ne_of_none hu hL)]
              exact (g6.trans g7) u o hu nu
            · exact hM7.updL hA7
            · rw [upd_same, nzs, nzs, List.map_append]
              rfl
            · rw [List.length_append]
              exact Nat.succ_le_succ hal
            · rw [List.mem_append, hac y, etake]
              constructor
              · rintro (⟨j, hj, hre⟩ | z)
                · exact ⟨j, List.mem_append_left _ hj, hre⟩
                · exact ⟨n, List.mem_append_right _ (List.mem_singleton.mpr rfl), (yes y).mpr (List.mem_singleton.mp z)⟩
              · rintro ⟨j, hj, hre⟩
                rcases List.mem_append.mp hj with z | z
                · exact .inl ⟨j, z, hre⟩
                · rw [List.mem_singleton.mp z] at hre
                  exact .inr (List.mem_singleton.mpr ((yes y).mp hre))
          · have co' : (wordOk wo p.1 && F rs p.2 nm) = false := by simpa using co
            rw [co']
            refine iteF (skip H7 (g6.trans g7) hM7 hA7 fun y hre => ?_)
            obtain ⟨_, g, h1, h2, h3⟩ := re_tree.mp hre
            rw [es] at h1
            cases h1
            exact co (by rw [Bool.and_eq_true]; exact ⟨h2, h3⟩)
        · rw [decide_eq_false (show ¬ (n : Int) < ((r.len : Nat) : Int) by omega)]
          refine iteF (iteF (skip H6 g6 hM6 hA fun y hre => ?_))
          obtain ⟨_, g, h1, _⟩ := re_tree.mp hre
          have := (List.getElem?_eq_some_iff.mp h1).1
          omega
      · rintro H6 ⟨acc, g6, hM6, hA, hal, hac⟩
        have ek : (nzs bs).length = bs.length := List.length_map ..
        rw [ek] at hal hac
        rw [List.take_length] at hac
        exact q L acc H6 g6 hM6 hA (by omega) hac
    | many p =>
      obtain ⟨b', dx, c, eb, hbc, hp⟩ := hS
      cases eb
      have hd1 : p.deep + 1 ≤ e + 1 := hdp
      have hz1 : p.sz + 1 ≤ 1000 := hsz
      refine rd_isi rfl (ty _ hb0) T.kit_Many_Nothing (iteF ?_)
      refine rd_isi rfl (ty _ hb0) T.kit_Many_Tree (iteF ?_)
      refine rd_isi rfl (ty _ hb0) T.kit_Many_Chain (iteF ?_)
      refine fun f hf => ?_
      have S1 : Same H (upd H f (.dK [])) := same_new hf _
      refine rd_isi rfl (ty _ (S1 _ _ hb0)) T.kit_Many_Either (iteF ?_)
      refine rd_isi rfl (ty _ (S1 _ _ hb0)) T.kit_Many_Some ?_
      refine iteT ⟨_, rfl, l, rfl, ⟨_, SqL.of (S1 _ _ hl)⟩, add_loop (ks := []) (N := r.len) (S1 _ _ hl) upd_same List.nodup_nil (fun n hn => by cases hn) hbb (by omega) fun v ms hn hmm => ?_⟩
      have hmb : ∀ n, n ∈ ms ↔ n ∈ bs := fun n => by rw [hmm n]; simp
      rw [upd_upd]
      exact fin3 p p c dx false ms v (jMany (Re false p (sg rs r)) bs) f hf hbc T.n_Many_part T.kit_Many_Maybe hp hok.2 (by omega) (by omega) hlv hn (fun n hn => hbb n ((hmb n).mp hn))
        ⟨fun b hb => (hmb b).mpr hb, fun k hk => ⟨k, (hmb k).mp hk, .refl⟩, fun x hx => (hmb x).mpr hx, fun k hk nk => absurd ((hmb k).mp hk) nk⟩ (fun fs ks more ks' hJ h1 h2 => jMany_step hJ h1 h2) fun hs hJ n => by
          rw [jMany_end hJ n]
          constructor
          · rintro ⟨k, hk, z⟩
            exact ⟨k, hk, (re_many (by rw [elen]; exact hbb k hk)).mpr z⟩
          · rintro ⟨k, hk, z⟩
            exact ⟨k, hk, (re_many (by rw [elen]; exact hbb k hk)).mp z⟩
    | some p =>
      obtain ⟨b', dx, c, eb, hbc, hp⟩ := hS
      cases eb
      have hd1 : p.deep + 1 ≤ e + 1 := hdp
      have hz1 : p.sz + 1 ≤ 1000 := hsz
      refine rd_isi rfl (ty _ hb0) T.kit_Some_Nothing (iteF ?_)
      refine rd_isi rfl (ty _ hb0) T.kit_Some_Tree (iteF ?_)
      refine rd_isi rfl (ty _ hb0) T.kit_Some_Chain (iteF ?_)
      refine fun f hf => ?_
      have S1 : Same H (upd H f (.dK [])) := same_new hf _
      refine rd_isi rfl (ty _ (S1 _ _ hb0)) T.kit_Some_Either (iteF ?_)
      refine rd_isi rfl (ty _ (S1 _ _ hb0)) T.kit_Some_Some ?_
      refine iteF ?_
      exact fin3 p p c dx false [] none (jSome (Re false p (sg rs r)) bs) f hf hbc T.n_Some_part T.kit_Some_Maybe hp hok.2 (by omega) (by omega) hlv List.nodup_nil (fun n hn => by cases hn)
        ⟨fun x hx => .inl hx, fun k hk => (by cases hk), fun x hx nx => absurd (hx.elim id fun z => by cases z) nx⟩ (fun fs ks more ks' hJ h1 h2 => jSome_step hJ h1 h2) fun hs hJ n => by
          rw [jSome_end hJ n]
          constructor
          · rintro ⟨k, hk, z⟩
            exact ⟨k, hk, re_some.mpr z⟩
          · rintro ⟨k, hk, z⟩
            exact ⟨k, hk, re_some.mp z⟩
    | maybe p =>
      obtain ⟨b', dx, c, eb, hbc, hp⟩ := hS
      cases eb
      have hd1 : p.deep + 1 ≤ e + 1 := hdp
      have hz1 : p.sz + 1 ≤ 1000 := hsz
      refine rd_isi rfl (ty _ hb0) T.kit_Maybe_Nothing (iteF ?_)
      refine rd_isi rfl (ty _ hb0) T.kit_Maybe_Tree (iteF ?_)
      refine rd_isi rfl (ty _ hb0) T.kit_Maybe_Chain (iteF ?_)
      refine fun f hf => ?_
      have S1 : Same H (upd H f (.dK [])) := same_new hf _
      refine rd_isi rfl (ty _ (S1 _ _ hb0)) T.kit_Maybe_Either (iteF ?_)
      refine rd_isi rfl (ty _ (S1 _ _ hb0)) T.kit_Maybe_Some ?_
      refine iteT ⟨_, rfl, l, rfl, ⟨_, SqL.of (S1 _ _ hl)⟩, add_loop (ks := []) (N := r.len) (S1 _ _ hl) upd_same List.nodup_nil (fun n hn => by cases hn) hbb (by omega) fun v ms hn hmm => ?_⟩
      have hmb : ∀ n, n ∈ ms ↔ n ∈ bs := fun n => by rw [hmm n]; simp
      rw [upd_upd]
      exact fin3 p p c dx true ms v (jMaybe (Re false p (sg rs r)) bs) f hf hbc T.n_Maybe_part T.kit_Maybe_Maybe hp hok.2 (by omega) (by omega) hlv hn (fun n hn => hbb n ((hmb n).mp hn))
        (.inl ⟨rfl, hmb⟩) (fun fs ks more ks' hJ h1 h2 => jMaybe_step hJ h1 h2) fun hs hJ n => by
          rw [jMaybe_end hJ n]
          constructor
          · rintro ⟨k, hk, z⟩
            exact ⟨k, hk, (re_maybe (by rw [elen]; exact hbb k hk)).mpr z⟩
          · rintro ⟨k, hk, z⟩
            exact ⟨k, hk, (re_maybe (by rw [elen]; exact hbb k hk)).mp z⟩
    | chain ps =>
      obtain ⟨b', dx, t, vs, eb, hbt, ht, hP⟩ := hS
      cases eb
      have hd1 : ps.deep + 1 ≤ e + 1 := hdp
      have hz1 : ps.sz + 1 ≤ 1000 := hsz
      refine rd_isi rfl (ty _ hb0) T.kit_Chain_Nothing (iteF ?_)
      refine rd_isi rfl (ty _ hb0) T.kit_Chain_Tree (iteF ?_)
      refine rd_isi rfl (ty _ hb0) T.kit_Chain_Chain (iteT ?_)
      refine ⟨_, rfl, b, _, dx, _, _, rfl, hbt, T.c_Chain, T.n_Chain_parts, lk_hd, t, rfl, ⟨vs, SqT.of ht⟩, for_tup (K := K) (a := t) (xs := vs) (fun k σ H6 => ∃ (l' : Addr) (v5 : Option V) (es : List Nat), σ = [some (.ref m), some (.ref b), some (.ref a), some (.ref l'), none, v5, none, none, none] ∧ Go d H H6 ∧ Mg K H6 m fa d rs r0 ∧ H6 l' = some (.lst (nzs es)) ∧ es.length ≤ 100 ∧ ∀ n, n ∈ es ↔ ∃ j ∈ bs, Re false (ps.takeP k) (sg rs r) j n)
        ⟨l, none, bs, rfl, Ext.refl _ _, hM, hl, hbl, fun n => ?_⟩ (fun k σ H6 _ ⟨_, _, _, _, g, _⟩ => SqT.of ((Go.imm hM g).1 _ _ ht)) ?_ ?_⟩
      · have e0 : ps.takeP 0 = .nil := by cases ps <;> rfl
        rw [e0]
        constructor
        · exact fun hn => ⟨n, hn, (re_nilF (by rw [elen]; exact hbb n hn)).mpr rfl⟩
        · rintro ⟨k, hk, hre⟩
          rw [(re_nilF (by rw [elen]; exact hbb k hk)).mp hre]
          exact hk
      · rintro k x σ H6 hx ⟨l', v5, es, rfl, g6, hM6, hl6, hel, hes⟩
        have hk' : k < ps.cnt := by
          rw [← SAt.len hok.2.1 hP]
          exact (List.getElem?_eq_some_iff.mp hx).1
        obtain ⟨p, hp⟩ := part_some hk'
        obtain ⟨c, g1, g2⟩ := SAt.part hP hp
        rw [hx] at g1
        cases g1
        have im6 := Go.imm hM g6
        obtain ⟨dx6, kv6, hm6, hd6⟩ := getm H6 hM6
        refine ⟨_, rfl, m, dx6, _, rfl, hm6, rfl, _, rfl, _, rfl, _, rfl, ?_⟩
        refine ⟨m, c, a, l', fa, d, rs, r0, r, p, es, rfl, hM6, g2.imm im6, part_ok hok.2.1 hp, Nat.le_trans (part_sz hp) (by omega), Nat.le_trans (part_deep hp) (by omega), part_names hp hlv, hR.imm im6, hW, hD, hl6, hel, bound _ _ es hes, fun l7 fs H7 g7 hM7 hl7 hfl hfs => ?_⟩
        refine ⟨l7, _, fs, rfl, g6.trans g7, hM7, hl7, hfl, fun n => ?_⟩
        rw [hfs n]
        constructor
        · rintro ⟨j, hj, hre⟩
          obtain ⟨i, hi, hre2⟩ := (hes j).mp hj
          exact ⟨i, hi, (re_takeF hp (by rw [elen]; exact hbb i hi)).mpr ⟨j, hre2, hre⟩⟩
        · rintro ⟨i, hi, hre⟩
          obtain ⟨j, h1, h2⟩ := (re_takeF hp (by rw [elen]; exact hbb i hi)).mp hre
          exact ⟨j, (hes j).mpr ⟨i, hi, h1⟩, h2⟩
      · rintro σ H6 ⟨l', v5, es, rfl, g6, hM6, hl6, hel, hes⟩
        refine ⟨_, rfl, q l' es H6 g6 hM6 hl6 hel fun n => ?_⟩
        rw [SAt.len hok.2.1 hP, take_all hok.2.1] at hes
        exact hes n
    | either ps =>
      obtain ⟨b', dx, t, vs, eb, hbt, ht, hP⟩ := hS
      cases eb
      have hd1 : ps.deep + 1 ≤ e + 1 := hdp
      have hz1 : ps.sz + 1 ≤ 1000 := hsz
      refine rd_isi rfl (ty _ hb0) T.kit_Either_Nothing (iteF ?_)
      refine rd_isi rfl (ty _ hb0) T.kit_Either_Tree (iteF ?_)
      refine rd_isi rfl (ty _ hb0) T.kit_Either_Chain (iteF ?_)
      refine fun f hf => ?_
      have S1 : Same H (upd H f (.dK [])) := same_new hf _
      refine rd_isi rfl (ty _ (S1 _ _ hb0)) T.kit_Either_Either (iteT ?_)
      refine ⟨_, rfl, b, _, dx, _, _, rfl, S1 _ _ hbt, T.c_Either, T.n_Either_parts, lk_hd, t, rfl, ⟨vs, SqT.of (S1 _ _ ht)⟩, for_tup (K := K) (a := t) (xs := vs) (fun k σ H6 => ∃ (v4 v5 : Option V) (ms : List Nat), σ = [some (.ref m), some (.ref b), some (.ref a), some (.ref l), v4, v5, some (.ref f), none, none] ∧ Go d H H6 ∧ Mg K H6 m fa d rs r0 ∧ H6 f = some (.dK (fkv ms)) ∧ ms.Nodup ∧ ∀ n, n ∈ ms ↔ ∃ j ∈ bs, Re true (ps.takeP k) (sg rs r) j n)
        ⟨none, none, [], rfl, Go.of S1, hM.same S1, upd_same, List.nodup_nil, fun n => ?_⟩ (fun k σ H6 _ ⟨_, _, _, _, g, _⟩ => SqT.of ((Go.imm hM g).1 _ _ ht)) ?_ ?_⟩
      · have e0 : ps.takeP 0 = .nil := by cases ps <;> rfl
        rw [e0]
        constructor
        · intro hn
          cases hn
        · rintro ⟨k, hk, hre⟩
          exact absurd hre re_nilT
      · rintro k x σ H6 hx ⟨v4, v5, ms, rfl, g6, hM6, hf6, hmn, hms⟩
        have hk' : k < ps.cnt := by
          rw [← SAt.len hok.2.1 hP]
          exact (List.getElem?_eq_some_iff.mp hx).1
        obtain ⟨p, hp⟩ := part_some hk'
        obtain ⟨c, g1, g2⟩ := SAt.part hP hp
        rw [hx] at g1
        cases g1
        have im6 := Go.imm hM g6
        obtain ⟨dx6, kv6, hm6, hd6⟩ := getm H6 hM6
        refine ⟨_, rfl, m, dx6, _, rfl, hm6, rfl, _, rfl, _, rfl, _, rfl, ?_⟩
        refine ⟨m, c, a, l, fa, d, rs, r0, r, p, bs, rfl, hM6, g2.imm im6, part_ok hok.2.1 hp, Nat.le_trans (part_sz hp) (by omega), Nat.le_trans (part_deep hp) (by omega), part_names hp hlv, hR.imm im6, hW, hD, Go.lst hM g6 hl, hbl, hbb, fun l7 fs H7 g7 hM7 hl7 hfl hfs => ?_⟩
        have hf7 := Go.dk hM6 g7 hf6
        refine ⟨l7, rfl, ⟨_, SqL.of hl7⟩, add_loop (N := r.len) hl7 hf7 hmn (bound _ _ ms hms) (bound _ _ fs hfs) (by omega) fun v hs hhn hhm => ?_⟩
        refine ⟨v, _, hs, rfl, fun u o hu nu => ?_, hM7.updK hf7, upd_same, hhn, fun n => ?_⟩
        · rw [upd_ne (ne_of_none hu hf)]
          exact (g6.trans g7) u o hu nu
        · rw [hhm n, hms n, hfs n]
          constructor
          · rintro (⟨j, hj, z⟩ | ⟨j, hj, z⟩)
            · exact ⟨j, hj, (re_takeT hp).mpr (.inl z)⟩
            · exact ⟨j, hj, (re_takeT hp).mpr (.inr z)⟩
          · rintro ⟨j, hj, z⟩
            rcases (re_takeT hp).mp z with z | z
            · exact .inl ⟨j, hj, z⟩
            · exact .inr ⟨j, hj, z⟩
      · rintro σ H6 ⟨v4, v5, ms, rfl, g6, hM6, hf6, hmn, hms⟩
        have ml : ms.length ≤ r.len + 1 := bound_len hmn (bound _ _ ms hms)
        refine ⟨_, rfl, f, fkv ms, ms.map fun n : Nat => (n : Int), rfl, .inl hf6, fkv_keys ms, by rw [List.length_map]; omega, fun ys q1 hperm hsort hq => ?_⟩
        obtain ⟨es, e1, e2, e3⟩ := perm_nat hperm
        rw [e1]
        have S3 : Same H6 (upd H6 q1 (.lst (nzs es))) := same_new hq _
        refine q q1 es _ (g6.trans (Go.of S3)) (hM6.same S3) upd_same (by omega) fun n => ?_
        rw [e2 n]
        rw [SAt.len hok.2.1 hP, take_all hok.2.1] at hms
        exact hms n
    | nil => cases hok
    | cons p ps => cases hok.1
end
end K17
end PartK17F5
section PartK17F6
set_option Elab.async false
set_option linter.all false
set_option maxRecDepth 100000
set_option maxHeartbeats 4000000
/-! Meaning's knot; fits. -/
namespace K17
open PySem PySem.Spec PyProof.Rows L2
section
variable {P : Program} {w : World} {K : PySem.W.Frag} {mg : Str → Option Value} {base : Heap}
theorem ends_all (T : Tx K mg) {D : Nat} (GT : ToldG P w K mg base D) : ∀ e, EndsG P w K mg base D e
  | 0 => fo_none fun vs H Q E ⟨_, _, _, _, _, _, _, _, _, s, _, _, _, _, ok, _, h, _⟩ => by
    have := deep_pos ok
    omega
  | e + 1 => ends_step T (ends_all T GT e) GT
theorem isof_all (T : Tx K mg) {D : Nat} (GT : ToldG P w K mg base D) : ∀ i, IsOfG P w K mg base D i
  | 0 => fo_none fun vs H Q E ⟨_, _, _, _, _, _, _, _, j, _, _, _, _, _, _, h, _⟩ => absurd h (Nat.not_lt_zero _)
  | i + 1 => isof_step T (isby_step T (isof_all T GT i) (ends_all T GT 6))
theorem told_all (T : Tx K mg) : ∀ D, ToldG P w K mg base D
  | 0 => fo_none fun vs H Q E ⟨_, _, _, _, _, _, _, _, _, i, _, _, _, _, _, _, _, _, _, h, _⟩ => absurd h (Nat.not_lt_zero _)
  | D + 1 => told_step T (isof_all T (told_all T D) 12)
def spMInit (K : PySem.W.Frag) : Sp := fun vs H Q _ => ∃ (p dx : Addr) (v : V), vs = [.ref p, v] ∧ H p = some (.ins (ca K "Meaning") dx []) ∧
  ∀ (d : Addr) (H' : Hp), (upd H p (.ins (ca K "Meaning") dx [("forms", v)])) d = none → H' = upd (upd (upd H p (.ins (ca K "Meaning") dx [("forms", v)])) d (.dT [])) p (.ins (ca K "Meaning") dx (fMean v (.ref d))) → Q .non H'
theorem ok_minit (T : Tx K mg) : FO P w K mg base 1 (me K "Meaning" "__init__") pMeaningInit (spMInit K) := by
  refine T.d_Meaning_init.ok0 scMeaningInit (fun vs H Q E h => ?_) (fun cdv A outer st H vs Q E hr h => ?_)
  · obtain ⟨p, dx, v, rfl, _⟩ := h
    rfl
  · obtain ⟨p, dx, v, rfl, hp, q⟩ := h
    refine ⟨_, pss_cons (ps_fld (pv 0) (pv 1) rfl) (pss_one (ps_fld (pv 0) pe_dnewT rfl)), ?_⟩
    refine ⟨_, rfl, _, rfl, p, _, dx, _, rfl, hp, T.c_Meaning, T.n_Meaning_forms, (by show 0 < 1000; decide), fun d hd => ?_⟩
    have ne : p ≠ d := fun z => by
      rw [← z, upd_same] at hd
      cases hd
    refine ⟨_, rfl, p, _, dx, _, rfl, (by rw [upd_ne ne]; exact upd_same), T.c_Meaning, T.n_Meaning_known, (by show 1 < 1000; decide), q d _ hd ?_⟩
    have e : putF "known" (.ref d) (putF "forms" v []) = fMean v (.ref d) := put_new2 (by decide +kernel)
    rw [e]
    rfl
def spFits (K : PySem.W.Frag) : Sp := fun vs H Q _ => ∃ (fa a : Addr) (x : Str) (rs : List Rl) (r : Row), vs = [.ref fa, .str x, .ref a] ∧ FsAt K H fa rs ∧ Fk rs ∧ RowAt H r a ∧ Rok 3 r ∧ Tn r ∧ x ∈ nms rs ∧ ∀ H', Same H H' → Q (.bl (F rs r x)) H'
theorem name_at {rs : List Rl} {x : Str} (h : x ∈ nms rs) : ∃ j u, rs[j]? = some u ∧ u.name = x ∧ j < rs.length := by
  obtain ⟨u, hu, e⟩ := List.mem_map.mp h
  obtain ⟨j, hj, e2⟩ := List.mem_iff_getElem.mp hu
  exact ⟨j, u, by rw [List.getElem?_eq_getElem hj, e2], e, hj⟩
theorem ok_fits (T : Tx K mg) : FO P w K mg base 134 (ca K "fits") pFits (spFits K) := by
  have G : FO P w K mg base 133 (me K "Meaning" "is_of") pMeaningIsOf (spIsOf K 3 12) := isof_all T (told_all T 3) 12
  have Gr : FO P w K mg base 133 (me K "Forms" "rule") pFormsRule (spFRule K) := (ok_frule T).mono (by decide)
  have Gn : FO P w K mg base 133 (me K "Forms" "names") pFormsNames (spFNames K) := (ok_fnames T).mono (by decide)
  have Gw : FO P w K mg base 133 (ca K "rows_within") pRowsWithin spWithin := (ok_within T).mono (by decide)
  refine T.d_fits.ok0 scFits (fun vs H Q E h => ?_) (fun cdv A outer st H vs Q E hr h => ?_)
  · obtain ⟨fa, a, x, rs, r, rfl, _⟩ := h
    rfl
  · obtain ⟨fa, a, x, rs, r, rfl, hF, fk, hR, rk, tn, hx, q⟩ := h
    have nd := scFits.nd
    have hr2 := hr.mono (j := 2) (by decide)
    refine ⟨_, pss_cons (ps_expr (pe_meth (pv 0) T.c_Forms T.m_Forms_rule Gr hr (bd_Forms_rule T) .nil pass0 (pa_cons (pv 1) pa_nil)))
      (pss_cons (ps_set (i := 3) nd rfl (.inl rfl) (pe_make T.mk_Meaning (ok_minit T) hr2 (by rfl) T.g_Meaning (bd_Meaning_init T) .nil pass0 (pa_cons (pv 0) pa_nil)))
      (pss_cons (ps_for PassesOwn.never rfl (pi_list (pe_call Gw hr rfl T.g_rows_within T.d_rows_within.kp (bd_rows_within T) .nil pass0 (pa_cons (pv 2) pa_nil))) (pg_name (i := 4) nd rfl (.inl rfl))
        (pss_one (ps_for PassesOwn.never rfl (pi_tup (pe_meth0 (pv 0) T.c_Forms T.m_Forms_names Gn hr (bd_Forms_names T) .nil pass0)) (pg_name (i := 5) nd rfl (.inl rfl))
          (pss_one (ps_expr (pe_meth (pv 3) T.c_Meaning T.m_Meaning_is_of G hr (bd_Meaning_is_of T) .nil pass0 (pa_cons (pv 5) (pa_cons (pv 4) pa_nil))))))))
      (pss_one (ps_ret (pe_meth (pv 3) T.c_Meaning T.m_Meaning_is_of G hr (bd_Meaning_is_of T) .nil pass0 (pa_cons (pv 1) (pa_cons (pv 2) pa_nil))))))), ?_⟩
    obtain ⟨dxf, tf, uf, hfa, htf, hUf⟩ := id hF
    refine ⟨_, rfl, fa, dxf, _, rfl, hfa, rfl, _, rfl, fa, rs, x, rfl, hF, hx, fun _ _ _ _ _ => ?_⟩
    refine ⟨_, rfl, fun m dx hm hdx hne => ⟨m, dx, .ref fa, rfl, upd_same, fun d H1 hd eH1 => ⟨rfl, ?_⟩⟩⟩
    rw [upd_upd] at hd eH1
    have S1 : Same H H1 := fun u o ho => by
      rw [eH1]
      have n1 := ne_of_none ho hm
      have n2 := ne_of_none ho hdx
      have n3 : u ≠ d := fun z => by
        rw [← z, upd_ne n1, upd_ne n2, ho] at hd
        cases hd
      rw [upd_ne n1, upd_ne n3, upd_ne n1, upd_ne n2]
      exact ho
    have nmd : m ≠ d := fun z => by
      rw [← z, upd_same] at hd
      cases hd
    have hd0 : H d = none := by
      cases e : H d with
      | none => rfl
      | some o =>
        have n1 := ne_of_none e hm
        have n2 := ne_of_none e hdx
        rw [upd_ne n1, upd_ne n2, e] at hd
        cases hd
    have hM1 : Mg K H1 m fa d rs r := by
      refine ⟨fk, rk.mono (by decide), tn, dx, [], by rw [eH1]; exact upd_same, hF.imm (Same.imm S1), ?_, List.nodup_nil, fun p hp => by cases hp⟩
      rw [eH1, upd_ne (Ne.symm nmd), upd_same]
    have back : ∀ H', Go d H1 H' → Same H H' := fun H' g u o ho => g u o (S1 _ _ ho) fun z => ne_of_none ho hd0 (List.mem_singleton.mp z)
    clear eH1 hd
    refine ⟨_, rfl, a, r, rfl, hR.imm (Same.imm S1), rk.mono (by decide), fun p H2 xs ss S2 _ hp hxs hss hxl => ?_⟩
    have hM2 := hM1.same S2
    refine ⟨p, rfl, ⟨xs, SqL.of hp⟩, for_list (K := K) (a := p) (xs := xs) (fun k σ H' => ∃ v4 v5, σ = [some (.ref fa), some (.str x), some (.ref a), some (.ref m), v4, v5] ∧ Go d H2 H' ∧ Mg K H' m fa d rs r)
      ⟨none, none, rfl, Ext.refl _ _, hM2⟩ (fun k σ H' _ ⟨_, _, _, g, _⟩ => SqL.of (Go.lst hM2 g hp)) ?_ ?_⟩
    · rintro k y σ H3 hy ⟨v4, v5, rfl, g3, hM3⟩
      obtain ⟨s, hs, b, rfl, hb⟩ := paired_get hxs hy
      have hws : Win r s := hss s (List.mem_of_getElem? hs)
      have im3 := Go.imm hM2 g3
      obtain ⟨_, _, _, dx3, kv3, hm3, hF3, hd3, hk3⟩ := id hM3
      obtain ⟨dxf3, tf3, uf3, hfa3, htf3, hUf3⟩ := id hF3
      refine ⟨_, rfl, fa, dxf3, _, rfl, hfa3, rfl, fa, rs, rfl, hF3, Nat.le_trans fk.len (by decide), fun t H4 S4 ht => ?_⟩
      have hM4 := hM3.same S4
      refine ⟨t, rfl, ⟨_, SqT.of ht⟩, for_tup (K := K) (a := t) (xs := (nms rs).map V.str) (fun k σ H' => ∃ v5, σ = [some (.ref fa), some (.str x), some (.ref a), some (.ref m), some (.ref b), v5] ∧ Go d H4 H' ∧ Mg K H' m fa d rs r)
        ⟨v5, rfl, Ext.refl _ _, hM4⟩ (fun k σ H' _ ⟨_, _, g, _⟩ => SqT.of ((Go.imm hM4 g).1 _ _ ht)) ?_ ?_⟩
      · rintro k z σ H5 hz ⟨v5, rfl, g5, hM5⟩
        rw [List.getElem?_map] at hz
        obtain ⟨y, hy2, rfl⟩ := Option.map_eq_some_iff.mp hz
        have hyn : y ∈ nms rs := List.mem_of_getElem? hy2
        obtain ⟨j, u, hj, hun, hjl⟩ := name_at hyn
        obtain ⟨_, _, _, dx5, kv5, hm5, _⟩ := id hM5
        have im5 := im3.trans ((Same.imm S4).trans (Go.imm hM4 g5))
        refine ⟨_, rfl, m, dx5, _, rfl, hm5, rfl, _, rfl, _, rfl, ?_⟩
        have hl := fk.len
        exact ⟨m, b, fa, d, y, rs, r, s, j, u, rfl, hM5, hb.imm im5, hws, (hws.rok rk).2.2, by omega, hj, hun, fun H6 g6 hM6 => ⟨_, rfl, g5.trans g6, hM6⟩⟩
      · rintro σ H5 ⟨v5, rfl, g5, hM5⟩
        exact ⟨_, _, rfl, g3.trans ((Go.of S4).trans g5), hM5⟩
    · rintro σ H3 ⟨v4, v5, rfl, g3, hM3⟩
      obtain ⟨j, u, hj, hun, hjl⟩ := name_at hx
      obtain ⟨_, _, _, dx3, kv3, hm3, _⟩ := id hM3
      have im3 := (Same.imm (S1.trans S2)).trans (Go.imm hM2 g3)
      have hl := fk.len
      refine ⟨_, rfl, m, dx3, _, rfl, hm3, rfl, _, rfl, _, rfl, ?_⟩
      exact ⟨m, a, fa, d, x, rs, r, r, j, u, rfl, hM3, hR.imm im3, .inl rfl, rk.2.2, by omega, hj, hun, fun H6 g6 hM6 => q H6 (back H6 ((Go.of S2).trans (g3.trans g6)))⟩
end
end K17
end PartK17F6
section PartK17G1
set_option Elab.async false
set_option linter.all false
set_option maxRecDepth 100000
set_option maxHeartbeats 4000000
/-! The law's trees. -/
namespace K17
open PySem PySem.Spec PyProof.Rows L2
/-! ### told[0] in (..) -/
abbrev tIn2 (K : PySem.W.Frag) (i : Nat) (y z : Str) : TT := tTest (tOp (rIn K false) (tOp (rIxT K) (tVar i) (tC (.int 0))) (tTup (tCons (tC (.str y)) (tCons (tC (.str z)) tNil))))
abbrev tIn3 (K : PySem.W.Frag) (i : Nat) (y z u : Str) : TT := tTest (tOp (rIn K false) (tOp (rIxT K) (tVar i) (tC (.int 0))) (tTup (tCons (tC (.str y)) (tCons (tC (.str z)) (tCons (tC (.str u)) tNil)))))
theorem rd_in2 {K : PySem.W.Frag} {i : Nat} {y z x : Str} {σ : L2.St} {H : Hp} {Q : Bool → Hp → Prop} {a : Addr} {xs : List V} (e : σ[i]? = some (some (.ref a))) (h : H a = some (.tup (.str x :: xs))) (q : ∀ H', Same H H' → Q (decide (x ∈ [y, z])) H') : tIn2 K i y z σ H Q := by
  refine ⟨_, e, a, _, 0, .str x, rfl, rfl, SqT.of h, atI_nat (j := 0) rfl, (by show 2 ≤ sizeLine; decide), fun p hp => ?_⟩
  refine ⟨p, _, rfl, .inr (SqT.of upd_same), rfl, rfl, _, rfl, ?_⟩
  have e2 : inV (.str x) [.str y, .str z] = decide (x ∈ [y, z]) := inV_strs x [y, z]
  rw [e2]
  exact q _ (same_new hp _)
theorem rd_in3 {K : PySem.W.Frag} {i : Nat} {y z u x : Str} {σ : L2.St} {H : Hp} {Q : Bool → Hp → Prop} {a : Addr} {xs : List V} (e : σ[i]? = some (some (.ref a))) (h : H a = some (.tup (.str x :: xs))) (q : ∀ H', Same H H' → Q (decide (x ∈ [y, z, u])) H') : tIn3 K i y z u σ H Q := by
  refine ⟨_, e, a, _, 0, .str x, rfl, rfl, SqT.of h, atI_nat (j := 0) rfl, (by show 3 ≤ sizeLine; decide), fun p hp => ?_⟩
  refine ⟨p, _, rfl, .inr (SqT.of upd_same), rfl, rfl, _, rfl, ?_⟩
  have e2 : inV (.str x) [.str y, .str z, .str u] = decide (x ∈ [y, z, u]) := inV_strs x [y, z, u]
  rw [e2]
  exact q _ (same_new hp _)
def Sh.cE (s : Sh) : Bool := decide (s.cd = 5) || decide (s.cd = 6)
def Sh.mS (s : Sh) : Bool := decide (s.cd = 2) || (decide (s.cd = 3) || decide (s.cd = 4))
theorem tag_ce {s : Sh} (ok : s.ok false) : decide (s.tag ∈ [("chain" : Str), "either"]) = s.cE := by
  cases s with
  | nothing => show decide (("nothing" : Str) ∈ [("chain" : Str), "either"]) = false; decide +kernel
  | tree w n => show decide (("tree" : Str) ∈ [("chain" : Str), "either"]) = false; decide +kernel
  | many p => show decide (("many" : Str) ∈ [("chain" : Str), "either"]) = false; decide +kernel
  | some p => show decide (("some" : Str) ∈ [("chain" : Str), "either"]) = false; decide +kernel
  | maybe p => show decide (("maybe" : Str) ∈ [("chain" : Str), "either"]) = false; decide +kernel
  | chain p => show decide (("chain" : Str) ∈ [("chain" : Str), "either"]) = true; decide +kernel
  | either p => show decide (("either" : Str) ∈ [("chain" : Str), "either"]) = true; decide +kernel
  | nil => cases ok
  | cons p ps => cases ok.1
theorem tag_ms {s : Sh} (ok : s.ok false) : decide (s.tag ∈ [("many" : Str), "some", "maybe"]) = s.mS := by
  cases s with
  | nothing => show decide (("nothing" : Str) ∈ [("many" : Str), "some", "maybe"]) = false; decide +kernel
  | tree w n => show decide (("tree" : Str) ∈ [("many" : Str), "some", "maybe"]) = false; decide +kernel
  | many p => show decide (("many" : Str) ∈ [("many" : Str), "some", "maybe"]) = true; decide +kernel
  | some p => show decide (("some" : Str) ∈ [("many" : Str), "some", "maybe"]) = true; decide +kernel
  | maybe p => show decide (("maybe" : Str) ∈ [("many" : Str), "some", "maybe"]) = true; decide +kernel
  | chain p => show decide (("chain" : Str) ∈ [("many" : Str), "some", "maybe"]) = false; decide +kernel
  | either p => show decide (("either" : Str) ∈ [("many" : Str), "some", "maybe"]) = false; decide +kernel
  | nil => cases ok
  | cons p ps => cases ok.1
theorem rd_ce {K : PySem.W.Frag} {i : Nat} {σ : L2.St} {H : Hp} {Q : Bool → Hp → Prop} {a : Addr} {s : Sh} (e : σ[i]? = some (some (.ref a))) (h : TAt H s [.ref a]) (ok : s.ok false) (q : ∀ H', Same H H' → Q s.cE H') : tIn2 K i "chain" "either" σ H Q := by
  obtain ⟨xs, hx⟩ := h.tag ok
  refine rd_in2 e hx fun H' S => ?_
  rw [tag_ce ok]
  exact q H' S
theorem rd_ms {K : PySem.W.Frag} {i : Nat} {σ : L2.St} {H : Hp} {Q : Bool → Hp → Prop} {a : Addr} {s : Sh} (e : σ[i]? = some (some (.ref a))) (h : TAt H s [.ref a]) (ok : s.ok false) (q : ∀ H', Same H H' → Q s.mS H') : tIn3 K i "many" "some" "maybe" σ H Q := by
  obtain ⟨xs, hx⟩ := h.tag ok
  refine rd_in3 e hx fun H' S => ?_
  rw [tag_ms ok]
  exact q H' S
def rInt1 : List V → Hp → VK → Prop := fun xs H Q => (∃ i, xs = [.int i] ∧ Q (.int i) H) ∨ ∃ k, xs = [.bl k] ∧ Q (.int (if k then 1 else 0)) H
theorem call_intA {X : Cx} : CallR X (.type "int") rInt1 := call_int1
def spTrees (n : Nat) : Sp := fun vs H Q _ => ∃ (a : Addr) (s : Sh), vs = [.ref a] ∧ TAt H s [.ref a] ∧ s.ok false ∧ s.sz ≤ 1000 ∧ s.deep ≤ n ∧ ∀ H', Same H H' → Q (.int (s.trees : Nat)) H'
theorem tr_take {s : Sh} : ∀ {k : Nat} {p : Sh}, s.part k = Option.some p → (s.takeP (k + 1)).trees = (s.takeP k).trees + p.trees := by
  intro k p h
  have z := congrArg List.length (lvs_take h)
  rw [List.length_append, lvs_len, lvs_len, lvs_len] at z
  exact z
section
variable {P : Program} {w : World} {K : PySem.W.Frag} {mg : Str → Option Value} {base : Heap}
theorem lawtrees_step (T : Tx K mg) {n : Nat} (G : FO P w K mg base n (ca K "_law_trees") pTrees (spTrees n)) : FO P w K mg base (n + 1) (ca K "_law_trees") pTrees (spTrees (n + 1)) := by
  refine T.d_law_trees.ok0 scTrees (fun vs H Q E h => ?_) (fun cdv A outer st H vs Q E hr h => ?_)
  · obtain ⟨a, s, rfl, _⟩ := h
    rfl
  · obtain ⟨a, s, rfl, hT, ok, hz, hd, q⟩ := h
    have nd := scTrees.nd
    refine ⟨_, pss_cons (ps_if (pt_cmpR op_in_seq (pe_ix ix_tup (pv 0) pe_int (fun _ _ => rfl)) (pe_tup (pa_cons pe_str (pa_cons pe_str pa_nil))) rfl)
        (pss_one (ps_ret (pe_callB (cr_sum rfl) (by rfl) T.b_sum (by decide +kernel) (pa_cons (pe_lc (own := [("_law_part", 1)]) (g := gName 1) (tt := tYes) (te := tCall (spTrees n) [] E0 (tCons (tVar 1) tNil)) rfl nd (pi_tup (pe_ix ix_tup (pv 0) pe_int (fun _ _ => rfl))) (blkOk_by (N := nTrees) (sc := defScope sTrees) (by decide +kernel))
          (fun _ _ _ _ _ => pg_name (i := 1) nd rfl (.inl rfl) (.inr rfl)) (fun _ _ _ _ _ => pts_nil) (fun _ _ _ _ _ => pe_call G hr rfl T.g_law_trees T.d_law_trees.kp (bd_law_trees T) .nil pass0 (pa_cons (pv 1) pa_nil))) pa_nil)))) pss_nil)
      (pss_cons (ps_if (pt_cmpR op_in_seq (pe_ix ix_tup (pv 0) pe_int (fun _ _ => rfl)) (pe_tup (pa_cons pe_str (pa_cons pe_str (pa_cons pe_str pa_nil)))) rfl)
        (pss_one (ps_ret (pe_call G hr rfl T.g_law_trees T.d_law_trees.kp (bd_law_trees T) .nil pass0 (pa_cons (pe_ix ix_tup (pv 0) pe_int (fun _ _ => rfl)) pa_nil)))) pss_nil)
      (pss_one (ps_ret (pe_callTy call_intA (by rfl) T.b_int (by decide +kernel) (pa_cons (pe_cmpR op_eq (pe_ix ix_tup (pv 0) pe_int (fun _ _ => rfl)) pe_str rfl) pa_nil))))), ?_⟩
    refine rd_ce rfl hT ok fun H1 S1 => ?_
    have hT1 := hT.imm (Same.imm S1)
    have parts : ∀ (ps : Sh) (t : Addr) (us : List V) (x : Str), H1 a = some (.tup [.str x, .ref t]) → H1 t = some (.tup us) → TAt H1 ps us → ps.ok true → ps.sz ≤ 1000 → ps.deep ≤ n → ps.trees = s.trees →
        tCB (rSum K) (tCons (tLc (iTup K (tAt K 0 1)) (gName 1) tYes (tCall (spTrees n) [] E0 (tCons (tVar 1) tNil)) [1]) tNil) [some (.ref a), none] H1 Q := by
      intro ps t us x ha ht hP okp hzp hdp htr
      refine ⟨_, rfl, a, _, 1, .ref t, rfl, rfl, SqT.of ha, atI_nat (j := 1) rfl, t, rfl, ⟨us, SqT.of ht⟩, fun D hD => ?_⟩
      refine lc_tup (K := K) (a := t) (xs := us) (fun k H6 => ∃ acc : List Int, Same H1 H6 ∧ H6 D = some (.lst (acc.map V.int)) ∧ acc.length = k ∧ acc.sum = ((ps.takeP k).trees : Nat)) ⟨[], same_new hD _, upd_same, rfl, by cases ps <;> rfl⟩ (fun k H6 _ ⟨acc, S7, _⟩ => SqT.of (S7 _ _ ht)) ?_ ?_
      · rintro k x H6 hk ⟨acc, S7, hA, hL, hR⟩
        have hk' : k < ps.cnt := by
          rw [← TAt.len okp hP]
          exact (List.getElem?_eq_some_iff.mp hk).1
        obtain ⟨p, hp⟩ := part_some hk'
        obtain ⟨b, g1, g2⟩ := TAt.part hP hp
        rw [hk] at g1
        cases g1
        have z := cnt_sz okp
        refine ⟨rfl, ?_⟩
        dsimp only [tYes]
        rw [if_pos rfl]
        refine ⟨_, rfl, b, p, rfl, TAt.imm (Same.imm S7) g2, part_ok okp hp, Nat.le_trans (part_sz hp) hzp, Nat.le_trans (part_deep hp) hdp, fun H7 S8 => ?_⟩
        refine ⟨_, S8 _ _ hA, ?_, acc ++ [((p.trees : Nat) : Int)], fun d o ho => ?_, ?_, by rw [List.length_append, hL]; rfl, ?_⟩
        · rw [List.length_map]
          exact sl5 (by omega)
        · rw [upd_ne (ne_of_none ho hD)]
          exact S8 _ _ (S7 _ _ ho)
        · rw [upd_same, List.map_append]
          rfl
        · rw [List.sum_append, hR, tr_take hp]
          simp
      · rintro H6 ⟨acc, S7, hA, hL, hR⟩
        refine ⟨D, acc, rfl, SqL.of hA, ?_⟩
        have e : us.length = ps.cnt := TAt.len okp hP
        rw [e, take_all okp, htr] at hR
        rw [hR]
        exact q H6 (S1.trans S7)
    have sign : ∀ (p : Sh) (b : Addr) (x : Str) (H2 : Hp), Same H H2 → H2 a = some (.tup [.str x, .ref b]) → TAt H2 p [.ref b] → p.ok false → p.sz ≤ 1000 → p.deep ≤ n → p.trees = s.trees →
        tCall (spTrees n) [] E0 (tCons (tAt K 0 1) tNil) [some (.ref a), none] H2 Q := by
      intro p b x H2 S2 ha hP okp hzp hdp htr
      refine ⟨_, rfl, a, _, 1, .ref b, rfl, rfl, SqT.of ha, atI_nat (j := 1) rfl, b, p, rfl, hP, okp, hzp, hdp, fun H3 S3 => ?_⟩
      rw [htr]
      exact q H3 (S2.trans S3)
    cases s with
    | nothing =>
      refine iteF (rd_ms rfl hT1 ok fun H2 S2 => iteF ?_)
      obtain ⟨a', e, ha⟩ := hT
      cases e
      refine ⟨_, rfl, a, _, 0, _, rfl, rfl, SqT.of (S2 _ _ (S1 _ _ ha)), atI_nat (j := 0) rfl, rfl, .inr ⟨_, rfl, ?_⟩⟩
      have e : decide (V.str ("nothing" : Str) = V.str ("tree" : Str)) = false := by decide +kernel
      rw [e]
      exact q H2 (S1.trans S2)
    | tree w' n' =>
      refine iteF (rd_ms rfl hT1 ok fun H2 S2 => iteF ?_)
      obtain ⟨a', e, ha⟩ := hT
      cases e
      refine ⟨_, rfl, a, _, 0, _, rfl, rfl, SqT.of (S2 _ _ (S1 _ _ ha)), atI_nat (j := 0) rfl, rfl, .inr ⟨_, rfl, ?_⟩⟩
      have e : decide (V.str ("tree" : Str) = V.str ("tree" : Str)) = true := by decide +kernel
      rw [e]
      exact q H2 (S1.trans S2)
    | many p =>
      have hz1 : p.sz + 1 ≤ 1000 := hz
      refine iteF (rd_ms rfl hT1 ok fun H2 S2 => iteT ?_)
      obtain ⟨a', b, e, ha, hp⟩ := hT1.imm (Same.imm S2)
      cases e
      exact sign p b _ H2 (S1.trans S2) ha hp ok.2 (by omega) (Nat.le_of_succ_le_succ hd) rfl
    | some p =>
      have hz1 : p.sz + 1 ≤ 1000 := hz
      refine iteF (rd_ms rfl hT1 ok fun H2 S2 => iteT ?_)
      obtain ⟨a', b, e, ha, hp⟩ := hT1.imm (Same.imm S2)
      cases e
      exact sign p b _ H2 (S1.trans S2) ha hp ok.2 (by omega) (Nat.le_of_succ_le_succ hd) rfl
    | maybe p =>
      have hz1 : p.sz + 1 ≤ 1000 := hz
      refine iteF (rd_ms rfl hT1 ok fun H2 S2 => iteT ?_)
      obtain ⟨a', b, e, ha, hp⟩ := hT1.imm (Same.imm S2)
      cases e
      exact sign p b _ H2 (S1.trans S2) ha hp ok.2 (by omega) (Nat.le_of_succ_le_succ hd) rfl
    | chain ps =>
      have hz1 : ps.sz + 1 ≤ 1000 := hz
      obtain ⟨a', t, us, e, ha, ht, hP⟩ := hT1
      cases e
      exact iteT (parts ps t us _ ha ht hP ok.2.1 (by omega) (Nat.le_of_succ_le_succ hd) rfl)
    | either ps =>
      have hz1 : ps.sz + 1 ≤ 1000 := hz
      obtain ⟨a', t, us, e, ha, ht, hP⟩ := hT1
      cases e
      exact iteT (parts ps t us _ ha ht hP ok.2.1 (by omega) (Nat.le_of_succ_le_succ hd) rfl)
    | nil => cases ok
    | cons p ps => cases ok.1
theorem ok_lawtrees (T : Tx K mg) : ∀ n : Nat, FO P w K mg base n (ca K "_law_trees") pTrees (spTrees n)
  | 0 => fo_none fun vs H Q E ⟨a, s, _, _, ok, _, h, _⟩ => by
    have := deep_pos ok
    omega
  | n + 1 => lawtrees_step T (ok_lawtrees T n)
end
end K17
end PartK17G1
section PartK17G2
set_option Elab.async false
set_option linter.all false
set_option maxRecDepth 100000
set_option maxHeartbeats 4000000
/-! The law's joined. -/
namespace K17
open PySem PySem.Spec PyProof.Rows L2
theorem inV_bls (b : Bool) (l : List Bool) : inV (.bl b) (l.map V.bl) = decide (b ∈ l) := by
  induction l with
  | nil => simp [inV]
  | cons c l ih =>
    unfold inV at ih ⊢
    rw [List.map_cons, List.any_cons, ih]
    show ((c == b) || decide (b ∈ l)) = _
    cases b <;> cases c <;> simp
theorem flat_bls (l : List Bool) : (l.map V.bl).all flatV = true := by
  induction l with
  | nil => rfl
  | cons c l ih =>
    rw [List.map_cons, List.all_cons]
    exact ih
/-- a rule as it is told, by its words -/
def Rl.word : Rl → Str
  | .shaped _ _ => "shaped"
  | .turned _ _ => "turned"
  | .both _ _ _ => "both"
  | .any _ _ _ => "any"
theorem QAt.head {H : Hp} {v : V} : ∀ {r : Rl}, QAt H v r → ∃ a xs, v = .ref a ∧ H a = some (.tup (.str r.word :: .str r.name :: xs))
  | .shaped n s, ⟨a, b, e, h, q⟩ => ⟨a, _, e, h⟩
  | .turned n o, ⟨a, e, h⟩ => ⟨a, _, e, h⟩
  | .both n o u, ⟨a, e, h⟩ => ⟨a, _, e, h⟩
  | .any n o u, ⟨a, e, h⟩ => ⟨a, _, e, h⟩
def spJoined (K : PySem.W.Frag) : Sp := fun vs H Q _ => ∃ (fa l a : Addr) (ws : List V) (rs qs : List Rl) (r : Row), vs = [.ref fa, .ref l, .ref a] ∧ FsAt K H fa rs ∧ Fk rs ∧ H l = some (.lst ws) ∧ QsAt H ws qs ∧ (∀ u ∈ qs, u ∈ rs) ∧ RowAt H r a ∧ Rok 3 r ∧ Tn r ∧ ∀ H', Same H H' → Q (.bl true) H'
theorem leans_in {rs : List Rl} (h : Okl [] rs) {u : Rl} (hu : u ∈ rs) {x : Str} (hx : x ∈ u.leans) : x ∈ nms rs := by
  obtain ⟨j, hj, e⟩ := List.mem_iff_getElem.mp hu
  have hj2 : rs[j]? = some u := by rw [List.getElem?_eq_getElem hj, e]
  obtain ⟨k, s, _, hk, hs⟩ := okl_leans h hj2 hx
  exact List.mem_map.mpr ⟨s, List.mem_of_getElem? hk, hs⟩
section
variable {P : Program} {w : World} {K : PySem.W.Frag} {mg : Str → Option Value} {base : Heap}
theorem ok_joined (T : Tx K mg) : FO P w K mg base 135 (ca K "_law_joined") pJoined (spJoined K) := by
  have G : FO P w K mg base 134 (ca K "fits") pFits (spFits K) := ok_fits T
  refine T.d_law_joined.ok0 scJoined (fun vs H Q E h => ?_) (fun cdv A outer st H vs Q E hr h => ?_)
  · obtain ⟨fa, l, a, ws, rs, qs, r, rfl, _⟩ := h
    rfl
  · obtain ⟨fa, l, a, ws, rs, qs, r, rfl, hF, fk, hl, hQ, hsub, hR, rk, tn, q⟩ := h
    have nd := scJoined.nd
    refine ⟨_, pss_cons (ps_for PassesOwn.never rfl (pi_list (pv 1)) (pg_name (i := 3) nd rfl (.inl rfl))
        (pss_cons (ps_set (i := 4) nd rfl (.inl rfl) (pe_call G hr rfl T.g_fits T.d_fits.kp (bd_fits T) .nil pass0 (pa_cons (pv 0) (pa_cons (pe_ix ix_tup (pv 3) pe_int (fun _ _ => rfl)) (pa_cons (pv 2) pa_nil)))))
        (pss_cons (ps_if (PW.pt (pw_and (pt_cmpR op_eq (pe_ix ix_tup (pv 3) pe_int (fun _ _ => rfl)) pe_str (nomark _)) (pw_and1 (pt_cmpR op_eq (pv 4) (pe_call G hr rfl T.g_fits T.d_fits.kp (bd_fits T) .nil pass0 (pa_cons (pv 0) (pa_cons (pe_ix ix_tup (pv 3) pe_int (fun _ _ => rfl)) (pa_cons (pv 2) pa_nil)))) (nomark _))))) (pss_one (ps_ret pe_bl)) pss_nil)
        (pss_one (ps_if (pt_cmpR op_in_seq (pe_ix ix_tup (pv 3) pe_int (fun _ _ => rfl)) (pe_tup (pa_cons pe_str (pa_cons pe_str pa_nil))) rfl)
          (pss_cons (ps_setLc (i := 5) (own := [("_law_one", 6)]) (g := gName 6) (tt := tYes) (te := tCall (spFits K) [] E0 (tCons (tVar 0) (tCons (tVar 6) (tCons (tVar 2) tNil)))) rfl nd rfl rfl (by rfl) (pi_tup (pe_slice sl_tupA (pv 3) (po_some pe_int) po_none)) (blkOk_by (N := nJoined) (sc := defScope sJoined) (by decide +kernel))
              (fun _ _ _ _ _ => pg_name (i := 6) nd rfl (.inl rfl) (.inr rfl)) (fun _ _ _ _ _ => pts_nil) (fun _ _ _ _ _ => pe_call G hr rfl T.g_fits T.d_fits.kp (bd_fits T) .nil pass0 (pa_cons (pv 0) (pa_cons (pv 6) (pa_cons (pv 2) pa_nil)))))
            (pss_one (ps_if (pt_cmpR op_ne (pv 4) (pe_ix ix_list (pe_lst (pa_cons (pe_cmpR op_in_seq pe_bl (pv 5) rfl) (pa_cons (pe_cmpR op_notIn_seq pe_bl (pv 5) rfl) pa_nil))) (pe_callTy call_intA (by rfl) T.b_int (by decide +kernel) (pa_cons (pe_cmpR op_eq (pe_ix ix_tup (pv 3) pe_int (fun _ _ => rfl)) pe_str rfl) pa_nil)) (fun _ _ => rfl)) (nomark _)) (pss_one (ps_ret pe_bl)) pss_nil))) pss_nil)))))
      (pss_one (ps_ret pe_bl)), ?_⟩
    refine ⟨_, rfl, l, rfl, ⟨_, SqL.of hl⟩, for_list (K := K) (a := l) (xs := ws) (fun k σ H' => ∃ v3 v4 v5, σ = [some (.ref fa), some (.ref l), some (.ref a), v3, v4, v5, none] ∧ Same H H') ⟨none, none, none, rfl, fun _ _ z => z⟩ (fun k σ H' _ ⟨_, _, _, _, S⟩ => SqL.of (S _ _ hl)) ?_ ?_⟩
    · rintro k x σ H1 hx ⟨v3, v4, v5, rfl, S1⟩
      obtain ⟨u, hu, hq⟩ := paired_get hQ hx
      have hur : u ∈ rs := hsub u (List.mem_of_getElem? hu)
      have hun : u.name ∈ nms rs := List.mem_map.mpr ⟨u, hur, rfl⟩
      have hq1 := hq.imm (Same.imm S1)
      obtain ⟨b, xs, rfl, hb⟩ := hq1.head
      have eF := F_rule (row := r) fk.ok hur
      refine ⟨_, rfl, _, rfl, b, _, 1, .str u.name, rfl, rfl, SqT.of hb, atI_nat (j := 1) rfl, _, rfl, ?_⟩
      refine ⟨fa, a, u.name, rs, r, rfl, hF.imm (Same.imm S1), fk, hR.imm (Same.imm S1), rk, tn, hun, fun H2 S2 => ?_⟩
      have S12 := S1.trans S2
      have hb2 := S2 _ _ hb
      have hq2 := hq1.imm (Same.imm S2)
      rw [eF]
      cases u with
      | shaped n s =>
        have hbb : H2 b = some (.tup (.str "shaped" :: .str n :: xs)) := hb2
        refine rd_tag rfl hbb ?_
        rw [show decide (("shaped" : Str) = "turned") = false by decide +kernel]
        refine iteF (iteF ?_)
        refine rd_in2 rfl hbb fun H3 S3 => ?_
        rw [show decide (("shaped" : Str) ∈ [("both" : Str), "any"]) = false by decide +kernel]
        exact iteF ⟨_, _, _, rfl, S12.trans S3⟩
      | turned n o =>
        obtain ⟨b', eb, hbb⟩ := hq2
        cases eb
        refine rd_tag rfl hbb ?_
        rw [show decide (("turned" : Str) = "turned") = true by decide +kernel]
        refine iteT ⟨_, rfl, _, rfl, _, rfl, b, _, 2, .str o, rfl, rfl, SqT.of hbb, atI_nat (j := 2) rfl, _, rfl, ?_⟩
        refine ⟨fa, a, o, rs, r, rfl, hF.imm (Same.imm S12), fk, hR.imm (Same.imm S12), rk, tn, leans_in fk.ok hur (List.mem_singleton.mpr rfl), fun H3 S3 => ?_⟩
        have S13 := S12.trans S3
        have e2 : decide (V.bl (rv (F rs r) (sg rs r) (.turned n o)) = V.bl (F rs r o)) = false := by
          refine decide_eq_false fun z => ?_
          injection z with z
          have z2 : (!F rs r o) = F rs r o := z
          cases hh : F rs r o <;> rw [hh] at z2 <;> cases z2
        refine ⟨rfl, _, rfl, ?_⟩
        rw [e2]
        refine iteF ?_
        refine rd_in2 rfl (S3 _ _ hbb) fun H4 S4 => ?_
        rw [show decide (("turned" : Str) ∈ [("both" : Str), "any"]) = false by decide +kernel]
        exact iteF ⟨_, _, _, rfl, S13.trans S4⟩
      | both n o v =>
        obtain ⟨b', eb, hbb⟩ := hq2
        cases eb
        refine rd_tag rfl hbb ?_
        rw [show decide (("both" : Str) = "turned") = false by decide +kernel]
        refine iteF (iteF ?_)
        refine rd_in2 rfl hbb fun H3 S3 => ?_
        rw [show decide (("both" : Str) ∈ [("both" : Str), "any"]) = true by decide +kernel]
        refine iteT ?_
        have S13 := S12.trans S3
        refine ⟨_, rfl, 2, rfl, b, _, rfl, SqT.of (S3 _ _ hbb), fun z => absurd z.1 (by show ¬ (2 : Nat) = 0; decide), fun _ t ht => ?_⟩
        have S4 : Same H3 (upd H3 t (.tup [.str o, .str v])) := same_new ht _
        refine ⟨t, rfl, ⟨_, SqT.of upd_same⟩, fun L hL => ?_⟩
        have S14 := S13.trans S4
        have S5 := same_new hL (.lst [])
        refine lc_tup (K := K) (a := t) (xs := [.str o, .str v]) (fun k H6 => Same (upd H3 t (.tup [.str o, .str v])) H6 ∧ H6 L = some (.lst ((([F rs r o, F rs r v] : List Bool).take k).map V.bl))) ⟨S5, upd_same⟩ (fun k H6 _ ⟨S, _⟩ => SqT.of (S _ _ upd_same)) ?_ ?_
        · rintro k x H6 hk ⟨S6, hA⟩
          refine ⟨rfl, ?_⟩
          dsimp only [tYes]
          rw [if_pos rfl]
          have S16 := S14.trans S6
          have one : ∀ y : Str, x = .str y → y ∈ nms rs → ([F rs r o, F rs r v] : List Bool)[k]? = some (F rs r y) → tCall (spFits K) [] E0 (tCons (tVar 0) (tCons (tVar 6) (tCons (tVar 2) tNil))) [some (.ref fa), some (.ref l), some (.ref a), some (.ref b), some (.bl (rv (F rs r) (sg rs r) (.both n o v))), v5, some x] H6 fun y H7 => ∃ acc, H7 L = some (.lst acc) ∧ acc.length < sizeLine ∧ Same (upd H3 t (.tup [.str o, .str v])) (upd H7 L (.lst (acc ++ [y]))) ∧ (upd H7 L (.lst (acc ++ [y]))) L = some (.lst ((([F rs r o, F rs r v] : List Bool).take (k + 1)).map V.bl)) := by
            rintro y rfl hy hk2
            refine ⟨_, rfl, _, rfl, _, rfl, fa, a, y, rs, r, rfl, hF.imm (Same.imm S16), fk, hR.imm (Same.imm S16), rk, tn, hy, fun H7 S7 => ?_⟩
            refine ⟨_, S7 _ _ hA, ?_, fun d o ho => ?_, ?_⟩
            · rw [List.length_map, List.length_take]
              exact sl5 (Nat.le_trans (Nat.min_le_right _ _) (by show 2 ≤ 100000; decide))
            · rw [upd_ne (ne_of_none ho hL)]
              exact S7 _ _ (S6 _ _ ho)
            · rw [upd_same, List.take_add_one, hk2]
              simp
          match k, hk, one with
          | 0, hk, one =>
            cases hk
            exact one o rfl (leans_in fk.ok hur (List.mem_cons_self ..)) rfl
          | 1, hk, one =>
            cases hk
            exact one v rfl (leans_in fk.ok hur (List.mem_cons_of_mem _ (List.mem_singleton.mpr rfl))) rfl
          | k + 2, hk, _ => cases hk
        · rintro H6 ⟨S6, hA⟩
          have S16 := S14.trans S6
          have hA2 : H6 L = some (.lst (([F rs r o, F rs r v] : List Bool).map V.bl)) := hA
          refine ⟨_, rfl, _, rfl, L, _, rfl, .inl (SqL.of hA2), rfl, flat_bls _, _, rfl, L, _, rfl, .inl (SqL.of hA2), rfl, flat_bls _, ?_⟩
          rw [inV_bls, inV_bls]
          refine ⟨(by show 2 ≤ sizeLine; decide), fun g hg => ?_⟩
          have S7 := same_new hg (.lst [.bl (decide (true ∈ ([F rs r o, F rs r v] : List Bool))), .bl (!decide (false ∈ ([F rs r o, F rs r v] : List Bool)))])
          refine ⟨_, rfl, b, _, 0, .str "both", rfl, rfl, SqT.of (S7 _ _ (S6 _ _ (S4 _ _ (S3 _ _ hbb)))), atI_nat (j := 0) rfl, rfl, .inr ⟨_, rfl, ?_⟩⟩
          rw [show decide (V.str ("both" : Str) = V.str ("both" : Str)) = true by decide +kernel]
          refine ⟨g, _, 1, .bl (rv (F rs r) (sg rs r) (.both n o v)), rfl, rfl, SqL.of upd_same, ?_, rfl, _, rfl, ?_⟩
          · refine (atI_nat (j := 1) ?_)
            show some (V.bl _) = some (V.bl _)
            congr 2
            show _ = (F rs r o && F rs r v)
            cases F rs r o <;> cases F rs r v <;> rfl
          · rw [decide_eq_true rfl]
            exact iteF ⟨_, _, _, rfl, S16.trans S7⟩
      | any n o v =>
        obtain ⟨b', eb, hbb⟩ := hq2
        cases eb
        refine rd_tag rfl hbb ?_
        rw [show decide (("any" : Str) = "turned") = false by decide +kernel]
        refine iteF (iteF ?_)
        refine rd_in2 rfl hbb fun H3 S3 => ?_
        rw [show decide (("any" : Str) ∈ [("both" : Str), "any"]) = true by decide +kernel]
        refine iteT ?_
        have S13 := S12.trans S3
        refine ⟨_, rfl, 2, rfl, b, _, rfl, SqT.of (S3 _ _ hbb), fun z => absurd z.1 (by show ¬ (2 : Nat) = 0; decide), fun _ t ht => ?_⟩
        have S4 : Same H3 (upd H3 t (.tup [.str o, .str v])) := same_new ht _
        refine ⟨t, rfl, ⟨_, SqT.of upd_same⟩, fun L hL => ?_⟩
        have S14 := S13.trans S4
        have S5 := same_new hL (.lst [])
        refine lc_tup (K := K) (a := t) (xs := [.str o, .str v]) (fun k H6 => Same (upd H3 t (.tup [.str o, .str v])) H6 ∧ H6 L = some (.lst ((([F rs r o, F rs r v] : List Bool).take k).map V.bl))) ⟨S5, upd_same⟩ (fun k H6 _ ⟨S, _⟩ => SqT.of (S _ _ upd_same)) ?_ ?_
        · rintro k x H6 hk ⟨S6, hA⟩
          refine ⟨rfl, ?_⟩
          dsimp only [tYes]
          rw [if_pos rfl]
          have S16 := S14.trans S6
          have one : ∀ y : Str, x = .str y → y ∈ nms rs → ([F rs r o, F rs r v] : List Bool)[k]? = some (F rs r y) → tCall (spFits K) [] E0 (tCons (tVar 0) (tCons (tVar 6) (tCons (tVar 2) tNil))) [some (.ref fa), some (.ref l), some (.ref a), some (.ref b), some (.bl (rv (F rs r) (sg rs r) (.any n o v))), v5, some x] H6 fun y H7 => ∃ acc, H7 L = some (.lst acc) ∧ acc.length < sizeLine ∧ Same (upd H3 t (.tup [.str o, .str v])) (upd H7 L (.lst (acc ++ [y]))) ∧ (upd H7 L (.lst (acc ++ [y]))) L = some (.lst ((([F rs r o, F rs r v] : List Bool).take (k + 1)).map V.bl)) := by
            rintro y rfl hy hk2
            refine ⟨_, rfl, _, rfl, _, rfl, fa, a, y, rs, r, rfl, hF.imm (Same.imm S16), fk, hR.imm (Same.imm S16), rk, tn, hy, fun H7 S7 => ?_⟩
            refine ⟨_, S7 _ _ hA, ?_, fun d o ho => ?_, ?_⟩
            · rw [List.length_map, List.length_take]
              exact sl5 (Nat.le_trans (Nat.min_le_right _ _) (by show 2 ≤ 100000; decide))
            · rw [upd_ne (ne_of_none ho hL)]
              exact S7 _ _ (S6 _ _ ho)
            · rw [upd_same, List.take_add_one, hk2]
              simp
          match k, hk, one with
          | 0, hk, one =>
            cases hk
            exact one o rfl (leans_in fk.ok hur (List.mem_cons_self ..)) rfl
          | 1, hk, one =>
            cases hk
            exact one v rfl (leans_in fk.ok hur (List.mem_cons_of_mem _ (List.mem_singleton.mpr rfl))) rfl
          | k + 2, hk, _ => cases hk
        · rintro H6 ⟨S6, hA⟩
          have S16 := S14.trans S6
          have hA2 : H6 L = some (.lst (([F rs r o, F rs r v] : List Bool).map V.bl)) := hA
          refine ⟨_, rfl, _, rfl, L, _, rfl, .inl (SqL.of hA2), rfl, flat_bls _, _, rfl, L, _, rfl, .inl (SqL.of hA2), rfl, flat_bls _, ?_⟩
          rw [inV_bls, inV_bls]
          refine ⟨(by show 2 ≤ sizeLine; decide), fun g hg => ?_⟩
          have S7 := same_new hg (.lst [.bl (decide (true ∈ ([F rs r o, F rs r v] : List Bool))), .bl (!decide (false ∈ ([F rs r o, F rs r v] : List Bool)))])
          refine ⟨_, rfl, b, _, 0, .str "any", rfl, rfl, SqT.of (S7 _ _ (S6 _ _ (S4 _ _ (S3 _ _ hbb)))), atI_nat (j := 0) rfl, rfl, .inr ⟨_, rfl, ?_⟩⟩
          rw [show decide (V.str ("any" : Str) = V.str ("both" : Str)) = false by decide +kernel]
          refine ⟨g, _, 0, .bl (rv (F rs r) (sg rs r) (.any n o v)), rfl, rfl, SqL.of upd_same, ?_, rfl, _, rfl, ?_⟩
          · refine (atI_nat (j := 0) ?_)
            show some (V.bl _) = some (V.bl _)
            congr 2
            show _ = (F rs r o || F rs r v)
            cases F rs r o <;> cases F rs r v <;> rfl
          · rw [decide_eq_true rfl]
            exact iteF ⟨_, _, _, rfl, S16.trans S7⟩
    · rintro σ H1 ⟨v3, v4, v5, rfl, S1⟩
      exact q H1 S1
end
end K17
end PartK17G2
section PartK17H1
set_option Elab.async false
set_option linter.all false
set_option maxRecDepth 100000
set_option maxHeartbeats 4000000
/-! The law's names. -/
namespace K17
open PySem PySem.Spec PyProof.Rows L2
/-- draws: only the draw changed -/
def Dr (d : Addr) (H H' : Hp) : Prop := Ext [d] H H' ∧ DrawAt H' d
theorem Dr.imm {d : Addr} {H H' : Hp} (h : DrawAt H d) (g : Ext [d] H H') : Imm H H' := by
  obtain ⟨c, n, e⟩ := h
  refine Ext.imm g fun x hx => ?_
  rw [List.mem_singleton.mp hx, e]
  exact ⟨fun xs z => (by cases z), fun C dx fs z => (by cases z)⟩
theorem DrawAt.same {H H' : Hp} {d : Addr} (h : DrawAt H d) (S : Same H H') : DrawAt H' d := let ⟨c, n, e⟩ := h; ⟨c, n, S _ _ e⟩
theorem DrawAt.upd {H : Hp} {d p : Addr} {o : HO} (h : DrawAt H d) (ne : d ≠ p) : DrawAt (upd H p o) d := let ⟨c, n, e⟩ := h; ⟨c, n, by rw [upd_ne ne]; exact e⟩
theorem Ext.lst {d b : Addr} {H H' : Hp} {o : HO} (g : Ext [d] H H') (ne : b ≠ d) (e : H b = some o) : H' b = some o := g b _ e fun z => ne (List.mem_singleton.mp z)
/-! ### letters -/
def L1 (x : Str) : Prop := ∃ c : Nat, x = ⟨#[c]⟩ ∧ 97 ≤ c ∧ c ≤ 122
theorem L1.ltr {x : Str} (h : L1 x) : Ltr x := by
  obtain ⟨c, rfl, h1, h2⟩ := h
  intro y hy
  have e : y = c := by simpa using hy
  rw [e]
  exact ⟨h1, h2⟩
theorem L1.len {x : Str} (h : L1 x) : x.length = 1 := by
  obtain ⟨c, rfl, h1, h2⟩ := h
  rfl
theorem Ltr.app {x y : Str} (h : Ltr x) (g : Ltr y) : Ltr (x ++ y) := by
  intro c hc
  rw [app_cps] at hc
  rcases List.mem_append.mp hc with z | z
  · exact h c z
  · exact g c z
theorem join_l1 : ∀ {bs : List Str}, (∀ x ∈ bs, L1 x) → (Str.join "" bs).length = bs.length ∧ Ltr (Str.join "" bs)
  | [], _ => ⟨rfl, fun c hc => by cases hc⟩
  | [x], h => ⟨(h x (List.mem_singleton.mpr rfl)).len, (h x (List.mem_singleton.mpr rfl)).ltr⟩
  | x :: y :: bs, h => by
    obtain ⟨i1, i2⟩ := join_l1 (bs := y :: bs) fun z hz => h z (List.mem_cons_of_mem _ hz)
    have hx := h x (List.mem_cons_self ..)
    have e : Str.join "" (x :: y :: bs) = x ++ "" ++ Str.join "" (y :: bs) := rfl
    rw [e]
    have e0 : ("" : Str).length = 0 := by decide +kernel
    refine ⟨?_, (hx.ltr.app (fun c hc => ?_)).app i2⟩
    · rw [len_app, len_app, i1, hx.len, e0]
      show 1 + 0 + (bs.length + 1) = bs.length + 1 + 1
      omega
    · have z : ("" : Str).cps.toList = [] := by decide +kernel
      rw [z] at hc
      cases hc
theorem abc_at (j : Nat) (h : j < 26) : ("abcdefghijklmnopqrstuvwxyz" : Str).cps.toList[j]? = some (97 + j) := by
  have e : ∀ k : Fin 26, ("abcdefghijklmnopqrstuvwxyz" : Str).cps.toList[k.val]? = some (97 + k.val) := by decide +kernel
  exact e ⟨j, h⟩
theorem abc_len : ("abcdefghijklmnopqrstuvwxyz" : Str).length = 26 := by decide +kernel
def lt (i : Int) : Str := ⟨#[97 + i.toNat]⟩
theorem lt_l1 {i : Int} (h0 : 0 ≤ i) (h : i < 26) : L1 (lt i) := ⟨97 + i.toNat, rfl, by omega, by omega⟩
theorem lt_inj {i j : Int} (h0 : 0 ≤ i) (g0 : 0 ≤ j) (e : lt i = lt j) : i = j := by
  unfold lt at e
  injection e with e
  have z : (97 + i.toNat) = 97 + j.toNat := by
    have z := congrArg (fun a : Array Nat => a.toList) e
    simpa using z
  omega
theorem rd_abc {i : Int} {H : Hp} {Q : VK} (h0 : 0 ≤ i) (h : i < 26) (q : Q (.str (lt i)) H) : rIxS (.str "abcdefghijklmnopqrstuvwxyz") (.int i) H Q := by
  refine ⟨_, i, 97 + i.toNat, rfl, rfl, by rw [abc_len]; decide, ?_, q⟩
  have e : i = ((i.toNat : Nat) : Int) := by omega
  have z : atI ("abcdefghijklmnopqrstuvwxyz" : Str).cps.toList ((i.toNat : Nat) : Int) = some (97 + i.toNat) := atI_nat (abc_at i.toNat (by omega))
  rw [← e] at z
  exact z
/-- words that the law may make, but for being taken -/
def Cw (x : Str) : Prop := 1 ≤ x.length ∧ x.length ≤ 8 ∧ Ltr x
def likes : List Str := ["anyone", "forms", "note", "hand", "orb", "turns", "goes", "samey", "a", "aa", "aaaaaaab", "aab", "an", "b"]
def cwB (x : Str) : Bool := decide (1 ≤ x.length) && (decide (x.length ≤ 8) && x.cps.toList.all fun c => decide (97 ≤ c) && decide (c ≤ 122))
theorem cwB_cw {x : Str} (h : cwB x = true) : Cw x := by
  unfold cwB at h
  simp only [Bool.and_eq_true, decide_eq_true_eq, List.all_eq_true] at h
  exact ⟨h.1, h.2.1, fun c hc => h.2.2 c hc⟩
theorem likes_cw : ∀ x ∈ likes, Cw x := by
  have e : likes.all cwB = true := by decide +kernel
  intro x hx
  exact cwB_cw (List.all_eq_true.mp e x hx)
theorem z_kept (x : Str) : ¬ ("z" ++ x : Str) ∈ kept := by
  intro h
  have e : (kept.all fun y => decide (y.cps.toList.head? ≠ some 122)) = true := by decide +kernel
  have z := List.all_eq_true.mp e _ h
  have z2 := of_decide_eq_true z
  apply z2
  rw [app_cps]
  rfl
/-- the word that the law tries at the turn t -/
def zw (k t : Nat) : Str := "z" ++ lt ((t : Int) % 26) ++ lt (((k : Int) + (t : Int)) % 26)
theorem zw_cw (k t : Nat) : Cw (zw k t) := by
  have h1 := lt_l1 (i := (t : Int) % 26) (Int.emod_nonneg _ (by decide)) (Int.emod_lt_of_pos _ (by decide))
  have h2 := lt_l1 (i := ((k : Int) + (t : Int)) % 26) (Int.emod_nonneg _ (by decide)) (Int.emod_lt_of_pos _ (by decide))
  have e : ("z" : Str).length = 1 := by decide +kernel
  have ez : Ltr ("z" : Str) := (cwB_cw (x := "z") (by decide +kernel)).2.2
  have l : (zw k t).length = 3 := by
    unfold zw
    rw [len_app, len_app, h1.len, h2.len, e]
  exact ⟨by omega, by omega, (ez.app h1.ltr).app h2.ltr⟩
theorem zw_kept (k t : Nat) : ¬ zw k t ∈ kept := by
  have e : zw k t = "z" ++ (lt ((t : Int) % 26) ++ lt (((k : Int) + (t : Int)) % 26)) := by
    apply ext_cps
    unfold zw
    rw [app_cps, app_cps, app_cps, app_cps, List.append_assoc]
  rw [e]
  exact z_kept _
theorem zw_inj {k s t : Nat} (hs : s < 26) (ht : t < 26) (e : zw k s = zw k t) : s = t := by
  have z := congrArg (fun x : Str => x.cps.toList[1]?) e
  unfold zw at z
  simp only [app_cps] at z
  have z1 : ("z" : Str).cps.toList = [122] := by decide +kernel
  rw [z1] at z
  have z2 : (lt ((s : Int) % 26)).cps.toList = [97 + ((s : Int) % 26).toNat] := rfl
  have z3 : (lt ((t : Int) % 26)).cps.toList = [97 + ((t : Int) % 26).toNat] := rfl
  rw [z2, z3] at z
  simp at z
  omega
theorem turns_few {k t : Nat} {ns : List Str} (h : ∀ i, 1 ≤ i → i ≤ t → zw k i ∈ ns) (ht : t < 26) : t ≤ ns.length := by
  have nd : ((List.range t).map fun i => zw k (i + 1)).Nodup := by
    refine List.pairwise_map.mpr (List.Pairwise.imp_of_mem (fun {a b} ha hb hab e => ?_) (List.pairwise_lt_range (n := t)))
    have h1 := List.mem_range.mp ha
    have h2 := List.mem_range.mp hb
    have := zw_inj (by omega) (by omega) e
    omega
  have z := nodup_le (m := ns) nd fun x hx => by
    obtain ⟨i, hi, rfl⟩ := List.mem_map.mp hx
    exact h (i + 1) (by omega) (by have := List.mem_range.mp hi; omega)
  rw [List.length_map, List.length_range] at z
  exact z
end K17
end PartK17H1
section PartK17H2
set_option Elab.async false
set_option linter.all false
set_option maxRecDepth 100000
set_option maxHeartbeats 4000000
/-! The law's names: the walk. -/
namespace K17
open PySem PySem.Spec PyProof.Rows L2
def rAddS : R2 := fun x y H Q => ∃ i j, x = .str i ∧ y = .str j ∧ i.length + j.length ≤ sizeLine ∧ Q (.str (i ++ j)) H
theorem op_addS {X : Cx} : OpR X (binaryOp .Add) rAddS := op_add_str
def spNames : Sp := fun vs H Q _ => ∃ (d : Addr) (n : Nat), vs = [.ref d, .int (n : Int)] ∧ DrawAt H d ∧ n ≤ 20 ∧ ∀ (p : Addr) (ns : List Str) (H' : Hp), Ext [d] H H' → DrawAt H' d → H p = none → H' p = some (.lst (ns.map V.str)) → ns.length = n → ns.Nodup → (∀ x ∈ ns, Nm x) → Q (.ref p) H'
section
variable {P : Program} {w : World} {K : PySem.W.Frag} {mg : Str → Option Value} {base : Heap}
theorem ok_names (T : Tx K mg) : FO P w K mg base 3 (ca K "_law_names") pNames spNames := by
  have G : FO P w K mg base 2 (ca K "_law_next") pNext spNext := ok_next T
  have GK : FO P w K mg base 2 (ca K "_law_kept") pKept spKept := (ok_kept T).mono (by decide)
  refine T.d_law_names.ok0 scNames (fun vs H Q E h => ?_) (fun cdv A outer st H vs Q E hr h => ?_)
  · obtain ⟨d, n, rfl, _⟩ := h
    rfl
  · obtain ⟨d, n, rfl, hd, hn, q⟩ := h
    have nd := scNames.nd
    refine ⟨_, pss_cons (ps_set (i := 2) nd rfl (.inr rfl) pe_str)
      (pss_cons (ps_set (i := 3) nd rfl (.inl rfl) (pe_op op_add pe_int (pe_call G hr rfl T.g_law_next T.d_law_next.kp (bd_law_next T) .nil pass0 (pa_cons (pv 0) (pa_cons pe_int pa_nil)))))
      (pss_cons (ps_set (i := 4) nd rfl (.inl rfl) (pe_call G hr rfl T.g_law_next T.d_law_next.kp (bd_law_next T) .nil pass0 (pa_cons (pv 0) (pa_cons (pv 3) pa_nil))))
      (pss_cons (ps_setLc (i := 5) (own := [("_law_k", 6)]) (g := gName 6) (tt := tYes) (te := tOp rIxS (tVar 2) (tCall spNext [] E0 (tCons (tVar 0) (tCons (tC (.int 26)) tNil)))) rfl nd rfl rfl (by rfl) (pi_range1 (by rfl) T.b_range (pa_cons (pv 3) pa_nil)) (blkOk_by (N := nNames) (sc := defScope sNames) (by decide +kernel))
          (fun _ _ _ _ _ => pg_name (i := 6) nd rfl (.inl rfl) (.inr rfl)) (fun _ _ _ _ _ => pts_nil) (fun _ _ _ _ _ => pe_ix ix_str (pv 2) (pe_call G hr rfl T.g_law_next T.d_law_next.kp (bd_law_next T) .nil pass0 (pa_cons (pv 0) (pa_cons pe_int pa_nil))) (fun _ _ => rfl)))
      (pss_cons (ps_set (i := 7) nd rfl (.inl rfl) (pe_call G hr rfl T.g_law_next T.d_law_next.kp (bd_law_next T) .nil pass0 (pa_cons (pv 0) (pa_cons pe_int pa_nil))))
      (pss_cons (ps_set (i := 8) nd rfl (.inl rfl) (pe_lst (pa_cons pe_str (pa_cons pe_str (pa_cons pe_str (pa_cons pe_str (pa_cons pe_str (pa_cons pe_str (pa_cons pe_str (pa_cons pe_str (pa_cons pe_str (pa_cons pe_str (pa_cons pe_str (pa_cons pe_str (pa_cons pe_str (pa_cons pe_str pa_nil))))))))))))))))
      (pss_cons (ps_set (i := 9) nd rfl (.inl rfl) (pe_cmpR op_eq (pe_call G hr rfl T.g_law_next T.d_law_next.kp (bd_law_next T) .nil pass0 (pa_cons (pv 0) (pa_cons pe_int pa_nil))) pe_int rfl))
      (pss_cons (ps_set (i := 10) nd rfl (.inl rfl) (pe_lst pa_nil))
      (pss_cons (ps_for PassesOwn.never rfl (pi_range1 (by rfl) T.b_range (pa_cons (pv 1) pa_nil)) (pg_name (i := 6) nd rfl (.inl rfl))
        (pss_cons (ps_asg (pe_ix ix_str (pv 2) (pe_op op_mod (pe_op op_add (pv 7) (pe_op op_mul pe_int (pv 6))) pe_int) (fun _ _ => rfl)) (pg_sub (pv 5) (pv 4) set_list))
        (pss_cons (ps_set (i := 11) nd rfl (.inl rfl) (pe_join pe_str (pv 5)))
        (pss_cons (ps_if (PW.pt (pw_and (pt_val (pv 9)) (pw_and1 (pt_cmpR op_lt (pv 6) pe_int (nomark _))))) (pss_one (ps_set (i := 11) nd rfl (.inl rfl) (pe_ix ix_list (pv 8) (pe_op op_mod (pe_op op_add (pv 6) (pv 7)) pe_int) (fun _ _ => rfl)))) pss_nil)
        (pss_cons (ps_set (i := 12) nd rfl (.inl rfl) pe_int)
        (pss_cons (ps_while PassesOwn.never (PW.pt (pw_or (pt_cmpR op_in_seq (pv 11) (pv 10) rfl) (pw_or1 (pt_cmpR op_in_seq (pv 11) (pe_call0 GK hr rfl T.g_law_kept T.d_law_kept.kp (bd_law_kept T) .nil pass0) rfl))))
          (pss_cons (ps_aug (i := 12) nd rfl (.inl rfl) pe_int ip_add)
          (pss_one (ps_set (i := 11) nd rfl (.inl rfl) (pe_op op_addS (pe_op op_addS pe_str (pe_ix ix_str (pv 2) (pe_op op_mod (pv 12) pe_int) (fun _ _ => rfl))) (pe_ix ix_str (pv 2) (pe_op op_mod (pe_op op_add (pv 6) (pv 12)) pe_int) (fun _ _ => rfl)))))))
        (pss_one (ps_expr (pe_bm PySem.F.plainAttrs_list PySem.F.slot_list_append PySem.F.type_list_append mt_append (pv 10) (pa_cons (pv 11) pa_nil))))))))))
      (pss_one (ps_ret (pv 10))))))))))), ?_⟩
    refine ⟨_, rfl, d, 8, rfl, hd, by decide, fun r0 H1 a1 a2 E1 D1 _ => ⟨_, _, rfl, rfl, ?_⟩⟩
    refine ⟨_, rfl, _, rfl, d, 1 + r0, rfl, D1, by omega, fun r1 H2 b1 b2 E2 D2 _ => ?_⟩
    have E12 := E1.trans E2
    refine ⟨_, rfl, _, rfl, (by show -(2 ^ 62) ≤ 1 + r0; omega), (by show 1 + r0 < 2 ^ 62; omega), fun b0 hb0 => ?_⟩
    have nb0 : b0 ≠ d := fun z => by
      obtain ⟨c, m, e⟩ := D2
      rw [z, e] at hb0
      cases hb0
    have hb0H : H b0 = none := by
      cases e : H b0 with
      | none => rfl
      | some o =>
        rw [Ext.lst E12 nb0 e] at hb0
        cases hb0
    have tk : ∀ (k : Nat) (H6 : Hp), True := fun _ _ => trivial
    refine lc_range (lo := 0) (n := (1 + r0).toNat) (fun k H6 => ∃ bs : List Str, Ext [d] H H6 ∧ DrawAt H6 d ∧ H6 b0 = some (.lst (bs.map V.str)) ∧ bs.length = k ∧ ∀ x ∈ bs, L1 x) ⟨[], E12.trans (Ext.of_same (same_new hb0 _)), D2.upd nb0.symm, upd_same, rfl, fun x hx => by cases hx⟩ ?_ ?_
    · rintro k H6 hk ⟨bs, E6, D6, hA, hL, hB⟩
      refine ⟨rfl, ?_⟩
      dsimp only [tYes]
      rw [if_pos rfl]
      refine ⟨_, rfl, _, rfl, d, 26, rfl, D6, by decide, fun r H7 c1 c2 E7 D7 _ => rd_abc c1 c2 ?_⟩
      have hA7 := Ext.lst E7 nb0 hA
      refine ⟨_, hA7, ?_, bs ++ [lt r], fun u o hu nu => ?_, D7.upd nb0.symm, ?_, by rw [List.length_append, hL]; rfl, fun x hx => ?_⟩
      · rw [List.length_map]
        exact sl5 (by omega)
      · rw [upd_ne (ne_of_none hu hb0H)]
        exact (E6.trans E7) u o hu nu
      · rw [upd_same, List.map_append]
        rfl
      · rcases List.mem_append.mp hx with z | z
        · exact hB x z
        · rw [List.mem_singleton.mp z]
          exact lt_l1 c1 c2
    rintro H3 ⟨bs, E3, D3, hA, hL, hB⟩
    refine ⟨_, rfl, d, 26, rfl, D3, by decide, fun r4 H4 d1 d2 E4 D4 _ => ?_⟩
    have hA4 := Ext.lst E4 nb0 hA
    have E34 := E3.trans E4
    refine ⟨(by show 14 ≤ sizeLine; decide), fun lk hlk => ?_⟩
    have nlk : lk ≠ d := fun z => by
      obtain ⟨c, m, e⟩ := D4
      rw [z, e] at hlk
      cases hlk
    have nlb : b0 ≠ lk := fun z => by
      rw [← z, hA4] at hlk
      cases hlk
    have hlkH : H lk = none := by
      cases e : H lk with
      | none => rfl
      | some o =>
        rw [Ext.lst E34 nlk e] at hlk
        cases hlk
    have hK5 : (upd H4 lk (.lst (likes.map V.str))) lk = some (.lst (likes.map V.str)) := upd_same
    have E5 : Ext [d] H (upd H4 lk (.lst (likes.map V.str))) := E34.trans (Ext.of_same (same_new hlk _))
    have D5 : DrawAt (upd H4 lk (.lst (likes.map V.str))) d := D4.upd nlk.symm
    have hA5 : (upd H4 lk (.lst (likes.map V.str))) b0 = some (.lst (bs.map V.str)) := by
      rw [upd_ne nlb]
      exact hA4
    have eL : upd H4 lk (.lst [.str "anyone", .str "forms", .str "note", .str "hand", .str "orb", .str "turns", .str "goes", .str "samey", .str "a", .str "aa", .str "aaaaaaab", .str "aab", .str "an", .str "b"]) = upd H4 lk (.lst (likes.map V.str)) := rfl
    rw [eL]
    generalize upd H4 lk (.lst (likes.map V.str)) = H5 at hK5 E5 D5 hA5
    refine ⟨_, rfl, d, 3, rfl, D5, by decide, fun r6 H6 e1 e2 E6 D6 _ => ⟨rfl, ?_⟩⟩
    have E56 := E5.trans E6
    generalize decide (V.int r6 = V.int 1) = al
    refine ⟨Nat.zero_le _, fun nl hnl => ?_⟩
    have hA6 := Ext.lst E6 nb0 hA5
    have hK6 := Ext.lst E6 nlk hK5
    have nnd : nl ≠ d := fun z => by
      obtain ⟨c, m, e⟩ := D6
      rw [z, e] at hnl
      cases hnl
    have nnb : b0 ≠ nl := fun z => by
      rw [← z, hA6] at hnl
      cases hnl
    have nnk : lk ≠ nl := fun z => by
      rw [← z, hK6] at hnl
      cases hnl
    have hnlH : H nl = none := by
      cases e : H nl with
      | none => rfl
      | some o =>
        rw [Ext.lst E56 nnd e] at hnl
        cases hnl
    refine ⟨_, rfl, _, rfl, (by show -(2 ^ 62) ≤ (n : Int); omega), (by show (n : Int) < 2 ^ 62; omega), ?_⟩
    refine for_range (lo := 0) (n := ((n : Nat) : Int).toNat) (fun k σ H' => ∃ (v6 v11 v12 : Option V) (bs ns : List Str), σ = [some (.ref d), some (.int (n : Int)), some (.str "abcdefghijklmnopqrstuvwxyz"), some (.int (1 + r0)), some (.int r1), some (.ref b0), v6, some (.int r4), some (.ref lk), some (.bl al), some (.ref nl), v11, v12] ∧ Ext [d] H H' ∧ DrawAt H' d ∧
      H' b0 = some (.lst (bs.map V.str)) ∧ bs.length = (1 + r0).toNat ∧ (∀ x ∈ bs, L1 x) ∧ H' lk = some (.lst (likes.map V.str)) ∧ H' nl = some (.lst (ns.map V.str)) ∧ ns.length = k ∧ ns.Nodup ∧ ∀ x ∈ ns, Nm x)
      ⟨none, none, none, bs, [], rfl, E56.trans (Ext.of_same (same_new hnl _)), D6.upd nnd.symm, by rw [upd_ne nnb]; exact hA6, hL, hB, by rw [upd_ne nnk]; exact hK6, upd_same, rfl, List.nodup_nil, fun x hx => by cases hx⟩ ?_ ?_
    · rintro k σ H7 hk ⟨v6, v11, v12, bs, ns, rfl, E7, D7, hA7, hL7, hB7, hK7, hN7, hnl7, hnd7, hnm7⟩
      have hk20 : k < n := by omega
      have epl : r1 = ((r1.toNat : Nat) : Int) := by omega
      have hpl : r1.toNat < bs.length := by omega
      have m26 : ∀ x : Int, 0 ≤ x % 26 ∧ x % 26 < 26 := fun x => ⟨Int.emod_nonneg _ (by decide), Int.emod_lt_of_pos _ (by decide)⟩
      refine ⟨_, rfl, _, rfl, _, rfl, _, _, rfl, rfl, .inl ⟨by decide, by decide⟩, _, _, rfl, rfl, _, _, rfl, rfl, (by show (0 : Int) < 26; decide), rd_abc (m26 _).1 (m26 _).2 ?_⟩
      refine ⟨_, rfl, _, rfl, b0, _, r1, r1.toNat, rfl, rfl, hA7, ?_, ?_⟩
      · rw [List.length_map]
        have z := Evl.ixN_nat hpl
        rw [← epl] at z
        exact z
      generalize hc : lt ((r4 + 5 * (0 + (k : Int))) % 26) = c
      have hc1 : L1 c := by
        rw [← hc]
        exact lt_l1 (m26 _).1 (m26 _).2
      have hA8 : (upd H7 b0 (.lst ((bs.map V.str).set r1.toNat (.str c)))) b0 = some (.lst ((bs.set r1.toNat c).map V.str)) := by
        rw [upd_same, List.map_set]
      have hK8 : (upd H7 b0 (.lst ((bs.map V.str).set r1.toNat (.str c)))) lk = some (.lst (likes.map V.str)) := by
        rw [upd_ne nlb.symm]
        exact hK7
      have hN8 : (upd H7 b0 (.lst ((bs.map V.str).set r1.toNat (.str c)))) nl = some (.lst (ns.map V.str)) := by
        rw [upd_ne nnb.symm]
        exact hN7
      have E8 : Ext [d] H (upd H7 b0 (.lst ((bs.map V.str).set r1.toNat (.str c)))) := fun u o hu nu => by
        rw [upd_ne (ne_of_none hu hb0H)]
        exact E7 u o hu nu
      have D8 : DrawAt (upd H7 b0 (.lst ((bs.map V.str).set r1.toNat (.str c)))) d := D7.upd nb0.symm
      generalize upd H7 b0 (.lst ((bs.map V.str).set r1.toNat (.str c))) = H8 at hA8 hK8 hN8 E8 D8
      have hL8 : (bs.set r1.toNat c).length = (1 + r0).toNat := by rw [List.length_set, hL7]
      have hB8 : ∀ x ∈ bs.set r1.toNat c, L1 x := fun x hx => (List.mem_or_eq_of_mem_set hx).elim (hB7 x) fun z => by rw [z]; exact hc1
      generalize bs.set r1.toNat c = bs8 at hA8 hL8 hB8
      obtain ⟨j1, j2⟩ := join_l1 hB8
      refine ⟨⟨_, rfl⟩, _, rfl, _, b0, bs8, rfl, rfl, .inl (SqL.of hA8), ?_, ?_⟩
      · have e0 : ("" : Str).length = 0 := by decide +kernel
        have e1 : bs8.map (·.length) = List.replicate bs8.length 1 := by
          refine List.eq_replicate_iff.mpr ⟨List.length_map .., fun y hy => ?_⟩
          obtain ⟨x, hx, rfl⟩ := List.mem_map.mp hy
          exact (hB8 x hx).len
        rw [e0, e1, List.sum_replicate_nat]
        omega
      have ej : Txt.join "" bs8 = Str.join "" bs8 := PySem.StrLaws.glued_eq_join _ _
      rw [ej]
      have hw : Cw (Str.join "" bs8) := ⟨by omega, by omega, j2⟩
      generalize Str.join "" bs8 = wd at hw
      refine ⟨_, rfl, _, rfl, ?_⟩
      have lt14 : ∀ x : Int, 0 ≤ x % 14 ∧ x % 14 < 14 := fun x => ⟨Int.emod_nonneg _ (by decide), Int.emod_lt_of_pos _ (by decide)⟩
      have likeAt : ∀ x : Int, ∃ y, atI (likes.map V.str) (x % 14) = some (.str y) ∧ Cw y := fun x => by
        have e : x % 14 = (((x % 14).toNat : Nat) : Int) := by have := lt14 x; omega
        have hl : (x % 14).toNat < likes.length := by
          have := lt14 x
          show _ < 14
          omega
        refine ⟨likes[(x % 14).toNat], ?_, likes_cw _ (List.getElem_mem hl)⟩
        have z : atI (likes.map V.str) (((x % 14).toNat : Nat) : Int) = some (.str likes[(x % 14).toNat]) := atI_nat (by rw [List.getElem?_map, List.getElem?_eq_getElem hl]; rfl)
        rw [← e] at z
        exact z
      cases al with
      | false =>
        refine iteF (iteF ?_)
        refine ⟨fun μ σ H' => ∃ (t : Nat) (y : Str), σ = [some (.ref d), some (.int (n : Int)), some (.str "abcdefghijklmnopqrstuvwxyz"), some (.int (1 + r0)), some (.int r1), some (.ref b0), some (.int (0 + (k : Int))), some (.int r4), some (.ref lk), some (.bl false), some (.ref nl), some (.str y), some (.int (t : Int))] ∧ Same H8 H' ∧ Cw y ∧ (t = 0 ∨ y = zw k t) ∧ (∀ i, 1 ≤ i → i < t → zw k i ∈ ns) ∧ t ≤ 22 ∧ μ = 30 - t, ⟨_, 0, wd, rfl, fun _ _ z => z, hw, .inl rfl, fun i h1 h2 => absurd h2 (Nat.not_lt_zero _), Nat.zero_le _, rfl⟩, ?_⟩
        rintro μ σ H9 ⟨t, y, rfl, S9, hy, ht, hi, h22, rfl⟩
        have hN9 := S9 _ _ hN8
        have go : ∀ (H10 : Hp), Same H9 H10 → (y ∈ ns ∨ y ∈ kept) → (∀ i, 1 ≤ i → i < t + 1 → zw k i ∈ ns) ∧ t + 1 ≤ 22 := fun H10 S10 hyk => by
          have z : ∀ i, 1 ≤ i → i < t + 1 → zw k i ∈ ns := fun i h1 h2 => by
            by_cases c : i < t
            · exact hi i h1 c
            · have e : i = t := by omega
              subst e
              rcases ht with z | z
              · omega
              · rw [← z]
                exact hyk.elim id fun q => absurd q (by rw [z]; exact zw_kept k i)
          have z2 := turns_few (k := k) (t := t) (ns := ns) (fun i h1 h2 => z i h1 (by omega)) (by omega)
          exact ⟨z, by omega⟩
        refine ⟨_, rfl, _, rfl, nl, _, rfl, .inl (SqL.of hN9), rfl, flat_strs _, _, rfl, ?_⟩
        rw [inV_strs]
        have next : ∀ (H10 : Hp) (N : L2.St → Hp → Prop) (D : Ends), (∀ σ' H', (∃ m', m' < 30 - t ∧ ∃ (t : Nat) (y : Str), σ' = [some (.ref d), some (.int (n : Int)), some (.str "abcdefghijklmnopqrstuvwxyz"), some (.int (1 + r0)), some (.int r1), some (.ref b0), some (.int (0 + (k : Int))), some (.int r4), some (.ref lk), some (.bl false), some (.ref nl), some (.str y), some (.int (t : Int))] ∧ Same H8 H' ∧ Cw y ∧ (t = 0 ∨ y = zw k t) ∧ (∀ i, 1 ≤ i → i < t → zw k i ∈ ns) ∧ t ≤ 22 ∧ m' = 30 - t) → N σ' H') → Same H9 H10 → (y ∈ ns ∨ y ∈ kept) → D.nx = N →
            tSeq (tAug 12 (tC (.int 1)) (ipI fun i j => i + j)) (tAsg (tOp rAddS (tOp rAddS (tC (.str "z")) (tOp rIxS (tVar 2) (tOp (rI (fun _ j => 0 < j) fun i j => .int (i % j)) (tVar 12) (tC (.int 26))))) (tOp rIxS (tVar 2) (tOp (rI (fun _ j => 0 < j) fun i j => .int (i % j)) (tOp (rI0 fun i j => .int (i + j)) (tVar 6) (tVar 12)) (tC (.int 26))))) (gName 11)) D [some (.ref d), some (.int (n : Int)), some (.str "abcdefghijklmnopqrstuvwxyz"), some (.int (1 + r0)), some (.int r1), some (.ref b0), some (.int (0 + (k : Int))), some (.int r4), some (.ref lk), some (.bl false), some (.ref nl), some (.str y), some (.int (t : Int))] H10 := by
          rintro H10 N D hN S10 hyk eD
          obtain ⟨g1, g2⟩ := go H10 S10 hyk
          have q1 : ("z" : Str).length = 1 := by decide +kernel
          have l1 := (lt_l1 (m26 ((t : Int) + 1)).1 (m26 ((t : Int) + 1)).2).len
          have l2 := (lt_l1 (m26 (0 + (k : Int) + ((t : Int) + 1))).1 (m26 (0 + (k : Int) + ((t : Int) + 1))).2).len
          refine ⟨_, rfl, _, _, rfl, rfl, _, rfl, _, rfl, _, _, rfl, rfl, (by show (0 : Int) < 26; decide), rd_abc (m26 _).1 (m26 _).2 ⟨_, _, rfl, rfl, ?_, ?_⟩⟩
          · rw [q1, l1]
            decide
          refine ⟨_, rfl, _, rfl, _, rfl, _, _, rfl, rfl, _, _, rfl, rfl, (by show (0 : Int) < 26; decide), rd_abc (m26 _).1 (m26 _).2 ⟨_, _, rfl, rfl, ?_, ?_⟩⟩
          · rw [len_app, q1, l1, l2]
            decide
          show D.nx _ _
          rw [eD]
          have ez : ("z" ++ lt (((t : Int) + 1) % 26) ++ lt ((0 + (k : Int) + ((t : Int) + 1)) % 26) : Str) = zw k (t + 1) := by
            unfold zw
            have e1 : ((t + 1 : Nat) : Int) = (t : Int) + 1 := by omega
            rw [e1, show (0 : Int) + (k : Int) = (k : Int) by omega]
          refine hN _ _ ⟨30 - (t + 1), by omega, t + 1, zw k (t + 1), ?_, S9.trans S10, zw_cw k _, .inr rfl, g1, g2, rfl⟩
          rw [← ez]
          rfl
        by_cases c1 : y ∈ ns
        · rw [decide_eq_true c1]
          exact iteT (iteT ⟨fun σ' H2 => _, fun σ' H2 z => z, next H9 _ _ (fun σ' H' z => z) (fun _ _ z => z) (.inl c1) rfl⟩)
        · rw [decide_eq_false c1]
          refine iteF ⟨_, rfl, rfl, fun p H10 hp e10 => ?_⟩
          have S10 : Same H9 H10 := by
            rw [e10]
            exact same_new hp _
          refine ⟨p, _, rfl, .inl (SqL.of (by rw [e10]; exact upd_same)), rfl, flat_strs _, _, rfl, ?_⟩
          rw [inV_strs]
          by_cases c2 : y ∈ kept
          · rw [decide_eq_true c2]
            exact iteT ⟨fun σ' H2 => _, fun σ' H2 z => z, next H10 _ _ (fun σ' H' z => z) S10 (.inr c2) rfl⟩
          · rw [decide_eq_false c2]
            refine iteF ?_
            have S11 := S9.trans S10
            have hN10 := S11 _ _ hN8
            refine ⟨_, rfl, .inl ⟨rfl, _, SqL.of hN10⟩, _, rfl, nl, _, _, rfl, rfl, hN10, ?_, ?_⟩
            · rw [List.length_map]
              exact sl5 (by omega)
            refine ⟨_, _, _, bs8, ns ++ [y], rfl, fun u o hu nu => ?_, (D8.same S11).upd nnd.symm, ?_, hL8, hB8, ?_, ?_, by rw [List.length_append, hnl7]; rfl, nd_snoc hnd7 c1, fun x hx => ?_⟩
            · rw [upd_ne (ne_of_none hu hnlH)]
              exact S11 _ _ (E8 u o hu nu) 
            · rw [upd_ne nnb]
              exact S11 _ _ hA8
            · rw [upd_ne nnk]
              exact S11 _ _ hK8
            · rw [upd_same, List.map_append]
              rfl
            · rcases List.mem_append.mp hx with z | z
              · exact hnm7 x z
              · rw [List.mem_singleton.mp z]
                exact ⟨hy.1, hy.2.1, hy.2.2, c2⟩
      | true =>
        refine iteT ⟨_, rfl, _, _, rfl, rfl, _, rfl, ?_⟩
        refine ite2 (fun _ => ?_) (fun _ => ?_)
        · obtain ⟨y, hy, hcy⟩ := likeAt (0 + (k : Int) + r4)
          refine ⟨_, rfl, _, rfl, _, rfl, _, _, rfl, rfl, _, _, rfl, rfl, (by show (0 : Int) < 14; decide), lk, _, _, .str y, rfl, rfl, SqL.of hK8, hy, ?_⟩
          clear hw
          have hw := hcy
          clear hcy hy
          revert hw
          generalize y = wd
          intro hw
          refine ⟨fun μ σ H' => ∃ (t : Nat) (y : Str), σ = [some (.ref d), some (.int (n : Int)), some (.str "abcdefghijklmnopqrstuvwxyz"), some (.int (1 + r0)), some (.int r1), some (.ref b0), some (.int (0 + (k : Int))), some (.int r4), some (.ref lk), some (.bl true), some (.ref nl), some (.str y), some (.int (t : Int))] ∧ Same H8 H' ∧ Cw y ∧ (t = 0 ∨ y = zw k t) ∧ (∀ i, 1 ≤ i → i < t → zw k i ∈ ns) ∧ t ≤ 22 ∧ μ = 30 - t, ⟨_, 0, wd, rfl, fun _ _ z => z, hw, .inl rfl, fun i h1 h2 => absurd h2 (Nat.not_lt_zero _), Nat.zero_le _, rfl⟩, ?_⟩
          rintro μ σ H9 ⟨t, y, rfl, S9, hy, ht, hi, h22, rfl⟩
          have hN9 := S9 _ _ hN8
          have go : ∀ (H10 : Hp), Same H9 H10 → (y ∈ ns ∨ y ∈ kept) → (∀ i, 1 ≤ i → i < t + 1 → zw k i ∈ ns) ∧ t + 1 ≤ 22 := fun H10 S10 hyk => by
            have z : ∀ i, 1 ≤ i → i < t + 1 → zw k i ∈ ns := fun i h1 h2 => by
              by_cases c : i < t
              · exact hi i h1 c
              · have e : i = t := by omega
                subst e
                rcases ht with z | z
                · omega
                · rw [← z]
                  exact hyk.elim id fun q => absurd q (by rw [z]; exact zw_kept k i)
            have z2 := turns_few (k := k) (t := t) (ns := ns) (fun i h1 h2 => z i h1 (by omega)) (by omega)
            exact ⟨z, by omega⟩
          refine ⟨_, rfl, _, rfl, nl, _, rfl, .inl (SqL.of hN9), rfl, flat_strs _, _, rfl, ?_⟩
          rw [inV_strs]
          have next : ∀ (H10 : Hp) (N : L2.St → Hp → Prop) (D : Ends), (∀ σ' H', (∃ m', m' < 30 - t ∧ ∃ (t : Nat) (y : Str), σ' = [some (.ref d), some (.int (n : Int)), some (.str "abcdefghijklmnopqrstuvwxyz"), some (.int (1 + r0)), some (.int r1), some (.ref b0), some (.int (0 + (k : Int))), some (.int r4), some (.ref lk), some (.bl true), some (.ref nl), some (.str y), some (.int (t : Int))] ∧ Same H8 H' ∧ Cw y ∧ (t = 0 ∨ y = zw k t) ∧ (∀ i, 1 ≤ i → i < t → zw k i ∈ ns) ∧ t ≤ 22 ∧ m' = 30 - t) → N σ' H') → Same H9 H10 → (y ∈ ns ∨ y ∈ kept) → D.nx = N →
              tSeq (tAug 12 (tC (.int 1)) (ipI fun i j => i + j)) (tAsg (tOp rAddS (tOp rAddS (tC (.str "z")) (tOp rIxS (tVar 2) (tOp (rI (fun _ j => 0 < j) fun i j => .int (i % j)) (tVar 12) (tC (.int 26))))) (tOp rIxS (tVar 2) (tOp (rI (fun _ j => 0 < j) fun i j => .int (i % j)) (tOp (rI0 fun i j => .int (i + j)) (tVar 6) (tVar 12)) (tC (.int 26))))) (gName 11)) D [some (.ref d), some (.int (n : Int)), some (.str "abcdefghijklmnopqrstuvwxyz"), some (.int (1 + r0)), some (.int r1), some (.ref b0), some (.int (0 + (k : Int))), some (.int r4), some (.ref lk), some (.bl true), some (.ref nl), some (.str y), some (.int (t : Int))] H10 := by
            rintro H10 N D hN S10 hyk eD
            obtain ⟨g1, g2⟩ := go H10 S10 hyk
            have q1 : ("z" : Str).length = 1 := by decide +kernel
            have l1 := (lt_l1 (m26 ((t : Int) + 1)).1 (m26 ((t : Int) + 1)).2).len
            have l2 := (lt_l1 (m26 (0 + (k : Int) + ((t : Int) + 1))).1 (m26 (0 + (k : Int) + ((t : Int) + 1))).2).len
            refine ⟨_, rfl, _, _, rfl, rfl, _, rfl, _, rfl, _, _, rfl, rfl, (by show (0 : Int) < 26; decide), rd_abc (m26 _).1 (m26 _).2 ⟨_, _, rfl, rfl, ?_, ?_⟩⟩
            · rw [q1, l1]
              decide
            refine ⟨_, rfl, _, rfl, _, rfl, _, _, rfl, rfl, _, _, rfl, rfl, (by show (0 : Int) < 26; decide), rd_abc (m26 _).1 (m26 _).2 ⟨_, _, rfl, rfl, ?_, ?_⟩⟩
            · rw [len_app, q1, l1, l2]
              decide
            show D.nx _ _
            rw [eD]
            have ez : ("z" ++ lt (((t : Int) + 1) % 26) ++ lt ((0 + (k : Int) + ((t : Int) + 1)) % 26) : Str) = zw k (t + 1) := by
              unfold zw
              have e1 : ((t + 1 : Nat) : Int) = (t : Int) + 1 := by omega
              rw [e1, show (0 : Int) + (k : Int) = (k : Int) by omega]
            refine hN _ _ ⟨30 - (t + 1), by omega, t + 1, zw k (t + 1), ?_, S9.trans S10, zw_cw k _, .inr rfl, g1, g2, rfl⟩
            rw [← ez]
            rfl
          by_cases c1 : y ∈ ns
          · rw [decide_eq_true c1]
            exact iteT (iteT ⟨fun σ' H2 => _, fun σ' H2 z => z, next H9 _ _ (fun σ' H' z => z) (fun _ _ z => z) (.inl c1) rfl⟩)
          · rw [decide_eq_false c1]
            refine iteF ⟨_, rfl, rfl, fun p H10 hp e10 => ?_⟩
            have S10 : Same H9 H10 := by
              rw [e10]
              exact same_new hp _
            refine ⟨p, _, rfl, .inl (SqL.of (by rw [e10]; exact upd_same)), rfl, flat_strs _, _, rfl, ?_⟩
            rw [inV_strs]
            by_cases c2 : y ∈ kept
            · rw [decide_eq_true c2]
              exact iteT ⟨fun σ' H2 => _, fun σ' H2 z => z, next H10 _ _ (fun σ' H' z => z) S10 (.inr c2) rfl⟩
            · rw [decide_eq_false c2]
              refine iteF ?_
              have S11 := S9.trans S10
              have hN10 := S11 _ _ hN8
              refine ⟨_, rfl, .inl ⟨rfl, _, SqL.of hN10⟩, _, rfl, nl, _, _, rfl, rfl, hN10, ?_, ?_⟩
              · rw [List.length_map]
                exact sl5 (by omega)
              refine ⟨_, _, _, bs8, ns ++ [y], rfl, fun u o hu nu => ?_, (D8.same S11).upd nnd.symm, ?_, hL8, hB8, ?_, ?_, by rw [List.length_append, hnl7]; rfl, nd_snoc hnd7 c1, fun x hx => ?_⟩
              · rw [upd_ne (ne_of_none hu hnlH)]
                exact S11 _ _ (E8 u o hu nu) 
              · rw [upd_ne nnb]
                exact S11 _ _ hA8
              · rw [upd_ne nnk]
                exact S11 _ _ hK8
              · rw [upd_same, List.map_append]
                rfl
              · rcases List.mem_append.mp hx with z | z
                · exact hnm7 x z
                · rw [List.mem_singleton.mp z]
                  exact ⟨hy.1, hy.2.1, hy.2.2, c2⟩
        · refine ⟨fun μ σ H' => ∃ (t : Nat) (y : Str), σ = [some (.ref d), some (.int (n : Int)), some (.str "abcdefghijklmnopqrstuvwxyz"), some (.int (1 + r0)), some (.int r1), some (.ref b0), some (.int (0 + (k : Int))), some (.int r4), some (.ref lk), some (.bl true), some (.ref nl), some (.str y), some (.int (t : Int))] ∧ Same H8 H' ∧ Cw y ∧ (t = 0 ∨ y = zw k t) ∧ (∀ i, 1 ≤ i → i < t → zw k i ∈ ns) ∧ t ≤ 22 ∧ μ = 30 - t, ⟨_, 0, wd, rfl, fun _ _ z => z, hw, .inl rfl, fun i h1 h2 => absurd h2 (Nat.not_lt_zero _), Nat.zero_le _, rfl⟩, ?_⟩
          rintro μ σ H9 ⟨t, y, rfl, S9, hy, ht, hi, h22, rfl⟩
          have hN9 := S9 _ _ hN8
          have go : ∀ (H10 : Hp), Same H9 H10 → (y ∈ ns ∨ y ∈ kept) → (∀ i, 1 ≤ i → i < t + 1 → zw k i ∈ ns) ∧ t + 1 ≤ 22 := fun H10 S10 hyk => by
            have z : ∀ i, 1 ≤ i → i < t + 1 → zw k i ∈ ns := fun i h1 h2 => by
              by_cases c : i < t
              · exact hi i h1 c
              · have e : i = t := by omega
                subst e
                rcases ht with z | z
                · omega
                · rw [← z]
                  exact hyk.elim id fun q => absurd q (by rw [z]; exact zw_kept k i)
            have z2 := turns_few (k := k) (t := t) (ns := ns) (fun i h1 h2 => z i h1 (by omega)) (by omega)
            exact ⟨z, by omega⟩
          refine ⟨_, rfl, _, rfl, nl, _, rfl, .inl (SqL.of hN9), rfl, flat_strs _, _, rfl, ?_⟩
          rw [inV_strs]
          have next : ∀ (H10 : Hp) (N : L2.St → Hp → Prop) (D : Ends), (∀ σ' H', (∃ m', m' < 30 - t ∧ ∃ (t : Nat) (y : Str), σ' = [some (.ref d), some (.int (n : Int)), some (.str "abcdefghijklmnopqrstuvwxyz"), some (.int (1 + r0)), some (.int r1), some (.ref b0), some (.int (0 + (k : Int))), some (.int r4), some (.ref lk), some (.bl true), some (.ref nl), some (.str y), some (.int (t : Int))] ∧ Same H8 H' ∧ Cw y ∧ (t = 0 ∨ y = zw k t) ∧ (∀ i, 1 ≤ i → i < t → zw k i ∈ ns) ∧ t ≤ 22 ∧ m' = 30 - t) → N σ' H') → Same H9 H10 → (y ∈ ns ∨ y ∈ kept) → D.nx = N →
              tSeq (tAug 12 (tC (.int 1)) (ipI fun i j => i + j)) (tAsg (tOp rAddS (tOp rAddS (tC (.str "z")) (tOp rIxS (tVar 2) (tOp (rI (fun _ j => 0 < j) fun i j => .int (i % j)) (tVar 12) (tC (.int 26))))) (tOp rIxS (tVar 2) (tOp (rI (fun _ j => 0 < j) fun i j => .int (i % j)) (tOp (rI0 fun i j => .int (i + j)) (tVar 6) (tVar 12)) (tC (.int 26))))) (gName 11)) D [some (.ref d), some (.int (n : Int)), some (.str "abcdefghijklmnopqrstuvwxyz"), some (.int (1 + r0)), some (.int r1), some (.ref b0), some (.int (0 + (k : Int))), some (.int r4), some (.ref lk), some (.bl true), some (.ref nl), some (.str y), some (.int (t : Int))] H10 := by
            rintro H10 N D hN S10 hyk eD
            obtain ⟨g1, g2⟩ := go H10 S10 hyk
            have q1 : ("z" : Str).length = 1 := by decide +kernel
            have l1 := (lt_l1 (m26 ((t : Int) + 1)).1 (m26 ((t : Int) + 1)).2).len
            have l2 := (lt_l1 (m26 (0 + (k : Int) + ((t : Int) + 1))).1 (m26 (0 + (k : Int) + ((t : Int) + 1))).2).len
            refine ⟨_, rfl, _, _, rfl, rfl, _, rfl, _, rfl, _, _, rfl, rfl, (by show (0 : Int) < 26; decide), rd_abc (m26 _).1 (m26 _).2 ⟨_, _, rfl, rfl, ?_, ?_⟩⟩
            · rw [q1, l1]
              decide
            refine ⟨_, rfl, _, rfl, _, rfl, _, _, rfl, rfl, _, _, rfl, rfl, (by show (0 : Int) < 26; decide), rd_abc (m26 _).1 (m26 _).2 ⟨_, _, rfl, rfl, ?_, ?_⟩⟩
            · rw [len_app, q1, l1, l2]
              decide
            show D.nx _ _
            rw [eD]
            have ez : ("z" ++ lt (((t : Int) + 1) % 26) ++ lt ((0 + (k : Int) + ((t : Int) + 1)) % 26) : Str) = zw k (t + 1) := by
              unfold zw
              have e1 : ((t + 1 : Nat) : Int) = (t : Int) + 1 := by omega
              rw [e1, show (0 : Int) + (k : Int) = (k : Int) by omega]
            refine hN _ _ ⟨30 - (t + 1), by omega, t + 1, zw k (t + 1), ?_, S9.trans S10, zw_cw k _, .inr rfl, g1, g2, rfl⟩
            rw [← ez]
            rfl
          by_cases c1 : y ∈ ns
          · rw [decide_eq_true c1]
            exact iteT (iteT ⟨fun σ' H2 => _, fun σ' H2 z => z, next H9 _ _ (fun σ' H' z => z) (fun _ _ z => z) (.inl c1) rfl⟩)
          · rw [decide_eq_false c1]
            refine iteF ⟨_, rfl, rfl, fun p H10 hp e10 => ?_⟩
            have S10 : Same H9 H10 := by
              rw [e10]
              exact same_new hp _
            refine ⟨p, _, rfl, .inl (SqL.of (by rw [e10]; exact upd_same)), rfl, flat_strs _, _, rfl, ?_⟩
            rw [inV_strs]
            by_cases c2 : y ∈ kept
            · rw [decide_eq_true c2]
              exact iteT ⟨fun σ' H2 => _, fun σ' H2 z => z, next H10 _ _ (fun σ' H' z => z) S10 (.inr c2) rfl⟩
            · rw [decide_eq_false c2]
              refine iteF ?_
              have S11 := S9.trans S10
              have hN10 := S11 _ _ hN8
              refine ⟨_, rfl, .inl ⟨rfl, _, SqL.of hN10⟩, _, rfl, nl, _, _, rfl, rfl, hN10, ?_, ?_⟩
              · rw [List.length_map]
                exact sl5 (by omega)
              refine ⟨_, _, _, bs8, ns ++ [y], rfl, fun u o hu nu => ?_, (D8.same S11).upd nnd.symm, ?_, hL8, hB8, ?_, ?_, by rw [List.length_append, hnl7]; rfl, nd_snoc hnd7 c1, fun x hx => ?_⟩
              · rw [upd_ne (ne_of_none hu hnlH)]
                exact S11 _ _ (E8 u o hu nu) 
              · rw [upd_ne nnb]
                exact S11 _ _ hA8
              · rw [upd_ne nnk]
                exact S11 _ _ hK8
              · rw [upd_same, List.map_append]
                rfl
              · rcases List.mem_append.mp hx with z | z
                · exact hnm7 x z
                · rw [List.mem_singleton.mp z]
                  exact ⟨hy.1, hy.2.1, hy.2.2, c2⟩
    · rintro σ H7 ⟨v6, v11, v12, bs, ns, rfl, E7, D7, hA7, hL7, hB7, hK7, hN7, hnl7, hnd7, hnm7⟩
      exact ⟨_, rfl, q nl ns H7 E7 D7 hnlH hN7 (by omega) hnd7 hnm7⟩
end
end K17
end PartK17H2
section PartK17H3
set_option Elab.async false
set_option linter.all false
set_option maxRecDepth 100000
set_option maxHeartbeats 4000000
/-! The law's row_by: a pile of lists. -/
namespace K17
open PySem PySem.Spec PyProof.Rows L2
/-! ### the last tree -/
/-- the last tree's row put anew -/
def Row.setLast : Row → Row → Row
  | .nil, _ => .nil
  | .cons w _ .nil, u => .cons w u .nil
  | .cons w i (.cons x j r), u => .cons w i (Row.setLast (.cons x j r) u)
theorem setLast_size : ∀ (r u : Row), (r.setLast u).size ≤ r.size + u.size
  | .nil, u => Nat.zero_le _
  | .cons w i .nil, u => by
    show u.size + 0 + 1 ≤ i.size + 0 + 1 + u.size
    omega
  | .cons w i (.cons x j r), u => by
    have ih := setLast_size (.cons x j r) u
    show i.size + (Row.setLast (.cons x j r) u).size + 1 ≤ i.size + (Row.cons x j r).size + 1 + u.size
    omega
theorem setLast_depth : ∀ (r u : Row), (r.setLast u).depth ≤ max r.depth (u.depth + 1)
  | .nil, u => Nat.zero_le _
  | .cons w i .nil, u => by
    show max (u.depth + 1) 0 ≤ _
    omega
  | .cons w i (.cons x j r), u => by
    have ih := setLast_depth (.cons x j r) u
    show max (i.depth + 1) (Row.setLast (.cons x j r) u).depth ≤ max (max (i.depth + 1) (Row.cons x j r).depth) (u.depth + 1)
    omega
theorem setLast_w : ∀ {r u : Row}, WRow r → WRow u → WRow (r.setLast u)
  | .nil, u, _, _ => trivial
  | .cons w i .nil, u, h, g => ⟨h.1, g, trivial⟩
  | .cons w i (.cons x j r), u, h, g => ⟨h.1, h.2.1, setLast_w h.2.2 g⟩
theorem setLast_ne : ∀ {r u : Row}, r ≠ .nil → r.setLast u ≠ .nil
  | .nil, u, h => absurd rfl h
  | .cons w i .nil, u, _ => fun z => by cases z
  | .cons w i (.cons x j r), u, _ => fun z => by cases z
theorem RAt.last {H : Hp} : ∀ {r : Row} {us : List V}, RAt H r us → r ≠ .nil → ∃ (us0 : List V) (tr b : Addr) (w : Str), us = us0 ++ [.ref tr] ∧ H tr = some (.tup [.str w, .ref b]) ∧
    ∀ (H' : Hp) (u : Row) (nt a : Addr), Imm H H' → H' nt = some (.tup [.str w, .ref a]) → RowAt H' u a → RAt H' (r.setLast u) (us0 ++ [.ref nt])
  | .nil, _, _, h => absurd rfl h
  | .cons w i .nil, _, ⟨t, b, us, vs', e, h1, h2, h3, h4⟩, _ => by
    rw [show vs' = [] from h4] at e
    refine ⟨[], t, b, w, e, h1, fun H' u nt a im hn ⟨ua, g1, g2⟩ => ?_⟩
    exact ⟨nt, a, ua, [], rfl, hn, g1, g2, rfl⟩
  | .cons w i (.cons x j r), _, ⟨t, b, us, vs', e, h1, h2, h3, h4⟩, _ => by
    obtain ⟨us0, tr, b2, w2, e2, g1, g2⟩ := RAt.last (r := .cons x j r) h4 (fun z => by cases z)
    subst e e2
    refine ⟨.ref t :: us0, tr, b2, w2, rfl, g1, fun H' u nt a im hn hu => ?_⟩
    exact ⟨t, b, us, us0 ++ [.ref nt], rfl, im.1 _ _ h1, im.1 _ _ h2, h3.imm im, g2 H' u nt a im hn hu⟩
/-! ### the pile -/
def Stk (H : Hp) : List Addr → List Row → Prop := Paired fun l r => ∃ us, H l = some (.lst us) ∧ RAt H r us
theorem Stk.len {H : Hp} {ls : List Addr} {rs : List Row} (h : Stk H ls rs) : ls.length = rs.length := Paired.length h
theorem Stk.go {H H' : Hp} : ∀ {ls : List Addr} {rs : List Row}, Stk H ls rs → Imm H H' → (∀ l ∈ ls, ∀ o, H l = some o → H' l = some o) → Stk H' ls rs
  | _, _, .nil, _, _ => .nil
  | _, _, .cons ⟨us, h1, h2⟩ t, m, k => .cons ⟨us, k _ (List.mem_cons_self ..) _ h1, h2.imm m⟩ (Stk.go t m fun l hl => k l (List.mem_cons_of_mem _ hl))
theorem Stk.app {H : Hp} : ∀ {ls ms : List Addr} {rs ss : List Row}, Stk H ls rs → Stk H ms ss → Stk H (ls ++ ms) (rs ++ ss)
  | _, _, _, _, .nil, h => h
  | _, _, _, _, .cons r t, h => .cons r (Stk.app t h)
theorem Stk.cut {H : Hp} : ∀ {ls ms : List Addr} {rs ss : List Row}, ls.length = rs.length → Stk H (ls ++ ms) (rs ++ ss) → Stk H ls rs ∧ Stk H ms ss
  | [], _, [], _, _, h => ⟨.nil, h⟩
  | l :: ls, _, r :: rs, _, e, .cons q t => by
    obtain ⟨h1, h2⟩ := Stk.cut (by simpa using e) t
    exact ⟨.cons q h1, h2⟩
theorem ixN_last {n : Nat} (h : 0 < n) : ixN n (-1) = some (n - 1) := by
  unfold ixN
  rw [if_neg (by omega), if_pos (by omega)]
  congr 1
  omega
theorem atI_last {α : Type} (xs : List α) (x : α) : atI (xs ++ [x]) (-1) = some x := by
  unfold atI
  rw [ixN_last (by simp), List.length_append]
  simp
abbrev tNeg : TE := tUn (rU fun i => .int (-i)) (tC (.int 1))
abbrev tFold (K : PySem.W.Frag) : TS := tSeq (tAsg (tThen (tBM0 K "list" rPop (tVar 4)) (kTup K)) (gName 10)) (tAsg (tTup (tCons (tOp (rIxT K) (tOp (rIxL K) (tOp (rIxL K) (tVar 4) tNeg) tNeg) (tC (.int 0))) (tCons (tVar 10) tNil))) (gSub (tOp (rIxL K) (tVar 4) tNeg) tNeg rSetL))
theorem rd_fold {K : PySem.W.Frag} {D : Ends} {H : Hp} {pl p t : Addr} {ls : List Addr} {rs : List Row} {r u : Row} {s0 s1 s2 s3 s5 s6 s7 s8 s9 s10 : Option V} (hp : H pl = some (.lst ((ls ++ [p, t]).map V.ref))) (hS : Stk H (ls ++ [p, t]) (rs ++ [r, u])) (nd : (pl :: (ls ++ [p, t])).Nodup) (ne : r ≠ .nil)
    (q : ∀ v H', H' pl = some (.lst ((ls ++ [p]).map V.ref)) → Stk H' (ls ++ [p]) (rs ++ [r.setLast u]) → (∀ b o, H b = some o → b ≠ pl → b ≠ p → H' b = some o) → D.nx [s0, s1, s2, s3, some (.ref pl), s5, s6, s7, s8, s9, v] H') :
    tFold K D [s0, s1, s2, s3, some (.ref pl), s5, s6, s7, s8, s9, s10] H := by
  have hlen : ls.length = rs.length := by
    have := hS.len
    rw [List.length_append, List.length_append] at this
    simpa using this
  obtain ⟨hS1, hS2⟩ := Stk.cut hlen hS
  obtain ⟨nd1, nd2⟩ := List.nodup_cons.mp nd
  cases hS2 with
  | cons h1 h2 =>
  cases h2 with
  | cons h2 h3 =>
  obtain ⟨us, hpu, hR⟩ := h1
  obtain ⟨ts, htu, hT⟩ := h2
  obtain ⟨us0, tr, ib, w, rfl, htr, hset⟩ := hR.last ne
  have npp : p ≠ pl := fun z => nd1 (List.mem_append_right _ (by rw [z]; exact List.mem_cons_self ..))
  have ntp : t ≠ pl := fun z => nd1 (List.mem_append_right _ (by rw [z]; exact List.mem_cons_of_mem _ (List.mem_singleton.mpr rfl)))
  have e1 : (ls ++ [p, t]).map V.ref = (ls.map V.ref ++ [.ref p]) ++ [.ref t] := by simp
  rw [e1] at hp
  refine ⟨_, rfl, .inl ⟨rfl, _, SqL.of hp⟩, pl, _, .ref t, rfl, rfl, hp, by simp, .inl ⟨t, ts, rfl, ?_, fun a ha => ?_⟩⟩
  · exact SqL.of (by rw [upd_ne ntp]; exact htu)
  rw [List.dropLast_concat] at ha ⊢
  have im1 : Imm H (upd H pl (.lst (ls.map V.ref ++ [.ref p]))) := imm_lst hp _
  have S2 := same_new ha (.tup ts)
  have hpl2 := S2 pl _ (upd_same (H := H) (a := pl) (o := .lst (ls.map V.ref ++ [.ref p])))
  have hpp2 : (upd (upd H pl (.lst (ls.map V.ref ++ [.ref p]))) a (.tup ts)) p = some (.lst (us0 ++ [.ref tr])) := S2 _ _ (by rw [upd_ne npp]; exact hpu)
  have ha2 : (upd (upd H pl (.lst (ls.map V.ref ++ [.ref p]))) a (.tup ts)) a = some (.tup ts) := upd_same
  have im2 := im1.trans (Same.imm S2)
  have old2 : ∀ b o, H b = some o → b ≠ pl → (upd (upd H pl (.lst (ls.map V.ref ++ [.ref p]))) a (.tup ts)) b = some o := fun b o hb nb => S2 _ _ (by rw [upd_ne nb]; exact hb)
  generalize upd (upd H pl (.lst (ls.map V.ref ++ [.ref p]))) a (.tup ts) = H2 at S2 hpl2 hpp2 ha2 im2 old2
  refine ⟨_, rfl, 1, rfl, pl, _, -1, .ref p, rfl, rfl, SqL.of hpl2, atI_last _ _, 1, rfl, p, _, -1, .ref tr, rfl, rfl, SqL.of hpp2, atI_last _ _, tr, _, 0, .str w, rfl, rfl, SqT.of (im2.1 _ _ htr), atI_nat (j := 0) rfl, _, rfl, (by show 2 ≤ sizeLine; decide), fun nt hnt => ?_⟩
  have S3 := same_new hnt (.tup [.str w, .ref a])
  refine ⟨_, rfl, 1, rfl, pl, _, -1, .ref p, rfl, rfl, SqL.of (S3 _ _ hpl2), atI_last _ _, 1, rfl, p, _, -1, (us0 ++ [V.ref tr]).length - 1, rfl, rfl, S3 _ _ hpp2, ixN_last (by simp), ?_⟩
  have e2 : (us0 ++ [V.ref tr]).set ((us0 ++ [V.ref tr]).length - 1) (.ref nt) = us0 ++ [.ref nt] := by simp
  rw [e2]
  have im4 : Imm (upd H2 nt (.tup [.str w, .ref a])) (upd (upd H2 nt (.tup [.str w, .ref a])) p (.lst (us0 ++ [.ref nt]))) := imm_lst (S3 _ _ hpp2) _
  have imA := im2.trans ((Same.imm S3).trans im4)
  have old4 : ∀ b o, H b = some o → b ≠ pl → b ≠ p → (upd (upd H2 nt (.tup [.str w, .ref a])) p (.lst (us0 ++ [.ref nt]))) b = some o := fun b o hb n1 n2 => by
    rw [upd_ne n2]
    exact S3 _ _ (old2 b o hb n1)
  refine q _ _ ?_ ?_ old4
  · rw [upd_ne npp.symm, List.map_append]
    exact S3 _ _ hpl2
  · refine Stk.app (hS1.go imA fun l hl o ho => old4 l o ho (fun z => nd1 (by rw [← z]; exact List.mem_append_left _ hl)) fun z => ?_) (.cons ⟨us0 ++ [.ref nt], upd_same, ?_⟩ .nil)
    · have := (List.nodup_append.mp nd2).2.2 l hl l (by rw [z]; exact List.mem_cons_self ..)
      exact this rfl
    · refine hset _ u nt a imA (im4.1 _ _ upd_same) ⟨ts, im4.1 _ _ (S3 _ _ ha2), hT.imm imA⟩
end K17
end PartK17H3
section PartK17H4
set_option Elab.async false
set_option linter.all false
set_option maxRecDepth 100000
set_option maxHeartbeats 4000000
/-! The law's row_by: the walk. -/
namespace K17
open PySem PySem.Spec PyProof.Rows L2
structure Pk (rs : List Row) (left : Nat) : Prop where
  len : rs.length ≤ 3
  pos : 0 < rs.length
  each : ∀ i r, rs[i]? = some r → WRow r ∧ r.depth + i ≤ 3
  ne : ∀ i r, rs[i]? = some r → i + 1 < rs.length → r ≠ .nil
  sz : (rs.map Row.size).sum + left ≤ 8
theorem get_app1 {α : Type} {xs : List α} {x y : α} {i : Nat} (h : (xs ++ [x])[i]? = some y) : (i < xs.length ∧ xs[i]? = some y) ∨ (i = xs.length ∧ y = x) := by
  by_cases c : i < xs.length
  · rw [List.getElem?_append_left c] at h
    exact .inl ⟨c, h⟩
  · rw [List.getElem?_append_right (by omega)] at h
    have hl := (List.getElem?_eq_some_iff.mp h).1
    simp at hl
    have e : i = xs.length := by omega
    subst e
    simp at h
    exact .inr ⟨rfl, h.symm⟩
theorem Pk.fold {rs : List Row} {r u : Row} {left : Nat} (h : Pk (rs ++ [r, u]) left) : Pk (rs ++ [r.setLast u]) left ∧ r ≠ .nil := by
  have g1 : (rs ++ [r, u])[rs.length]? = some r := by simp
  have g2 : (rs ++ [r, u])[rs.length + 1]? = some u := by simp
  have hl := h.len
  rw [List.length_append] at hl
  simp at hl
  have ne := h.ne _ _ g1 (by simp)
  refine ⟨⟨by simp; omega, by simp, fun i x e => ?_, fun i x e hi => ?_, ?_⟩, ne⟩
  · rcases get_app1 e with ⟨c, q⟩ | ⟨rfl, rfl⟩
    · exact h.each i x (by rw [List.getElem?_append_left c]; exact q)
    · have a := h.each _ _ g1
      have b := h.each _ _ g2
      refine ⟨setLast_w a.1 b.1, ?_⟩
      have := setLast_depth r u
      omega
  · rcases get_app1 e with ⟨c, q⟩ | ⟨rfl, rfl⟩
    · exact h.ne i x (by rw [List.getElem?_append_left c]; exact q) (by simp; omega)
    · simp at hi
  · have z := h.sz
    have z2 := setLast_size r u
    simp at z ⊢
    omega
theorem app_size : ∀ (r s : Row), (r.app s).size = r.size + s.size
  | .nil, s => by simp [Row.app, Row.size]
  | .cons w i r, s => by
    have := app_size r s
    show i.size + (r.app s).size + 1 = i.size + r.size + 1 + s.size
    omega
theorem app_depth : ∀ (r s : Row), (r.app s).depth = max r.depth s.depth
  | .nil, s => by simp [Row.app, Row.depth]
  | .cons w i r, s => by
    have := app_depth r s
    show max (i.depth + 1) (r.app s).depth = max (max (i.depth + 1) r.depth) s.depth
    omega
theorem app_rlen : ∀ (r s : Row), (r.app s).len = r.len + s.len
  | .nil, s => by simp [Row.app, Row.len]
  | .cons w i r, s => by
    have := app_rlen r s
    show (r.app s).len + 1 = r.len + 1 + s.len
    omega
theorem app_ne (r : Row) (w : Str) : r.app (.cons w .nil .nil) ≠ .nil := by
  cases r <;> exact fun z => by cases z
theorem Pk.add {rs : List Row} {r : Row} {left : Nat} {w : Str} (h : Pk (rs ++ [r]) (left + 1)) (hw : Wd w) : Pk (rs ++ [r.app (.cons w .nil .nil)]) left := by
  have g1 : (rs ++ [r])[rs.length]? = some r := by simp
  have hl := h.len
  rw [List.length_append] at hl
  simp at hl
  refine ⟨by simp; omega, by simp, fun i x e => ?_, fun i x e hi => ?_, ?_⟩
  · rcases get_app1 e with ⟨c, q⟩ | ⟨rfl, rfl⟩
    · exact h.each i x (by rw [List.getElem?_append_left c]; exact q)
    · have a := h.each _ _ g1
      refine ⟨wrow_app a.1 ⟨hw, trivial, trivial⟩, ?_⟩
      rw [app_depth]
      show max r.depth (max (0 + 1) 0) + _ ≤ 3
      omega
  · rcases get_app1 e with ⟨c, q⟩ | ⟨rfl, rfl⟩
    · exact h.ne i x (by rw [List.getElem?_append_left c]; exact q) (by simp; omega)
    · simp at hi
  · have z := h.sz
    have z2 := app_size r (.cons w .nil .nil)
    have z3 : (Row.cons w .nil .nil).size = 1 := rfl
    simp at z ⊢
    omega
theorem Pk.push {rs : List Row} {r : Row} {left : Nat} (h : Pk (rs ++ [r]) left) (ne : r ≠ .nil) (hl : (rs ++ [r]).length < 3) : Pk (rs ++ [r] ++ [.nil]) left := by
  refine ⟨by simp at hl ⊢; omega, by simp, fun i x e => ?_, fun i x e hi => ?_, ?_⟩
  · rcases get_app1 e with ⟨c, q⟩ | ⟨rfl, rfl⟩
    · exact h.each i x q
    · refine ⟨trivial, ?_⟩
      show 0 + _ ≤ 3
      omega
  · rcases get_app1 e with ⟨c, q⟩ | ⟨rfl, rfl⟩
    · rcases get_app1 q with ⟨c2, q2⟩ | ⟨rfl, rfl⟩
      · exact h.ne i x q (by simp; omega)
      · exact ne
    · simp at hi
  · have z := h.sz
    have z3 : (Row.nil).size = 0 := rfl
    simp at z ⊢
    omega
def Pv (H : Hp) (pl : Addr) (ls : List Addr) (rs : List Row) (left : Nat) (H' : Hp) : Prop := Same H H' ∧ (∀ l ∈ pl :: ls, H l = none) ∧ (pl :: ls).Nodup ∧ H' pl = some (.lst (ls.map V.ref)) ∧ Stk H' ls rs ∧ Pk rs left
theorem Pv.same {H H' H2 : Hp} {pl : Addr} {ls : List Addr} {rs : List Row} {left : Nat} (h : Pv H pl ls rs left H') (S : Same H' H2) : Pv H pl ls rs left H2 := by
  obtain ⟨a, b, c, d, e, f⟩ := h
  exact ⟨a.trans S, b, c, S _ _ d, e.go (Same.imm S) fun l _ o ho => S _ _ ho, f⟩
theorem last1 {α : Type} : ∀ {xs : List α}, 0 < xs.length → ∃ ys x, xs = ys ++ [x]
  | [], h => absurd h (Nat.lt_irrefl _)
  | x :: xs, _ => ⟨(x :: xs).dropLast, (x :: xs).getLast (by simp), (List.dropLast_concat_getLast (by simp)).symm⟩
theorem last2 {α : Type} {xs : List α} (h : 1 < xs.length) : ∃ ys x y, xs = ys ++ [x, y] := by
  obtain ⟨ys, y, rfl⟩ := last1 (xs := xs) (by omega)
  rw [List.length_append] at h
  simp at h
  obtain ⟨zs, x, rfl⟩ := last1 (xs := ys) (by omega)
  exact ⟨zs, x, y, by simp⟩
theorem Pv.fold {K : PySem.W.Frag} {D : Ends} {H H' : Hp} {pl : Addr} {ls : List Addr} {rs : List Row} {left : Nat} {s0 s1 s2 s3 s5 s6 s7 s8 s9 s10 : Option V} (h : Pv H pl ls rs left H') (hl : 1 < ls.length)
    (q : ∀ v ls' rs' H2, Pv H pl ls' rs' left H2 → ls'.length + 1 = ls.length → D.nx [s0, s1, s2, s3, some (.ref pl), s5, s6, s7, s8, s9, v] H2) : tFold K D [s0, s1, s2, s3, some (.ref pl), s5, s6, s7, s8, s9, s10] H' := by
  obtain ⟨hS, hn, hnd, hpl, hst, hpk⟩ := h
  have el := hst.len
  obtain ⟨ls0, p, t, rfl⟩ := last2 hl
  obtain ⟨rs0, r, u, rfl⟩ := last2 (xs := rs) (by omega)
  obtain ⟨pk2, ne⟩ := hpk.fold
  refine rd_fold hpl hst hnd ne fun v H2 h1 h2 h3 => ?_
  refine q v (ls0 ++ [p]) (rs0 ++ [r.setLast u]) H2 ⟨fun b o hb => ?_, fun l hl => ?_, ?_, h1, h2, pk2⟩ (by simp)
  · refine h3 b o (hS b o hb) (fun z => ?_) fun z => ?_
    · rw [z, hn pl (List.mem_cons_self ..)] at hb
      cases hb
    · rw [z, hn p (List.mem_cons_of_mem _ (List.mem_append_right _ (List.mem_cons_self ..)))] at hb
      cases hb
  · refine hn l ?_
    rcases List.mem_cons.mp hl with z | z
    · rw [z]
      exact List.mem_cons_self ..
    · rcases List.mem_append.mp z with z | z
      · exact List.mem_cons_of_mem _ (List.mem_append_left _ z)
      · rw [List.mem_singleton.mp z]
        exact List.mem_cons_of_mem _ (List.mem_append_right _ (List.mem_cons_self ..))
  · refine hnd.sublist (List.Sublist.cons₂ _ (List.Sublist.append (List.Sublist.refl _) ?_))
    exact List.Sublist.cons₂ _ (List.nil_sublist _)
theorem rd_and {t u : TT} {σ : L2.St} {H : Hp} {Q : Bool → Hp → Prop} {b1 b2 : Bool} (h1 : ∀ Q' : Bool → Hp → Prop, Q' b1 H → t σ H Q') (h2 : ∀ Q' : Bool → Hp → Prop, Q' b2 H → u σ H Q') (q : Q (b1 && b2) H) : tAnd t u σ H Q := by
  refine h1 _ ?_
  cases b1 with
  | true => exact iteT (h2 _ q)
  | false => exact iteF q
def spRowBy (K : PySem.W.Frag) : Sp := fun vs H Q _ => ∃ (sc wl : Addr) (ns : List Int) (ws : List Str), vs = [.ref sc, .ref wl, .int 8, .int 3] ∧ H sc = some (.lst (ns.map V.int)) ∧ ns.length ≤ 100 ∧ H wl = some (.lst (ws.map V.str)) ∧ 0 < ws.length ∧ ws.length ≤ 100 ∧ (∀ x ∈ ws, Wd x) ∧
  ∀ (a : Addr) (r : Row) (H' : Hp), Same H H' → RowAt H' r a → WRow r → r.size ≤ 8 → r.depth ≤ 3 → Q (.ref a) H'
section
variable {P : Program} {w : World} {K : PySem.W.Frag} {mg : Str → Option Value} {base : Heap}
theorem ok_rowby (T : Tx K mg) : FO P w K mg base 3 (ca K "_law_row_by") pRowBy (spRowBy K) := by
  have G : FO P w K mg base 2 (ca K "_law_cell_at") pCellAt (spCellAt K) := ok_cell T
  refine T.d_law_row_by.ok0 scRowBy (fun vs H Q E h => ?_) (fun cdv A outer st H vs Q E hr h => ?_)
  · obtain ⟨sc, wl, ns, ws, rfl, _⟩ := h
    rfl
  · obtain ⟨sc, wl, ns, ws, rfl, hsc, hns, hwl, hw0, hw1, hwd, q⟩ := h
    have nd := scRowBy.nd
    refine ⟨_, pss_cons (ps_set (i := 4) nd rfl (.inl rfl) (pe_lst (pa_cons (pe_lst pa_nil) pa_nil)))
      (pss_cons (ps_set (i := 5) nd rfl (.inl rfl) (pv 2))
      (pss_cons (ps_for PassesOwn.never rfl (pi_range1 (by rfl) T.b_range (pa_cons (pe_callB call_lenS (by rfl) T.b_len PySem.boot_len (pa_cons (pv 0) pa_nil)) pa_nil)) (pg_name (i := 6) nd rfl (.inl rfl))
        (pss_cons (ps_set (i := 7) nd rfl (.inl rfl) (pe_call G hr rfl T.g_law_cell_at T.d_law_cell_at.kp (bd_law_cell_at T) .nil pass0 (pa_cons (pv 0) (pa_cons (pv 6) pa_nil))))
        (pss_cons (ps_set (i := 8) nd rfl (.inl rfl) (pe_op op_mod (pv 7) pe_int))
        (pss_cons (ps_set (i := 9) nd rfl (.inl rfl) (pe_ix ix_list (pv 1) (pe_op op_mod (pe_op op_fdiv (pv 7) pe_int) (pe_callB call_lenS (by rfl) T.b_len PySem.boot_len (pa_cons (pv 1) pa_nil))) (fun _ _ => rfl)))
        (pss_one (ps_if (PW.pt (pw_and (pt_cmpR op_eq (pv 8) pe_int (nomark _)) (pw_and1 (pt_cmpR op_gt (pe_callB call_lenS (by rfl) T.b_len PySem.boot_len (pa_cons (pv 4) pa_nil)) pe_int (nomark _)))))
          (pss_cons (ps_set (i := 10) nd rfl (.inl rfl) (pe_tupleOf (by rfl) T.b_tuple (pe_bm0 PySem.F.plainAttrs_list PySem.F.slot_list_pop PySem.F.type_list_pop mt_pop (pv 4))))
          (pss_one (ps_asg (pe_tup (pa_cons (pe_ix ix_tup (pe_ix ix_list (pe_ix ix_list (pv 4) (pe_un un_neg pe_int) (fun _ _ => rfl)) (pe_un un_neg pe_int) (fun _ _ => rfl)) pe_int (fun _ _ => rfl)) (pa_cons (pv 10) pa_nil))) (pg_sub (pe_ix ix_list (pv 4) (pe_un un_neg pe_int) (fun _ _ => rfl)) (pe_un un_neg pe_int) set_list))))
          (pss_one (ps_if (pt_cmpR op_gt (pv 5) pe_int (nomark _))
            (pss_cons (ps_aug (i := 5) nd rfl (.inl rfl) pe_int ip_sub)
            (pss_cons (ps_expr (pe_bm PySem.F.plainAttrs_list PySem.F.slot_list_append PySem.F.type_list_append mt_append (pe_ix ix_list (pv 4) (pe_un un_neg pe_int) (fun _ _ => rfl)) (pa_cons (pe_tup (pa_cons (pv 9) (pa_cons (pe_tup pa_nil) pa_nil))) pa_nil)))
            (pss_one (ps_if (PW.pt (pw_and (pt_cmpR op_gt (pv 8) pe_int (nomark _)) (pw_and1 (pt_cmpR op_lt (pe_callB call_lenS (by rfl) T.b_len PySem.boot_len (pa_cons (pv 4) pa_nil)) (pv 3) (nomark _)))))
              (pss_one (ps_expr (pe_bm PySem.F.plainAttrs_list PySem.F.slot_list_append PySem.F.type_list_append mt_append (pv 4) (pa_cons (pe_lst pa_nil) pa_nil)))) pss_nil)))) pss_nil))))))))
      (pss_cons (ps_while PassesOwn.never (pt_cmpR op_gt (pe_callB call_lenS (by rfl) T.b_len PySem.boot_len (pa_cons (pv 4) pa_nil)) pe_int (nomark _))
          (pss_cons (ps_set (i := 10) nd rfl (.inl rfl) (pe_tupleOf (by rfl) T.b_tuple (pe_bm0 PySem.F.plainAttrs_list PySem.F.slot_list_pop PySem.F.type_list_pop mt_pop (pv 4))))
          (pss_one (ps_asg (pe_tup (pa_cons (pe_ix ix_tup (pe_ix ix_list (pe_ix ix_list (pv 4) (pe_un un_neg pe_int) (fun _ _ => rfl)) (pe_un un_neg pe_int) (fun _ _ => rfl)) pe_int (fun _ _ => rfl)) (pa_cons (pv 10) pa_nil))) (pg_sub (pe_ix ix_list (pv 4) (pe_un un_neg pe_int) (fun _ _ => rfl)) (pe_un un_neg pe_int) set_list)))))
      (pss_one (ps_ret (pe_tupleOf (by rfl) T.b_tuple (pe_ix ix_list (pv 4) pe_int (fun _ _ => rfl)))))))), ?_⟩
    refine ⟨Nat.zero_le _, fun l0 hl0 => ⟨(by show 1 ≤ sizeLine; decide), fun pl hpl => ?_⟩⟩
    have n0 : l0 ≠ pl := fun z => by
      rw [← z, upd_same] at hpl
      cases hpl
    have hplH : H pl = none := by
      rw [upd_ne (Ne.symm n0)] at hpl
      exact hpl
    have P0 : Pv H pl [l0] [.nil] 8 (upd (upd H l0 (.lst [])) pl (.lst [.ref l0])) := by
      refine ⟨same_two hl0 hpl, fun l hl => ?_, by simp [Ne.symm n0], upd_same, .cons ⟨[], by rw [upd_ne n0]; exact upd_same, rfl⟩ .nil, ⟨by decide, by decide, fun i r e => ?_, fun i r e h2 => ?_, by decide⟩⟩
      · rcases List.mem_cons.mp hl with z | z
        · rw [z]
          exact hplH
        · rw [List.mem_singleton.mp z]
          exact hl0
      · match i, e with
        | 0, e =>
          cases e
          exact ⟨trivial, by show 0 + 0 ≤ 3; decide⟩
      · simp at h2
    generalize upd (upd H l0 (.lst [])) pl (.lst [.ref l0]) = H1 at P0
    refine ⟨_, rfl, ?_⟩
    refine ⟨_, rfl, sc, _, rfl, .inl (SqL.of (P0.1 _ _ hsc)), _, rfl, ?_, ?_, ?_⟩
    · rw [List.length_map]
      show -(2 ^ 62) ≤ ((ns.length : Nat) : Int)
      omega
    · rw [List.length_map]
      show ((ns.length : Nat) : Int) < 2 ^ 62
      omega
    have inj8 : ∀ {x y : Int}, decide (V.int x = V.int y) = decide (x = y) := fun {x y} => by
      by_cases c : x = y
      · simp [c]
      · have c' : ¬ V.int x = V.int y := fun z => c (by injection z)
        rw [decide_eq_false c, decide_eq_false c']
    have wordAt : ∀ c : Int, ∃ x, atI (ws.map V.str) (c % ((ws.map V.str).length : Int)) = some (.str x) ∧ Wd x := fun c => by
      rw [List.length_map]
      have h1 := Int.emod_nonneg c (show ((ws.length : Nat) : Int) ≠ 0 by omega)
      have h2 := Int.emod_lt_of_pos c (show (0 : Int) < ((ws.length : Nat) : Int) by omega)
      have e : c % ((ws.length : Nat) : Int) = (((c % ((ws.length : Nat) : Int)).toNat : Nat) : Int) := by omega
      have hl : (c % ((ws.length : Nat) : Int)).toNat < ws.length := by omega
      refine ⟨ws[(c % ((ws.length : Nat) : Int)).toNat], ?_, hwd _ (List.getElem_mem hl)⟩
      have z : atI (ws.map V.str) (((c % ((ws.length : Nat) : Int)).toNat : Nat) : Int) = some (.str ws[(c % ((ws.length : Nat) : Int)).toNat]) := atI_nat (by rw [List.getElem?_map, List.getElem?_eq_getElem hl]; rfl)
      rw [← e] at z
      exact z
    refine for_range (lo := 0) (fun k σ H' => ∃ (ls : List Addr) (rs : List Row) (left : Nat) (v6 v7 v8 v9 v10 : Option V), σ = [some (.ref sc), some (.ref wl), some (.int 8), some (.int 3), some (.ref pl), some (.int (left : Int)), v6, v7, v8, v9, v10] ∧ Pv H pl ls rs left H')
      ⟨[l0], [.nil], 8, none, none, none, none, none, rfl, P0⟩ ?_ ?_
    · rintro k σ H2 hk ⟨ls, rs, left, v6, v7, v8, v9, v10, rfl, hP⟩
      have S2 := hP.1
      refine ⟨_, rfl, _, rfl, sc, ns, 0 + (k : Int), rfl, SqL.of (S2 _ _ hsc), by omega, fun c c0 c1 => ?_⟩
      refine ⟨_, rfl, _, _, rfl, rfl, (by show (0 : Int) < 4; decide), ?_⟩
      obtain ⟨x, hx, hxw⟩ := wordAt (c / 4)
      refine ⟨_, rfl, _, rfl, _, _, rfl, rfl, ⟨by decide, by decide⟩, _, rfl, wl, _, rfl, .inl (SqL.of (S2 _ _ hwl)), _, _, rfl, rfl, ?_, wl, _, _, .str x, rfl, rfl, SqL.of (S2 _ _ hwl), hx, ?_⟩
      · rw [List.length_map]
        omega
      have hpl2 := hP.2.2.2.1
      dsimp only [gName, tIfS]
      refine rd_and (b1 := decide (V.int (c % 4) = V.int 3)) (b2 := decide ((1 : Int) < ((ls.map V.ref).length : Int))) (fun Q' q' => ⟨_, rfl, rfl, _, rfl, q'⟩) (fun Q' q' => ⟨_, rfl, pl, _, rfl, .inl (SqL.of hpl2), _, _, rfl, rfl, _, rfl, q'⟩) ?_
      refine ite2 (fun cc => ?_) (fun cc => ?_)
      · rw [Bool.and_eq_true] at cc
        have l1 := of_decide_eq_true cc.2
        rw [List.length_map] at l1
        exact Pv.fold hP (by omega) fun v ls' rs' H3 hP3 _ => ⟨ls', rs', left, _, _, _, _, v, rfl, hP3⟩
      · refine ⟨_, rfl, _, _, rfl, rfl, _, rfl, ?_⟩
        refine ite2 (fun c5 => ?_) (fun c5 => ⟨ls, rs, left, _, _, _, _, _, rfl, hP⟩)
        have l5 : (0 : Int) < (left : Int) := of_decide_eq_true c5
        refine ⟨_, rfl, _, _, rfl, rfl, ?_⟩
        obtain ⟨hS, hno, hnd, _, hst, hpk⟩ := id hP
        have el := hst.len
        have hpos := hpk.pos
        obtain ⟨ls0, p, rfl⟩ := last1 (xs := ls) (by omega)
        obtain ⟨rs0, r, rfl⟩ := last1 hpos
        have el0 : ls0.length = rs0.length := by simpa using el
        obtain ⟨hst1, hst2⟩ := Stk.cut el0 hst
        cases hst2 with
        | cons hh _ =>
        obtain ⟨us, hpu, hR⟩ := hh
        have eleft : ∃ m : Nat, left = m + 1 := ⟨left - 1, by omega⟩
        obtain ⟨m, rfl⟩ := eleft
        have hpm : (ls0 ++ [p]).map V.ref = ls0.map V.ref ++ [.ref p] := by simp
        rw [hpm] at hpl2
        obtain ⟨nd1, nd2⟩ := List.nodup_cons.mp hnd
        have npp : p ≠ pl := fun z => nd1 (by rw [← z]; exact List.mem_append_right _ (List.mem_singleton.mpr rfl))
        refine ⟨_, rfl, 1, rfl, pl, _, -1, .ref p, rfl, rfl, SqL.of hpl2, atI_last _ _, .inl ⟨rfl, _, SqL.of hpu⟩, ?_⟩
        refine ⟨_, rfl, Nat.zero_le _, fun un hun => ⟨(by show 2 ≤ sizeLine; decide), fun tr htr => ?_⟩⟩
        have S3 := same_new hun (.tup [])
        have S4 := same_new htr (.tup [.str x, .ref un])
        have S34 := S3.trans S4
        have usl : us.length ≤ 8 := by
          rw [hR.len]
          have := len_size r
          have z := hpk.sz
          simp at z
          omega
        refine ⟨p, us, .ref tr, rfl, rfl, S34 _ _ hpu, sl5 (by omega), ?_⟩
        have hun4 := S4 _ _ (upd_same (H := H2) (a := un) (o := .tup []))
        have htr4 : (upd (upd H2 un (.tup [])) tr (.tup [.str x, .ref un])) tr = some (.tup [.str x, .ref un]) := upd_same
        have hpl4 := S34 _ _ hpl2
        have hpu4 := S34 _ _ hpu
        generalize upd (upd H2 un (.tup [])) tr (.tup [.str x, .ref un]) = H4 at S34 hun4 htr4 hpl4 hpu4
        have im5 : Imm H4 (upd H4 p (.lst (us ++ [.ref tr]))) := imm_lst hpu4 _
        have hP5 : Pv H pl (ls0 ++ [p]) (rs0 ++ [r.app (.cons x .nil .nil)]) m (upd H4 p (.lst (us ++ [.ref tr]))) := by
          refine ⟨fun b o hb => ?_, hno, hnd, by rw [upd_ne npp.symm, hpm]; exact hpl4, ?_, hpk.add hxw⟩
          · rw [upd_ne (ne_of_none hb (hno p (List.mem_cons_of_mem _ (List.mem_append_right _ (List.mem_singleton.mpr rfl)))))]
            exact S34 _ _ (hS b o hb)
          · refine Stk.app (hst1.go ((Same.imm S34).trans im5) fun l hl o ho => ?_) (.cons ⟨us ++ [.ref tr], upd_same, ?_⟩ .nil)
            · have ne : l ≠ p := fun z => (List.nodup_append.mp nd2).2.2 l hl l (by rw [z]; exact List.mem_singleton.mpr rfl) rfl
              rw [upd_ne ne]
              exact S34 _ _ ho
            · exact RAt.app (hR.imm ((Same.imm S34).trans im5)) ⟨tr, un, [], [], rfl, im5.1 _ _ htr4, im5.1 _ _ hun4, rfl, rfl⟩
        have hpl5 : (upd H4 p (.lst (us ++ [.ref tr]))) pl = some (.lst (ls0.map V.ref ++ [.ref p])) := by
          rw [upd_ne npp.symm]
          exact hpl4
        have em : (((m + 1 : Nat) : Int) - 1) = (m : Int) := by omega
        dsimp only [tIfS]
        rw [em]
        generalize upd H4 p (.lst (us ++ [.ref tr])) = H5 at hP5 hpl5
        refine rd_and (b1 := decide ((0 : Int) < c % 4)) (b2 := decide (((ls0.map V.ref ++ [V.ref p]).length : Int) < (3 : Int))) (fun Q' q' => ⟨_, rfl, _, _, rfl, rfl, _, rfl, q'⟩) (fun Q' q' => ⟨_, rfl, pl, _, rfl, .inl (SqL.of hpl5), _, rfl, _, _, rfl, rfl, _, rfl, q'⟩) ?_
        refine ite2 (fun cd => ?_) (fun cd => ⟨_, _, m, _, _, _, _, _, rfl, hP5⟩)
        rw [Bool.and_eq_true] at cd
        have l3 := of_decide_eq_true cd.2
        rw [List.length_append, List.length_map] at l3
        simp at l3
        refine ⟨_, rfl, .inl ⟨rfl, _, SqL.of hpl5⟩, Nat.zero_le _, fun n hn => ?_⟩
        have S6 := same_new hn (.lst [])
        have npn : n ≠ pl := fun z => by
          rw [z, hpl5] at hn
          cases hn
        refine ⟨pl, _, .ref n, rfl, rfl, S6 _ _ hpl5, ?_, ?_⟩
        · rw [List.length_append, List.length_map]
          exact sl5 (by simp; omega)
        obtain ⟨hS5, hno5, hnd5, _, hst5, hpk5⟩ := hP5
        have hnH : H n = none := by
          cases e : H n with
          | none => rfl
          | some o =>
            rw [hS5 _ _ e] at hn
            cases hn
        have fresh : ∀ l ∈ pl :: (ls0 ++ [p]), l ≠ n := fun l hl z => by
          rcases List.mem_cons.mp hl with y | y
          · rw [y] at z
            exact npn z.symm
          · obtain ⟨k2, hk2, e2⟩ := List.mem_iff_getElem.mp y
            obtain ⟨r2, _, us2, h2, _⟩ := paired_get hst5 (k := k2) (x := l) (by rw [List.getElem?_eq_getElem hk2, e2])
            rw [z, hn] at h2
            cases h2
        have im7 : Imm (upd H5 n (.lst [])) (upd (upd H5 n (.lst [])) pl (.lst (ls0.map V.ref ++ [.ref p] ++ [.ref n]))) := imm_lst (S6 _ _ hpl5) _
        refine ⟨ls0 ++ [p] ++ [n], rs0 ++ [r.app (.cons x .nil .nil)] ++ [.nil], m, _, _, _, _, _, rfl, fun b o hb => ?_, fun l hl => ?_, ?_, ?_, ?_, ?_⟩
        · rw [upd_ne (ne_of_none hb (hno5 pl (List.mem_cons_self ..)))]
          exact S6 _ _ (hS5 b o hb)
        · rw [← List.cons_append] at hl
          rcases List.mem_append.mp hl with z | z
          · exact hno5 l z
          · rw [List.mem_singleton.mp z]
            exact hnH
        · rw [← List.cons_append]
          exact nd_snoc hnd5 fun z => fresh n z rfl
        · rw [upd_same]
          simp
        · refine Stk.app (hst5.go ((Same.imm S6).trans im7) fun l hl o ho => ?_) (.cons ⟨[], by rw [upd_ne npn]; exact upd_same, rfl⟩ .nil)
          have nl : l ≠ pl := fun z => (List.nodup_cons.mp hnd5).1 (by rw [← z]; exact hl)
          rw [upd_ne nl]
          exact S6 _ _ ho
        · exact hpk5.push (app_ne r x) (by simp; omega)
    · rintro σ H2 ⟨ls, rs, left, v6, v7, v8, v9, v10, rfl, hP⟩
      refine ⟨fun μ σ H' => ∃ (ls : List Addr) (rs : List Row) (left : Nat) (v6 v7 v8 v9 v10 : Option V), σ = [some (.ref sc), some (.ref wl), some (.int 8), some (.int 3), some (.ref pl), some (.int (left : Int)), v6, v7, v8, v9, v10] ∧ Pv H pl ls rs left H' ∧ μ = ls.length, ⟨_, ls, rs, left, v6, v7, v8, v9, v10, rfl, hP, rfl⟩, ?_⟩
      rintro μ σ H3 ⟨ls, rs, left, v6, v7, v8, v9, v10, rfl, hP, rfl⟩
      have hpl3 := hP.2.2.2.1
      refine ⟨_, rfl, pl, _, rfl, .inl (SqL.of hpl3), _, _, rfl, rfl, _, rfl, ?_⟩
      refine ite2 (fun cc => ?_) (fun cc => ?_)
      · have l1 := of_decide_eq_true cc
        rw [List.length_map] at l1
        exact ⟨fun σ' H2 => _, fun σ' H2 z => z, Pv.fold hP (by omega) fun v ls' rs' H3 hP3 hl => ⟨ls'.length, by omega, ls', rs', left, _, _, _, _, v, rfl, hP3, rfl⟩⟩
      · obtain ⟨hS, hno, hnd, _, hst, hpk⟩ := hP
        have el := hst.len
        have hpos := hpk.pos
        have l1 : ¬ (1 : Int) < ((ls.map V.ref).length : Int) := fun z => cc (decide_eq_true z)
        rw [List.length_map] at l1
        have e1 : ls.length = 1 := by omega
        match ls, rs, e1, hst, hpk, hpl3 with
        | [p], r :: rs', _, .cons ⟨us, hpu, hR⟩ t, hpk, hpl3 =>
          cases t
          have a := hpk.each 0 r rfl
          have b := hpk.sz
          refine ⟨_, rfl, pl, _, 0, .ref p, rfl, rfl, SqL.of hpl3, atI_nat (j := 0) rfl, .inl ⟨p, us, rfl, SqL.of hpu, fun a2 ha2 => ?_⟩⟩
          have S4 := same_new ha2 (.tup us)
          refine q a2 r _ (hS.trans S4) ⟨us, upd_same, hR.imm (Same.imm S4)⟩ a.1 ?_ (by omega)
          simp at b
          omega
end
end K17
end PartK17H4
section PartK17I1
set_option Elab.async false
set_option linter.all false
set_option maxRecDepth 100000
set_option maxHeartbeats 4000000
/-! The law's shape. -/
namespace K17
open PySem PySem.Spec PyProof.Rows L2
/-- how many trees a row may have that the law makes of a shape -/
def Sh.wid : Sh → Nat
  | .nothing => 0
  | .tree _ _ => 1
  | .many p => 2 * p.wid
  | .some p => 2 * p.wid
  | .maybe p => p.wid
  | .chain ps => ps.wid
  | .either ps => ps.wid
  | .nil => 0
  | .cons p ps => p.wid + ps.wid
def bz : Nat → Nat
  | 0 => 1
  | n + 1 => 3 * bz n + 1
/-- a shape that the law draws -/
structure Dn (ws ns : List Str) (n : Nat) (s : Sh) : Prop where
  ok : s.ok false
  deep : s.deep ≤ n + 1
  sz : s.sz ≤ bz n
  tr : s.trees ≤ 3 ^ n
  wid : s.wid ≤ 3 ^ n
  nm : s.all fun w x => (∀ y, w = some y → y ∈ ws) ∧ x ∈ ns
def spShape (n : Nat) : Sp := fun vs H Q _ => ∃ (d wl nl : Addr) (ws ns : List Str), vs = [.ref d, .ref wl, .ref nl, .int (n : Int)] ∧ DrawAt H d ∧ H wl = some (.lst (ws.map V.str)) ∧ H nl = some (.lst (ns.map V.str)) ∧ 0 < ws.length ∧ ws.length ≤ 100 ∧ 0 < ns.length ∧ wl ≠ d ∧ nl ≠ d ∧ n ≤ 5 ∧
  ∀ (b : Addr) (s : Sh) (H' : Hp), Ext [d] H H' → DrawAt H' d → TAt H' s [.ref b] → Dn ws ns n s → Q (.ref b) H'
theorem three_pos : ∀ n : Nat, 1 ≤ 3 ^ n
  | 0 => by decide
  | n + 1 => by
    have := three_pos n
    rw [Nat.pow_succ]
    omega
theorem bz_pos : ∀ n, 1 ≤ bz n
  | 0 => Nat.le_refl _
  | n + 1 => Nat.le_add_left _ _
theorem bz_le : ∀ {n}, n ≤ 5 → bz n ≤ 400 := by
  intro n h
  match n, h with
  | 0, _ => decide
  | 1, _ => decide
  | 2, _ => decide
  | 3, _ => decide
  | 4, _ => decide
  | 5, _ => decide
/-- parts that the law draws -/
structure Ds (ws ns : List Str) (n k : Nat) (ps : Sh) : Prop where
  ok : ps.ok true
  cnt : ps.cnt = k
  deep : ps.deep ≤ n + 1
  sz : ps.sz ≤ k * bz n
  tr : ps.trees ≤ k * 3 ^ n
  wid : ps.wid ≤ k * 3 ^ n
  nm : ps.all fun w x => (∀ y, w = some y → y ∈ ws) ∧ x ∈ ns
/-- one part more, behind -/
def Sh.snoc : Sh → Sh → Sh
  | .cons p ps, q => .cons p (ps.snoc q)
  | _, q => .cons q .nil
theorem ds_snoc {ws ns : List Str} {n : Nat} {q : Sh} (hq : Dn ws ns n q) : ∀ {ps : Sh} {k : Nat}, Ds ws ns n k ps → Ds ws ns n (k + 1) (ps.snoc q)
  | .nil, k, h => by
    have e : k = 0 := h.cnt.symm
    subst e
    exact ⟨⟨rfl, hq.ok, rfl⟩, rfl, by show max q.deep 0 ≤ _; have := hq.deep; omega, by show q.sz + 0 ≤ _; have := hq.sz; omega, by show q.trees + 0 ≤ _; have := hq.tr; omega, by show q.wid + 0 ≤ _; have := hq.wid; omega, hq.nm, trivial⟩
  | .cons p ps, k, h => by
    have hk : ps.cnt + 1 = k := h.cnt
    have gen : ∀ {ps : Sh}, ps.ok true → (ps.snoc q).ok true ∧ (ps.snoc q).cnt = ps.cnt + 1 ∧ (ps.snoc q).deep = max ps.deep q.deep ∧ (ps.snoc q).sz = ps.sz + q.sz ∧ (ps.snoc q).trees = ps.trees + q.trees ∧ (ps.snoc q).wid = ps.wid + q.wid ∧ ((ps.all fun w x => (∀ y, w = some y → y ∈ ws) ∧ x ∈ ns) → (ps.snoc q).all fun w x => (∀ y, w = some y → y ∈ ws) ∧ x ∈ ns) := by
      intro ps
      induction ps with
      | nil =>
        intro _
        refine ⟨⟨rfl, hq.ok, rfl⟩, rfl, ?_, ?_, ?_, ?_, fun _ => ⟨hq.nm, trivial⟩⟩
        · show max q.deep 0 = max 0 q.deep
          omega
        · show q.sz + 0 = 0 + q.sz
          omega
        · show q.trees + 0 = 0 + q.trees
          omega
        · show q.wid + 0 = 0 + q.wid
          omega
      | cons p ps _ ih =>
        intro ok
        obtain ⟨i1, i2, i3, i4, i5, i6, i7⟩ := ih ok.2.2
        refine ⟨⟨rfl, ok.2.1, i1⟩, congrArg (· + 1) i2, ?_, ?_, ?_, ?_, fun hh => ⟨hh.1, i7 hh.2⟩⟩
        · show max p.deep (ps.snoc q).deep = max (max p.deep ps.deep) q.deep
          omega
        · show p.sz + (ps.snoc q).sz = p.sz + ps.sz + q.sz
          omega
        · show p.trees + (ps.snoc q).trees = p.trees + ps.trees + q.trees
          omega
        · show p.wid + (ps.snoc q).wid = p.wid + ps.wid + q.wid
          omega
      | _ => intro ok; simp [Sh.ok] at ok
    obtain ⟨i1, i2, i3, i4, i5, i6, i7⟩ := gen h.ok
    have a1 := hq.deep
    have a2 := hq.sz
    have a3 := hq.tr
    have a4 := hq.wid
    have b1 := h.deep
    have b2 := h.sz
    have b3 := h.tr
    have b4 := h.wid
    refine ⟨i1, by rw [i2, h.cnt], by rw [i3]; omega, by rw [i4, Nat.add_mul]; omega, by rw [i5, Nat.add_mul]; omega, by rw [i6, Nat.add_mul]; omega, i7 h.nm⟩
  | .nothing, k, h => by cases h.ok
  | .tree _ _, k, h => by cases h.ok
  | .many _, k, h => by cases h.ok.1
  | .some _, k, h => by cases h.ok.1
  | .maybe _, k, h => by cases h.ok.1
  | .chain _, k, h => by cases h.ok.1
  | .either _, k, h => by cases h.ok.1
theorem tat_snoc {H : Hp} {q : Sh} {b : Addr} (hq : TAt H q [.ref b]) : ∀ {ps : Sh} {us : List V}, ps.ok true → TAt H ps us → TAt H (ps.snoc q) (us ++ [.ref b])
  | .nil, _, _, h => by
    rw [show _ = [] from h]
    exact ⟨b, [], rfl, hq, rfl⟩
  | .cons p ps, _, ok, ⟨c, us, e, h1, h2⟩ => by
    subst e
    exact ⟨c, _, rfl, h1, tat_snoc hq ok.2.2 h2⟩
theorem rd_or {t u : TT} {σ : L2.St} {H : Hp} {Q : Bool → Hp → Prop} {b1 b2 : Bool} (h1 : ∀ Q' : Bool → Hp → Prop, Q' b1 H → t σ H Q') (h2 : ∀ Q' : Bool → Hp → Prop, Q' b2 H → u σ H Q') (q : Q (b1 || b2) H) : tOr t u σ H Q := by
  refine h1 _ ?_
  cases b1 with
  | true => exact iteT q
  | false => exact iteF (h2 _ q)
theorem strAt {ws : List Str} {r : Int} (h0 : 0 ≤ r) (h : r < ((ws.length : Nat) : Int)) : ∃ x, atI (ws.map V.str) r = some (.str x) ∧ x ∈ ws := by
  have e : r = ((r.toNat : Nat) : Int) := by omega
  have hl : r.toNat < ws.length := by omega
  refine ⟨ws[r.toNat], ?_, List.getElem_mem hl⟩
  have z : atI (ws.map V.str) ((r.toNat : Nat) : Int) = some (.str ws[r.toNat]) := atI_nat (by rw [List.getElem?_map, List.getElem?_eq_getElem hl]; rfl)
  rw [← e] at z
  exact z
theorem optAt {ws : List Str} {r : Int} (h0 : 0 ≤ r) (h : r < ((ws.length : Nat) : Int) + 1) : ∃ wo : Option Str, atI (ws.map V.str ++ [.non]) r = some (wV wo) ∧ ∀ y, wo = some y → y ∈ ws := by
  have e : r = ((r.toNat : Nat) : Int) := by omega
  by_cases c : r.toNat < ws.length
  · refine ⟨some ws[r.toNat], ?_, fun y hy => by cases hy; exact List.getElem_mem c⟩
    have z : atI (ws.map V.str ++ [.non]) ((r.toNat : Nat) : Int) = some (.str ws[r.toNat]) := atI_nat (by rw [List.getElem?_append_left (by simpa using c), List.getElem?_map, List.getElem?_eq_getElem c]; rfl)
    rw [← e] at z
    exact z
  · refine ⟨none, ?_, fun y hy => by cases hy⟩
    have e2 : r.toNat = ws.length := by omega
    have z : atI (ws.map V.str ++ [.non]) ((r.toNat : Nat) : Int) = some .non := atI_nat (by rw [e2]; simp)
    rw [← e] at z
    exact z
section
variable {P : Program} {w : World} {K : PySem.W.Frag} {mg : Str → Option Value} {base : Heap}
theorem shape_step (T : Tx K mg) {n : Nat} (G2 : 0 < n → FO P w K mg base (n + 2) (ca K "_law_shape") pShape (spShape (n - 1))) : FO P w K mg base (n + 3) (ca K "_law_shape") pShape (spShape n) := by
  have G : FO P w K mg base (n + 2) (ca K "_law_shape") pShape (fun vs H Q E => 0 < n ∧ spShape (n - 1) vs H Q E) := by
    by_cases c : 0 < n
    · exact (G2 c).imp fun vs H Q E h => h.2
    · exact fo_none fun vs H Q E h => c h.1
  have N : FO P w K mg base (n + 2) (ca K "_law_next") pNext spNext := (ok_next T).mono (by omega)
  refine T.d_law_shape.ok0 scShape (fun vs H Q E h => ?_) (fun cdv A outer st H vs Q E hr h => ?_)
  · obtain ⟨d, wl, nl, ws, ns, rfl, _⟩ := h
    rfl
  · obtain ⟨d, wl, nl, ws, ns, rfl, hd, hwl, hnl, w0, w1, n0, nwd, nnd, hn5, q⟩ := h
    have nd := scShape.nd
    refine ⟨_, pss_cons (ps_set (i := 4) nd rfl (.inl rfl) (pe_call N hr rfl T.g_law_next T.d_law_next.kp (bd_law_next T) .nil pass0 (pa_cons (pv 0) (pa_cons pe_int pa_nil))))
      (pss_cons (ps_if (pt_cmpR op_eq (pv 4) pe_int (nomark _)) (pss_one (ps_ret (pe_tup (pa_cons pe_str pa_nil)))) pss_nil)
      (pss_cons (ps_if (PW.pt (pw_or (pt_cmpR op_eq (pv 3) pe_int (nomark _)) (pw_or1 (pt_cmpR op_lt (pv 4) pe_int (nomark _)))))
        (pss_one (ps_ret (pe_tup (pa_cons pe_str (pa_cons (pe_ix ix_list (pe_op op_cat (pv 1) (pe_lst (pa_cons pe_non pa_nil))) (pe_call N hr rfl T.g_law_next T.d_law_next.kp (bd_law_next T) .nil pass0 (pa_cons (pv 0) (pa_cons (pe_op op_add (pe_callB call_lenS (by rfl) T.b_len PySem.boot_len (pa_cons (pv 1) pa_nil)) pe_int) pa_nil))) (fun _ _ => rfl))
          (pa_cons (pe_ix ix_list (pv 2) (pe_call N hr rfl T.g_law_next T.d_law_next.kp (bd_law_next T) .nil pass0 (pa_cons (pv 0) (pa_cons (pe_callB call_lenS (by rfl) T.b_len PySem.boot_len (pa_cons (pv 2) pa_nil)) pa_nil))) (fun _ _ => rfl)) pa_nil)))))) pss_nil)
      (pss_cons (ps_if (pt_cmpR op_gt (pv 4) pe_int (nomark _))
        (pss_one (ps_ret (pe_tup (pa_cons (pe_ix ix_list (pe_lst (pa_cons pe_str (pa_cons pe_str (pa_cons pe_str pa_nil)))) (pe_op op_sub (pv 4) pe_int) (fun _ _ => rfl)) (pa_cons (pe_call G hr rfl T.g_law_shape T.d_law_shape.kp (bd_law_shape T) .nil pass0 (pa_cons (pv 0) (pa_cons (pv 1) (pa_cons (pv 2) (pa_cons (pe_op op_sub (pv 3) pe_int) pa_nil))))) pa_nil))))) pss_nil)
      (pss_cons (ps_setLc (i := 5) (own := [("_law_k", 6)]) (g := gName 6) (tt := tYes) (te := tCall (fun vs H Q E => 0 < n ∧ spShape (n - 1) vs H Q E) [] E0 (tCons (tVar 0) (tCons (tVar 1) (tCons (tVar 2) (tCons (tOp (rI0 fun i j => .int (i - j)) (tVar 3) (tC (.int 1))) tNil))))) rfl nd rfl rfl (by rfl)
          (pi_range1 (by rfl) T.b_range (pa_cons (pe_op op_add pe_int (pe_op op_fdiv (pe_call N hr rfl T.g_law_next T.d_law_next.kp (bd_law_next T) .nil pass0 (pa_cons (pv 0) (pa_cons pe_int pa_nil))) pe_int)) pa_nil)) (blkOk_by (N := nShape) (sc := defScope sShape) (by decide +kernel))
          (fun _ _ _ _ _ => pg_name (i := 6) nd rfl (.inl rfl) (.inr rfl)) (fun _ _ _ _ _ => pts_nil) (fun _ _ _ _ _ => pe_call G hr rfl T.g_law_shape T.d_law_shape.kp (bd_law_shape T) .nil pass0 (pa_cons (pv 0) (pa_cons (pv 1) (pa_cons (pv 2) (pa_cons (pe_op op_sub (pv 3) pe_int) pa_nil))))))
      (pss_one (ps_ret (pe_tup (pa_cons (pe_ix ix_list (pe_lst (pa_cons pe_str (pa_cons pe_str pa_nil))) (pe_op op_mod (pv 4) pe_int) (fun _ _ => rfl)) (pa_cons (pe_tupleOf (by rfl) T.b_tuple (pv 5)) pa_nil))))))))), ?_⟩
    refine ⟨_, rfl, d, 12, rfl, hd, by decide, fun kd H1 k0 k1 E1 D1 _ => ?_⟩
    have hwl1 := Ext.lst E1 nwd hwl
    have hnl1 := Ext.lst E1 nnd hnl
    refine ⟨_, rfl, rfl, _, rfl, ?_⟩
    refine ite2 (fun _ => ?_) (fun _ => ?_)
    · refine ⟨(by show 1 ≤ sizeLine; decide), fun p hp => ?_⟩
      have S := same_new hp (.tup [.str "nothing"])
      exact q p .nothing _ (E1.trans (Ext.of_same S)) (D1.same S) ⟨p, rfl, upd_same⟩ ⟨rfl, Nat.le_add_left _ _, bz_pos n, Nat.zero_le _, Nat.zero_le _, trivial⟩
    dsimp only [tNext, tSeq, tIfS]
    refine rd_or (b1 := decide (V.int (n : Int) = V.int 0)) (b2 := decide (kd < 5)) (fun Q' q' => ⟨_, rfl, rfl, _, rfl, q'⟩) (fun Q' q' => ⟨_, rfl, _, _, rfl, rfl, _, rfl, q'⟩) ?_
    refine ite2 (fun _ => ?_) (fun cc => ?_)
    · refine ⟨_, rfl, (by show 1 ≤ sizeLine; decide), fun g hg => ?_⟩
      have S2 := same_new hg (.lst [.non])
      have hg2 : (upd H1 g (.lst [.non])) g = some (.lst [.non]) := upd_same
      have D2 := D1.same S2
      have E2 : Ext [d] H (upd H1 g (.lst [.non])) := E1.trans (Ext.of_same S2)
      generalize upd H1 g (.lst [.non]) = H2 at S2 hg2 D2 E2
      refine ⟨wl, g, _, _, rfl, rfl, S2 _ _ hwl1, hg2, ?_, fun cl hcl => ?_⟩
      · rw [List.length_map]
        exact Nat.le_of_lt (sl5 (by simp; omega))
      have S3 := same_new hcl (.lst (ws.map V.str ++ [.non]))
      have hcl3 : (upd H2 cl (.lst (ws.map V.str ++ [.non]))) cl = some (.lst (ws.map V.str ++ [.non])) := upd_same
      have ncl : cl ≠ d := fun z => by
        obtain ⟨c, m, e⟩ := D2
        rw [z, e] at hcl
        cases hcl
      have D3 := D2.same S3
      have E3 : Ext [d] H (upd H2 cl (.lst (ws.map V.str ++ [.non]))) := E2.trans (Ext.of_same S3)
      generalize upd H2 cl (.lst (ws.map V.str ++ [.non])) = H3 at S3 hcl3 D3 E3
      refine ⟨_, rfl, _, rfl, wl, _, rfl, .inl (SqL.of (Ext.lst E3 nwd hwl)), _, _, rfl, rfl, d, _, rfl, D3, ?_, fun r1 H4 a0 a1 E4 D4 _ => ?_⟩
      · rw [List.length_map]
        show (0 : Int) < ((ws.length : Nat) : Int) + 1
        omega
      rw [List.length_map] at a1
      obtain ⟨wo, hwo, hwm⟩ := optAt (ws := ws) a0 a1
      have E34 := E3.trans E4
      refine ⟨cl, _, r1, _, rfl, rfl, SqL.of (Ext.lst E4 ncl hcl3), hwo, ?_⟩
      refine ⟨_, rfl, _, rfl, _, rfl, nl, _, rfl, .inl (SqL.of (Ext.lst E34 nnd hnl)), d, _, rfl, D4, ?_, fun r2 H5 c0 c1 E5 D5 _ => ?_⟩
      · rw [List.length_map]
        show (0 : Int) < ((ns.length : Nat) : Int)
        omega
      rw [List.length_map] at c1
      obtain ⟨x, hx, hxm⟩ := strAt (ws := ns) c0 c1
      have E35 := E34.trans E5
      refine ⟨nl, _, r2, _, rfl, rfl, SqL.of (Ext.lst E35 nnd hnl), hx, (by show 3 ≤ sizeLine; decide), fun p hp => ?_⟩
      have S6 := same_new hp (.tup [.str "tree", wV wo, .str x])
      exact q p (.tree wo x) _ (E35.trans (Ext.of_same S6)) (D5.same S6) ⟨p, rfl, upd_same⟩ ⟨rfl, Nat.le_add_left _ _, bz_pos n, three_pos n, three_pos n, fun y hy => hwm y hy, hxm⟩
    · have cn : ¬ n = 0 ∧ ¬ kd < 5 := by
        refine ⟨fun z => cc ?_, fun z => cc ?_⟩
        · rw [z]
          rfl
        · rw [decide_eq_true z, Bool.or_true]
      have npos : 0 < n := by omega
      have en : ((n : Int) - 1) = ((n - 1 : Nat) : Int) := by omega
      have en2 : ([V.ref d, V.ref wl, V.ref nl, V.int ((n : Int) - 1)] : List V) = [.ref d, .ref wl, .ref nl, .int ((n - 1 : Nat) : Int)] := by rw [en]
      have ebz : bz n = 3 * bz (n - 1) + 1 := by
        obtain ⟨m, rfl⟩ : ∃ m, n = m + 1 := ⟨n - 1, by omega⟩
        rfl
      have e3 : 3 ^ n = 3 ^ (n - 1) * 3 := by
        obtain ⟨m, rfl⟩ : ∃ m, n = m + 1 := ⟨n - 1, by omega⟩
        rfl
      have sign_dn : ∀ s, Dn ws ns (n - 1) s → Dn ws ns n (.many s) ∧ Dn ws ns n (.some s) ∧ Dn ws ns n (.maybe s) := fun s h => by
        obtain ⟨h1, h2, h3, h4, h5, h6⟩ := h
        refine ⟨⟨⟨rfl, h1⟩, ?_, ?_, ?_, ?_, h6⟩, ⟨⟨rfl, h1⟩, ?_, ?_, ?_, ?_, h6⟩, ⟨⟨rfl, h1⟩, ?_, ?_, ?_, ?_, h6⟩⟩ <;> simp only [Sh.deep, Sh.sz, Sh.trees, Sh.wid] <;> omega
      have parts_dn : ∀ ps k, Ds ws ns (n - 1) k ps → k = 2 ∨ k = 3 → Dn ws ns n (.chain ps) ∧ Dn ws ns n (.either ps) := fun ps k h hk => by
        obtain ⟨h1, h2, h3, h4, h5, h6, h7⟩ := h
        rcases hk with rfl | rfl
        · refine ⟨⟨⟨rfl, h1, by omega⟩, ?_, ?_, ?_, ?_, h7⟩, ⟨⟨rfl, h1, by omega⟩, ?_, ?_, ?_, ?_, h7⟩⟩ <;> simp only [Sh.deep, Sh.sz, Sh.trees, Sh.wid] <;> omega
        · refine ⟨⟨⟨rfl, h1, by omega⟩, ?_, ?_, ?_, ?_, h7⟩, ⟨⟨rfl, h1, by omega⟩, ?_, ?_, ?_, ?_, h7⟩⟩ <;> simp only [Sh.deep, Sh.sz, Sh.trees, Sh.wid] <;> omega
      refine ⟨_, rfl, _, _, rfl, rfl, _, rfl, ?_⟩
      refine ite2 (fun c8 => ?_) (fun c8 => ?_)
      · have l8 : (8 : Int) < kd := of_decide_eq_true c8
        have cs : kd = 9 ∨ kd = 10 ∨ kd = 11 := by omega
        rcases cs with rfl | rfl | rfl
        · refine ⟨(by show 3 ≤ sizeLine; decide), fun g hg => ?_⟩
          have Sg := same_new hg (.lst [.str "many", .str "some", .str "maybe"])
          have eg : (upd H1 g (.lst [.str "many", .str "some", .str "maybe"])) g = some (.lst [.str "many", .str "some", .str "maybe"]) := upd_same
          have Dg := D1.same Sg
          have Eg : Ext [d] H (upd H1 g (.lst [.str "many", .str "some", .str "maybe"])) := E1.trans (Ext.of_same Sg)
          generalize upd H1 g (.lst [.str "many", .str "some", .str "maybe"]) = Hg at Sg eg Dg Eg
          refine ⟨_, rfl, _, _, rfl, rfl, g, _, _, .str "many", rfl, rfl, SqL.of eg, atI_nat (j := 0) rfl, ?_⟩
          refine ⟨_, rfl, _, rfl, _, rfl, _, rfl, _, _, rfl, rfl, npos, d, wl, nl, ws, ns, en2, Dg, Ext.lst Eg nwd hwl, Ext.lst Eg nnd hnl, w0, w1, n0, nwd, nnd, by omega, fun b s H4 E4 D4 hT hDn => ⟨(by show 2 ≤ sizeLine; decide), fun p hp => ?_⟩⟩
          have S5 := same_new hp (.tup [.str "many", .ref b])
          exact q p (.many s) _ (Eg.trans (E4.trans (Ext.of_same S5))) (D4.same S5) ⟨p, b, rfl, upd_same, hT.imm (Same.imm S5)⟩ (sign_dn s hDn).1
        · refine ⟨(by show 3 ≤ sizeLine; decide), fun g hg => ?_⟩
          have Sg := same_new hg (.lst [.str "many", .str "some", .str "maybe"])
          have eg : (upd H1 g (.lst [.str "many", .str "some", .str "maybe"])) g = some (.lst [.str "many", .str "some", .str "maybe"]) := upd_same
          have Dg := D1.same Sg
          have Eg : Ext [d] H (upd H1 g (.lst [.str "many", .str "some", .str "maybe"])) := E1.trans (Ext.of_same Sg)
          generalize upd H1 g (.lst [.str "many", .str "some", .str "maybe"]) = Hg at Sg eg Dg Eg
          refine ⟨_, rfl, _, _, rfl, rfl, g, _, _, .str "some", rfl, rfl, SqL.of eg, atI_nat (j := 1) rfl, ?_⟩
          refine ⟨_, rfl, _, rfl, _, rfl, _, rfl, _, _, rfl, rfl, npos, d, wl, nl, ws, ns, en2, Dg, Ext.lst Eg nwd hwl, Ext.lst Eg nnd hnl, w0, w1, n0, nwd, nnd, by omega, fun b s H4 E4 D4 hT hDn => ⟨(by show 2 ≤ sizeLine; decide), fun p hp => ?_⟩⟩
          have S5 := same_new hp (.tup [.str "some", .ref b])
          exact q p (.some s) _ (Eg.trans (E4.trans (Ext.of_same S5))) (D4.same S5) ⟨p, b, rfl, upd_same, hT.imm (Same.imm S5)⟩ (sign_dn s hDn).2.1
        · refine ⟨(by show 3 ≤ sizeLine; decide), fun g hg => ?_⟩
          have Sg := same_new hg (.lst [.str "many", .str "some", .str "maybe"])
          have eg : (upd H1 g (.lst [.str "many", .str "some", .str "maybe"])) g = some (.lst [.str "many", .str "some", .str "maybe"]) := upd_same
          have Dg := D1.same Sg
          have Eg : Ext [d] H (upd H1 g (.lst [.str "many", .str "some", .str "maybe"])) := E1.trans (Ext.of_same Sg)
          generalize upd H1 g (.lst [.str "many", .str "some", .str "maybe"]) = Hg at Sg eg Dg Eg
          refine ⟨_, rfl, _, _, rfl, rfl, g, _, _, .str "maybe", rfl, rfl, SqL.of eg, atI_nat (j := 2) rfl, ?_⟩
          refine ⟨_, rfl, _, rfl, _, rfl, _, rfl, _, _, rfl, rfl, npos, d, wl, nl, ws, ns, en2, Dg, Ext.lst Eg nwd hwl, Ext.lst Eg nnd hnl, w0, w1, n0, nwd, nnd, by omega, fun b s H4 E4 D4 hT hDn => ⟨(by show 2 ≤ sizeLine; decide), fun p hp => ?_⟩⟩
          have S5 := same_new hp (.tup [.str "maybe", .ref b])
          exact q p (.maybe s) _ (Eg.trans (E4.trans (Ext.of_same S5))) (D4.same S5) ⟨p, b, rfl, upd_same, hT.imm (Same.imm S5)⟩ (sign_dn s hDn).2.2
      · have l8 : ¬ (8 : Int) < kd := fun z => c8 (decide_eq_true z)
        refine ⟨_, rfl, d, 4, rfl, D1, by decide, fun r H2 a0 a1 E2 D2 _ => ?_⟩
        refine ⟨_, _, rfl, rfl, ⟨by decide, by decide⟩, _, _, rfl, rfl, _, rfl, (by show -(2 ^ 62) ≤ 2 + r / 3; omega), (by show 2 + r / 3 < 2 ^ 62; omega), fun L hL => ?_⟩
        have E12 := E1.trans E2
        have nL : L ≠ d := fun z => by
          obtain ⟨c, m, e⟩ := D2
          rw [z, e] at hL
          cases hL
        have hLH : H L = none := by
          cases e : H L with
          | none => rfl
          | some o =>
            rw [Ext.lst E12 nL e] at hL
            cases hL
        refine lc_range (lo := 0) (n := (2 + r / 3).toNat) (fun k H6 => ∃ (ps : Sh) (acc : List V), Ext [d] H H6 ∧ DrawAt H6 d ∧ H6 L = some (.lst acc) ∧ TAt H6 ps acc ∧ Ds ws ns (n - 1) k ps) ⟨.nil, [], E12.trans (Ext.of_same (same_new hL _)), D2.upd nL.symm, upd_same, rfl, ⟨rfl, rfl, Nat.zero_le _, Nat.zero_le _, Nat.zero_le _, Nat.zero_le _, trivial⟩⟩ ?_ ?_
        · rintro k H6 hk ⟨ps, acc, E6, D6, hA, hR, hDs⟩
          refine ⟨rfl, ?_⟩
          dsimp only [tYes]
          rw [if_pos rfl]
          refine ⟨_, rfl, _, rfl, _, rfl, _, rfl, _, _, rfl, rfl, npos, d, wl, nl, ws, ns, en2, D6, Ext.lst E6 nwd hwl, Ext.lst E6 nnd hnl, w0, w1, n0, nwd, nnd, by omega, fun b s H7 E7 D7 hT hDn => ?_⟩
          have hA7 := Ext.lst E7 nL hA
          have im7 := (Dr.imm D6 E7).trans (imm_lst hA7 (.lst (acc ++ [.ref b])))
          refine ⟨acc, hA7, ?_, ps.snoc s, acc ++ [.ref b], fun u o hu nu => ?_, D7.upd nL.symm, upd_same, tat_snoc (hT.imm (imm_lst hA7 _)) hDs.ok (hR.imm im7), ds_snoc hDn hDs⟩
          · rw [TAt.len hDs.ok hR, hDs.cnt]
            exact sl5 (by omega)
          · rw [upd_ne (ne_of_none hu hLH)]
            exact (E6.trans E7) u o hu nu
        rintro H3 ⟨ps, acc, E3, D3, hA, hR, hDs⟩
        have hm : (2 + r / 3).toNat = 2 ∨ (2 + r / 3).toNat = 3 := by omega
        generalize (2 + r / 3).toNat = m at hDs hm
        have c2 : kd % 2 = 0 ∨ kd % 2 = 1 := by omega
        rcases c2 with c2 | c2
        · refine ⟨(by show 2 ≤ sizeLine; decide), fun g hg => ?_⟩
          have Sg := same_new hg (.lst [.str "chain", .str "either"])
          have eg : (upd H3 g (.lst [.str "chain", .str "either"])) g = some (.lst [.str "chain", .str "either"]) := upd_same
          have hAg := Sg _ _ hA
          have hRg := hR.imm (Same.imm Sg)
          have Dg := D3.same Sg
          have Eg : Ext [d] H (upd H3 g (.lst [.str "chain", .str "either"])) := E3.trans (Ext.of_same Sg)
          generalize upd H3 g (.lst [.str "chain", .str "either"]) = Hg at Sg eg Dg Eg hAg hRg
          refine ⟨_, rfl, _, _, rfl, rfl, (by show (0 : Int) < 2; decide), g, _, _, .str "chain", rfl, rfl, SqL.of eg, by rw [show kd % 2 = (0 : Int) by omega]; exact atI_nat (j := 0) rfl, ?_⟩
          refine ⟨_, rfl, .inl ⟨L, acc, rfl, SqL.of hAg, fun t ht => ⟨(by show 2 ≤ sizeLine; decide), fun p hp => ?_⟩⟩⟩
          have S4 := same_new ht (.tup acc)
          have S5 := same_new hp (.tup [.str "chain", .ref t])
          have S45 := S4.trans S5
          exact q p (.chain ps) _ (Eg.trans (Ext.of_same S45)) (Dg.same S45) ⟨p, t, acc, rfl, upd_same, S5 _ _ upd_same, hRg.imm (Same.imm S45)⟩ (parts_dn ps m hDs hm).1
        · refine ⟨(by show 2 ≤ sizeLine; decide), fun g hg => ?_⟩
          have Sg := same_new hg (.lst [.str "chain", .str "either"])
          have eg : (upd H3 g (.lst [.str "chain", .str "either"])) g = some (.lst [.str "chain", .str "either"]) := upd_same
          have hAg := Sg _ _ hA
          have hRg := hR.imm (Same.imm Sg)
          have Dg := D3.same Sg
          have Eg : Ext [d] H (upd H3 g (.lst [.str "chain", .str "either"])) := E3.trans (Ext.of_same Sg)
          generalize upd H3 g (.lst [.str "chain", .str "either"]) = Hg at Sg eg Dg Eg hAg hRg
          refine ⟨_, rfl, _, _, rfl, rfl, (by show (0 : Int) < 2; decide), g, _, _, .str "either", rfl, rfl, SqL.of eg, by rw [show kd % 2 = (1 : Int) by omega]; exact atI_nat (j := 1) rfl, ?_⟩
          refine ⟨_, rfl, .inl ⟨L, acc, rfl, SqL.of hAg, fun t ht => ⟨(by show 2 ≤ sizeLine; decide), fun p hp => ?_⟩⟩⟩
          have S4 := same_new ht (.tup acc)
          have S5 := same_new hp (.tup [.str "either", .ref t])
          have S45 := S4.trans S5
          exact q p (.either ps) _ (Eg.trans (Ext.of_same S45)) (Dg.same S45) ⟨p, t, acc, rfl, upd_same, S5 _ _ upd_same, hRg.imm (Same.imm S45)⟩ (parts_dn ps m hDs hm).2
theorem ok_shape (T : Tx K mg) : ∀ n : Nat, FO P w K mg base (n + 3) (ca K "_law_shape") pShape (spShape n)
  | 0 => shape_step T fun h => absurd h (Nat.lt_irrefl _)
  | n + 1 => shape_step T fun _ => ok_shape T n
end
end K17
end PartK17I1
section PartK17I2
set_option Elab.async false
set_option linter.all false
set_option maxRecDepth 100000
set_option maxHeartbeats 4000000
/-! The law's rules. -/
namespace K17
open PySem PySem.Spec PyProof.Rows L2
theorem okl_snoc : ∀ {rs : List Rl} {ah : List Str} {r : Rl}, Okl ah rs → ¬ r.name ∈ ah → ¬ r.name ∈ nms rs → (∀ x ∈ r.leans, x ∈ ah ∨ x ∈ nms rs) → Okl ah (rs ++ [r])
  | [], ah, r, _, h1, _, h3 => ⟨h1, fun x hx => (h3 x hx).elim id fun z => (by cases z), trivial⟩
  | r0 :: rs, ah, r, h, h1, h2, h3 => by
    refine ⟨h.1, h.2.1, okl_snoc h.2.2 (fun z => ?_) (fun z => h2 (List.mem_cons_of_mem _ z)) fun x hx => ?_⟩
    · rcases List.mem_cons.mp z with z | z
      · exact h2 (by rw [z]; exact List.mem_cons_self ..)
      · exact h1 z
    · rcases h3 x hx with z | z
      · exact .inl (List.mem_cons_of_mem _ z)
      · rcases List.mem_cons.mp z with z | z
        · exact .inl (by rw [z]; exact List.mem_cons_self ..)
        · exact .inr z
/-- rules that the law draws -/
structure Lr (ws : List Str) (many : Nat) (rs : List Rl) : Prop where
  len : rs.length = many
  ok : Okl [] rs
  nm : ∀ r ∈ rs, Nm r.name
  shp : ∀ r ∈ rs, r.shp (Dn ws (nms rs) 2)
  first : ∃ n s tl, rs = .shaped n s :: tl
def spRules : Sp := fun vs H Q _ => ∃ (d wl : Addr) (ws : List Str) (many : Nat), vs = [.ref d, .ref wl, .int (many : Int)] ∧ DrawAt H d ∧ H wl = some (.lst (ws.map V.str)) ∧ 0 < ws.length ∧ ws.length ≤ 100 ∧ wl ≠ d ∧ 0 < many ∧ many ≤ 4 ∧
  ∀ (p : Addr) (xs : List V) (rs : List Rl) (H' : Hp), Ext [d] H H' → DrawAt H' d → H p = none → H' p = some (.lst xs) → QsAt H' xs rs → Lr ws many rs → Q (.ref p) H'
section
variable {P : Program} {w : World} {K : PySem.W.Frag} {mg : Str → Option Value} {base : Heap}
theorem ok_rules (T : Tx K mg) : FO P w K mg base 6 (ca K "_law_rules") pRules spRules := by
  have N : FO P w K mg base 5 (ca K "_law_next") pNext spNext := (ok_next T).mono (by decide)
  have GN : FO P w K mg base 5 (ca K "_law_names") pNames spNames := (ok_names T).mono (by decide)
  have GS : FO P w K mg base 5 (ca K "_law_shape") pShape (spShape 2) := ok_shape T 2
  refine T.d_law_rules.ok0 scRules (fun vs H Q E h => ?_) (fun cdv A outer st H vs Q E hr h => ?_)
  · obtain ⟨d, wl, ws, many, rfl, _⟩ := h
    rfl
  · obtain ⟨d, wl, ws, many, rfl, hd, hwl, w0, w1, nwd, m0, m4, q⟩ := h
    have nd := scRules.nd
    refine ⟨_, pss_cons (ps_set (i := 3) nd rfl (.inl rfl) (pe_call GN hr rfl T.g_law_names T.d_law_names.kp (bd_law_names T) .nil pass0 (pa_cons (pv 0) (pa_cons (pv 2) pa_nil))))
      (pss_cons (ps_set (i := 4) nd rfl (.inl rfl) (pe_lst pa_nil))
      (pss_cons (ps_for PassesOwn.never rfl (pi_range1 (by rfl) T.b_range (pa_cons (pv 2) pa_nil)) (pg_name (i := 5) nd rfl (.inl rfl))
        (pss_cons (ps_set (i := 6) nd rfl (.inl rfl) (pe_call N hr rfl T.g_law_next T.d_law_next.kp (bd_law_next T) .nil pass0 (pa_cons (pv 0) (pa_cons pe_int pa_nil))))
        (pss_one (ps_if (PW.pt (pw_or (pt_cmpR op_eq (pv 5) pe_int (nomark _)) (pw_or1 (pt_cmpR op_lt (pv 6) pe_int (nomark _)))))
          (pss_one (ps_expr (pe_bm PySem.F.plainAttrs_list PySem.F.slot_list_append PySem.F.type_list_append mt_append (pv 4) (pa_cons (pe_tup (pa_cons pe_str (pa_cons (pe_ix ix_list (pv 3) (pv 5) (fun _ _ => rfl)) (pa_cons (pe_call GS hr rfl T.g_law_shape T.d_law_shape.kp (bd_law_shape T) .nil pass0 (pa_cons (pv 0) (pa_cons (pv 1) (pa_cons (pv 3) (pa_cons pe_int pa_nil))))) pa_nil)))) pa_nil))))
          (pss_one (ps_if (pt_cmpR op_eq (pv 6) pe_int (nomark _))
            (pss_one (ps_expr (pe_bm PySem.F.plainAttrs_list PySem.F.slot_list_append PySem.F.type_list_append mt_append (pv 4) (pa_cons (pe_tup (pa_cons pe_str (pa_cons (pe_ix ix_list (pv 3) (pv 5) (fun _ _ => rfl)) (pa_cons (pe_ix ix_list (pv 3) (pe_call N hr rfl T.g_law_next T.d_law_next.kp (bd_law_next T) .nil pass0 (pa_cons (pv 0) (pa_cons (pv 5) pa_nil))) (fun _ _ => rfl)) pa_nil)))) pa_nil))))
            (pss_cons (ps_set (i := 7) nd rfl (.inl rfl) (pe_tup (pa_cons (pe_ix ix_list (pv 3) (pe_call N hr rfl T.g_law_next T.d_law_next.kp (bd_law_next T) .nil pass0 (pa_cons (pv 0) (pa_cons (pv 5) pa_nil))) (fun _ _ => rfl)) (pa_cons (pe_ix ix_list (pv 3) (pe_call N hr rfl T.g_law_next T.d_law_next.kp (bd_law_next T) .nil pass0 (pa_cons (pv 0) (pa_cons (pv 5) pa_nil))) (fun _ _ => rfl)) pa_nil))))
            (pss_one (ps_expr (pe_bm PySem.F.plainAttrs_list PySem.F.slot_list_append PySem.F.type_list_append mt_append (pv 4) (pa_cons (pe_op op_catA (pe_tup (pa_cons (pe_ix ix_list (pe_lst (pa_cons pe_str (pa_cons pe_str pa_nil))) (pe_op op_sub (pv 6) pe_int) (fun _ _ => rfl)) (pa_cons (pe_ix ix_list (pv 3) (pv 5) (fun _ _ => rfl)) pa_nil))) (pv 7)) pa_nil)))))))))))
      (pss_one (ps_ret (pv 4))))), ?_⟩
    refine ⟨_, rfl, _, rfl, d, many, rfl, hd, by omega, fun nl ns H1 E1 D1 fnl hnl hnlen hnnd hnnm => ?_⟩
    have nnd : nl ≠ d := fun z => by
      obtain ⟨c, m, e⟩ := hd
      rw [z, e] at fnl
      cases fnl
    refine ⟨Nat.zero_le _, fun ol hol => ?_⟩
    have nod : ol ≠ d := fun z => by
      obtain ⟨c, m, e⟩ := D1
      rw [z, e] at hol
      cases hol
    have nno : nl ≠ ol := fun z => by
      rw [← z, hnl] at hol
      cases hol
    have holH : H ol = none := by
      cases e : H ol with
      | none => rfl
      | some o =>
        rw [Ext.lst E1 nod e] at hol
        cases hol
    refine ⟨_, rfl, _, rfl, (by show -(2 ^ 62) ≤ (many : Int); omega), (by show (many : Int) < 2 ^ 62; omega), ?_⟩
    refine for_range (lo := 0) (n := ((many : Nat) : Int).toNat) (fun k σ H' => ∃ (v5 v6 v7 : Option V) (xs : List V) (rs : List Rl), σ = [some (.ref d), some (.ref wl), some (.int (many : Int)), some (.ref nl), some (.ref ol), v5, v6, v7] ∧ Ext [d] H H' ∧ DrawAt H' d ∧ H' nl = some (.lst (ns.map V.str)) ∧ H' ol = some (.lst xs) ∧ QsAt H' xs rs ∧
      rs.length = k ∧ nms rs = ns.take k ∧ Okl [] rs ∧ (∀ r ∈ rs, r.shp (Dn ws ns 2)) ∧ (0 < k → ∃ n s tl, rs = .shaped n s :: tl))
      ⟨none, none, none, [], [], rfl, E1.trans (Ext.of_same (same_new hol _)), D1.upd nod.symm, by rw [upd_ne nno]; exact hnl, upd_same, .nil, rfl, rfl, trivial, (fun r hr => by cases hr), fun h => absurd h (Nat.lt_irrefl _)⟩ ?_ ?_
    · rintro k σ H2 hk ⟨v5, v6, v7, xs, rs, rfl, E2, D2, hnl2, hol2, hQ, hlen, hnm, hok, hsh, hfi⟩
      have hkm : k < ns.length := by omega
      refine ⟨_, rfl, d, 8, rfl, D2, by decide, fun kd H3 k0 k1 E3 D3 _ => ?_⟩
      have E23 := E2.trans E3
      have hnl3 := Ext.lst E3 nnd hnl2
      have hol3 := Ext.lst E3 nod hol2
      have hQ3 := hQ.imm (Dr.imm D2 E3)
      have e0k : (0 : Int) + (k : Int) = ((k : Nat) : Int) := by omega
      have atk : atI (ns.map V.str) (0 + (k : Int)) = some (.str ns[k]) := by
        rw [e0k]
        exact atI_nat (by rw [List.getElem?_map, List.getElem?_eq_getElem hkm]; rfl)
      have new : ¬ ns[k] ∈ nms rs := by
        rw [hnm]
        intro z
        obtain ⟨i, hi, e⟩ := List.mem_iff_getElem.mp z
        rw [List.length_take] at hi
        rw [List.getElem_take] at e
        have := (List.getElem_inj hnnd).mp e
        omega
      -- a name ahead
      have ahead : ∀ r : Int, 0 ≤ r → r < 0 + (k : Int) → ∃ x, atI (ns.map V.str) r = some (.str x) ∧ x ∈ nms rs := fun r r0 r1 => by
        have e : r = ((r.toNat : Nat) : Int) := by omega
        have hl : r.toNat < ns.length := by omega
        refine ⟨ns[r.toNat], ?_, ?_⟩
        · have z : atI (ns.map V.str) ((r.toNat : Nat) : Int) = some (.str ns[r.toNat]) := atI_nat (by rw [List.getElem?_map, List.getElem?_eq_getElem hl]; rfl)
          rw [← e] at z
          exact z
        · rw [hnm]
          refine List.mem_iff_getElem.mpr ⟨r.toNat, by rw [List.length_take]; omega, List.getElem_take⟩
      have fin : ∀ (v5 v6 v7 : Option V) (u : Rl) (b : Addr) (H4 : Hp), Ext [d] H H4 → DrawAt H4 d → Imm H3 H4 → H4 nl = some (.lst (ns.map V.str)) → H4 ol = some (.lst xs) → QAt H4 (.ref b) u → u.name = ns[k] → (∀ x ∈ u.leans, x ∈ nms rs) → u.shp (Dn ws ns 2) → (k = 0 → ∃ n s, u = .shaped n s) →
          ∃ l' ys y, (V.ref ol) = .ref l' ∧ [V.ref b] = [y] ∧ H4 l' = some (.lst ys) ∧ ys.length < sizeLine ∧ (fun σ2 H' => ∃ (v5 v6 v7 : Option V) (xs : List V) (rs : List Rl), σ2 = [some (.ref d), some (.ref wl), some (.int (many : Int)), some (.ref nl), some (.ref ol), v5, v6, v7] ∧ Ext [d] H H' ∧ DrawAt H' d ∧ H' nl = some (.lst (ns.map V.str)) ∧ H' ol = some (.lst xs) ∧ QsAt H' xs rs ∧
            rs.length = k + 1 ∧ nms rs = ns.take (k + 1) ∧ Okl [] rs ∧ (∀ r ∈ rs, r.shp (Dn ws ns 2)) ∧ (0 < k + 1 → ∃ n s tl, rs = .shaped n s :: tl)) [some (.ref d), some (.ref wl), some (.int (many : Int)), some (.ref nl), some (.ref ol), v5, v6, v7] (upd H4 l' (.lst (ys ++ [y]))) := by
        intro v5 v6 v7 u b H4 E4 D4 im4 hnl4 hol4 hq hun hul hus hu0
        have im5 : Imm H4 (upd H4 ol (.lst (xs ++ [.ref b]))) := imm_lst hol4 _
        refine ⟨ol, xs, _, rfl, rfl, hol4, ?_, v5, v6, v7, xs ++ [.ref b], rs ++ [u], rfl, fun z o hz nz => ?_, D4.upd nod.symm, by rw [upd_ne nno]; exact hnl4, upd_same, QsAt.app (hQ3.imm (im4.trans im5)) (.cons (hq.imm im5) .nil), by rw [List.length_append, hlen]; rfl, ?_, okl_snoc hok (by simp) (by rw [hun]; exact new) (fun x hx => .inr (hul x hx)), fun r hr => ?_, fun _ => ?_⟩
        · rw [hQ.len]
          exact sl5 (by omega)
        · rw [upd_ne (ne_of_none hz holH)]
          exact E4 z o hz nz
        · rw [nms, List.map_append, List.take_add_one, List.getElem?_eq_getElem hkm]
          show nms rs ++ [u.name] = _
          rw [hnm, hun]
          rfl
        · rcases List.mem_append.mp hr with z | z
          · exact hsh r z
          · rw [List.mem_singleton.mp z]
            exact hus
        · by_cases c : k = 0
          · obtain ⟨n, s, e⟩ := hu0 c
            have er : rs = [] := List.length_eq_zero_iff.mp (by omega)
            exact ⟨n, s, [], by rw [er, e]; rfl⟩
          · obtain ⟨n, s, tl, e⟩ := hfi (by omega)
            exact ⟨n, s, tl ++ [u], by rw [e]; rfl⟩
      dsimp only [tSeq, tIfS, gName, tAsg]
      refine rd_or (b1 := decide (V.int (0 + (k : Int)) = V.int 0)) (b2 := decide (kd < 5)) (fun Q' q' => ⟨_, rfl, rfl, _, rfl, q'⟩) (fun Q' q' => ⟨_, rfl, _, _, rfl, rfl, _, rfl, q'⟩) ?_
      refine ite2 (fun _ => ?_) (fun cc => ?_)
      · refine ⟨_, rfl, .inl ⟨rfl, _, SqL.of hol3⟩, ?_⟩
        refine ⟨_, rfl, _, rfl, nl, _, _, _, rfl, rfl, SqL.of hnl3, atk, ?_⟩
        refine ⟨_, rfl, _, rfl, _, rfl, d, wl, nl, ws, ns, rfl, D3, Ext.lst E23 nwd hwl, hnl3, w0, w1, by omega, nwd, nnd, by decide, fun b s H4 E4 D4 hT hDn => ⟨(by show 3 ≤ sizeLine; decide), fun p hp => ?_⟩⟩
        have S5 := same_new hp (.tup [.str "shaped", .str ns[k], .ref b])
        exact fin _ _ _ (.shaped ns[k] s) p _ (E23.trans (E4.trans (Ext.of_same S5))) (D4.same S5) ((Dr.imm D3 E4).trans (Same.imm S5)) (S5 _ _ (Ext.lst E4 nnd hnl3)) (S5 _ _ (Ext.lst E4 nod hol3)) ⟨p, b, rfl, upd_same, hT.imm (Same.imm S5)⟩ rfl (fun x hx => by cases hx) hDn fun _ => ⟨_, _, rfl⟩
      · have ck : 0 < k := by
          refine Nat.pos_of_ne_zero fun z => cc ?_
          subst z
          rfl
        have c5 : ¬ kd < 5 := fun z => cc (by rw [decide_eq_true z, Bool.or_true])
        refine ⟨_, rfl, rfl, _, rfl, ?_⟩
        refine ite2 (fun c6 => ?_) (fun c6 => ?_)
        · refine ⟨_, rfl, .inl ⟨rfl, _, SqL.of hol3⟩, ?_⟩
          refine ⟨_, rfl, _, rfl, nl, _, _, _, rfl, rfl, SqL.of hnl3, atk, ?_⟩
          refine ⟨_, rfl, _, rfl, _, rfl, d, _, rfl, D3, by omega, fun r H4 r0 r1 E4 D4 _ => ?_⟩
          obtain ⟨x, hx, hxm⟩ := ahead r r0 r1
          refine ⟨nl, _, _, _, rfl, rfl, SqL.of (Ext.lst E4 nnd hnl3), hx, (by show 3 ≤ sizeLine; decide), fun p hp => ?_⟩
          have S5 := same_new hp (.tup [.str "turned", .str ns[k], .str x])
          exact fin _ _ _ (.turned ns[k] x) p _ (E23.trans (E4.trans (Ext.of_same S5))) (D4.same S5) ((Dr.imm D3 E4).trans (Same.imm S5)) (S5 _ _ (Ext.lst E4 nnd hnl3)) (S5 _ _ (Ext.lst E4 nod hol3)) ⟨p, rfl, upd_same⟩ rfl (fun y hy => by rw [List.mem_singleton.mp hy]; exact hxm) trivial fun z => absurd z (by omega)
        · have n5 : ¬ kd = 5 := fun z => c6 (by rw [z]; rfl)
          refine ⟨_, rfl, _, rfl, _, rfl, d, _, rfl, D3, by omega, fun r H4 r0 r1 E4 D4 _ => ?_⟩
          obtain ⟨x, hx, hxm⟩ := ahead r r0 r1
          refine ⟨nl, _, _, _, rfl, rfl, SqL.of (Ext.lst E4 nnd hnl3), hx, ?_⟩
          refine ⟨_, rfl, _, rfl, _, rfl, d, _, rfl, D4, by omega, fun r2 H5 r20 r21 E5 D5 _ => ?_⟩
          obtain ⟨y, hy, hym⟩ := ahead r2 r20 r21
          have E45 := E4.trans E5
          refine ⟨nl, _, _, _, rfl, rfl, SqL.of (Ext.lst E45 nnd hnl3), hy, (by show 2 ≤ sizeLine; decide), fun t ht => ?_⟩
          have S6 := same_new ht (.tup [.str x, .str y])
          have ht6 : (upd H5 t (.tup [.str x, .str y])) t = some (.tup [.str x, .str y]) := upd_same
          have E6 : Ext [d] H (upd H5 t (.tup [.str x, .str y])) := E23.trans (E45.trans (Ext.of_same S6))
          have D6 := D5.same S6
          have im6 : Imm H3 (upd H5 t (.tup [.str x, .str y])) := (Dr.imm D3 E45).trans (Same.imm S6)
          have hnl6 := S6 _ _ (Ext.lst E45 nnd hnl3)
          have hol6 := S6 _ _ (Ext.lst E45 nod hol3)
          generalize upd H5 t (.tup [.str x, .str y]) = H6 at S6 ht6 E6 D6 im6 hnl6 hol6
          refine ⟨_, rfl, .inl ⟨rfl, _, SqL.of hol6⟩, (by show 2 ≤ sizeLine; decide), fun g hg => ?_⟩
          have S7 := same_new hg (.lst [.str "both", .str "any"])
          have hg7 : (upd H6 g (.lst [.str "both", .str "any"])) g = some (.lst [.str "both", .str "any"]) := upd_same
          have E7 := E6.trans (Ext.of_same S7)
          have D7 := D6.same S7
          have im7 := im6.trans (Same.imm S7)
          have ht7 := S7 _ _ ht6
          have hnl7 := S7 _ _ hnl6
          have hol7 := S7 _ _ hol6
          generalize upd H6 g (.lst [.str "both", .str "any"]) = H7 at S7 hg7 E7 D7 im7 ht7 hnl7 hol7
          have c67 : kd = 6 ∨ kd = 7 := by omega
          rcases c67 with rfl | rfl
          · refine ⟨_, rfl, _, _, rfl, rfl, g, _, _, .str "both", rfl, rfl, SqL.of hg7, atI_nat (j := 0) rfl, ?_⟩
            refine ⟨_, rfl, _, rfl, nl, _, _, _, rfl, rfl, SqL.of hnl7, atk, (by show 2 ≤ sizeLine; decide), fun t2 ht2 => ?_⟩
            have S8 := same_new ht2 (.tup [.str "both", .str ns[k]])
            refine ⟨_, rfl, t2, t, _, _, rfl, rfl, SqT.of upd_same, SqT.of (S8 _ _ ht7), (by show 4 ≤ sizeLine; decide), fun z => (by cases z), fun _ z => (by cases z), fun _ _ p hp => ?_⟩
            have S9 := same_new hp (.tup ([.str "both", .str ns[k]] ++ [.str x, .str y]))
            have S89 := S8.trans S9
            exact fin _ _ _ (.both ns[k] x y) p _ (E7.trans (Ext.of_same S89)) (D7.same S89) (im7.trans (Same.imm S89)) (S89 _ _ hnl7) (S89 _ _ hol7) ⟨p, rfl, upd_same⟩ rfl (fun z hz => by
              rcases List.mem_cons.mp hz with z2 | z2
              · rw [z2]; exact hxm
              · rw [List.mem_singleton.mp z2]; exact hym) trivial fun z => absurd z (by omega)
          · refine ⟨_, rfl, _, _, rfl, rfl, g, _, _, .str "any", rfl, rfl, SqL.of hg7, atI_nat (j := 1) rfl, ?_⟩
            refine ⟨_, rfl, _, rfl, nl, _, _, _, rfl, rfl, SqL.of hnl7, atk, (by show 2 ≤ sizeLine; decide), fun t2 ht2 => ?_⟩
            have S8 := same_new ht2 (.tup [.str "any", .str ns[k]])
            refine ⟨_, rfl, t2, t, _, _, rfl, rfl, SqT.of upd_same, SqT.of (S8 _ _ ht7), (by show 4 ≤ sizeLine; decide), fun z => (by cases z), fun _ z => (by cases z), fun _ _ p hp => ?_⟩
            have S9 := same_new hp (.tup ([.str "any", .str ns[k]] ++ [.str x, .str y]))
            have S89 := S8.trans S9
            exact fin _ _ _ (.any ns[k] x y) p _ (E7.trans (Ext.of_same S89)) (D7.same S89) (im7.trans (Same.imm S89)) (S89 _ _ hnl7) (S89 _ _ hol7) ⟨p, rfl, upd_same⟩ rfl (fun z hz => by
              rcases List.mem_cons.mp hz with z2 | z2
              · rw [z2]; exact hxm
              · rw [List.mem_singleton.mp z2]; exact hym) trivial fun z => absurd z (by omega)
    · rintro σ H2 ⟨v5, v6, v7, xs, rs, rfl, E2, D2, hnl2, hol2, hQ, hlen, hnm, hok, hsh, hfi⟩
      have hl : rs.length = many := by omega
      have hk : ns.take ((many : Nat) : Int).toNat = ns := List.take_of_length_le (by omega)
      rw [hk] at hnm
      refine ⟨_, rfl, q ol xs rs H2 E2 D2 holH hol2 hQ ⟨hl, hok, fun r hr => ?_, fun r hr => ?_, hfi (by omega)⟩⟩
      · exact hnnm _ (by rw [← hnm]; exact List.mem_map.mpr ⟨r, hr, rfl⟩)
      · rw [hnm]
        exact hsh r hr
end
end K17
end PartK17I2
section PartK17I3
set_option Elab.async false
set_option linter.all false
set_option maxRecDepth 100000
set_option maxHeartbeats 4000000
/-! The law's rows of a rule: what they promise. -/
namespace K17
open PySem PySem.Spec PyProof.Rows L2
def zz : Nat → Nat
  | 0 => 0
  | n + 1 => 9 * (1 + zz n)
/-- a row that the law makes -/
structure RwL (D k : Nat) (r : Row) : Prop where
  w : WRow r
  len : r.len ≤ k
  sz : r.size ≤ k * (1 + zz D)
  dep : r.depth ≤ D + 1
  thin : r.thin
theorem RwL.nil {D k : Nat} : RwL D k .nil := ⟨trivial, Nat.zero_le _, Nat.zero_le _, Nat.zero_le _, trivial⟩
theorem RwL.mono {D k m : Nat} {r : Row} (h : RwL D k r) (l : k ≤ m) : RwL D m r := ⟨h.w, Nat.le_trans h.len l, Nat.le_trans h.sz (Nat.mul_le_mul_right _ l), h.dep, h.thin⟩
theorem app_thin : ∀ {r s : Row}, r.thin → s.thin → (r.app s).thin
  | .nil, s, _, h => h
  | .cons w i r, s, h, g => ⟨h.1, h.2.1, app_thin h.2.2 g⟩
theorem RwL.app {D k m : Nat} {r s : Row} (h : RwL D k r) (g : RwL D m s) : RwL D (k + m) (r.app s) := by
  have h1 := h.len
  have h2 := h.sz
  have h3 := h.dep
  have g1 := g.len
  have g2 := g.sz
  have g3 := g.dep
  refine ⟨wrow_app h.w g.w, by rw [app_rlen]; omega, by rw [app_size, Nat.add_mul]; omega, by rw [app_depth]; omega, app_thin h.thin g.thin⟩
theorem RwL.leaf {D : Nat} {w : Str} (hw : Wd w) : RwL D 1 (.cons w .nil .nil) := by
  refine ⟨⟨hw, trivial, trivial⟩, Nat.le_refl _, ?_, ?_, ⟨Nat.zero_le _, trivial, trivial⟩⟩
  · show 0 + 0 + 1 ≤ 1 * (1 + zz D)
    omega
  · show max (0 + 1) 0 ≤ D + 1
    omega
theorem RwL.tree {D : Nat} {w : Str} {i : Row} (hw : Wd w) (h : RwL D 9 i) : RwL (D + 1) 1 (.cons w i .nil) := by
  have h1 := h.len
  have h2 := h.sz
  have h3 := h.dep
  refine ⟨⟨hw, h.w, trivial⟩, Nat.le_refl _, ?_, ?_, ⟨by omega, h.thin, trivial⟩⟩
  · show i.size + 0 + 1 ≤ 1 * (1 + 9 * (1 + zz D))
    omega
  · show max (i.depth + 1) 0 ≤ D + 1 + 1
    omega
theorem wid_take {s : Sh} : ∀ {k : Nat} {p : Sh}, s.part k = Option.some p → (s.takeP (k + 1)).wid = (s.takeP k).wid + p.wid := by
  induction s with
  | cons p ps _ ih =>
    intro k p' h
    cases k with
    | zero =>
      cases h
      have e : ps.takeP 0 = .nil := by cases ps <;> rfl
      show p.wid + (ps.takeP 0).wid = 0 + p.wid
      rw [e]
      show p.wid + 0 = _
      omega
    | succ k =>
      show p.wid + (ps.takeP (k + 1)).wid = (p.wid + (ps.takeP k).wid) + p'.wid
      rw [ih h]
      omega
  | _ => intro k p h; cases k <;> cases h
theorem part_wid {s : Sh} : ∀ {k : Nat} {p : Sh}, s.part k = Option.some p → p.wid ≤ s.wid := by
  induction s with
  | cons p ps _ ih =>
    intro k p' h
    cases k with
    | zero =>
      cases h
      exact Nat.le_add_right _ _
    | succ k => exact Nat.le_trans (ih h) (Nat.le_add_left _ _)
  | _ => intro k p h; cases k <;> cases h
theorem rd_cat {K : PySem.W.Frag} {H : Hp} {Q : VK} {a b : Addr} {r s : Row} (ha : RowAt H r a) (hb : RowAt H s b) (hl : r.len + s.len ≤ 100000) (q : ∀ c H', Same H H' → RowAt H' (r.app s) c → Q (.ref c) H') : rCatA K (.ref a) (.ref b) H Q := by
  obtain ⟨us, h1, h2⟩ := ha
  obtain ⟨vs, g1, g2⟩ := hb
  refine ⟨a, b, us, vs, rfl, rfl, SqT.of h1, SqT.of g1, ?_, fun z => ?_, fun _ z => ?_, fun _ _ p hp => ?_⟩
  · rw [h2.len, g2.len]
    exact Nat.le_of_lt (sl5 hl)
  · refine q b H (fun _ _ e => e) ⟨vs, g1, ?_⟩
    have x := RAt.app h2 g2
    rw [z] at x
    exact x
  · refine q a H (fun _ _ e => e) ⟨us, h1, ?_⟩
    have x := RAt.app h2 g2
    rw [z, List.append_nil] at x
    exact x
  · have S := same_new hp (.tup (us ++ vs))
    exact q p _ S ⟨_, upd_same, (RAt.app h2 g2).imm (Same.imm S)⟩
/-- [one for one in rules if one[1] == x][0] -/
theorem rd_find {K : PySem.W.Frag} {σ : L2.St} {H : Hp} {Q : VK} {v : Nat} {rl : Addr} {xs : List V} {rs : List Rl} {x : Str} {tb : TE} {j : Nat} {u : Rl} (h1 : σ[1]? = some (some (.ref rl))) (hv : v < σ.length) (hrl : H rl = some (.lst xs)) (hQ : QsAt H xs rs) (hok : Okl [] rs) (hrn : rs.length ≤ 100) (hj : rs[j]? = some u) (hu : u.name = x)
    (htb : ∀ (y : V) (H6 : Hp) (Q' : VK), Same H H6 → Q' (.str x) H6 → tb ((σ.set v none).set v (some y)) H6 Q')
    (q : ∀ b H', Same H H' → QAt H' b u → Q b H') : tOp (rIxL K) (tLc (iList K (tVar 1)) (gName v) (tTest (tOp rEq (tOp (rIxT K) (tVar v) (tC (.int 1))) tb)) (tVar v) [v]) (tC (.int 0)) σ H Q := by
  refine ⟨_, h1, rl, rfl, ⟨_, SqL.of hrl⟩, fun D hD => ?_⟩
  obtain ⟨b, hbj⟩ : ∃ b, xs[j]? = some b := by
    have hl := (List.getElem?_eq_some_iff.mp hj).1
    exact ⟨_, List.getElem?_eq_getElem (by rw [hQ.len]; exact hl)⟩
  have hv2 : v < (σ.set v none).length := by rw [List.length_set]; exact hv
  refine lc_list (K := K) (a := rl) (xs := xs) (fun k H6 => Same H H6 ∧ H6 D = some (.lst (if j < k then [b] else []))) ⟨same_new hD _, upd_same⟩ (fun k H6 _ ⟨S, _⟩ => SqL.of (S _ _ hrl)) ?_ ?_
  · rintro k y H6 hy ⟨S6, hA⟩
    obtain ⟨r, hr, hqr⟩ := paired_get hQ hy
    obtain ⟨a, zs, rfl, ha⟩ := (hqr.imm (Same.imm S6)).head
    have ev : ((σ.set v none).set v (some (V.ref a)))[v]? = some (some (.ref a)) := List.getElem?_set_self hv2
    refine ⟨?_, ?_⟩
    · show ((σ.set v none).set v (some (V.ref a))).set v none = σ.set v none
      rw [List.set_set, List.set_set]
    refine ⟨_, ev, a, _, 1, .str r.name, rfl, rfl, SqT.of ha, atI_nat (j := 1) rfl, htb _ _ _ S6 ⟨rfl, _, rfl, ?_⟩⟩
    by_cases c : r.name = x
    · have ek : k = j := okl_uniq hok hr hj (by rw [c, hu])
      subst ek
      rw [hy] at hbj
      cases hbj
      rw [decide_eq_true (by rw [c])]
      refine iteT ⟨_, ev, _, hA, ?_, fun d o ho => ?_, ?_⟩
      · split <;> exact sl5 (by simp)
      · rw [upd_ne (ne_of_none ho hD)]
        exact S6 _ _ ho
      · rw [upd_same, if_neg (Nat.lt_irrefl _), if_pos (Nat.lt_succ_self _)]
        rfl
    · rw [decide_eq_false (fun z => c (by injection z))]
      have nk : k ≠ j := fun z => by
        subst z
        rw [hr] at hj
        cases hj
        exact c hu
      refine iteF ⟨S6, ?_⟩
      rw [hA]
      by_cases d : j < k
      · rw [if_pos d, if_pos (by omega)]
      · rw [if_neg d, if_neg (by omega)]
  · rintro H6 ⟨S6, hA⟩
    have hl := (List.getElem?_eq_some_iff.mp hbj).1
    rw [if_pos hl] at hA
    refine ⟨D, _, 0, b, rfl, rfl, SqL.of hA, atI_nat (j := 0) rfl, q b H6 S6 ?_⟩
    obtain ⟨r, hr, hqr⟩ := paired_get hQ hbj
    rw [hr] at hj
    cases hj
    exact hqr.imm (Same.imm S6)
def Wl (H : Hp) (d rl wl : Addr) (xs : List V) (ws : List Str) (rs : List Rl) : Prop := DrawAt H d ∧ H rl = some (.lst xs) ∧ QsAt H xs rs ∧ H wl = some (.lst (ws.map V.str)) ∧ rl ≠ d ∧ wl ≠ d ∧ Okl [] rs ∧ (∀ r ∈ rs, r.shp (Dn ws (nms rs) 2)) ∧ 0 < ws.length ∧ ws.length ≤ 100 ∧ (∀ x ∈ ws, Wd x) ∧ rs.length ≤ 4
theorem Wl.go {H H' : Hp} {d rl wl : Addr} {xs : List V} {ws : List Str} {rs : List Rl} (h : Wl H d rl wl xs ws rs) (E : Ext [d] H H') (D' : DrawAt H' d) : Wl H' d rl wl xs ws rs := by
  obtain ⟨h1, h2, h3, h4, h5, h6, h7⟩ := h
  exact ⟨D', Ext.lst E h5 h2, h3.imm (Dr.imm h1 E), Ext.lst E h6 h4, h5, h6, h7⟩
theorem Wl.same {H H' : Hp} {d rl wl : Addr} {xs : List V} {ws : List Str} {rs : List Rl} (h : Wl H d rl wl xs ws rs) (S : Same H H') : Wl H' d rl wl xs ws rs := h.go (Ext.of_same S) (h.1.same S)
def bl0 (D : Nat) : Nat := 3 + 9 * D
def spOS (D e : Nat) : Sp := fun vs H Q _ => ∃ (d rl wl b : Addr) (xs : List V) (ws : List Str) (rs : List Rl) (s : Sh), vs = [.ref d, .ref rl, .ref wl, .ref b, .int (D : Int)] ∧ Wl H d rl wl xs ws rs ∧ TAt H s [.ref b] ∧ s.ok false ∧ s.sz ≤ 1000 ∧ s.wid ≤ 1000 ∧ s.deep ≤ e ∧ (s.all fun w x => (∀ y, w = some y → y ∈ ws) ∧ x ∈ nms rs) ∧
  ∀ (a : Addr) (r : Row) (H' : Hp), Ext [d] H H' → DrawAt H' d → RowAt H' r a → RwL D s.wid r → Q (.ref a) H'
def spOR (D i : Nat) : Sp := fun vs H Q _ => ∃ (d rl wl : Addr) (v : V) (xs : List V) (ws : List Str) (rs : List Rl) (u : Rl) (j : Nat), vs = [.ref d, .ref rl, .ref wl, v, .int (D : Int)] ∧ Wl H d rl wl xs ws rs ∧ QAt H v u ∧ rs[j]? = some u ∧ j < i ∧
  ∀ (a : Addr) (r : Row) (H' : Hp), Ext [d] H H' → DrawAt H' d → RowAt H' r a → RwL D 9 r → Q (.ref a) H'
section
variable {P : Program} {w : World} {K : PySem.W.Frag} {mg : Str → Option Value} {base : Heap}
abbrev OSg (P : Program) (w : World) (K : PySem.W.Frag) (mg : Str → Option Value) (base : Heap) (D e : Nat) : Prop := FO P w K mg base (bl0 D + e) (ca K "_law_of_shape") pOfShape (spOS D e)
abbrev ORg (P : Program) (w : World) (K : PySem.W.Frag) (mg : Str → Option Value) (base : Heap) (D i : Nat) : Prop := FO P w K mg base (bl0 D + 4 + i) (ca K "_law_of_rule") pOfRule (spOR D i)
theorem or_step (T : Tx K mg) {D i : Nat} (GS : OSg P w K mg base D 3) (GR : ORg P w K mg base D i) : ORg P w K mg base D (i + 1) := by
  show FO P w K mg base ((bl0 D + 4 + i) + 1) _ _ _
  have N : FO P w K mg base (bl0 D + 4 + i) (ca K "_law_next") pNext spNext := (ok_next T).mono (by unfold bl0; omega)
  have G1 : FO P w K mg base (bl0 D + 4 + i) (ca K "_law_of_shape") pOfShape (spOS D 3) := FnOk.mono GS (by omega)
  have G2 : FO P w K mg base (bl0 D + 4 + i) (ca K "_law_of_rule") pOfRule (spOR D i) := GR
  refine T.d_law_of_rule.ok0 scOfRule (fun vs H Q E h => ?_) (fun cdv A outer st H vs Q E hr h => ?_)
  · obtain ⟨d, rl, wl, v, xs, ws, rs, u, j, rfl, _⟩ := h
    rfl
  · obtain ⟨d, rl, wl, v, xs, ws, rs, u, j, rfl, hW, hq, hj, hji, q⟩ := h
    have nd := scOfRule.nd
    refine ⟨_, pss_cons (ps_if (pt_cmpR op_eq (pe_ix ix_tup (pv 3) pe_int (fun _ _ => rfl)) pe_str (nomark _)) (pss_one (ps_ret (pe_call G1 hr rfl T.g_law_of_shape T.d_law_of_shape.kp (bd_law_of_shape T) .nil pass0 (pa_cons (pv 0) (pa_cons (pv 1) (pa_cons (pv 2) (pa_cons (pe_ix ix_tup (pv 3) pe_int (fun _ _ => rfl)) (pa_cons (pv 4) pa_nil)))))))) pss_nil)
      (pss_cons (ps_if (pt_cmpR op_eq (pe_ix ix_tup (pv 3) pe_int (fun _ _ => rfl)) pe_str (nomark _)) (pss_one (ps_ret (pe_tup pa_nil))) pss_nil)
      (pss_cons (ps_set (i := 5) nd rfl (.inr rfl) (pe_ix ix_tup (pv 3) (pe_op op_add pe_int (pe_call N hr rfl T.g_law_next T.d_law_next.kp (bd_law_next T) .nil pass0 (pa_cons (pv 0) (pa_cons pe_int pa_nil)))) (fun _ _ => rfl)))
      (pss_one (ps_ret (pe_call G2 hr rfl T.g_law_of_rule T.d_law_of_rule.kp (bd_law_of_rule T) .nil pass0 (pa_cons (pv 0) (pa_cons (pv 1) (pa_cons (pv 2) (pa_cons (pe_ix ix_list (pe_lc (own := [("_law_one", 6)]) (g := gName 6) (tt := tTest (tOp rEq (tOp (rIxT K) (tVar 6) (tC (.int 1))) (tVar 5))) (te := tVar 6) rfl nd (pi_list (pv 1)) (blkOk_by (N := nOfRule) (sc := defScope sOfRule) (by decide +kernel))
          (fun _ _ _ _ _ => pg_name (i := 6) nd rfl (.inl rfl) (.inr rfl)) (fun _ _ _ _ _ => pts_one (pt_cmpR op_eq (pe_ix ix_tup (pv 6) pe_int (fun _ _ => rfl)) (pv 5) rfl)) (fun _ _ _ _ _ => pv 6)) pe_int (fun _ _ => rfl)) (pa_cons (pv 4) pa_nil)))))))))), ?_⟩
    obtain ⟨hd, hrl, hQ, hwl, nrd, nwd, hok, hshp, w0, w1, hwd, hr4⟩ := id hW
    have step : ∀ (n o v' : Str) (b : Addr), v = .ref b → H b = some (.tup [.str u.word, .str n, .str o, .str v']) → u.leans = [o, v'] → decide (u.word = "shaped") = false → decide (u.word = "turned") = false → True := fun _ _ _ _ _ _ _ _ _ => trivial
    have both : ∀ (o v' : Str) (b : Addr) (tag n : Str), H b = some (.tup [.str tag, .str n, .str o, .str v']) → u.leans = [o, v'] →
        ∀ (r : Int) (H1 : Hp), 0 ≤ r → r < 2 → Ext [d] H H1 → DrawAt H1 d → ∃ x, atI ([V.str tag, V.str n, V.str o, V.str v'] : List V) (2 + r) = some (.str x) ∧ ∃ k s, k < j ∧ rs[k]? = some s ∧ s.name = x := by
      intro o v' b tag n hb hl r H1 r0 r1 E1 D1
      have c : r = 0 ∨ r = 1 := by omega
      rcases c with rfl | rfl
      · exact ⟨o, atI_nat (j := 2) rfl, okl_leans hok hj (by rw [hl]; exact List.mem_cons_self ..)⟩
      · exact ⟨v', atI_nat (j := 3) rfl, okl_leans hok hj (by rw [hl]; exact List.mem_cons_of_mem _ (List.mem_singleton.mpr rfl))⟩
    cases u with
    | shaped n s =>
      obtain ⟨a, b, rfl, ha, hT⟩ := hq
      have hdn : Dn ws (nms rs) 2 s := hshp _ (List.mem_of_getElem? hj)
      have hz := hdn.sz
      have hw9 := hdn.wid
      have hbz : bz 2 ≤ 1000 := by decide
      have h9 : (3 : Nat) ^ 2 = 9 := rfl
      refine if_tagT rfl ha (by decide +kernel) ?_
      refine ⟨_, rfl, _, rfl, _, rfl, _, rfl, a, _, 2, .ref b, rfl, rfl, SqT.of ha, atI_nat (j := 2) rfl, _, rfl, ?_⟩
      exact ⟨d, rl, wl, b, xs, ws, rs, s, rfl, hW, hT, hdn.ok, by omega, by omega, hdn.deep, hdn.nm, fun a r H' E' D' hR hw => q a r H' E' D' hR (hw.mono (by omega))⟩
    | turned n o =>
      obtain ⟨a, rfl, ha⟩ := hq
      refine if_tagF rfl ha (by decide +kernel) (if_tagT rfl ha (by decide +kernel) ?_)
      refine ⟨Nat.zero_le _, fun p hp => ?_⟩
      have S := same_new hp (.tup [])
      exact q p .nil _ (Ext.of_same S) (hd.same S) ⟨[], upd_same, rfl⟩ RwL.nil
    | both n o v' =>
      obtain ⟨a, rfl, ha⟩ := hq
      refine if_tagF rfl ha (by decide +kernel) (if_tagF rfl ha (by decide +kernel) ?_)
      refine ⟨_, rfl, _, rfl, d, 2, rfl, hd, by decide, fun r H1 r0 r1 E1 D1 _ => ⟨_, _, rfl, rfl, ?_⟩⟩
      obtain ⟨x, hx, k, s, hk, hks, hsx⟩ := both o v' a "both" n ha rfl r H1 r0 r1 E1 D1
      have hW1 := hW.go E1 D1
      refine ⟨a, _, _, .str x, rfl, rfl, SqT.of ((Dr.imm hd E1).1 _ _ ha), hx, ?_⟩
      refine ⟨_, rfl, _, rfl, _, rfl, ?_⟩
      refine rd_find (j := k) (u := s) (x := x) rfl (by show 6 < 7; decide) hW1.2.1 hW1.2.2.1 hok (by omega) hks hsx (fun y H6 Q' S6 q' => ⟨_, rfl, q'⟩) fun b H2 S2 hqb => ?_
      exact ⟨_, rfl, d, rl, wl, b, xs, ws, rs, s, k, rfl, hW1.same S2, hqb, hks, by omega, fun a r H' E' D' hR hw => q a r H' (E1.trans ((Ext.of_same S2).trans E')) D' hR hw⟩
    | any n o v' =>
      obtain ⟨a, rfl, ha⟩ := hq
      refine if_tagF rfl ha (by decide +kernel) (if_tagF rfl ha (by decide +kernel) ?_)
      refine ⟨_, rfl, _, rfl, d, 2, rfl, hd, by decide, fun r H1 r0 r1 E1 D1 _ => ⟨_, _, rfl, rfl, ?_⟩⟩
      obtain ⟨x, hx, k, s, hk, hks, hsx⟩ := both o v' a "any" n ha rfl r H1 r0 r1 E1 D1
      have hW1 := hW.go E1 D1
      refine ⟨a, _, _, .str x, rfl, rfl, SqT.of ((Dr.imm hd E1).1 _ _ ha), hx, ?_⟩
      refine ⟨_, rfl, _, rfl, _, rfl, ?_⟩
      refine rd_find (j := k) (u := s) (x := x) rfl (by show 6 < 7; decide) hW1.2.1 hW1.2.2.1 hok (by omega) hks hsx (fun y H6 Q' S6 q' => ⟨_, rfl, q'⟩) fun b H2 S2 hqb => ?_
      exact ⟨_, rfl, d, rl, wl, b, xs, ws, rs, s, k, rfl, hW1.same S2, hqb, hks, by omega, fun a r H' E' D' hR hw => q a r H' (E1.trans ((Ext.of_same S2).trans E')) D' hR hw⟩
end
end K17
end PartK17I3
section PartK17I4
set_option Elab.async false
set_option linter.all false
set_option maxRecDepth 100000
set_option maxHeartbeats 4000000
/-! The law's rows of a shape. -/
namespace K17
open PySem PySem.Spec PyProof.Rows L2
theorem take_wid : ∀ (s : Sh) (k : Nat), (s.takeP k).wid ≤ s.wid
  | _, 0 => by
    rename_i s
    have e : s.takeP 0 = .nil := by cases s <;> rfl
    rw [e]
    exact Nat.zero_le _
  | .cons p ps, k + 1 => by
    have := take_wid ps k
    show p.wid + (ps.takeP k).wid ≤ p.wid + ps.wid
    omega
  | .nil, k + 1 => Nat.zero_le _
  | .nothing, k + 1 => Nat.zero_le _
  | .tree _ _, k + 1 => Nat.zero_le _
  | .many _, k + 1 => Nat.zero_le _
  | .some _, k + 1 => Nat.zero_le _
  | .maybe _, k + 1 => Nat.zero_le _
  | .chain _, k + 1 => Nat.zero_le _
  | .either _, k + 1 => Nat.zero_le _
theorem wd_pos {x : Str} (h : Wd x) : ((x.length : Int) != 0) = true := by
  have h1 := h.1
  have h2 : ¬ (x.length : Int) = 0 := by omega
  exact bne_iff_ne.mpr h2
section
variable {P : Program} {w : World} {K : PySem.W.Frag} {mg : Str → Option Value} {base : Heap}
theorem os_step (T : Tx K mg) {D e : Nat} (GS : OSg P w K mg base D e) (GR : 0 < D → ORg P w K mg base (D - 1) 4) : OSg P w K mg base D (e + 1) := by
  show FO P w K mg base ((bl0 D + e) + 1) _ _ _
  have N : FO P w K mg base (bl0 D + e) (ca K "_law_next") pNext spNext := (ok_next T).mono (by unfold bl0; omega)
  have G1 : FO P w K mg base (bl0 D + e) (ca K "_law_of_shape") pOfShape (spOS D e) := GS
  have G2 : FO P w K mg base (bl0 D + e) (ca K "_law_of_rule") pOfRule (fun vs H Q E => 0 < D ∧ spOR (D - 1) 4 vs H Q E) := by
    by_cases c : 0 < D
    · exact ((GR c).imp fun vs H Q E h => h.2).mono (by unfold bl0; omega)
    · exact fo_none fun vs H Q E h => c h.1
  refine T.d_law_of_shape.ok0 scOfShape (fun vs H Q E h => ?_) (fun cdv A outer st H vs Q E hr h => ?_)
  · obtain ⟨d, rl, wl, b, xs, ws, rs, s, rfl, _⟩ := h
    rfl
  · obtain ⟨d, rl, wl, b, xs, ws, rs, s, rfl, hW, hT, ok, hz, hwz, hdp, hnm, q⟩ := h
    have nd := scOfShape.nd
    refine ⟨_, pss_cons (ps_if (pt_cmpR op_eq (pe_ix ix_tup (pv 3) pe_int (fun _ _ => rfl)) pe_str (nomark _)) (pss_one (ps_ret (pe_tup pa_nil))) pss_nil)
      (pss_cons (ps_if (pt_cmpR op_eq (pe_ix ix_tup (pv 3) pe_int (fun _ _ => rfl)) pe_str (nomark _))
        (pss_cons (ps_set (i := 5) nd rfl (.inl rfl) (pe_orT (pe_ix ix_tup (pv 3) pe_int (fun _ _ => rfl)) (pe_one (pe_ix ix_list (pv 2) (pe_call N hr rfl T.g_law_next T.d_law_next.kp (bd_law_next T) .nil pass0 (pa_cons (pv 0) (pa_cons (pe_callB call_lenS (by rfl) T.b_len PySem.boot_len (pa_cons (pv 2) pa_nil)) pa_nil))) (fun _ _ => rfl)))))
        (pss_cons (ps_if (pt_cmpR op_eq (pv 4) pe_int (nomark _)) (pss_one (ps_ret (pe_tup (pa_cons (pe_tup (pa_cons (pv 5) (pa_cons (pe_tup pa_nil) pa_nil))) pa_nil)))) pss_nil)
        (pss_cons (ps_set (i := 6) nd rfl (.inl rfl) (pe_ix ix_list (pe_lc (own := [("_law_one", 7)]) (g := gName 7) (tt := tTest (tOp rEq (tOp (rIxT K) (tVar 7) (tC (.int 1))) (tOp (rIxT K) (tVar 3) (tC (.int 2))))) (te := tVar 7) rfl nd (pi_list (pv 1)) (blkOk_by (N := nOfShape) (sc := defScope sOfShape) (by decide +kernel))
          (fun _ _ _ _ _ => pg_name (i := 7) nd rfl (.inl rfl) (.inr rfl)) (fun _ _ _ _ _ => pts_one (pt_cmpR op_eq (pe_ix ix_tup (pv 7) pe_int (fun _ _ => rfl)) (pe_ix ix_tup (pv 3) pe_int (fun _ _ => rfl)) rfl)) (fun _ _ _ _ _ => pv 7)) pe_int (fun _ _ => rfl)))
        (pss_one (ps_ret (pe_tup (pa_cons (pe_tup (pa_cons (pv 5) (pa_cons (pe_call G2 hr rfl T.g_law_of_rule T.d_law_of_rule.kp (bd_law_of_rule T) .nil pass0 (pa_cons (pv 0) (pa_cons (pv 1) (pa_cons (pv 2) (pa_cons (pv 6) (pa_cons (pe_op op_sub (pv 4) pe_int) pa_nil)))))) pa_nil))) pa_nil))))))) pss_nil)
      (pss_cons (ps_set (i := 8) nd rfl (.inl rfl) (pe_tup pa_nil))
      (pss_cons (ps_if (pt_cmpR op_eq (pe_ix ix_tup (pv 3) pe_int (fun _ _ => rfl)) pe_str (nomark _))
        (pss_cons (ps_for PassesOwn.never rfl (pi_tup (pe_ix ix_tup (pv 3) pe_int (fun _ _ => rfl))) (pg_name (i := 9) nd rfl (.inl rfl)) (pss_one (ps_set (i := 8) nd rfl (.inl rfl) (pe_op op_catA (pv 8) (pe_call G1 hr rfl T.g_law_of_shape T.d_law_of_shape.kp (bd_law_of_shape T) .nil pass0 (pa_cons (pv 0) (pa_cons (pv 1) (pa_cons (pv 2) (pa_cons (pv 9) (pa_cons (pv 4) pa_nil))))))))))
        (pss_one (ps_ret (pv 8)))) pss_nil)
      (pss_cons (ps_if (pt_cmpR op_eq (pe_ix ix_tup (pv 3) pe_int (fun _ _ => rfl)) pe_str (nomark _))
        (pss_one (ps_ret (pe_call G1 hr rfl T.g_law_of_shape T.d_law_of_shape.kp (bd_law_of_shape T) .nil pass0 (pa_cons (pv 0) (pa_cons (pv 1) (pa_cons (pv 2) (pa_cons (pe_ix ix_tup (pe_ix ix_tup (pv 3) pe_int (fun _ _ => rfl)) (pe_call N hr rfl T.g_law_next T.d_law_next.kp (bd_law_next T) .nil pass0 (pa_cons (pv 0) (pa_cons (pe_callB call_lenS (by rfl) T.b_len PySem.boot_len (pa_cons (pe_ix ix_tup (pv 3) pe_int (fun _ _ => rfl)) pa_nil)) pa_nil))) (fun _ _ => rfl)) (pa_cons (pv 4) pa_nil)))))))) pss_nil)
      (pss_cons (ps_for PassesOwn.never rfl (pi_range1 (by rfl) T.b_range (pa_cons (pe_op op_add (pe_callTy call_intA (by rfl) T.b_int (by decide +kernel) (pa_cons (pe_cmpR op_eq (pe_ix ix_tup (pv 3) pe_int (fun _ _ => rfl)) pe_str rfl) pa_nil))
          (pe_call N hr rfl T.g_law_next T.d_law_next.kp (bd_law_next T) .nil pass0 (pa_cons (pv 0) (pa_cons (pe_op op_add pe_int (pe_callTy call_intA (by rfl) T.b_int (by decide +kernel) (pa_cons (pe_cmpR op_eq (pe_ix ix_tup (pv 3) pe_int (fun _ _ => rfl)) pe_str rfl) pa_nil))) pa_nil)))) pa_nil)) (pg_name (i := 10) nd rfl (.inl rfl))
        (pss_one (ps_set (i := 8) nd rfl (.inl rfl) (pe_op op_catA (pv 8) (pe_call G1 hr rfl T.g_law_of_shape T.d_law_of_shape.kp (bd_law_of_shape T) .nil pass0 (pa_cons (pv 0) (pa_cons (pv 1) (pa_cons (pv 2) (pa_cons (pe_ix ix_tup (pv 3) pe_int (fun _ _ => rfl)) (pa_cons (pv 4) pa_nil))))))))))
      (pss_one (ps_ret (pv 8)))))))), ?_⟩
    obtain ⟨hd, hrl, hQ, hwl, nrd, nwd, hok, hshp, w0, w1, hwd, hr4⟩ := id hW
    cases s with
    | nothing =>
      obtain ⟨b', eb, hb⟩ := hT
      cases eb
      refine if_tagT rfl hb (by decide +kernel) ?_
      refine ⟨Nat.zero_le _, fun p hp => ?_⟩
      have S := same_new hp (.tup [])
      exact q p .nil _ (Ext.of_same S) (hd.same S) ⟨[], upd_same, rfl⟩ RwL.nil
    | tree wo nm =>
      obtain ⟨b', eb, hb⟩ := hT
      cases eb
      refine if_tagF rfl hb (by decide +kernel) (if_tagT rfl hb (by decide +kernel) ?_)
      have rdw : ∀ Q1 : VK, (∀ x H1, Wd x → Ext [d] H H1 → DrawAt H1 d → Q1 (.str x) H1) → tOrT K (tAt K 3 1) (tOp (rIxL K) (tVar 2) (tCall spNext [] E0 (tCons (tVar 0) (tCons (tCB (rLenS K) (tCons (tVar 2) tNil)) tNil)))) [some (.ref d), some (.ref rl), some (.ref wl), some (.ref b), some (.int (D : Int)), none, none, none, none, none, none] H Q1 := by
        intro Q1 hq
        refine ⟨_, rfl, b, _, 1, wV wo, rfl, rfl, SqT.of hb, atI_nat (j := 1) rfl, ?_⟩
        cases wo with
        | some y =>
          have hy := hwd y (hnm.1 y rfl)
          have hy2 := hy.2.1
          refine ⟨_, ⟨Nat.le_of_lt (sl5 (by omega)), rfl⟩, ?_⟩
          rw [wd_pos hy]
          exact iteT (hq y H hy (Ext.refl _ _) hd)
        | none =>
          refine ⟨_, rfl, iteF ?_⟩
          refine ⟨_, rfl, _, rfl, _, rfl, wl, _, rfl, .inl (SqL.of hwl), d, _, rfl, hd, ?_, fun r H1 r0 r1 E1 D1 _ => ?_⟩
          · rw [List.length_map]
            show (0 : Int) < ((ws.length : Nat) : Int)
            omega
          rw [List.length_map] at r1
          obtain ⟨x, hx, hxm⟩ := strAt r0 r1
          exact ⟨wl, _, _, _, rfl, rfl, SqL.of (Ext.lst E1 nwd hwl), hx, hq x H1 (hwd x hxm) E1 D1⟩
      refine rdw _ fun x H1 hx E1 D1 => ?_
      have im1 := Dr.imm hd E1
      have hW1 := hW.go E1 D1
      refine ⟨_, rfl, rfl, _, rfl, ?_⟩
      by_cases cD : D = 0
      · subst cD
        rw [show decide (V.int ((0 : Nat) : Int) = V.int 0) = true from rfl]
        refine iteT ⟨_, rfl, Nat.zero_le _, fun un hun => ⟨(by show 2 ≤ sizeLine; decide), fun tr htr => ⟨(by show 1 ≤ sizeLine; decide), fun p hp => ?_⟩⟩⟩
        have S2 := same_new hun (.tup [])
        have S3 := same_new htr (.tup [.str x, .ref un])
        have S4 := same_new hp (.tup [.ref tr])
        have S24 := S2.trans (S3.trans S4)
        exact q p (.cons x .nil .nil) _ (E1.trans (Ext.of_same S24)) (D1.same S24) ⟨[.ref tr], upd_same, tr, un, [], [], rfl, S4 _ _ upd_same, S4 _ _ (S3 _ _ upd_same), rfl, rfl⟩ (RwL.leaf hx)
      · rw [decide_eq_false (show ¬ V.int (D : Int) = V.int 0 from fun z => cD (by injection z with z; omega))]
        refine iteF ?_
        have hnmr : nm ∈ nms rs := hnm.2
        obtain ⟨u, hu, hun⟩ := List.mem_map.mp hnmr
        obtain ⟨j, hj, eju⟩ := List.mem_iff_getElem.mp hu
        have hju : rs[j]? = some u := by rw [List.getElem?_eq_getElem hj, eju]
        refine rd_find (j := j) (u := u) (x := nm) rfl (by show 7 < 11; decide) hW1.2.1 hW1.2.2.1 hok (by omega) hju hun (fun y H6 Q' S6 q' => ⟨_, rfl, b, _, 2, .str nm, rfl, rfl, SqT.of (S6 _ _ (im1.1 _ _ hb)), atI_nat (j := 2) rfl, q'⟩) fun v H2 S2 hqv => ?_
        have hW2 := hW1.same S2
        have eD : ([V.ref d, V.ref rl, V.ref wl, v, V.int ((D : Int) - 1)] : List V) = [.ref d, .ref rl, .ref wl, v, .int ((D - 1 : Nat) : Int)] := by
          rw [show ((D : Int) - 1) = ((D - 1 : Nat) : Int) by omega]
        refine ⟨_, rfl, _, rfl, _, rfl, _, rfl, _, rfl, _, rfl, _, _, rfl, rfl, by omega, d, rl, wl, v, xs, ws, rs, u, j, eD, hW2, hqv, hju, by omega, fun a i H3 E3 D3 hR hw => ⟨(by show 2 ≤ sizeLine; decide), fun tr htr => ⟨(by show 1 ≤ sizeLine; decide), fun p hp => ?_⟩⟩⟩
        have S4 := same_new htr (.tup [.str x, .ref a])
        have S5 := same_new hp (.tup [.ref tr])
        have S45 := S4.trans S5
        obtain ⟨ua, g1, g2⟩ := hR.imm (Same.imm S45)
        have eDD : D = (D - 1) + 1 := by omega
        refine q p (.cons x i .nil) _ (E1.trans ((Ext.of_same S2).trans (E3.trans (Ext.of_same S45)))) (D3.same S45) ⟨[.ref tr], upd_same, tr, a, ua, [], rfl, S5 _ _ upd_same, g1, g2, rfl⟩ ?_
        have z := RwL.tree hx hw
        rw [← eDD] at z
        exact z
    | many p =>
      obtain ⟨b', c, eb, hb, hp⟩ := hT
      cases eb
      have hz1 : p.sz + 1 ≤ 1000 := hz
      have hd1 : p.deep + 1 ≤ e + 1 := hdp
      have hw1 : 2 * p.wid ≤ 1000 := hwz
      refine if_tagF rfl hb (by decide +kernel) (if_tagF rfl hb (by decide +kernel) ?_)
      refine ⟨Nat.zero_le _, fun f0 hf0 => ?_⟩
      have S1 := same_new hf0 (.tup [])
      have hf1 : (upd H f0 (.tup [])) f0 = some (.tup []) := upd_same
      have hW1 := hW.same S1
      generalize upd H f0 (.tup []) = H1 at S1 hf1 hW1
      have hb1 := S1 _ _ hb
      have hp1 := hp.imm (Same.imm S1)
      refine if_tagF rfl hb1 (by decide +kernel) (if_tagF rfl hb1 (by decide +kernel) ?_)
      refine ⟨_, rfl, b, _, 0, .str "many", rfl, rfl, SqT.of hb1, atI_nat (j := 0) rfl, rfl, .inr ⟨_, rfl, ?_⟩⟩
      rw [show decide (V.str ("many" : Str) = V.str ("some" : Str)) = false by decide +kernel]
      refine ⟨_, rfl, _, rfl, b, _, 0, .str "many", rfl, rfl, SqT.of hb1, atI_nat (j := 0) rfl, rfl, .inr ⟨_, rfl, ?_⟩⟩
      rw [show decide (V.str ("many" : Str) = V.str ("many" : Str)) = true by decide +kernel]
      refine ⟨_, _, rfl, rfl, d, 2 + 1, rfl, hW1.1, by decide, fun r0 H2 a0 a1 E2 D2 _ => ⟨_, _, rfl, rfl, ?_⟩⟩
      refine ⟨_, rfl, (by show -(2 ^ 62) ≤ 0 + r0; omega), (by show 0 + r0 < 2 ^ 62; omega), ?_⟩
      have E12 : Ext [d] H H2 := (Ext.of_same S1).trans E2
      have im2 := Dr.imm hW1.1 E2
      have hb2 := im2.1 _ _ hb1
      have hp2 := hp1.imm im2
      have hf2 := im2.1 _ _ hf1
      have hn : (0 + r0).toNat ≤ 2 := by omega
      refine for_range (lo := 0) (n := (0 + r0).toNat) (fun k σ H' => ∃ (g : Addr) (r : Row) (v10 : Option V), σ = [some (.ref d), some (.ref rl), some (.ref wl), some (.ref b), some (.int (D : Int)), none, none, none, some (.ref g), none, v10] ∧ Ext [d] H2 H' ∧ DrawAt H' d ∧ RowAt H' r g ∧ RwL D (k * p.wid) r)
        ⟨f0, .nil, none, rfl, Ext.refl _ _, D2, ⟨[], hf2, rfl⟩, RwL.nil⟩ ?_ ?_
      · rintro k σ H3 hk ⟨g, r, v10, rfl, E3, D3, hR, hw⟩
        have im3 := Dr.imm D2 E3
        refine ⟨_, rfl, _, rfl, _, rfl, _, rfl, _, rfl, b, _, 1, .ref c, rfl, rfl, SqT.of (im3.1 _ _ hb2), atI_nat (j := 1) rfl, _, rfl, ?_⟩
        refine ⟨d, rl, wl, c, xs, ws, rs, p, rfl, (hW1.go E2 D2).go E3 D3, hp2.imm im3, ok.2, by omega, by omega, by omega, hnm, fun a r2 H4 E4 D4 hR2 hw2 => ?_⟩
        have l1 := hw.len
        have l2 := hw2.len
        have l3 : k * p.wid ≤ 2 * p.wid := Nat.mul_le_mul_right _ (by omega)
        refine rd_cat (hR.imm (Dr.imm D3 E4)) hR2 (by omega) fun g2 H5 S5 hR5 => ?_
        refine ⟨g2, _, _, rfl, E3.trans (E4.trans (Ext.of_same S5)), D4.same S5, hR5, ?_⟩
        rw [Nat.add_mul, Nat.one_mul]
        exact hw.app hw2
      · rintro σ H3 ⟨g, r, v10, rfl, E3, D3, hR, hw⟩
        refine ⟨_, rfl, q g r H3 (E12.trans E3) D3 hR (hw.mono ?_)⟩
        show (0 + r0).toNat * p.wid ≤ 2 * p.wid
        have z : (0 + r0).toNat * p.wid ≤ 2 * p.wid := Nat.mul_le_mul_right _ hn
        omega
    | some p =>
      obtain ⟨b', c, eb, hb, hp⟩ := hT
      cases eb
      have hz1 : p.sz + 1 ≤ 1000 := hz
      have hd1 : p.deep + 1 ≤ e + 1 := hdp
      have hw1 : 2 * p.wid ≤ 1000 := hwz
      refine if_tagF rfl hb (by decide +kernel) (if_tagF rfl hb (by decide +kernel) ?_)
      refine ⟨Nat.zero_le _, fun f0 hf0 => ?_⟩
      have S1 := same_new hf0 (.tup [])
      have hf1 : (upd H f0 (.tup [])) f0 = some (.tup []) := upd_same
      have hW1 := hW.same S1
      generalize upd H f0 (.tup []) = H1 at S1 hf1 hW1
      have hb1 := S1 _ _ hb
      have hp1 := hp.imm (Same.imm S1)
      refine if_tagF rfl hb1 (by decide +kernel) (if_tagF rfl hb1 (by decide +kernel) ?_)
      refine ⟨_, rfl, b, _, 0, .str "some", rfl, rfl, SqT.of hb1, atI_nat (j := 0) rfl, rfl, .inr ⟨_, rfl, ?_⟩⟩
      rw [show decide (V.str ("some" : Str) = V.str ("some" : Str)) = true by decide +kernel]
      refine ⟨_, rfl, _, rfl, b, _, 0, .str "some", rfl, rfl, SqT.of hb1, atI_nat (j := 0) rfl, rfl, .inr ⟨_, rfl, ?_⟩⟩
      rw [show decide (V.str ("some" : Str) = V.str ("many" : Str)) = false by decide +kernel]
      refine ⟨_, _, rfl, rfl, d, 2 + 0, rfl, hW1.1, by decide, fun r0 H2 a0 a1 E2 D2 _ => ⟨_, _, rfl, rfl, ?_⟩⟩
      refine ⟨_, rfl, (by show -(2 ^ 62) ≤ 1 + r0; omega), (by show 1 + r0 < 2 ^ 62; omega), ?_⟩
      have E12 : Ext [d] H H2 := (Ext.of_same S1).trans E2
      have im2 := Dr.imm hW1.1 E2
      have hb2 := im2.1 _ _ hb1
      have hp2 := hp1.imm im2
      have hf2 := im2.1 _ _ hf1
      have hn : (1 + r0).toNat ≤ 2 := by omega
      refine for_range (lo := 0) (n := (1 + r0).toNat) (fun k σ H' => ∃ (g : Addr) (r : Row) (v10 : Option V), σ = [some (.ref d), some (.ref rl), some (.ref wl), some (.ref b), some (.int (D : Int)), none, none, none, some (.ref g), none, v10] ∧ Ext [d] H2 H' ∧ DrawAt H' d ∧ RowAt H' r g ∧ RwL D (k * p.wid) r)
        ⟨f0, .nil, none, rfl, Ext.refl _ _, D2, ⟨[], hf2, rfl⟩, RwL.nil⟩ ?_ ?_
      · rintro k σ H3 hk ⟨g, r, v10, rfl, E3, D3, hR, hw⟩
        have im3 := Dr.imm D2 E3
        refine ⟨_, rfl, _, rfl, _, rfl, _, rfl, _, rfl, b, _, 1, .ref c, rfl, rfl, SqT.of (im3.1 _ _ hb2), atI_nat (j := 1) rfl, _, rfl, ?_⟩
        refine ⟨d, rl, wl, c, xs, ws, rs, p, rfl, (hW1.go E2 D2).go E3 D3, hp2.imm im3, ok.2, by omega, by omega, by omega, hnm, fun a r2 H4 E4 D4 hR2 hw2 => ?_⟩
        have l1 := hw.len
        have l2 := hw2.len
        have l3 : k * p.wid ≤ 2 * p.wid := Nat.mul_le_mul_right _ (by omega)
        refine rd_cat (hR.imm (Dr.imm D3 E4)) hR2 (by omega) fun g2 H5 S5 hR5 => ?_
        refine ⟨g2, _, _, rfl, E3.trans (E4.trans (Ext.of_same S5)), D4.same S5, hR5, ?_⟩
        rw [Nat.add_mul, Nat.one_mul]
        exact hw.app hw2
      · rintro σ H3 ⟨g, r, v10, rfl, E3, D3, hR, hw⟩
        refine ⟨_, rfl, q g r H3 (E12.trans E3) D3 hR (hw.mono ?_)⟩
        show (1 + r0).toNat * p.wid ≤ 2 * p.wid
        have z : (1 + r0).toNat * p.wid ≤ 2 * p.wid := Nat.mul_le_mul_right _ hn
        omega
    | maybe p =>
      obtain ⟨b', c, eb, hb, hp⟩ := hT
      cases eb
      have hz1 : p.sz + 1 ≤ 1000 := hz
      have hd1 : p.deep + 1 ≤ e + 1 := hdp
      have hw1 : p.wid ≤ 1000 := hwz
      refine if_tagF rfl hb (by decide +kernel) (if_tagF rfl hb (by decide +kernel) ?_)
      refine ⟨Nat.zero_le _, fun f0 hf0 => ?_⟩
      have S1 := same_new hf0 (.tup [])
      have hf1 : (upd H f0 (.tup [])) f0 = some (.tup []) := upd_same
      have hW1 := hW.same S1
      generalize upd H f0 (.tup []) = H1 at S1 hf1 hW1
      have hb1 := S1 _ _ hb
      have hp1 := hp.imm (Same.imm S1)
      refine if_tagF rfl hb1 (by decide +kernel) (if_tagF rfl hb1 (by decide +kernel) ?_)
      refine ⟨_, rfl, b, _, 0, .str "maybe", rfl, rfl, SqT.of hb1, atI_nat (j := 0) rfl, rfl, .inr ⟨_, rfl, ?_⟩⟩
      rw [show decide (V.str ("maybe" : Str) = V.str ("some" : Str)) = false by decide +kernel]
      refine ⟨_, rfl, _, rfl, b, _, 0, .str "maybe", rfl, rfl, SqT.of hb1, atI_nat (j := 0) rfl, rfl, .inr ⟨_, rfl, ?_⟩⟩
      rw [show decide (V.str ("maybe" : Str) = V.str ("many" : Str)) = false by decide +kernel]
      refine ⟨_, _, rfl, rfl, d, 2 + 0, rfl, hW1.1, by decide, fun r0 H2 a0 a1 E2 D2 _ => ⟨_, _, rfl, rfl, ?_⟩⟩
      refine ⟨_, rfl, (by show -(2 ^ 62) ≤ 0 + r0; omega), (by show 0 + r0 < 2 ^ 62; omega), ?_⟩
      have E12 : Ext [d] H H2 := (Ext.of_same S1).trans E2
      have im2 := Dr.imm hW1.1 E2
      have hb2 := im2.1 _ _ hb1
      have hp2 := hp1.imm im2
      have hf2 := im2.1 _ _ hf1
      have hn : (0 + r0).toNat ≤ 1 := by omega
      refine for_range (lo := 0) (n := (0 + r0).toNat) (fun k σ H' => ∃ (g : Addr) (r : Row) (v10 : Option V), σ = [some (.ref d), some (.ref rl), some (.ref wl), some (.ref b), some (.int (D : Int)), none, none, none, some (.ref g), none, v10] ∧ Ext [d] H2 H' ∧ DrawAt H' d ∧ RowAt H' r g ∧ RwL D (k * p.wid) r)
        ⟨f0, .nil, none, rfl, Ext.refl _ _, D2, ⟨[], hf2, rfl⟩, RwL.nil⟩ ?_ ?_
      · rintro k σ H3 hk ⟨g, r, v10, rfl, E3, D3, hR, hw⟩
        have im3 := Dr.imm D2 E3
        refine ⟨_, rfl, _, rfl, _, rfl, _, rfl, _, rfl, b, _, 1, .ref c, rfl, rfl, SqT.of (im3.1 _ _ hb2), atI_nat (j := 1) rfl, _, rfl, ?_⟩
        refine ⟨d, rl, wl, c, xs, ws, rs, p, rfl, (hW1.go E2 D2).go E3 D3, hp2.imm im3, ok.2, by omega, by omega, by omega, hnm, fun a r2 H4 E4 D4 hR2 hw2 => ?_⟩
        have l1 := hw.len
        have l2 := hw2.len
        have l3 : k * p.wid ≤ 2 * p.wid := Nat.mul_le_mul_right _ (by omega)
        refine rd_cat (hR.imm (Dr.imm D3 E4)) hR2 (by omega) fun g2 H5 S5 hR5 => ?_
        refine ⟨g2, _, _, rfl, E3.trans (E4.trans (Ext.of_same S5)), D4.same S5, hR5, ?_⟩
        rw [Nat.add_mul, Nat.one_mul]
        exact hw.app hw2
      · rintro σ H3 ⟨g, r, v10, rfl, E3, D3, hR, hw⟩
        refine ⟨_, rfl, q g r H3 (E12.trans E3) D3 hR (hw.mono ?_)⟩
        show (0 + r0).toNat * p.wid ≤ p.wid
        have z : (0 + r0).toNat * p.wid ≤ 1 * p.wid := Nat.mul_le_mul_right _ hn
        omega
    | chain ps =>
      obtain ⟨b', t, us, eb, hb, ht, hP⟩ := hT
      cases eb
      have hz1 : ps.sz + 1 ≤ 1000 := hz
      have hd1 : ps.deep + 1 ≤ e + 1 := hdp
      have hw1 : ps.wid ≤ 1000 := hwz
      refine if_tagF rfl hb (by decide +kernel) (if_tagF rfl hb (by decide +kernel) ?_)
      refine ⟨Nat.zero_le _, fun f0 hf0 => ?_⟩
      have S1 := same_new hf0 (.tup [])
      have hf1 : (upd H f0 (.tup [])) f0 = some (.tup []) := upd_same
      have hW1 := hW.same S1
      generalize upd H f0 (.tup []) = H1 at S1 hf1 hW1
      have hb1 := S1 _ _ hb
      have ht1 := S1 _ _ ht
      have hP1 := hP.imm (Same.imm S1)
      refine if_tagT rfl hb1 (by decide +kernel) ?_
      refine ⟨_, rfl, b, _, 1, .ref t, rfl, rfl, SqT.of hb1, atI_nat (j := 1) rfl, t, rfl, ⟨us, SqT.of ht1⟩, for_tup (K := K) (a := t) (xs := us) (fun k σ H' => ∃ (g : Addr) (r : Row) (v9 : Option V), σ = [some (.ref d), some (.ref rl), some (.ref wl), some (.ref b), some (.int (D : Int)), none, none, none, some (.ref g), v9, none] ∧ Ext [d] H1 H' ∧ DrawAt H' d ∧ RowAt H' r g ∧ RwL D (ps.takeP k).wid r)
        ⟨f0, .nil, none, rfl, Ext.refl _ _, hW1.1, ⟨[], hf1, rfl⟩, RwL.nil⟩ (fun k σ H' _ ⟨_, _, _, _, E, _⟩ => SqT.of ((Dr.imm hW1.1 E).1 _ _ ht1)) ?_ ?_⟩
      · rintro k y σ H3 hy ⟨g, r, v9, rfl, E3, D3, hR, hw⟩
        have hk' : k < ps.cnt := by
          rw [← TAt.len ok.2.1 hP1]
          exact (List.getElem?_eq_some_iff.mp hy).1
        obtain ⟨p, hp⟩ := part_some hk'
        obtain ⟨c, g1, g2⟩ := TAt.part hP1 hp
        rw [hy] at g1
        cases g1
        have im3 := Dr.imm hW1.1 E3
        have pw := part_wid hp
        refine ⟨_, rfl, _, rfl, _, rfl, _, rfl, _, rfl, _, rfl, ?_⟩
        refine ⟨d, rl, wl, c, xs, ws, rs, p, rfl, hW1.go E3 D3, g2.imm im3, part_ok ok.2.1 hp, Nat.le_trans (part_sz hp) (by omega), by omega, Nat.le_trans (part_deep hp) (by omega), part_all (s := ps) hnm hp, fun a r2 H4 E4 D4 hR2 hw2 => ?_⟩
        have l1 := hw.len
        have l2 := hw2.len
        have l3 := wid_take hp
        have l4 := take_wid ps k
        refine rd_cat (hR.imm (Dr.imm D3 E4)) hR2 (by omega) fun g2 H5 S5 hR5 => ?_
        refine ⟨g2, _, _, rfl, E3.trans (E4.trans (Ext.of_same S5)), D4.same S5, hR5, ?_⟩
        rw [l3]
        exact hw.app hw2
      · rintro σ H3 ⟨g, r, v9, rfl, E3, D3, hR, hw⟩
        rw [TAt.len ok.2.1 hP1, take_all ok.2.1] at hw
        exact ⟨_, rfl, q g r H3 ((Ext.of_same S1).trans E3) D3 hR hw⟩
    | either ps =>
      obtain ⟨b', t, us, eb, hb, ht, hP⟩ := hT
      cases eb
      have hz1 : ps.sz + 1 ≤ 1000 := hz
      have hd1 : ps.deep + 1 ≤ e + 1 := hdp
      have hw1 : ps.wid ≤ 1000 := hwz
      refine if_tagF rfl hb (by decide +kernel) (if_tagF rfl hb (by decide +kernel) ?_)
      refine ⟨Nat.zero_le _, fun f0 hf0 => ?_⟩
      have S1 := same_new hf0 (.tup [])
      have hW1 := hW.same S1
      generalize upd H f0 (.tup []) = H1 at S1 hW1
      have hb1 := S1 _ _ hb
      have ht1 := S1 _ _ ht
      have hP1 := hP.imm (Same.imm S1)
      have hcn := TAt.len ok.2.1 hP1
      have hc2 := ok.2.2
      refine if_tagF rfl hb1 (by decide +kernel) (if_tagT rfl hb1 (by decide +kernel) ?_)
      refine ⟨_, rfl, _, rfl, _, rfl, _, rfl, b, _, 1, .ref t, rfl, rfl, SqT.of hb1, atI_nat (j := 1) rfl, _, rfl, _, rfl, b, _, 1, .ref t, rfl, rfl, SqT.of hb1, atI_nat (j := 1) rfl, t, us, rfl, .inr (SqT.of ht1), d, _, rfl, hW1.1, by omega, fun r0 H2 a0 a1 E2 D2 _ => ?_⟩
      have er : r0 = ((r0.toNat : Nat) : Int) := by omega
      obtain ⟨p, hp⟩ := part_some (s := ps) (k := r0.toNat) (by omega)
      obtain ⟨c, g1, g2⟩ := TAt.part hP1 hp
      have im2 := Dr.imm hW1.1 E2
      have atr : atI us r0 = some (.ref c) := by
        have z : atI us ((r0.toNat : Nat) : Int) = some (.ref c) := atI_nat g1
        rw [← er] at z
        exact z
      have pw := part_wid hp
      refine ⟨t, us, r0, .ref c, rfl, rfl, SqT.of (im2.1 _ _ ht1), atr, _, rfl, ?_⟩
      exact ⟨d, rl, wl, c, xs, ws, rs, p, rfl, hW1.go E2 D2, g2.imm im2, part_ok ok.2.1 hp, Nat.le_trans (part_sz hp) (by omega), by omega, Nat.le_trans (part_deep hp) (by omega), part_all (s := ps) hnm hp, fun a r2 H4 E4 D4 hR2 hw2 => q a r2 H4 ((Ext.of_same S1).trans (E2.trans E4)) D4 hR2 (hw2.mono pw)⟩
    | nil => cases ok
    | cons p ps => cases ok.1
theorem os_all (T : Tx K mg) {D : Nat} (GR : 0 < D → ORg P w K mg base (D - 1) 4) : ∀ e, OSg P w K mg base D e
  | 0 => fo_none fun vs H Q E ⟨_, _, _, _, _, _, _, s, _, _, _, ok, _, _, h, _⟩ => by
    have := deep_pos ok
    omega
  | e + 1 => os_step T (os_all T GR e) GR
theorem or_all (T : Tx K mg) {D : Nat} (GS : OSg P w K mg base D 3) : ∀ i, ORg P w K mg base D i
  | 0 => fo_none fun vs H Q E ⟨_, _, _, _, _, _, _, _, j, _, _, _, _, h, _⟩ => absurd h (Nat.not_lt_zero _)
  | i + 1 => or_step T GS (or_all T GS i)
theorem ofrule_all (T : Tx K mg) : ∀ D, ORg P w K mg base D 4
  | 0 => or_all T (os_all T (fun h => absurd h (Nat.lt_irrefl _)) 3) 4
  | D + 1 => or_all T (os_all T (fun _ => ofrule_all T D) 3) 4
end
end K17
end PartK17I4
section PartK17J1
set_option Elab.async false
set_option linter.all false
set_option maxRecDepth 100000
set_option maxHeartbeats 4000000
/-! The law's all_shapes: what it promises. -/
namespace K17
open PySem PySem.Spec PyProof.Rows L2
/-! ### told shapes as data, one by one -/
def pd (s : Sh) : PyData := (pyT s).headD .none
theorem pd_one {s : Sh} (h : s.ok false) : pyT s = [pd s] := by
  unfold pd pyT
  rw [nk_tag h]
  simp [NestedKey.datas]
theorem pd_eqv {s t : Sh} (hs : s.ok false) (ht : t.ok false) : PyData.eqv (pd s) (pd t) = decide (s = t) := by
  have e1 : pd s = (NestedKey.tup (.text s.tag :: tl s)).data := by
    unfold pd pyT
    rw [nk_tag hs]
    simp [NestedKey.datas]
  have e2 : pd t = (NestedKey.tup (.text t.tag :: tl t)).data := by
    unfold pd pyT
    rw [nk_tag ht]
    simp [NestedKey.datas]
  rw [e1, e2, data_eqv]
  by_cases c : s = t
  · subst c
    rw [decide_eq_true rfl]
    exact NestedKey.beq_self _
  · rw [decide_eq_false c]
    cases e : NestedKey.beq (NestedKey.tup (.text s.tag :: tl s)) (NestedKey.tup (.text t.tag :: tl t)) with
    | false => rfl
    | true =>
      have z := NestedKey.eq_of_beq _ _ e
      exact absurd (nk_inj hs ht (by rw [nk_tag hs, nk_tag ht, z])) c
theorem pd_dp {K : PySem.W.Frag} {H : Hp} {s : Sh} {a : Addr} (h : s.ok false) (t : TAt H s [.ref a]) : Dp K H (.ref a) (pd s) := by
  have z := dp_told (K := K) t
  rw [pd_one h] at z
  cases z with
  | cons x _ => exact x
theorem pd_shaped {s : Sh} (h : s.ok false) (w : WT s) (d : s.deep ≤ 20) : SeqAt.shaped (pd s) = true := shaped_told w d (by rw [pd_one h]; exact List.mem_singleton.mpr rfl)
/-- told shapes in a list -/
def ToldS (H : Hp) : List V → List Sh → Prop := Paired fun v s => ∃ a : Addr, v = .ref a ∧ TAt H s [.ref a]
theorem ToldS.imm {H H' : Hp} (m : Imm H H') : ∀ {vs : List V} {ss : List Sh}, ToldS H vs ss → ToldS H' vs ss
  | _, _, .nil => .nil
  | _, _, .cons ⟨a, e, h⟩ t => .cons ⟨a, e, h.imm m⟩ (ToldS.imm m t)
theorem ToldS.len {H : Hp} {vs : List V} {ss : List Sh} (h : ToldS H vs ss) : vs.length = ss.length := Paired.length h
theorem ToldS.app {H : Hp} : ∀ {vs ws : List V} {ss ts : List Sh}, ToldS H vs ss → ToldS H ws ts → ToldS H (vs ++ ws) (ss ++ ts)
  | _, _, _, _, .nil, h => h
  | _, _, _, _, .cons r t, h => .cons r (ToldS.app t h)
/-- a shape that the law may make a rule of -/
structure Gd (A : Option Str → Str → Prop) (s : Sh) : Prop where
  ok : s.ok false
  deep : s.deep ≤ 3
  sz : s.sz ≤ 13
  tr : s.trees ≤ 9
  wt : WT s
  nm : s.all A
theorem told_dps {K : PySem.W.Frag} {H : Hp} {A : Option Str → Str → Prop} : ∀ {vs : List V} {ss : List Sh}, ToldS H vs ss → (∀ s ∈ ss, Gd A s) → DpAll K H vs (ss.map pd)
  | _, _, .nil, _ => .nil
  | _, _, .cons ⟨a, e, h⟩ t, g => by
    subst e
    exact .cons (pd_dp (g _ (List.mem_cons_self ..)).ok h) (told_dps t fun s hs => g s (List.mem_cons_of_mem _ hs))
theorem pds_shaped {A : Option Str → Str → Prop} {ss : List Sh} (g : ∀ s ∈ ss, Gd A s) : SeqAt.shaped (.list (ss.map pd)) = true := by
  have l : ∀ {ss : List Sh}, (∀ s ∈ ss, Gd A s) → PyData.canLayAll0 (ss.map pd) = true ∧ PyData.depthAll (ss.map pd) ≤ 6 := by
    intro ss
    induction ss with
    | nil => intro _; exact ⟨by simp [PyData.canLayAll0], by simp [PyData.depthAll]⟩
    | cons s ss ih =>
      intro g
      obtain ⟨i1, i2⟩ := ih fun s hs => g s (List.mem_cons_of_mem _ hs)
      have gs := g s (List.mem_cons_self ..)
      have z := pd_shaped gs.ok gs.wt (Nat.le_trans gs.deep (by decide))
      have z2 : ((pd s).canLay0 && decide ((pd s).depth ≤ 64)) = true := z
      rw [Bool.and_eq_true] at z2
      have d := pyT_depth s
      rw [pd_one gs.ok] at d
      have gd := gs.deep
      simp only [PyData.depthAll] at d
      refine ⟨by simp [PyData.canLayAll0, i1, z2.1], ?_⟩
      simp only [List.map_cons, PyData.depthAll]
      omega
  obtain ⟨a, b⟩ := l g
  show (PyData.canLay0 _ && decide (PyData.depth _ ≤ 64)) = true
  rw [Bool.and_eq_true]
  refine ⟨by simp only [PyData.canLay0]; exact a, decide_eq_true ?_⟩
  simp only [PyData.depth]
  omega
theorem any_pd {A : Option Str → Str → Prop} {s : Sh} (hs : s.ok false) : ∀ {ss : List Sh}, (∀ s ∈ ss, Gd A s) → ((ss.map pd).any fun z => PyData.eqv z (pd s)) = decide (s ∈ ss)
  | [], _ => by simp
  | t :: ss, g => by
    have ih := any_pd hs (ss := ss) fun s hs => g s (List.mem_cons_of_mem _ hs)
    rw [List.map_cons, List.any_cons, ih, pd_eqv (g t (List.mem_cons_self ..)).ok hs]
    by_cases c : t = s
    · subst c
      simp
    · have c' : ¬ s = t := fun z => c z.symm
      simp [c, c']
/-! ### all that may be found -/
mutual
def unS : Sh → List Sh
  | .nothing => [.nothing]
  | .tree w n => [.tree w n]
  | .many p => .many p :: unS p
  | .some p => .some p :: .many p :: unS p
  | .maybe p => .maybe p :: unS p
  | .chain ps => unC ps
  | .either ps => .either ps :: unS ps
  | .nil => []
  | .cons p ps => unS p ++ unS ps
def unC : Sh → List Sh
  | .cons p ps => .chain (.cons p ps) :: (unS p ++ unC ps)
  | _ => []
end
theorem un_self : ∀ {s : Sh}, s.ok false → s ∈ unS s
  | .nothing, _ => by simp [unS]
  | .tree w n, _ => by simp [unS]
  | .many p, _ => by simp [unS]
  | .some p, _ => by simp [unS]
  | .maybe p, _ => by simp [unS]
  | .chain (.cons p ps), _ => by simp [unS, unC]
  | .chain .nil, h => absurd h.2.2 (by decide)
  | .either ps, _ => by simp [unS]
  | .chain .nothing, h => by cases h.2.1
  | .chain (.tree _ _), h => by cases h.2.1
  | .chain (.many _), h => by cases h.2.1.1
  | .chain (.some _), h => by cases h.2.1.1
  | .chain (.maybe _), h => by cases h.2.1.1
  | .chain (.chain _), h => by cases h.2.1.1
  | .chain (.either _), h => by cases h.2.1.1
theorem un_part : ∀ {ps : Sh} {k : Nat} {p : Sh}, ps.part k = Option.some p → (∀ t ∈ unS p, t ∈ unC ps) ∧ ∀ t ∈ unS p, t ∈ unS ps
  | .cons p ps, 0, _, z => by
    cases z
    exact ⟨fun t ht => by simp [unC, ht], fun t ht => by simp [unS, ht]⟩
  | .cons p ps, k + 1, q, z => by
    obtain ⟨h1, h2⟩ := un_part (ps := ps) z
    exact ⟨fun t ht => by simp [unC, h1 t ht], fun t ht => by simp [unS, h2 t ht]⟩
theorem un_len : ∀ {s : Sh} {f : Bool}, s.ok f → (f = false → (unS s).length + 1 ≤ 3 * s.sz) ∧ (f = true → (unS s).length ≤ 3 * s.sz ∧ (unC s).length ≤ 3 * s.sz)
  | .nothing, f, h => ⟨fun _ => by simp [unS, Sh.sz], fun z => by rw [z] at h; cases h⟩
  | .tree w n, f, h => ⟨fun _ => by simp [unS, Sh.sz], fun z => by rw [z] at h; cases h⟩
  | .many p, f, h => ⟨fun _ => by have := (un_len h.2).1 rfl; simp [unS, Sh.sz]; omega, fun z => by rw [z] at h; cases h.1⟩
  | .some p, f, h => ⟨fun _ => by have := (un_len h.2).1 rfl; simp [unS, Sh.sz]; omega, fun z => by rw [z] at h; cases h.1⟩
  | .maybe p, f, h => ⟨fun _ => by have := (un_len h.2).1 rfl; simp [unS, Sh.sz]; omega, fun z => by rw [z] at h; cases h.1⟩
  | .chain ps, f, h => ⟨fun _ => by have := ((un_len h.2.1).2 rfl).2; simp [unS, Sh.sz]; omega, fun z => by rw [z] at h; cases h.1⟩
  | .either ps, f, h => ⟨fun _ => by have := ((un_len h.2.1).2 rfl).1; simp [unS, Sh.sz]; omega, fun z => by rw [z] at h; cases h.1⟩
  | .nil, f, h => ⟨fun z => (by rw [z] at h; cases h), fun _ => ⟨by simp [unS], by simp [unC]⟩⟩
  | .cons p ps, f, h => by
    refine ⟨fun z => (by rw [z] at h; cases h.1), fun _ => ?_⟩
    have h1 := (un_len h.2.1).1 rfl
    have h2 := (un_len h.2.2).2 rfl
    simp [unS, unC, Sh.sz]
    omega
def Fd (A : Option Str → Str → Prop) (U : List Sh) (H : Hp) (l : Addr) (us : List V) (ss : List Sh) : Prop := H l = some (.lst us) ∧ ToldS H us ss ∧ ss.Nodup ∧ (∀ t ∈ ss, Gd A t) ∧ ∀ t ∈ ss, t ∈ U
theorem Fd.same {A : Option Str → Str → Prop} {U : List Sh} {H H' : Hp} {l : Addr} {us : List V} {ss : List Sh} (h : Fd A U H l us ss) (S : Same H H') : Fd A U H' l us ss := ⟨S _ _ h.1, h.2.1.imm (Same.imm S), h.2.2⟩
theorem ext_imm {H H' : Hp} {l : Addr} {us : List V} (h : H l = some (.lst us)) (g : Ext [l] H H') : Imm H H' := by
  refine Ext.imm g fun x hx => ?_
  rw [List.mem_singleton.mp hx, h]
  exact ⟨fun xs z => (by cases z), fun C dx fs z => (by cases z)⟩
/-- if t not in found: found.append(t) -/
theorem rd_add {K : PySem.W.Frag} {A : Option Str → Str → Prop} {U : List Sh} {te : TE} {D : Ends} {σ : L2.St} {H : Hp} {l : Addr} {us : List V} {ss : List Sh} {t : Sh} (hU : U.length ≤ 1000) (hl : σ[1]? = some (some (.ref l))) (hF : Fd A U H l us ss) (gt : Gd A t) (ut : t ∈ U)
    (hte : ∀ (H1 : Hp) (Q : VK), Same H H1 → (∀ b H2, Same H1 H2 → TAt H2 t [.ref b] → Q (.ref b) H2) → te σ H1 Q)
    (q : ∀ H' us' ss', Ext [l] H H' → Fd A U H' l us' ss' → D.nx σ H') : tIfS (tTest (tOp (rNotInD K) te (tVar 1))) (tDrop (tBM K "list" rAppend (tVar 1) (tCons te tNil))) tNext D σ H := by
  refine hte H _ (fun _ _ z => z) fun b H1 S1 hb => ?_
  have hF1 := hF.same S1
  obtain ⟨f1, f2, f3, f4, f5⟩ := id hF1
  refine ⟨_, hl, pd t, ss.map pd, pd_dp gt.ok hb, .lst (SqL.of f1) (told_dps f2 f4), pd_shaped gt.ok gt.wt (Nat.le_trans gt.deep (by decide)), pds_shaped f4, _, rfl, ?_⟩
  rw [any_pd gt.ok f4]
  by_cases c : t ∈ ss
  · rw [decide_eq_true c]
    exact iteF (q H1 us ss (Ext.of_same S1) hF1)
  · rw [decide_eq_false c]
    refine iteT ⟨_, hl, .inl ⟨rfl, _, SqL.of f1⟩, ?_⟩
    refine hte H1 _ S1 fun b2 H2 S2 hb2 => ?_
    have g1 := S2 _ _ f1
    have le : ss.length ≤ U.length := nodup_le f3 f5
    have im : Imm H2 (upd H2 l (.lst (us ++ [.ref b2]))) := imm_lst g1 _
    refine ⟨l, us, _, rfl, rfl, g1, ?_, q _ (us ++ [.ref b2]) (ss ++ [t]) (fun z o hz nz => ?_) ⟨upd_same, ?_, nd_snoc f3 c, fun x hx => ?_, fun x hx => ?_⟩⟩
    · rw [f2.len]
      exact sl5 (by omega)
    · rw [upd_ne (fun e => nz (by rw [e]; exact List.mem_singleton.mpr rfl))]
      exact S2 _ _ (S1 _ _ hz)
    · exact ToldS.app (f2.imm ((Same.imm S2).trans im)) (.cons ⟨b2, rfl, hb2.imm im⟩ .nil)
    · rcases List.mem_append.mp hx with z | z
      · exact f4 x z
      · rw [List.mem_singleton.mp z]
        exact gt
    · rcases List.mem_append.mp hx with z | z
      · exact f5 x z
      · rw [List.mem_singleton.mp z]
        exact ut
theorem rd_add2 {K : PySem.W.Frag} {A : Option Str → Str → Prop} {U : List Sh} {te : TE} {D : Ends} {σ : L2.St} {H : Hp} {l : Addr} {us : List V} {ss : List Sh} {t : Sh} (hU : U.length ≤ 1000) (hl : σ[1]? = some (some (.ref l))) (hF : Fd A U H l us ss) (gt : Gd A t) (ut : t ∈ U)
    (hte : ∀ (H1 : Hp) (Q : VK), Same H H1 → (∀ b H2, Same H1 H2 → TAt H2 t [.ref b] → Q (.ref b) H2) → te σ H1 Q)
    (q : ∀ H' us' ss', Ext [l] H H' → Fd A U H' l us' ss' → D.nx σ H') : tTest (tOp (rNotInD K) te (tVar 1)) σ H fun b H1 => if b = true then tDrop (tBM K "list" rAppend (tVar 1) (tCons te tNil)) D σ H1 else tNext D σ H1 := rd_add hU hl hF gt ut hte q
theorem sz_pos : ∀ {s : Sh}, s.ok false → 1 ≤ s.sz
  | .nothing, _ => Nat.le_refl _
  | .tree _ _, _ => Nat.le_refl _
  | .many _, _ => Nat.le_add_left _ _
  | .some _, _ => Nat.le_add_left _ _
  | .maybe _, _ => Nat.le_add_left _ _
  | .chain _, _ => Nat.le_add_left _ _
  | .either _, _ => Nat.le_add_left _ _
def spAll (n : Nat) : Sp := fun vs H Q _ => ∃ (a l : Addr) (s : Sh) (us : List V) (ss U : List Sh) (A : Option Str → Str → Prop), vs = [.ref a, .ref l] ∧ TAt H s [.ref a] ∧ Gd A s ∧ s.sz ≤ n ∧ Fd A U H l us ss ∧ (∀ t ∈ unS s, t ∈ U) ∧ U.length ≤ 1000 ∧
  ∀ H' us' ss', Ext [l] H H' → Fd A U H' l us' ss' → Q .non H'
section
variable {P : Program} {w : World} {K : PySem.W.Frag} {mg : Str → Option Value} {base : Heap}
theorem all_step (T : Tx K mg) {n : Nat} (G : FO P w K mg base n (ca K "_law_all_shapes") pAllShapes (spAll n)) : FO P w K mg base (n + 1) (ca K "_law_all_shapes") pAllShapes (spAll (n + 1)) := by
  refine T.d_law_all_shapes.ok0 scAllShapes (fun vs H Q E h => ?_) (fun cdv A outer st H vs Q E hr h => ?_)
  · obtain ⟨a, l, s, us, ss, U, A, rfl, _⟩ := h
    rfl
  · obtain ⟨a, l, s, us, ss, U, B, rfl, hT, gs, hsz, hF, hun, hU, q⟩ := h
    have nd := scAllShapes.nd
    have hu : (A.deeper (envOfC "_law_all_shapes" (defScope sAllShapes) st.heap.objs.size (ca K "_law_all_shapes") cdv)).units + 65 < cLine := by
      have := hr.un
      omega
    refine ⟨_, pss_cons (ps_if (pt_cmpR (op_notInD hu) (pv 0) (pv 1) rfl) (pss_one (ps_expr (pe_bm PySem.F.plainAttrs_list PySem.F.slot_list_append PySem.F.type_list_append mt_append (pv 1) (pa_cons (pv 0) pa_nil)))) pss_nil)
      (pss_cons (ps_if (pt_cmpR op_in_seq (pe_ix ix_tup (pv 0) pe_int (fun _ _ => rfl)) (pe_tup (pa_cons pe_str (pa_cons pe_str (pa_cons pe_str pa_nil)))) rfl)
        (pss_one (ps_expr (pe_call G hr rfl T.g_law_all_shapes T.d_law_all_shapes.kp (bd_law_all_shapes T) .nil pass0 (pa_cons (pe_ix ix_tup (pv 0) pe_int (fun _ _ => rfl)) (pa_cons (pv 1) pa_nil))))) pss_nil)
      (pss_cons (ps_if (pt_cmpR op_in_seq (pe_ix ix_tup (pv 0) pe_int (fun _ _ => rfl)) (pe_tup (pa_cons pe_str (pa_cons pe_str pa_nil))) rfl)
        (pss_cons (ps_for PassesOwn.never rfl (pi_tup (pe_ix ix_tup (pv 0) pe_int (fun _ _ => rfl))) (pg_name (i := 2) nd rfl (.inl rfl)) (pss_one (ps_expr (pe_call G hr rfl T.g_law_all_shapes T.d_law_all_shapes.kp (bd_law_all_shapes T) .nil pass0 (pa_cons (pv 2) (pa_cons (pv 1) pa_nil))))))
        (pss_one (ps_if (PW.pt (pw_and (pt_cmpR op_gt (pe_callB call_lenS (by rfl) T.b_len PySem.boot_len (pa_cons (pe_ix ix_tup (pv 0) pe_int (fun _ _ => rfl)) pa_nil)) pe_int (nomark _)) (pw_and1 (pt_cmpR op_eq (pe_ix ix_tup (pv 0) pe_int (fun _ _ => rfl)) pe_str (nomark _)))))
          (pss_one (ps_expr (pe_call G hr rfl T.g_law_all_shapes T.d_law_all_shapes.kp (bd_law_all_shapes T) .nil pass0 (pa_cons (pe_tup (pa_cons pe_str (pa_cons (pe_slice sl_tupA (pe_ix ix_tup (pv 0) pe_int (fun _ _ => rfl)) (po_some pe_int) po_none) pa_nil))) (pa_cons (pv 1) pa_nil))))) pss_nil))) pss_nil)
      (pss_one (ps_if (PW.pt (pw_and (pt_cmpR op_eq (pe_ix ix_tup (pv 0) pe_int (fun _ _ => rfl)) pe_str (nomark _)) (pw_and1 (pt_cmpR (op_notInD hu) (pe_tup (pa_cons pe_str (pa_cons (pe_ix ix_tup (pv 0) pe_int (fun _ _ => rfl)) pa_nil))) (pv 1) rfl))))
        (pss_one (ps_expr (pe_bm PySem.F.plainAttrs_list PySem.F.slot_list_append PySem.F.type_list_append mt_append (pv 1) (pa_cons (pe_tup (pa_cons pe_str (pa_cons (pe_ix ix_tup (pv 0) pe_int (fun _ _ => rfl)) pa_nil))) pa_nil)))) pss_nil)))), ?_⟩
    refine rd_add hU rfl hF gs (hun _ (un_self gs.ok)) (fun H1 Q1 S1 hq => ⟨_, rfl, hq a H1 (fun _ _ z => z) (hT.imm (Same.imm S1))⟩) fun H1 us1 ss1 E1 hF1 => ?_
    have hT1 := hT.imm (ext_imm hF.1 E1)
    -- the loop over the parts
    have loop : ∀ (ps : Sh) (t : Addr) (vs : List V) (H2 : Hp) (D : Ends) (tg : Str), Ext [l] H H2 → Fd B U H2 l us1 ss1 → H2 a = some (.tup [.str tg, .ref t]) → H2 t = some (.tup vs) → TAt H2 ps vs → ps.ok true → (∀ k p, ps.part k = Option.some p → Gd B p ∧ p.sz ≤ n ∧ ∀ x ∈ unS p, x ∈ U) →
        (∀ v2 H3 us3 ss3, Ext [l] H2 H3 → Fd B U H3 l us3 ss3 → D.nx [some (.ref a), some (.ref l), v2] H3) → tFor (iTup K (tAt K 0 1)) (gName 2) (tDrop (tCall (spAll n) [] E0 (tCons (tVar 2) (tCons (tVar 1) tNil)))) D [some (.ref a), some (.ref l), none] H2 := by
      intro ps t vs H2 D tg E2 hF2 ha2 ht2 hP2 okp hpp hq
      refine ⟨_, rfl, a, _, 1, .ref t, rfl, rfl, SqT.of ha2, atI_nat (j := 1) rfl, t, rfl, ⟨vs, SqT.of ht2⟩, for_tup (K := K) (a := t) (xs := vs) (fun k σ H' => ∃ (v2 : Option V) (us3 : List V) (ss3 : List Sh), σ = [some (.ref a), some (.ref l), v2] ∧ Ext [l] H2 H' ∧ Fd B U H' l us3 ss3)
        ⟨none, us1, ss1, rfl, Ext.refl _ _, hF2⟩ (fun k σ H' _ ⟨_, _, _, _, E, _⟩ => SqT.of ((ext_imm hF2.1 E).1 _ _ ht2)) ?_ ?_⟩
      · rintro k y σ H3 hy ⟨v2, us3, ss3, rfl, E3, hF3⟩
        have hk' : k < ps.cnt := by
          rw [← TAt.len okp hP2]
          exact (List.getElem?_eq_some_iff.mp hy).1
        obtain ⟨p, hp⟩ := part_some hk'
        obtain ⟨c, g1, g2⟩ := TAt.part hP2 hp
        rw [hy] at g1
        cases g1
        obtain ⟨x1, x2, x3⟩ := hpp k p hp
        exact ⟨_, rfl, _, rfl, c, l, p, us3, ss3, U, B, rfl, g2.imm (ext_imm hF2.1 E3), x1, x2, hF3, x3, hU, fun H4 us4 ss4 E4 hF4 => ⟨_, us4, ss4, rfl, E3.trans E4, hF4⟩⟩
      · rintro σ H3 ⟨v2, us3, ss3, rfl, E3, hF3⟩
        exact hq v2 H3 us3 ss3 E3 hF3
    cases s with
    | nothing =>
      obtain ⟨a', ea, hb⟩ := hT1
      cases ea
      refine rd_ms (s := .nothing) rfl ⟨a, rfl, hb⟩ gs.ok fun H2 S2 => iteF ?_
      refine rd_ce (s := .nothing) rfl ⟨a, rfl, S2 _ _ hb⟩ gs.ok fun H3 S3 => iteF ?_
      refine rd_tag rfl (S3 _ _ (S2 _ _ hb)) ?_
      rw [show decide (("nothing" : Str) = "some") = false by decide +kernel]
      exact iteF (iteF (q H3 us1 ss1 (E1.trans (Ext.of_same (S2.trans S3))) (hF1.same (S2.trans S3))))
    | tree wo nm =>
      obtain ⟨a', ea, hb⟩ := hT1
      cases ea
      refine rd_ms (s := .tree wo nm) rfl ⟨a, rfl, hb⟩ gs.ok fun H2 S2 => iteF ?_
      refine rd_ce (s := .tree wo nm) rfl ⟨a, rfl, S2 _ _ hb⟩ gs.ok fun H3 S3 => iteF ?_
      refine rd_tag rfl (S3 _ _ (S2 _ _ hb)) ?_
      rw [show decide (("tree" : Str) = "some") = false by decide +kernel]
      exact iteF (iteF (q H3 us1 ss1 (E1.trans (Ext.of_same (S2.trans S3))) (hF1.same (S2.trans S3))))
    | many p =>
      obtain ⟨a', b, ea, hb, hp⟩ := hT1
      cases ea
      have g1 : Gd B p := ⟨gs.ok.2, Nat.le_trans (Nat.le_succ _) gs.deep, Nat.le_trans (Nat.le_succ _) gs.sz, gs.tr, gs.wt, gs.nm⟩
      have z1 : p.sz + 1 ≤ n + 1 := hsz
      refine rd_ms (s := .many p) rfl ⟨a, b, rfl, hb, hp⟩ gs.ok fun H2 S2 => iteT ?_
      refine ⟨_, rfl, a, _, 1, .ref b, rfl, rfl, SqT.of (S2 _ _ hb), atI_nat (j := 1) rfl, _, rfl, b, l, p, us1, ss1, U, B, rfl, hp.imm (Same.imm S2), g1, by omega, hF1.same S2, fun t ht => hun t (by simp [unS, ht]), hU, fun H3 us3 ss3 E3 hF3 => ?_⟩
      have im13 := (Same.imm S2).trans (ext_imm (hF1.same S2).1 E3)
      refine rd_ce (s := .many p) rfl ⟨a, b, rfl, im13.1 _ _ hb, hp.imm im13⟩ gs.ok fun H4 S4 => iteF ?_
      have im14 := im13.trans (Same.imm S4)
      have hF4 := hF3.same S4
      have E4 : Ext [l] H H4 := E1.trans ((Ext.of_same S2).trans (E3.trans (Ext.of_same S4)))
      refine rd_tag rfl (im14.1 _ _ hb) ?_
      rw [show decide (("many" : Str) = "some") = false by decide +kernel]
      exact iteF (iteF (q H4 us3 ss3 E4 hF4))
    | maybe p =>
      obtain ⟨a', b, ea, hb, hp⟩ := hT1
      cases ea
      have g1 : Gd B p := ⟨gs.ok.2, Nat.le_trans (Nat.le_succ _) gs.deep, Nat.le_trans (Nat.le_succ _) gs.sz, gs.tr, gs.wt, gs.nm⟩
      have z1 : p.sz + 1 ≤ n + 1 := hsz
      refine rd_ms (s := .maybe p) rfl ⟨a, b, rfl, hb, hp⟩ gs.ok fun H2 S2 => iteT ?_
      refine ⟨_, rfl, a, _, 1, .ref b, rfl, rfl, SqT.of (S2 _ _ hb), atI_nat (j := 1) rfl, _, rfl, b, l, p, us1, ss1, U, B, rfl, hp.imm (Same.imm S2), g1, by omega, hF1.same S2, fun t ht => hun t (by simp [unS, ht]), hU, fun H3 us3 ss3 E3 hF3 => ?_⟩
      have im13 := (Same.imm S2).trans (ext_imm (hF1.same S2).1 E3)
      refine rd_ce (s := .maybe p) rfl ⟨a, b, rfl, im13.1 _ _ hb, hp.imm im13⟩ gs.ok fun H4 S4 => iteF ?_
      have im14 := im13.trans (Same.imm S4)
      have hF4 := hF3.same S4
      have E4 : Ext [l] H H4 := E1.trans ((Ext.of_same S2).trans (E3.trans (Ext.of_same S4)))
      refine rd_tag rfl (im14.1 _ _ hb) ?_
      rw [show decide (("maybe" : Str) = "some") = false by decide +kernel]
      exact iteF (iteF (q H4 us3 ss3 E4 hF4))
    | some p =>
      obtain ⟨a', b, ea, hb, hp⟩ := hT1
      cases ea
      have g1 : Gd B p := ⟨gs.ok.2, Nat.le_trans (Nat.le_succ _) gs.deep, Nat.le_trans (Nat.le_succ _) gs.sz, gs.tr, gs.wt, gs.nm⟩
      have z1 : p.sz + 1 ≤ n + 1 := hsz
      refine rd_ms (s := .some p) rfl ⟨a, b, rfl, hb, hp⟩ gs.ok fun H2 S2 => iteT ?_
      refine ⟨_, rfl, a, _, 1, .ref b, rfl, rfl, SqT.of (S2 _ _ hb), atI_nat (j := 1) rfl, _, rfl, b, l, p, us1, ss1, U, B, rfl, hp.imm (Same.imm S2), g1, by omega, hF1.same S2, fun t ht => hun t (by simp [unS, ht]), hU, fun H3 us3 ss3 E3 hF3 => ?_⟩
      have im13 := (Same.imm S2).trans (ext_imm (hF1.same S2).1 E3)
      refine rd_ce (s := .some p) rfl ⟨a, b, rfl, im13.1 _ _ hb, hp.imm im13⟩ gs.ok fun H4 S4 => iteF ?_
      have im14 := im13.trans (Same.imm S4)
      have hF4 := hF3.same S4
      have E4 : Ext [l] H H4 := E1.trans ((Ext.of_same S2).trans (E3.trans (Ext.of_same S4)))
      refine rd_tag rfl (im14.1 _ _ hb) ?_
      rw [show decide (("some" : Str) = "some") = true by decide +kernel]
      refine iteT ?_
      have gm : Gd B (.many p) := ⟨⟨rfl, gs.ok.2⟩, gs.deep, gs.sz, gs.tr, gs.wt, gs.nm⟩
      refine rd_add2 (t := .many p) hU rfl hF4 gm (hun _ (by simp [unS])) (fun H5 Q5 S5 hq => ⟨_, rfl, a, _, 1, .ref b, rfl, rfl, SqT.of (S5 _ _ (im14.1 _ _ hb)), atI_nat (j := 1) rfl, (by show 2 ≤ sizeLine; decide), fun c hc => ?_⟩) fun H5 us5 ss5 E5 hF5 => q H5 us5 ss5 (E4.trans E5) hF5
      have S6 := same_new hc (.tup [.str "many", .ref b])
      exact hq c _ S6 ⟨c, b, rfl, upd_same, hp.imm (im14.trans (Same.imm (S5.trans S6)))⟩
    | either ps =>
      obtain ⟨a', t, vs, ea, hb, ht, hP⟩ := hT1
      cases ea
      have z1 : ps.sz + 1 ≤ n + 1 := hsz
      have z2 : ps.sz + 1 ≤ 13 := gs.sz
      have z3 : ps.deep + 1 ≤ 3 := gs.deep
      have z4 : ps.trees ≤ 9 := gs.tr
      refine rd_ms (s := .either ps) rfl ⟨a, t, vs, rfl, hb, ht, hP⟩ gs.ok fun H2 S2 => iteF ?_
      refine rd_ce (s := .either ps) rfl ⟨a, t, vs, rfl, S2 _ _ hb, S2 _ _ ht, hP.imm (Same.imm S2)⟩ gs.ok fun H3 S3 => iteT ?_
      have S23 := S2.trans S3
      refine loop ps t vs H3 _ "either" (E1.trans (Ext.of_same S23)) (hF1.same S23) (S23 _ _ hb) (S23 _ _ ht) (hP.imm (Same.imm S23)) gs.ok.2.1 (fun k p hp => ⟨⟨part_ok gs.ok.2.1 hp, ?_, ?_, ?_, part_all (s := ps) gs.wt hp, part_all (s := ps) gs.nm hp⟩, ?_, fun x hx => hun x ?_⟩) fun v2 H4 us4 ss4 E4 hF4 => ?_
      · have := part_deep hp
        omega
      · have := part_sz hp
        omega
      · have := part_lvs hp
        have e1 := lvs_len p
        have e2 := lvs_len ps
        omega
      · have := part_sz hp
        omega
      · have := (un_part hp).2 x hx
        simp [unS, this]
      have imA := (Same.imm S23).trans (ext_imm (hF1.same S23).1 E4)
      have EA : Ext [l] H H4 := E1.trans ((Ext.of_same S23).trans E4)
      refine ⟨_, rfl, a, _, 1, .ref t, rfl, rfl, SqT.of (imA.1 _ _ hb), atI_nat (j := 1) rfl, t, vs, rfl, .inr (SqT.of (imA.1 _ _ ht)), _, _, rfl, rfl, _, rfl, ?_⟩
      have last : tIfS (tAnd (tTag K 0 "some") (tTest (tOp (rNotInD K) (tTup (tCons (tC (.str "many")) (tCons (tAt K 0 1) tNil))) (tVar 1)))) (tDrop (tBM K "list" rAppend (tVar 1) (tCons (tTup (tCons (tC (.str "many")) (tCons (tAt K 0 1) tNil))) tNil))) tNext { nx := fun _ H' => Q .non H', rt := Q } [some (.ref a), some (.ref l), v2] H4 := by
        refine rd_tag rfl (imA.1 _ _ hb) ?_
        rw [show decide (("either" : Str) = "some") = false by decide +kernel]
        exact iteF (iteF (q H4 us4 ss4 EA hF4))
      refine ite2 (fun _ => ?_) (fun _ => iteF last)
      refine rd_tag rfl (imA.1 _ _ hb) ?_
      rw [show decide (("either" : Str) = "chain") = false by decide +kernel]
      exact iteF last
    | chain ps =>
      obtain ⟨a', t, vs, ea, hb, ht, hP⟩ := hT1
      cases ea
      have z1 : ps.sz + 1 ≤ n + 1 := hsz
      have z2 : ps.sz + 1 ≤ 13 := gs.sz
      have z3 : ps.deep + 1 ≤ 3 := gs.deep
      have z4 : ps.trees ≤ 9 := gs.tr
      refine rd_ms (s := .chain ps) rfl ⟨a, t, vs, rfl, hb, ht, hP⟩ gs.ok fun H2 S2 => iteF ?_
      refine rd_ce (s := .chain ps) rfl ⟨a, t, vs, rfl, S2 _ _ hb, S2 _ _ ht, hP.imm (Same.imm S2)⟩ gs.ok fun H3 S3 => iteT ?_
      have S23 := S2.trans S3
      refine loop ps t vs H3 _ "chain" (E1.trans (Ext.of_same S23)) (hF1.same S23) (S23 _ _ hb) (S23 _ _ ht) (hP.imm (Same.imm S23)) gs.ok.2.1 (fun k p hp => ⟨⟨part_ok gs.ok.2.1 hp, ?_, ?_, ?_, part_all (s := ps) gs.wt hp, part_all (s := ps) gs.nm hp⟩, ?_, fun x hx => hun x ?_⟩) fun v2 H4 us4 ss4 E4 hF4 => ?_
      · have := part_deep hp
        omega
      · have := part_sz hp
        omega
      · have := part_lvs hp
        have e1 := lvs_len p
        have e2 := lvs_len ps
        omega
      · have := part_sz hp
        omega
      · have := (un_part hp).1 x hx
        simp [unS, this]
      have imA := (Same.imm S23).trans (ext_imm (hF1.same S23).1 E4)
      have EA : Ext [l] H H4 := E1.trans ((Ext.of_same S23).trans E4)
      refine ⟨_, rfl, a, _, 1, .ref t, rfl, rfl, SqT.of (imA.1 _ _ hb), atI_nat (j := 1) rfl, t, vs, rfl, .inr (SqT.of (imA.1 _ _ ht)), _, _, rfl, rfl, _, rfl, ?_⟩
      have last : ∀ H5 us5 ss5, Imm H4 H5 → Ext [l] H H5 → Fd B U H5 l us5 ss5 → tIfS (tAnd (tTag K 0 "some") (tTest (tOp (rNotInD K) (tTup (tCons (tC (.str "many")) (tCons (tAt K 0 1) tNil))) (tVar 1)))) (tDrop (tBM K "list" rAppend (tVar 1) (tCons (tTup (tCons (tC (.str "many")) (tCons (tAt K 0 1) tNil))) tNil))) tNext { nx := fun _ H' => Q .non H', rt := Q } [some (.ref a), some (.ref l), v2] H5 := by
        intro H5 us5 ss5 im5 E5 hF5
        refine rd_tag rfl (im5.1 _ _ (imA.1 _ _ hb)) ?_
        rw [show decide (("chain" : Str) = "some") = false by decide +kernel]
        exact iteF (iteF (q H5 us5 ss5 E5 hF5))
      refine ite2 (fun c2 => ?_) (fun _ => iteF (last H4 us4 ss4 (Imm.refl _) EA hF4))
      refine rd_tag rfl (imA.1 _ _ hb) ?_
      rw [show decide (("chain" : Str) = "chain") = true by decide +kernel]
      refine iteT ?_
      have l2 : (2 : Int) < ((vs.length : Nat) : Int) := of_decide_eq_true c2
      have hcn := TAt.len gs.ok.2.1 hP
      cases ps with
      | cons p0 qs =>
        obtain ⟨b0, vs', rfl, h0, h1⟩ := hP
        have hq3 : 2 ≤ qs.cnt := by
          have e : qs.cnt + 1 = (V.ref b0 :: vs').length := hcn.symm
          omega
        have okq := gs.ok.2.1.2.2
        have z5 : p0.sz + qs.sz + 1 ≤ n + 1 := z1
        have z6 : p0.sz + qs.sz + 1 ≤ 13 := z2
        have z7 : max p0.deep qs.deep + 1 ≤ 3 := z3
        have z8 : p0.trees + qs.trees ≤ 9 := z4
        have p0s : 1 ≤ p0.sz := sz_pos gs.ok.2.1.2.1
        have gq : Gd B (.chain qs) := ⟨⟨rfl, okq, hq3⟩, by show qs.deep + 1 ≤ 3; omega, by show qs.sz + 1 ≤ 13; omega, by show qs.trees ≤ 9; omega, gs.wt.2, gs.nm.2⟩
        refine ⟨_, rfl, a, _, 1, .ref t, rfl, rfl, SqT.of (imA.1 _ _ hb), atI_nat (j := 1) rfl, 1, rfl, t, _, rfl, SqT.of (imA.1 _ _ ht), fun z => absurd z.1 ?_, fun _ tq htq => ?_⟩
        · show ¬ min 1 (V.ref b0 :: vs').length = 0
          simp
        have ecut : cutV (V.ref b0 :: vs') (some 1) none = vs' := by
          unfold cutV
          show ((V.ref b0 :: vs').drop (min 1 (V.ref b0 :: vs').length)).take ((V.ref b0 :: vs').length - min 1 (V.ref b0 :: vs').length) = vs'
          simp
        rw [ecut]
        refine ⟨(by show 2 ≤ sizeLine; decide), fun c hc => ?_⟩
        have S5 := same_new htq (.tup vs')
        have S6 := same_new hc (.tup [.str "chain", .ref tq])
        have S56 := S5.trans S6
        refine ⟨_, rfl, c, l, .chain qs, us4, ss4, U, B, rfl, ⟨c, tq, vs', rfl, upd_same, S6 _ _ upd_same, (TAt.imm (imA.trans (Same.imm S56)) h1)⟩, gq, by show qs.sz + 1 ≤ n; omega, hF4.same S56, fun x hx => hun x ?_, hU, fun H7 us7 ss7 E7 hF7 => ?_⟩
        · have hx2 : x ∈ unC qs := hx
          simp [unS, unC, hx2]
        · exact last H7 us7 ss7 ((Same.imm S56).trans (ext_imm (hF4.same S56).1 E7)) (EA.trans ((Ext.of_same S56).trans E7)) hF7
      | nil =>
        have e : vs.length = 0 := hcn
        omega
      | _ => have o := gs.ok.2.1; simp [Sh.ok] at o
    | nil => cases gs.ok
    | cons p ps => cases gs.ok.1
theorem ok_all (T : Tx K mg) : ∀ n : Nat, FO P w K mg base n (ca K "_law_all_shapes") pAllShapes (spAll n)
  | 0 => fo_none fun vs H Q E ⟨a, l, s, _, _, _, _, _, _, g, h, _⟩ => by
    have := sz_pos g.ok
    omega
  | n + 1 => all_step T (ok_all T n)
end
end K17
end PartK17J1
section PartK17J2
set_option Elab.async false
set_option linter.all false
set_option maxRecDepth 100000
set_option maxHeartbeats 4000000
/-! The law's named. -/
namespace K17
open PySem PySem.Spec PyProof.Rows L2
/-- the name that the law tries: a letter, qx, the letter of the place -/
def qn (c k : Nat) : Str := lt (c : Int) ++ "qx" ++ lt (k : Int)
theorem qx_cps : ("qx" : Str).cps.toList = [113, 120] := by decide +kernel
theorem qn_cps (c k : Nat) : (qn c k).cps.toList = [97 + c, 113, 120, 97 + k] := by
  unfold qn
  rw [app_cps, app_cps, qx_cps]
  rfl
theorem qn_inj {c k c' k' : Nat} (e : qn c k = qn c' k') : c = c' ∧ k = k' := by
  have z := congrArg (fun x : Str => x.cps.toList) e
  simp only [qn_cps] at z
  injection z with z1 z2
  injection z2 with _ z3
  injection z3 with _ z4
  injection z4 with z5 _
  exact ⟨by omega, by omega⟩
theorem qn_nm {c k : Nat} (hc : c < 26) (hk : k < 26) : Nm (qn c k) := by
  have l : (qn c k).length = 4 := by
    rw [← len_cps, qn_cps]
    rfl
  refine ⟨by omega, by omega, fun x hx => ?_, fun z => ?_⟩
  · rw [qn_cps] at hx
    simp at hx
    omega
  · have e : (kept.all fun y => decide (y.cps.toList[1]? ≠ some 113)) = true := by decide +kernel
    have q := of_decide_eq_true (List.all_eq_true.mp e _ z)
    apply q
    rw [qn_cps]
    rfl
def rLenK (P : Program) (w : World) : List V → Hp → VK → Prop := fun xs H Q => ∃ a kvs, xs = [V.ref a] ∧ KD P w H a kvs ∧ Q (.int kvs.length) H
theorem call_lenKD {X : Cx} : CallR X (.builtin "len") (rLenK X.prog X.w) := call_lenK
theorem abc_get {i c : Nat} (h : ("abcdefghijklmnopqrstuvwxyz" : Str).cps[i]? = some c) : i < 26 ∧ c = 97 + i := by
  have h2 : ("abcdefghijklmnopqrstuvwxyz" : Str).cps.toList[i]? = some c := by simpa using h
  have hl := (List.getElem?_eq_some_iff.mp h2).1
  have e : ("abcdefghijklmnopqrstuvwxyz" : Str).cps.toList.length = 26 := by decide +kernel
  have hi : i < 26 := by omega
  rw [abc_at i hi] at h2
  injection h2 with h2
  exact ⟨hi, h2.symm⟩
/-- the words that are not taken -/
def free (tk : List Str) (k : Nat) : List Str := ((List.range 26).map fun c => qn c k).filter fun x => decide (¬ x ∈ tk)
theorem free_pos {tk : List Str} {k : Nat} (h : tk.length ≤ 20) : ∃ c tl, c < 26 ∧ free tk k = qn c k :: tl ∧ ¬ qn c k ∈ tk := by
  cases e : free tk k with
  | cons x tl =>
    have hx : x ∈ free tk k := by
      rw [e]
      exact List.mem_cons_self ..
    obtain ⟨h1, h2⟩ := List.mem_filter.mp hx
    obtain ⟨c, hc, rfl⟩ := List.mem_map.mp h1
    exact ⟨c, tl, List.mem_range.mp hc, rfl, of_decide_eq_true h2⟩
  | nil =>
    exfalso
    have all : ∀ x ∈ (List.range 26).map fun c => qn c k, x ∈ tk := fun x hx => by
      by_cases c : x ∈ tk
      · exact c
      · have z : x ∈ free tk k := List.mem_filter.mpr ⟨hx, decide_eq_true c⟩
        rw [e] at z
        cases z
    have nd : ((List.range 26).map fun c => qn c k).Nodup := by
      refine List.pairwise_map.mpr ((List.pairwise_lt_range (n := 26)).imp fun {a b} hab e => ?_)
      have := (qn_inj e).1
      omega
    have z := nodup_le nd all
    rw [List.length_map, List.length_range] at z
    omega
def spNamed (P : Program) (w : World) : Sp := fun vs H Q _ => ∃ (a d t : Addr) (s : Sh) (kvs : List (Sh × V)) (tk : List Str), vs = [.ref a, .ref d, .ref t] ∧ TAt H s [.ref a] ∧ Kb s ∧ KD P w H d kvs ∧ kvs.length < 20 ∧ valV kvs s = none ∧ H t = some (.lst (tk.map V.str)) ∧ tk.length ≤ 20 ∧
  ∀ (c : Nat) (H' : Hp), c < 26 → ¬ qn c kvs.length ∈ tk → Ext [d] H H' → Imm H H' → KD P w H' d (kvs ++ [(s, .str (qn c kvs.length))]) → Q (.str (qn c kvs.length)) H'
section
variable {P : Program} {w : World} {K : PySem.W.Frag} {mg : Str → Option Value} {base : Heap}
theorem ok_named (T : Tx K mg) : FO P w K mg base 1 (ca K "_law_named") pNamed (spNamed P w) := by
  refine T.d_law_named.ok0 scNamed (fun vs H Q E h => ?_) (fun cdv A outer st H vs Q E hr h => ?_)
  · obtain ⟨a, d, t, s, kvs, tk, rfl, _⟩ := h
    rfl
  · obtain ⟨a, d, t, s, kvs, tk, rfl, hT, hs, hK, hk20, hno, ht, htk, q⟩ := h
    have nd := scNamed.nd
    refine ⟨_, pss_cons (ps_set (i := 3) nd rfl (.inr rfl) pe_str)
      (pss_cons (ps_if (pt_cmpR (op_knotin hr) (pv 0) (pv 1) rfl)
        (pss_cons (ps_setLc (i := 4) (own := [("_law_letter", 5)]) (g := gName 5) (tt := tYes) (te := tOp rAddS (tOp rAddS (tVar 5) (tC (.str "qx"))) (tOp rIxS (tVar 3) (tCB (rLenK P w) (tCons (tVar 1) tNil)))) rfl nd rfl rfl (by rfl) (pi_str (pv 3)) (blkOk_by (N := nNamed) (sc := defScope sNamed) (by decide +kernel))
            (fun _ _ _ _ _ => pg_name (i := 5) nd rfl (.inl rfl) (.inr rfl)) (fun _ _ _ _ _ => pts_nil) (fun _ _ _ _ _ => pe_op op_addS (pe_op op_addS (pv 5) pe_str) (pe_ix ix_str (pv 3) (pe_callB call_lenKD (by rfl) T.b_len PySem.boot_len (pa_cons (pv 1) pa_nil)) (fun _ _ => rfl))))
        (pss_one (ps_asg (pe_ix ix_list (pe_lc (own := [("_law_word", 6)]) (g := gName 6) (tt := tTest (tOp (rIn K true) (tVar 6) (tVar 2))) (te := tVar 6) rfl nd (pi_list (pv 4)) (blkOk_by (N := nNamed) (sc := defScope sNamed) (by decide +kernel))
            (fun _ _ _ _ _ => pg_name (i := 6) nd rfl (.inl rfl) (.inr rfl)) (fun _ _ _ _ _ => pts_one (pt_cmpR op_notIn_seq (pv 6) (pv 2) rfl)) (fun _ _ _ _ _ => pv 6)) pe_int (fun _ _ => rfl)) (pg_sub (pv 1) (pv 0) (pset_k hr))))) pss_nil)
      (pss_one (ps_ret (pe_kget hr (pv 1) (pv 0))))), ?_⟩
    refine ⟨_, rfl, _, rfl, a, d, s, kvs, rfl, rfl, hs, hT, hK, _, rfl, ?_⟩
    rw [hno]
    refine iteT ?_
    refine ⟨_, rfl, _, rfl, fun L hL => ?_⟩
    have hk26 : kvs.length < 26 := by omega
    have kdS : ∀ {H1 H2 : Hp}, KD P w H1 d kvs → Same H1 H2 → KD P w H2 d kvs := fun h S => h.ext (Same.imm S) fun o ho => S _ _ ho
    have S0 : Same H (upd H L (.lst [])) := same_new hL _
    refine lc_it walk_str (fun k H6 => Same H H6 ∧ H6 L = some (.lst (((List.range k).map fun c => qn c kvs.length).map V.str))) ⟨S0, upd_same⟩ (fun _ _ _ _ => trivial) ?_ ?_
    · rintro k x H6 H7 hk ⟨S6, hA⟩ ⟨rfl, cc, hcc, rfl⟩
      obtain ⟨hk26', rfl⟩ := abc_get hcc
      refine ⟨rfl, ?_⟩
      dsimp only [tYes]
      rw [if_pos rfl]
      refine ⟨_, rfl, _, _, rfl, rfl, ?_, _, rfl, _, rfl, d, kvs, rfl, kdS hK S6, rd_abc (by omega) (by omega) ⟨_, _, rfl, rfl, ?_, ?_⟩⟩
      · have e1 : ("qx" : Str).length = 2 := by decide +kernel
        rw [e1]
        show 1 + 2 ≤ sizeLine
        decide
      · have e1 : ("qx" : Str).length = 2 := by decide +kernel
        rw [len_app, e1]
        show 1 + 2 + 1 ≤ sizeLine
        decide
      refine ⟨_, hA, ?_, fun u o ho => ?_, ?_⟩
      · rw [List.length_map, List.length_map, List.length_range]
        exact sl5 (by omega)
      · rw [upd_ne (ne_of_none ho hL)]
        exact S6 _ _ ho
      · rw [upd_same, List.range_succ, List.map_append, List.map_append]
        rfl
    rintro H3 ⟨S3, hA⟩
    have e26 : ("abcdefghijklmnopqrstuvwxyz" : Str).cps.size = 26 := abc_len
    rw [e26] at hA
    refine ⟨_, rfl, L, rfl, ⟨_, SqL.of hA⟩, fun M hM => ?_⟩
    refine lc_list (K := K) (a := L) (xs := ((List.range 26).map fun c => qn c kvs.length).map V.str) (fun k H6 => Same H3 H6 ∧ H6 M = some (.lst (((((List.range 26).map fun c => qn c kvs.length).take k).filter fun x => decide (¬ x ∈ tk)).map V.str))) ⟨same_new hM _, upd_same⟩ (fun k H6 _ ⟨S, _⟩ => SqL.of (S _ _ hA)) ?_ ?_
    · rintro k x H6 hx ⟨S6, hB⟩
      have hk := (List.getElem?_eq_some_iff.mp hx).1
      rw [List.length_map] at hk
      rw [List.getElem?_map] at hx
      obtain ⟨y, hy, rfl⟩ := Option.map_eq_some_iff.mp hx
      refine ⟨rfl, ?_⟩
      refine ⟨_, rfl, _, rfl, t, _, rfl, .inl (SqL.of (S6 _ _ (S3 _ _ ht))), rfl, flat_strs _, _, rfl, ?_⟩
      have e1 : (if true = true then !inV (.str y) (tk.map V.str) else inV (.str y) (tk.map V.str)) = decide (¬ y ∈ tk) := by
        rw [if_pos rfl, inV_strs]
        simp
      rw [e1]
      by_cases c : y ∈ tk
      · rw [decide_eq_false (not_not_intro c)]
        refine iteF ⟨S6, ?_⟩
        rw [hB, List.take_add_one, hy]
        simp [c]
      · rw [decide_eq_true c]
        refine iteT ⟨_, rfl, _, hB, ?_, fun u o ho => ?_, ?_⟩
        · rw [List.length_map]
          have := List.length_filter_le (fun x => decide (¬ x ∈ tk)) (((List.range 26).map fun c => qn c kvs.length).take k)
          rw [List.length_take, List.length_map, List.length_range] at this
          exact sl5 (by omega)
        · rw [upd_ne (ne_of_none ho hM)]
          exact S6 _ _ ho
        · rw [upd_same, List.take_add_one, hy, List.filter_append, List.map_append]
          simp [c]
    rintro H4 ⟨S4, hB⟩
    rw [List.length_map, List.length_map, List.length_range] at hB
    have e5 : ((List.range 26).map fun c => qn c kvs.length).take 26 = (List.range 26).map fun c => qn c kvs.length := List.take_of_length_le (by rw [List.length_map, List.length_range]; exact Nat.le_refl _)
    rw [e5] at hB
    obtain ⟨c, tl, hc, hfr, hnt⟩ := free_pos (tk := tk) (k := kvs.length) htk
    have hB2 : H4 M = some (.lst ((qn c kvs.length :: tl).map V.str)) := by
      rw [← hfr]
      exact hB
    have S34 := S3.trans S4
    have hK4 := kdS hK S34
    refine ⟨M, _, 0, _, rfl, rfl, SqL.of hB2, atI_nat (j := 0) rfl, ?_⟩
    refine ⟨_, rfl, _, rfl, a, d, s, kvs, rfl, rfl, hs, hT.imm (Same.imm S34), hK4, hno, by omega, fun H5 E5 I5 _ hK5 => ?_⟩
    refine ⟨_, rfl, _, rfl, a, d, s, _, _, rfl, rfl, hs, hT.imm ((Same.imm S34).trans I5), hK5, ?_, q c H5 hc hnt ((Ext.of_same S34).trans E5) ((Same.imm S34).trans I5) hK5⟩
    rw [valV_snoc s s _ kvs hno, if_pos rfl]
end
end K17
end PartK17J2
section PartK17J3
set_option Elab.async false
set_option linter.all false
set_option maxRecDepth 100000
set_option maxHeartbeats 4000000
/-! The law's asked. -/
namespace K17
open PySem PySem.Spec PyProof.Rows L2 NdefX LamX
abbrev sAsked : Stmt := (defBody sLaw).getD 15 (.Pass ⟨0, 0, 0, 0⟩)
abbrev mkF (q : Str) (cl : List (Str × Addr)) (c : Addr) : NF := NF.of sAsked "_law_asked" q cl c
abbrev pAsked : List Str := ["_law_part", "_law_inner"]
abbrev frA : List Str := ["_law_asked", "_law_forms", "_law_more"]
abbrev nAsked : List Str := ["_law_part", "_law_inner", "_law_asked", "_law_forms", "_law_more"]
theorem scAsked : NScope nAsked pAsked frA (C8.fnScope sAsked) := nscope_by (by decide +kernel)
/-- what asked may lean on -/
def Aq (P : Program) (w : World) (K : PySem.W.Frag) (H : Hp) (f fa d : Addr) (F : NF) (rs : List Rl) (kvs : List (Sh × V)) : Prop := H f = some (FnO f F) ∧ H F.c = some (CodeO F.c F.qual) ∧ FsAt K H fa rs ∧ Fk rs ∧ KD P w H d kvs ∧ ∀ p ∈ kvs, ∃ x, p.2 = .str x ∧ Rl.shaped x p.1 ∈ rs
theorem Aq.same {P : Program} {w : World} {K : PySem.W.Frag} {H H' : Hp} {f fa d : Addr} {F : NF} {rs : List Rl} {kvs : List (Sh × V)} (h : Aq P w K H f fa d F rs kvs) (S : Same H H') : Aq P w K H' f fa d F rs kvs :=
  ⟨S _ _ h.1, S _ _ h.2.1, h.2.2.1.imm (Same.imm S), h.2.2.2.1, h.2.2.2.2.1.ext (Same.imm S) fun o ho => S _ _ ho, h.2.2.2.2.2⟩
/-- a told shape that asked and due take -/
structure Gq (rs : List Rl) (s : Sh) : Prop where
  ok : s.ok false
  deep : s.deep ≤ 3
  sz : s.sz ≤ 20
noncomputable abbrev Dv (rs : List Rl) (r : Row) (s : Sh) : Bool := bv (D s false (sg rs r))
/-- a row that asked takes -/
structure Gr (r : Row) : Prop where
  rok : Rok 3 r
  tn : Tn r
def wsA (f fa d : Addr) : List (Option V) := [some (.ref f), some (.ref fa), some (.ref d)]
def spAs (P : Program) (w : World) (K : PySem.W.Frag) (q : Str) (cl : List (Str × Addr)) (f fa d c : Addr) (n : Nat) (ws : List (Option V)) : Sp := fun vs H Q _ => ∃ (a : Addr) (rs : List Rl) (kvs : List (Sh × V)) (r : Row), ws = wsA f fa d ∧ Aq P w K H f fa d (mkF q cl c) rs kvs ∧ RowAt H r a ∧ Gr r ∧
  ((∃ x, vs = [.str x, .ref a] ∧ x ∈ nms rs ∧ ∀ H', Same H H' → Q (.bl (F rs r x)) H') ∨ ∃ (b : Addr) (s : Sh), vs = [.ref b, .ref a] ∧ TAt H s [.ref b] ∧ Gq rs s ∧ s.sz + r.len ≤ n ∧ (∀ x ∈ s.lvs, x.2 ∈ nms rs) ∧ ∀ H', Same H H' → Q (.bl (Dv rs r s)) H')
def spDu (P : Program) (w : World) (K : PySem.W.Frag) (q : Str) (cl : List (Str × Addr)) (n : Nat) (ws : List (Option V)) : Sp := fun vs H Q _ => ∃ (f c fa d a b : Addr) (rs : List Rl) (kvs : List (Sh × V)) (r : Row) (s : Sh), vs = [.ref b, .ref a, .ref f] ∧ ws = wsA f fa d ∧ Aq P w K H f fa d (mkF q cl c) rs kvs ∧ RowAt H r a ∧ Gr r ∧ TAt H s [.ref b] ∧ Gq rs s ∧ s.sz + r.len ≤ n ∧ (∀ x ∈ s.lvs, x.2 ∈ nms rs) ∧
  ∀ H', Same H H' → Q (.bl (Dv rs r s)) H'
section
variable {P : Program} {w : World} {K : PySem.W.Frag} {mg : Str → Option Value} {base : Heap} {q : Str} {cl : List (Str × Addr)} {ws : List (Option V)}
abbrev DuG (P : Program) (w : World) (K : PySem.W.Frag) (mg : Str → Option Value) (base : Heap) (q : Str) (cl : List (Str × Addr)) (ws : List (Option V)) (n : Nat) : Prop := FO P w K mg base (135 + 2 * n) (ca K "_law_due") pDue (spDu P w K q cl n ws)
abbrev AsG (P : Program) (w : World) (K : PySem.W.Frag) (mg : Str → Option Value) (base : Heap) (q : Str) (cl : List (Str × Addr)) (f fa d : Addr) (n : Nat) : Prop := ∀ c, NOk P w K mg base CX0 (136 + 2 * n) f (mkF q cl c) pAsked frA (spAs P w K q cl f fa d c n)
theorem as_step (T : Tx K mg) {n : Nat} {f fa d : Addr} (G : DuG P w K mg base q cl (wsA f fa d) n) : AsG P w K mg base q cl f fa d n := by
  intro c
  have GF : FO P w K mg base (135 + 2 * n) (ca K "fits") pFits (spFits K) := (ok_fits T).mono (by omega)
  have e : 136 + 2 * n = (135 + 2 * n) + 1 := by omega
  rw [e]
  refine nok_of (N := nAsked) (F := mkF q cl c) (fr := frA) (ps := pAsked) scAsked (fun doc pm ctv us hl => ?_) (fun ws vs H Q E h => ?_) (fun A outer st H vs ws Q E hr hf hc hwl h => ?_)
  · match us, hl with
    | [u1, u2], _ => rfl
  · obtain ⟨a, rs, kvs, r, _, _, _, _, h⟩ := h
    rcases h with ⟨x, rfl, _⟩ | ⟨b, s, rfl, _⟩ <;> rfl
  · obtain ⟨a, rs, kvs, r, rfl, hA, hR, hg, h⟩ := h
    have GD : FO P w K mg base (135 + 2 * n) (ca K "_law_due") pDue (spDu P w K q cl n (wsA f fa d)) := G
    obtain ⟨g1, g2, g3, g4, g5, g6⟩ := id hA
    refine ⟨_, pss_cons (ps_if (pt_val (pe_callB call_isi (by rfl) T.b_isinstance (by decide +kernel) (pa_cons (pv 0) (pa_cons (pe_bltn (v := .ty "str") (by rfl) T.b_str (by decide +kernel) rfl) pa_nil)))) (pss_one (ps_ret (pe_call GF hr (by rfl) T.g_fits T.d_fits.kp (bd_fits T) .nil pass0 (pa_cons (pv 3) (pa_cons (pv 0) (pa_cons (pv 1) pa_nil)))))) pss_nil)
      (pss_cons (ps_if (pt_cmpR (op_kin hr) (pv 0) (pv 4) rfl) (pss_one (ps_ret (pe_call GF hr (by rfl) T.g_fits T.d_fits.kp (bd_fits T) .nil pass0 (pa_cons (pv 3) (pa_cons (pe_kget hr (pv 4) (pv 0)) (pa_cons (pv 1) pa_nil)))))) pss_nil)
      (pss_one (ps_ret (pe_call GD hr (by rfl) T.g_law_due T.d_law_due.kp (bd_law_due T) .nil pass0 (pa_cons (pv 0) (pa_cons (pv 1) (pa_cons (pv 2) pa_nil))))))), ?_⟩
    rcases h with ⟨x, rfl, hx, q1⟩ | ⟨b, s, rfl, hT, gs, hm, hlv, q1⟩
    · refine ⟨_, rfl, .str x, .ty "str", _, _, true, rfl, .ty "str", .base (.str x), kit_ty (by decide +kernel), _, rfl, iteT ?_⟩
      exact ⟨_, rfl, _, rfl, _, rfl, fa, a, x, rs, r, rfl, g3, g4, hR, hg.rok, hg.tn, hx, q1⟩
    · obtain ⟨zs, hz⟩ := hT.tag gs.ok
      refine ⟨_, rfl, .ref b, .ty "str", _, _, false, rfl, .ty "str", .base (.tup hz), kit_ty (by decide +kernel), _, rfl, iteF ?_⟩
      refine ⟨_, rfl, _, rfl, b, d, s, kvs, rfl, rfl, ⟨gs.ok, gs.deep⟩, hT, g5, _, rfl, ?_⟩
      cases e : valV kvs s with
      | none =>
        exact iteF ⟨_, rfl, _, rfl, _, rfl, f, c, fa, d, a, b, rs, kvs, r, s, rfl, rfl, hA, hR, hg, hT, gs, hm, hlv, q1⟩
      | some v =>
        obtain ⟨x, hx, hmem⟩ := g6 _ (valV_mem e)
        have hx : v = .str x := hx
        refine iteT ⟨_, rfl, _, rfl, _, rfl, b, d, s, kvs, v, rfl, rfl, ⟨gs.ok, gs.deep⟩, hT, g5, e, _, rfl, ?_⟩
        subst hx
        refine ⟨fa, a, x, rs, r, rfl, g3, g4, hR, hg.rok, hg.tn, List.mem_map.mpr ⟨_, hmem, rfl⟩, fun H' S => ?_⟩
        have z := q1 H' S
        have eF := F_rule (row := r) g4.ok hmem
        have e2 : F rs r x = Dv rs r s := eF
        rw [e2]
        exact z
end
end K17
end PartK17J3
section PartK17J4
set_option Elab.async false
set_option linter.all false
set_option maxRecDepth 100000
set_option maxHeartbeats 4000000
/-! The law's due. -/
namespace K17
open PySem PySem.Spec PyProof.Rows L2 NdefX LamX
/-! ### what the parts come to -/
theorem bv_eq {p : Prop} {b : Bool} (h : p ↔ b = true) : bv p = b := by
  cases b with
  | true => exact bv_true (h.mpr rfl)
  | false => exact bv_false fun z => by cases h.mp z
theorem dv_nothing {rs : List Rl} {r : Row} : Dv rs r .nothing = decide (r = .nil) := bv_eq (by
  rw [decide_eq_true_eq]
  exact sg_nil)
theorem dv_maybe {rs : List Rl} {r : Row} {p : Sh} : Dv rs r (.maybe p) = (decide (r = .nil) || Dv rs r p) := bv_eq (by
  rw [Bool.or_eq_true, decide_eq_true_eq, bv_iff]
  show sg rs r = [] ∨ _ ↔ _
  rw [sg_nil])
theorem dv_tree1 {rs : List Rl} {x : Str} {i : Row} {wo : Option Str} {n : Str} : Dv rs (.cons x i .nil) (.tree wo n) = (wordOk wo x && F rs i n) := bv_eq (by
  rw [Bool.and_eq_true]
  show (∃ g : Sg, [(x, F rs i)] = [g] ∧ _) ↔ _
  constructor
  · rintro ⟨g, e, h1, h2⟩
    injection e with e _
    subst e
    exact ⟨h1, h2⟩
  · rintro ⟨h1, h2⟩
    exact ⟨_, rfl, h1, h2⟩)
theorem dv_treeN {rs : List Rl} {r : Row} {wo : Option Str} {n : Str} (h : r.len ≠ 1) : Dv rs r (.tree wo n) = false := bv_false (by
  rintro ⟨g, e, _⟩
  have z := sg_len rs r
  rw [e] at z
  exact h z.symm)
def Sh.bools (g : Sh → Bool) : Sh → List Bool
  | .cons p ps => g p :: ps.bools g
  | _ => []
theorem bools_part {g : Sh → Bool} : ∀ {ps : Sh} {k : Nat} {p : Sh}, ps.part k = Option.some p → (ps.bools g)[k]? = some (g p)
  | .cons p ps, 0, _, z => by
    cases z
    rfl
  | .cons p ps, k + 1, p', z => by
    have h := bools_part (g := g) (ps := ps) z
    simpa [Sh.bools] using h
theorem bools_len {g : Sh → Bool} : ∀ {ps : Sh}, ps.ok true → (ps.bools g).length = ps.cnt
  | .nil, _ => rfl
  | .cons p ps, h => congrArg (· + 1) (bools_len h.2.2)
theorem dv_either {rs : List Rl} {r : Row} {ps : Sh} (ok : ps.ok true) : Dv rs r (.either ps) = decide (true ∈ ps.bools (Dv rs r)) := bv_eq (by
  rw [decide_eq_true_eq]
  show D ps true (sg rs r) ↔ _
  have go : ∀ {ps : Sh}, ps.ok true → (D ps true (sg rs r) ↔ true ∈ ps.bools (Dv rs r)) := by
    intro ps
    induction ps with
    | nil =>
      intro _
      constructor
      · rintro ⟨z, _⟩
        cases z
      · intro z
        cases z
    | cons p ps _ ih =>
      intro ok
      have ih := ih ok.2.2
      show (true = true ∧ (D p false (sg rs r) ∨ D ps true (sg rs r))) ∨ (true = false ∧ _) ↔ true ∈ Dv rs r p :: ps.bools (Dv rs r)
      rw [List.mem_cons, ← ih]
      constructor
      · rintro (⟨_, z | z⟩ | ⟨z, _⟩)
        · exact .inl (bv_true z).symm
        · exact .inr z
        · cases z
      · rintro (z | z)
        · exact .inl ⟨rfl, .inl (bv_iff.mp z.symm)⟩
        · exact .inl ⟨rfl, .inr z⟩
    | _ => intro ok; simp [Sh.ok] at ok
  exact go ok)
theorem take_thin : ∀ (k : Nat) {r : Row}, r.thin → (r.take k).thin
  | 0, _, _ => trivial
  | k + 1, .nil, _ => trivial
  | k + 1, .cons w i r, h => ⟨h.1, h.2.1, take_thin k h.2.2⟩
theorem drop_thin : ∀ (k : Nat) {r : Row}, r.thin → (r.drop k).thin
  | 0, _, h => h
  | k + 1, .nil, _ => trivial
  | k + 1, .cons w i r, h => drop_thin k h.2.2
theorem Gr.take {r : Row} (k : Nat) (h : Gr r) : Gr (r.take k) :=
  ⟨⟨wrow_take k h.rok.1, Nat.le_trans (take_size k r) h.rok.2.1, Nat.le_trans (take_depth k r) h.rok.2.2⟩, Nat.le_trans (take_len_le k r) h.tn.1, take_thin k h.tn.2⟩
theorem Gr.drop {r : Row} (k : Nat) (h : Gr r) : Gr (r.drop k) :=
  ⟨⟨wrow_drop k h.rok.1, Nat.le_trans (drop_size k r) h.rok.2.1, Nat.le_trans (drop_depth k r) h.rok.2.2⟩, by rw [drop_len]; exact Nat.le_trans (Nat.sub_le _ _) h.tn.1, drop_thin k h.tn.2⟩
theorem take_len_all : ∀ r : Row, r.take r.len = r
  | .nil => rfl
  | .cons w i r => by
    show Row.cons w i (r.take r.len) = _
    rw [take_len_all r]
theorem drop_zero (r : Row) : r.drop 0 = r := by cases r <;> rfl
theorem rd_slT {K : PySem.W.Frag} {H : Hp} {Q : VK} {a : Addr} {r : Row} {k : Nat} (h : RowAt H r a) (hk : k ≤ r.len) (q : ∀ a' H', Same H H' → RowAt H' (r.take k) a' → Q (.ref a') H') : rSlA K (.ref a) none (some (k : Int)) H Q := by
  obtain ⟨us, h1, h2⟩ := h
  have hl := h2.len
  refine ⟨a, us, rfl, SqT.of h1, fun z => ?_, fun z p hp => ?_⟩
  · rw [HT.sIx_nat] at z
    have ek : k = r.len := by omega
    refine q a H (fun _ _ e => e) ⟨us, h1, ?_⟩
    rw [ek, take_len_all]
    exact h2
  · have S := same_new hp (.tup (cutV us none (some (k : Int))))
    refine q p _ S ⟨_, upd_same, ?_⟩
    have e : cutV us none (some (k : Int)) = us.take k := by
      unfold cutV
      rw [HT.sIx_nat, HT.sIx_none]
      simp
    rw [e]
    exact (h2.take k).imm (Same.imm (by rw [e] at S; exact S))
theorem rd_slD {K : PySem.W.Frag} {H : Hp} {Q : VK} {a : Addr} {r : Row} {k : Nat} (h : RowAt H r a) (hk : k ≤ r.len) (q : ∀ a' H', Same H H' → RowAt H' (r.drop k) a' → Q (.ref a') H') : rSlA K (.ref a) (some (k : Int)) none H Q := by
  obtain ⟨us, h1, h2⟩ := h
  have hl := h2.len
  refine ⟨a, us, rfl, SqT.of h1, fun z => ?_, fun z p hp => ?_⟩
  · rw [HT.sIx_nat] at z
    have ek : k = 0 := by omega
    refine q a H (fun _ _ e => e) ⟨us, h1, ?_⟩
    rw [ek, drop_zero]
    exact h2
  · have e : cutV us (some (k : Int)) none = us.drop k := by
      unfold cutV
      rw [HT.sIx_nat, HT.sIx_none, Nat.min_eq_left (by omega)]
      rw [List.take_of_length_le (by rw [List.length_drop]; omega)]
    have S := same_new hp (.tup (cutV us (some (k : Int)) none))
    refine q p _ S ⟨_, upd_same, ?_⟩
    rw [e]
    exact (h2.drop k).imm (Same.imm (by rw [e] at S; exact S))
/-- True in [asked(p, row[:k]) and asked(R, row[k:]) for k in places] -/
theorem rd_parts {P : Program} {w : World} {K : PySem.W.Frag} {q : Str} {cl : List (Str × Addr)} {H : Hp} {Q : VK} {f c fa d a pl b1 b2 : Addr} {rs : List Rl} {kvs : List (Sh × V)} {r : Row} {p R : Sh} {m lo : Nat} {s0 s3 s4 s6 : Option V} {te1 te2 : TE} (hA : Aq P w K H f fa d (mkF q cl c) rs kvs) (hR : RowAt H r a) (hg : Gr r)
    (hpl : H pl = some (.lst (rgV (lo : Int) (((r.len : Nat) : Int) + 1)))) (hlo : lo ≤ 1)
    (ht1 : ∀ (H1 : Hp) (Q1 : VK) (v : Option V), Same H H1 → Q1 (.ref b1) H1 → te1 [s0, some (.ref a), some (.ref f), s3, s4, some (.ref pl), v] H1 Q1) (ht2 : ∀ (H1 : Hp) (Q1 : VK) (v : Option V), Same H H1 → Q1 (.ref b2) H1 → te2 [s0, some (.ref a), some (.ref f), s3, s4, some (.ref pl), v] H1 Q1)
    (hp : TAt H p [.ref b1]) (gp : Gq rs p) (np : ∀ x ∈ p.lvs, x.2 ∈ nms rs) (mp : p.sz + r.len ≤ m) (hR2 : TAt H R [.ref b2]) (gR : Gq rs R) (nR : ∀ x ∈ R.lvs, x.2 ∈ nms rs) (mR : R.sz + r.len ≤ m + lo)
    (hq : ∀ b H', Same H H' → (b = true ↔ ∃ k, lo ≤ k ∧ k ≤ r.len ∧ Dv rs (r.take k) p = true ∧ Dv rs (r.drop k) R = true) → Q (.bl b) H') :
    tOp (rIn K false) (tC (.bl true)) (tLc (iList K (tVar 5)) (gName 6) tYes (tAndV (tCallB (mkF q cl c) f 2 (wsA f fa d) (spAs P w K q cl f fa d c m) (tCons te1 (tCons (tSl (rSlA K) (tVar 1) tNoPart (tPart (tVar 6))) tNil))) (tCallB (mkF q cl c) f 2 (wsA f fa d) (spAs P w K q cl f fa d c m) (tCons te2 (tCons (tSl (rSlA K) (tVar 1) (tPart (tVar 6)) tNoPart) tNil)))) [6]) [s0, some (.ref a), some (.ref f), s3, s4, some (.ref pl), s6] H Q := by
  refine ⟨_, rfl, pl, rfl, ⟨_, SqL.of hpl⟩, fun L hL => ?_⟩
  have hn50 := hg.tn.1
  have elen : (rgV (lo : Int) (((r.len : Nat) : Int) + 1)).length = r.len + 1 - lo := by
    rw [rgV_length]
    omega
  refine lc_list (K := K) (a := pl) (xs := rgV (lo : Int) (((r.len : Nat) : Int) + 1)) (fun j H6 => Same H H6 ∧ H6 L = some (.lst (((List.range j).map fun i => Dv rs (r.take (lo + i)) p && Dv rs (r.drop (lo + i)) R).map V.bl))) ⟨same_new hL _, upd_same⟩ (fun j H6 _ ⟨S, _⟩ => SqL.of (S _ _ hpl)) ?_ ?_
  · rintro j x H6 hx ⟨S6, hB⟩
    have hj := (List.getElem?_eq_some_iff.mp hx).1
    rw [elen] at hj
    have ex : x = .int (((lo + j : Nat)) : Int) := by
      unfold rgV at hx
      rw [List.getElem?_map] at hx
      obtain ⟨i, hi, rfl⟩ := Option.map_eq_some_iff.mp hx
      have hi2 : i = j := by
        have hl := (List.getElem?_eq_some_iff.mp hi).1
        rw [List.getElem?_eq_getElem hl] at hi
        injection hi with hi
        rw [List.getElem_range] at hi
        exact hi.symm
      subst hi2
      congr 1
    subst ex
    have hk : lo + j ≤ r.len := by omega
    refine ⟨rfl, ?_⟩
    dsimp only [tYes]
    rw [if_pos rfl]
    have hA6 := hA.same S6
    have fin : ∀ (y : Bool) (H9 : Hp), Same H6 H9 → y = (Dv rs (r.take (lo + j)) p && Dv rs (r.drop (lo + j)) R) → ∃ acc, H9 L = some (.lst acc) ∧ acc.length < sizeLine ∧ Same H (upd H9 L (.lst (acc ++ [V.bl y]))) ∧ (upd H9 L (.lst (acc ++ [V.bl y]))) L = some (.lst (((List.range (j + 1)).map fun i => Dv rs (r.take (lo + i)) p && Dv rs (r.drop (lo + i)) R).map V.bl)) := by
      intro y H9 S9 ey
      refine ⟨_, S9 _ _ hB, ?_, fun u o ho => ?_, ?_⟩
      · rw [List.length_map, List.length_map, List.length_range]
        exact sl5 (by omega)
      · rw [upd_ne (ne_of_none ho hL)]
        exact S9 _ _ (S6 _ _ ho)
      · rw [upd_same, List.range_succ, List.map_append, List.map_append, ey]
        rfl
    refine ⟨rfl, hA6.1, ?_⟩
    refine ht1 H6 _ _ S6 ?_
    refine ⟨_, rfl, _, rfl, _, rfl, rd_slT (hR.imm (Same.imm S6)) hk fun a1 H7 S7 hR7 => ?_⟩
    have hA7 := hA6.same S7
    have S67 := S6.trans S7
    refine ⟨hA7.1, hA7.2.1, a1, rs, kvs, r.take (lo + j), rfl, hA7, hR7, hg.take _, .inr ⟨b1, p, rfl, hp.imm (Same.imm S67), gp, ?_, np, fun H8 S8 => ⟨_, rfl, ?_⟩⟩⟩
    · rw [take_len _ _ hk]
      omega
    have S78 := S7.trans S8
    by_cases c1 : Dv rs (r.take (lo + j)) p = true
    · rw [c1]
      have S68 := S6.trans S78
      have hA8 := hA.same S68
      refine iteT ⟨rfl, hA8.1, ?_⟩
      refine ht2 H8 _ _ S68 ?_
      refine ⟨_, rfl, _, rfl, _, rfl, ?_⟩
      dsimp only [tNoPart]
      refine rd_slD (hR.imm (Same.imm S68)) hk fun a2 H9 S9 hR9 => ?_
      have hA9 := hA8.same S9
      have S69 := S68.trans S9
      refine ⟨hA9.1, hA9.2.1, a2, rs, kvs, r.drop (lo + j), rfl, hA9, hR9, hg.drop _, .inr ⟨b2, R, rfl, hR2.imm (Same.imm S69), gR, ?_, nR, fun H10 S10 => fin _ H10 (S78.trans (S9.trans S10)) ?_⟩⟩
      · rw [drop_len]
        omega
      · rw [c1, Bool.true_and]
    · have c1' : Dv rs (r.take (lo + j)) p = false := by simpa using c1
      rw [c1']
      refine iteF (fin _ H8 S78 ?_)
      rw [c1', Bool.false_and]
  · rintro H6 ⟨S6, hB⟩
    rw [elen] at hB
    refine ⟨L, _, rfl, .inl (SqL.of hB), rfl, flat_bls _, ?_⟩
    rw [if_neg (by decide), inV_bls]
    refine hq _ H6 S6 ?_
    rw [decide_eq_true_eq, List.mem_map]
    constructor
    · rintro ⟨i, hi, e⟩
      rw [List.mem_range] at hi
      rw [Bool.and_eq_true] at e
      exact ⟨lo + i, by omega, by omega, e.1, e.2⟩
    · rintro ⟨k, h1, h2, h3, h4⟩
      refine ⟨k - lo, List.mem_range.mpr (by omega), ?_⟩
      rw [show lo + (k - lo) = k by omega, h3, h4]
      rfl
section
variable {P : Program} {w : World} {K : PySem.W.Frag} {mg : Str → Option Value} {base : Heap} {q : Str} {cl : List (Str × Addr)}
theorem du_step (T : Tx K mg) {m : Nat} {f fa d : Addr} (bc : BCells base cl frA (wsA f fa d)) (GA : AsG P w K mg base q cl f fa d m) : DuG P w K mg base q cl (wsA f fa d) (m + 1) := by
  show FO P w K mg base (135 + 2 * (m + 1)) _ _ _
  have e : 135 + 2 * (m + 1) = (136 + 2 * m) + 1 := by omega
  rw [e]
  refine T.d_law_due.ok0 scDue (fun vs H Q E h => ?_) (fun cdv A outer st H vs Q E hr h => ?_)
  · obtain ⟨f, c, fa, d, a, b, rs, kvs, r, s, rfl, _⟩ := h
    rfl
  · obtain ⟨f', c, fa', d', a, b, rs, kvs, r, s, rfl, ews, hA, hR, hg, hT, gs, hm, hlv, hq⟩ := h
    have e1 : f = f' ∧ fa = fa' ∧ d = d' := by
      unfold wsA at ews
      simp at ews
      exact ews
    obtain ⟨rfl, rfl, rfl⟩ := e1
    have NA : NOk P w K mg base CX0 (136 + 2 * m) f (mkF q cl c) pAsked frA (spAs P w K q cl f fa d c m) := GA c
    have nd := scDue.nd
    have hu := hr.units
    have le : 136 + 2 * m ≤ 136 + 2 * m := Nat.le_refl _
    refine ⟨_, pss_cons (ps_if (pt_cmpR op_eq (pe_ix ix_tup (pv 0) pe_int (fun _ _ => rfl)) pe_str (nomark _)) (pss_one (ps_ret (pe_cmpR (op_eqD hu) (pv 1) (pe_tup pa_nil) rfl))) pss_nil)
      (pss_cons (ps_if (pt_cmpR op_eq (pe_ix ix_tup (pv 0) pe_int (fun _ _ => rfl)) pe_str (nomark _))
        (pss_cons (ps_if (PW.pt (pw_or (pt_cmpR op_ne (pe_callB call_lenS (by rfl) T.b_len PySem.boot_len (pa_cons (pv 1) pa_nil)) pe_int (nomark _)) (pw_or1 (PW.pt (pw_and (pt_cmpR op_notN1 (pe_ix ix_tup (pv 0) pe_int (fun _ _ => rfl)) pe_non rfl) (pw_and1 (pt_cmpR op_ne (pe_ix ix_tup (pv 0) pe_int (fun _ _ => rfl)) (pe_ix ix_tup (pe_ix ix_tup (pv 1) pe_int (fun _ _ => rfl)) pe_int (fun _ _ => rfl)) rfl))))))) (pss_one (ps_ret pe_bl)) pss_nil)
        (pss_one (ps_ret (pe_callB2 (i := 2) NA hr le bc rfl (by first | exact Or.inl rfl | exact Or.inr (Or.inl rfl) | exact Or.inr (Or.inr rfl)) (pa_cons (pe_ix ix_tup (pv 0) pe_int (fun _ _ => rfl)) (pa_cons (pe_ix ix_tup (pe_ix ix_tup (pv 1) pe_int (fun _ _ => rfl)) pe_int (fun _ _ => rfl)) pa_nil)))))) pss_nil)
      (pss_cons (ps_if (pt_cmpR op_eq (pe_ix ix_tup (pv 0) pe_int (fun _ _ => rfl)) pe_str (nomark _))
        (pss_one (ps_ret (pe_cmpR op_in_seq pe_bl (pe_lc (own := [("_law_part", 3)]) (g := gName 3) (tt := tYes) (te := tCallB (mkF q cl c) f 2 (wsA f fa d) (spAs P w K q cl f fa d c m) (tCons (tVar 3) (tCons (tVar 1) tNil))) rfl nd (pi_tup (pe_ix ix_tup (pv 0) pe_int (fun _ _ => rfl))) (blkOk_by (N := nDue) (sc := defScope sDue) (by decide +kernel))
          (fun _ _ _ _ _ => pg_name (i := 3) nd rfl (.inl rfl) (.inr rfl)) (fun _ _ _ _ _ => pts_nil) (fun _ _ _ _ _ => pe_callB2 (i := 2) NA hr le bc rfl (by first | exact Or.inl rfl | exact Or.inr (Or.inl rfl) | exact Or.inr (Or.inr rfl)) (pa_cons (pv 3) (pa_cons (pv 1) pa_nil)))) rfl))) pss_nil)
      (pss_cons (ps_if (pt_cmpR op_eq (pe_ix ix_tup (pv 0) pe_int (fun _ _ => rfl)) pe_str (nomark _))
        (pss_one (ps_ret (pe_or (pe_cmpR (op_eqD hu) (pv 1) (pe_tup pa_nil) rfl) (pe_one (pe_callB2 (i := 2) NA hr le bc rfl (by first | exact Or.inl rfl | exact Or.inr (Or.inl rfl) | exact Or.inr (Or.inr rfl)) (pa_cons (pe_ix ix_tup (pv 0) pe_int (fun _ _ => rfl)) (pa_cons (pv 1) pa_nil))))))) pss_nil)
      (pss_cons (ps_if (pt_cmpR op_eq (pe_ix ix_tup (pv 0) pe_int (fun _ _ => rfl)) pe_str (nomark _))
        (pss_cons (ps_set (i := 4) nd rfl (.inr rfl) (pe_tup (pa_cons pe_str (pa_cons (pe_slice sl_tupA (pe_ix ix_tup (pv 0) pe_int (fun _ _ => rfl)) (po_some pe_int) po_none) pa_nil))))
        (pss_cons (ps_if (pt_cmpR op_eq (pe_callB call_lenS (by rfl) T.b_len PySem.boot_len (pa_cons (pe_ix ix_tup (pv 0) pe_int (fun _ _ => rfl)) pa_nil)) pe_int (nomark _)) (pss_one (ps_set (i := 4) nd rfl (.inr rfl) (pe_ix ix_tup (pe_ix ix_tup (pv 0) pe_int (fun _ _ => rfl)) pe_int (fun _ _ => rfl)))) pss_nil)
        (pss_cons (ps_set (i := 5) nd rfl (.inl rfl) (pe_listRg rfl (by rfl) T.b_list (prg_1 (by rfl) T.b_range (pe_op op_add (pe_callB call_lenS (by rfl) T.b_len PySem.boot_len (pa_cons (pv 1) pa_nil)) pe_int))))
        (pss_one (ps_ret (pe_cmpR op_in_seq pe_bl (pe_lc (own := [("_law_k", 6)]) (g := gName 6) (tt := tYes) (te := tAndV (tCallB (mkF q cl c) f 2 (wsA f fa d) (spAs P w K q cl f fa d c m) (tCons (tOp (rIxT K) (tAt K 0 1) (tC (.int 0))) (tCons (tSl (rSlA K) (tVar 1) tNoPart (tPart (tVar 6))) tNil))) (tCallB (mkF q cl c) f 2 (wsA f fa d) (spAs P w K q cl f fa d c m) (tCons (tVar 4) (tCons (tSl (rSlA K) (tVar 1) (tPart (tVar 6)) tNoPart) tNil)))) rfl nd (pi_list (pv 5)) (blkOk_by (N := nDue) (sc := defScope sDue) (by decide +kernel))
          (fun _ _ _ _ _ => pg_name (i := 6) nd rfl (.inl rfl) (.inr rfl)) (fun _ _ _ _ _ => pts_nil) (fun _ _ _ _ _ => pe_and (pe_callB2 (i := 2) NA hr le bc rfl (by first | exact Or.inl rfl | exact Or.inr (Or.inl rfl) | exact Or.inr (Or.inr rfl)) (pa_cons (pe_ix ix_tup (pe_ix ix_tup (pv 0) pe_int (fun _ _ => rfl)) pe_int (fun _ _ => rfl)) (pa_cons (pe_slice sl_tupA (pv 1) po_none (po_some (pv 6))) pa_nil)))
            (pe_one (pe_callB2 (i := 2) NA hr le bc rfl (by first | exact Or.inl rfl | exact Or.inr (Or.inl rfl) | exact Or.inr (Or.inr rfl)) (pa_cons (pv 4) (pa_cons (pe_slice sl_tupA (pv 1) (po_some (pv 6)) po_none) pa_nil)))))) rfl)))))) pss_nil)
      (pss_cons (ps_if (PW.pt (pw_or (PW.pt (pw_and (pt_cmpR op_eq (pe_ix ix_tup (pv 0) pe_int (fun _ _ => rfl)) pe_str (nomark _)) (pw_and1 (pt_val (pe_callB2 (i := 2) NA hr le bc rfl (by first | exact Or.inl rfl | exact Or.inr (Or.inl rfl) | exact Or.inr (Or.inr rfl)) (pa_cons (pe_ix ix_tup (pv 0) pe_int (fun _ _ => rfl)) (pa_cons (pv 1) pa_nil)))))))
          (pw_or1 (PW.pt (pw_and (pt_cmpR op_eq (pe_ix ix_tup (pv 0) pe_int (fun _ _ => rfl)) pe_str (nomark _)) (pw_and1 (pt_cmpR (op_eqD hu) (pv 1) (pe_tup pa_nil) (nomark _)))))))) (pss_one (ps_ret pe_bl)) pss_nil)
      (pss_cons (ps_set (i := 5) nd rfl (.inl rfl) (pe_listRg rfl (by rfl) T.b_list (prg_2 (by rfl) T.b_range pe_int (pe_op op_add (pe_callB call_lenS (by rfl) T.b_len PySem.boot_len (pa_cons (pv 1) pa_nil)) pe_int))))
      (pss_one (ps_ret (pe_cmpR op_in_seq pe_bl (pe_lc (own := [("_law_k", 6)]) (g := gName 6) (tt := tYes) (te := tAndV (tCallB (mkF q cl c) f 2 (wsA f fa d) (spAs P w K q cl f fa d c m) (tCons (tAt K 0 1) (tCons (tSl (rSlA K) (tVar 1) tNoPart (tPart (tVar 6))) tNil))) (tCallB (mkF q cl c) f 2 (wsA f fa d) (spAs P w K q cl f fa d c m) (tCons (tVar 0) (tCons (tSl (rSlA K) (tVar 1) (tPart (tVar 6)) tNoPart) tNil)))) rfl nd (pi_list (pv 5)) (blkOk_by (N := nDue) (sc := defScope sDue) (by decide +kernel))
          (fun _ _ _ _ _ => pg_name (i := 6) nd rfl (.inl rfl) (.inr rfl)) (fun _ _ _ _ _ => pts_nil) (fun _ _ _ _ _ => pe_and (pe_callB2 (i := 2) NA hr le bc rfl (by first | exact Or.inl rfl | exact Or.inr (Or.inl rfl) | exact Or.inr (Or.inr rfl)) (pa_cons (pe_ix ix_tup (pv 0) pe_int (fun _ _ => rfl)) (pa_cons (pe_slice sl_tupA (pv 1) po_none (po_some (pv 6))) pa_nil)))
            (pe_one (pe_callB2 (i := 2) NA hr le bc rfl (by first | exact Or.inl rfl | exact Or.inr (Or.inl rfl) | exact Or.inr (Or.inr rfl)) (pa_cons (pv 0) (pa_cons (pe_slice sl_tupA (pv 1) (po_some (pv 6)) po_none) pa_nil)))))) rfl))))))))), ?_⟩
    have ask : ∀ (H1 : Hp) (Q1 : VK) (b' a' : Addr) (p : Sh) (r' : Row), Same H H1 → TAt H1 p [.ref b'] → RowAt H1 r' a' → Gq rs p → Gr r' → p.sz + r'.len ≤ m → (∀ x ∈ p.lvs, x.2 ∈ nms rs) → (∀ H2, Same H1 H2 → Q1 (.bl (Dv rs r' p)) H2) →
        H1 f = some (FnO f (mkF q cl c)) ∧ H1 c = some (CodeO c (mkF q cl c).qual) ∧ spAs P w K q cl f fa d c m (wsA f fa d) [.ref b', .ref a'] H1 Q1 E0 := by
      intro H1 Q1 b' a' p r' S1 hp hr' gp gr' hm' hn' hq'
      have hA1 := hA.same S1
      exact ⟨hA1.1, hA1.2.1, a', rs, kvs, r', rfl, hA1, hr', gr', .inr ⟨b', p, rfl, hp, gp, hm', hn', hq'⟩⟩
    have unit : ∀ (H1 : Hp) (Q1 : VK), Same H H1 → (∀ H2, Same H H2 → Q1 (.bl (decide (r = .nil))) H2) → tOp (rEqD K) (tVar 1) (tTup tNil) [some (.ref b), some (.ref a), some (.ref f), none, none, none, none] H1 Q1 := by
      intro H1 Q1 S1 hq1
      refine ⟨_, rfl, Nat.zero_le _, fun un hun => ?_⟩
      have S2 := same_new hun (.tup [])
      refine ⟨_, _, dp_rowAt (hR.imm (Same.imm (S1.trans S2))), .tup (SqT.of upd_same) .nil, shaped_row hg.rok.1 (Nat.le_trans hg.rok.2.2 (by decide)), shaped_unit, ?_⟩
      rw [row_unit]
      exact hq1 _ (S1.trans S2)
    cases s with
    | nothing =>
      obtain ⟨b', eb, hb⟩ := hT
      cases eb
      refine if_tagT rfl hb (by decide +kernel) ?_
      refine unit H _ (fun _ _ z => z) fun H2 S2 => ?_
      rw [← dv_nothing (rs := rs)]
      exact hq H2 S2
    | tree wo nm =>
      obtain ⟨b', eb, hb⟩ := hT
      cases eb
      refine if_tagF rfl hb (by decide +kernel) (if_tagT rfl hb (by decide +kernel) ?_)
      obtain ⟨us, ha, hus⟩ := id hR
      have hl := hus.len
      by_cases cl1 : r.len = 1
      · cases r with
        | nil => cases cl1
        | cons x i r' =>
          cases r' with
          | cons y j r2 =>
            have z : r2.len + 1 + 1 = 1 := cl1
            omega
          | nil =>
            obtain ⟨tr, ib, ius, vs', rfl, htr, hib, hii, hv'⟩ := hus
            have hv' : vs' = [] := hv'
            subst hv'
            have gi : Gr i := ⟨⟨hg.rok.1.2.1, Nat.le_trans (by show i.size ≤ i.size + 0 + 1; omega) hg.rok.2.1, Nat.le_trans (by show i.depth ≤ max (i.depth + 1) 0; omega) hg.rok.2.2⟩, hg.tn.2.1, hg.tn.2.2.1⟩
            have hnm : nm ∈ nms rs := hlv (wo, nm) (List.mem_singleton.mpr rfl)
            have askn : wordOk wo x = true → tCallB (mkF q cl c) f 2 (wsA f fa d) (spAs P w K q cl f fa d c m) (tCons (tAt K 0 2) (tCons (tOp (rIxT K) (tOp (rIxT K) (tVar 1) (tC (.int 0))) (tC (.int 1))) tNil)) [some (.ref b), some (.ref a), some (.ref f), none, none, none, none] H Q := by
              intro hw
              refine ⟨rfl, hA.1, _, rfl, b, _, 2, .str nm, rfl, rfl, SqT.of hb, atI_nat (j := 2) rfl, _, rfl, a, _, 0, .ref tr, rfl, rfl, SqT.of ha, atI_nat (j := 0) rfl, tr, _, 1, .ref ib, rfl, rfl, SqT.of htr, atI_nat (j := 1) rfl, ?_⟩
              refine ⟨hA.1, hA.2.1, ib, rs, kvs, i, rfl, hA, ⟨ius, hib, hii⟩, gi, .inl ⟨nm, rfl, hnm, fun H' S' => ?_⟩⟩
              have z := hq H' S'
              have e3 : Dv rs (.cons x i .nil) (.tree wo nm) = F rs i nm := by rw [dv_tree1, hw, Bool.true_and]
              rw [e3] at z
              exact z
            refine ⟨_, rfl, a, _, rfl, .inr (SqT.of ha), rfl, _, rfl, ?_⟩
            refine iteF ?_
            cases wo with
            | none =>
              refine ⟨_, rfl, b, _, 1, .non, rfl, rfl, SqT.of hb, atI_nat (j := 1) rfl, rfl, _, rfl, ?_⟩
              exact iteF (iteF (askn rfl))
            | some y =>
              refine ⟨_, rfl, b, _, 1, .str y, rfl, rfl, SqT.of hb, atI_nat (j := 1) rfl, rfl, _, rfl, ?_⟩
              refine iteT ⟨_, rfl, b, _, 1, .str y, rfl, rfl, SqT.of hb, atI_nat (j := 1) rfl, _, rfl, a, _, 0, .ref tr, rfl, rfl, SqT.of ha, atI_nat (j := 0) rfl, tr, _, 0, .str x, rfl, rfl, SqT.of htr, atI_nat (j := 0) rfl, rfl, _, rfl, ?_⟩
              by_cases cy : y = x
              · subst cy
                rw [decide_eq_true rfl]
                exact iteF (askn (decide_eq_true rfl))
              · rw [decide_eq_false (show ¬ V.str y = V.str x from fun z => cy (by injection z))]
                refine iteT ?_
                have z := hq H (fun _ _ z => z)
                have e3 : Dv rs (.cons x i .nil) (.tree (some y) nm) = false := by
                  rw [dv_tree1]
                  show (decide (y = x) && _) = false
                  rw [decide_eq_false cy, Bool.false_and]
                rw [e3] at z
                exact z
      · refine ⟨_, rfl, a, _, rfl, .inr (SqT.of ha), rfl, _, rfl, ?_⟩
        rw [decide_eq_false (show ¬ V.int ((us.length : Nat) : Int) = V.int 1 from fun z => cl1 (by injection z with z; omega))]
        refine iteT (iteT ?_)
        have z := hq H (fun _ _ z => z)
        have e3 : Dv rs r (.tree wo nm) = false := dv_treeN cl1
        rw [e3] at z
        exact z
    | either ps =>
      obtain ⟨b', t, vs, eb, hb, ht, hP⟩ := hT
      cases eb
      have okp := gs.ok.2.1
      have z1 : ps.sz + 1 ≤ 20 := gs.sz
      have z2 : ps.deep + 1 ≤ 3 := gs.deep
      have z3 : ps.sz + 1 + r.len ≤ m + 1 := hm
      refine if_tagF rfl hb (by decide +kernel) (if_tagF rfl hb (by decide +kernel) (if_tagT rfl hb (by decide +kernel) ?_))
      refine ⟨_, rfl, b, _, 1, .ref t, rfl, rfl, SqT.of hb, atI_nat (j := 1) rfl, t, rfl, ⟨vs, SqT.of ht⟩, fun L hL => ?_⟩
      have hcn := TAt.len okp hP
      refine lc_tup (K := K) (a := t) (xs := vs) (fun k H6 => Same H H6 ∧ H6 L = some (.lst (((ps.bools (Dv rs r)).take k).map V.bl))) ⟨same_new hL _, upd_same⟩ (fun k H6 _ ⟨S, _⟩ => SqT.of (S _ _ ht)) ?_ ?_
      · rintro k y H6 hy ⟨S6, hB⟩
        have hk' : k < ps.cnt := by
          rw [← hcn]
          exact (List.getElem?_eq_some_iff.mp hy).1
        obtain ⟨p, hp⟩ := part_some hk'
        obtain ⟨b2, g1, g2⟩ := TAt.part hP hp
        rw [hy] at g1
        cases g1
        have y1 := part_sz hp
        have y2 := part_deep hp
        have y3 := cnt_sz okp
        refine ⟨rfl, ?_⟩
        dsimp only [tYes]
        rw [if_pos rfl]
        refine ⟨rfl, (hA.same S6).1, _, rfl, _, rfl, ?_⟩
        refine ask H6 _ b2 a p r S6 (g2.imm (Same.imm S6)) (hR.imm (Same.imm S6)) ⟨part_ok okp hp, by omega, by omega⟩ hg (by omega) (part_names hp hlv) fun H7 S7 => ?_
        refine ⟨_, S7 _ _ hB, ?_, fun u o ho => ?_, ?_⟩
        · rw [List.length_map, List.length_take, bools_len okp]
          exact sl5 (by omega)
        · rw [upd_ne (ne_of_none ho hL)]
          exact S7 _ _ (S6 _ _ ho)
        · rw [upd_same, List.take_add_one, bools_part hp]
          simp
      · rintro H6 ⟨S6, hB⟩
        rw [hcn, ← bools_len (g := Dv rs r) okp, List.take_length] at hB
        refine ⟨L, _, rfl, .inl (SqL.of hB), rfl, flat_bls _, ?_⟩
        rw [if_neg (by decide), inV_bls, ← dv_either okp]
        exact hq H6 S6
    | maybe p =>
      obtain ⟨b', c2, eb, hb, hp⟩ := hT
      cases eb
      have z1 : p.sz + 1 ≤ 20 := gs.sz
      have z2 : p.deep + 1 ≤ 3 := gs.deep
      have z3 : p.sz + 1 + r.len ≤ m + 1 := hm
      refine if_tagF rfl hb (by decide +kernel) (if_tagF rfl hb (by decide +kernel) (if_tagF rfl hb (by decide +kernel) (if_tagT rfl hb (by decide +kernel) ?_)))
      refine unit H _ (fun _ _ z => z) fun H2 S2 => ⟨_, rfl, ?_⟩
      have ed := dv_maybe (rs := rs) (r := r) (p := p)
      by_cases cn : r = .nil
      · rw [decide_eq_true cn] at ed ⊢
        rw [Bool.true_or] at ed
        have z := hq H2 S2
        rw [ed] at z
        exact iteT z
      · rw [decide_eq_false cn] at ed ⊢
        rw [Bool.false_or] at ed
        refine iteF ⟨rfl, (hA.same S2).1, _, rfl, b, _, 1, .ref c2, rfl, rfl, SqT.of (S2 _ _ hb), atI_nat (j := 1) rfl, _, rfl, ?_⟩
        refine ask H2 _ c2 a p r S2 (hp.imm (Same.imm S2)) (hR.imm (Same.imm S2)) ⟨gs.ok.2, by omega, by omega⟩ hg (by omega) hlv fun H3 S3 => ?_
        have z := hq H3 (S2.trans S3)
        rw [ed] at z
        exact z
    | many p =>
      obtain ⟨b', c2, eb, hb, hp⟩ := id hT
      cases eb
      have z1 : p.sz + 1 ≤ 20 := gs.sz
      have z2 : p.deep + 1 ≤ 3 := gs.deep
      have z3 : p.sz + 1 + r.len ≤ m + 1 := hm
      obtain ⟨us, ha, hus⟩ := id hR
      refine if_tagF rfl hb (by decide +kernel) (if_tagF rfl hb (by decide +kernel) (if_tagF rfl hb (by decide +kernel) (if_tagF rfl hb (by decide +kernel) (if_tagF rfl hb (by decide +kernel) ?_))))
      have go : ∀ H2, Same H H2 → (Dv rs r (.many p) = true ↔ ∃ k, 1 ≤ k ∧ k ≤ r.len ∧ Dv rs (r.take k) p = true ∧ Dv rs (r.drop k) (.many p) = true) → tSeq (tAsg (tLstRg (tRg2 (tC (.int 1)) (tOp (rI0 fun i j => .int (i + j)) (tCB (rLenS K) (tCons (tVar 1) tNil)) (tC (.int 1))))) (gName 5)) (tRet (tOp (rIn K false) (tC (.bl true)) (tLc (iList K (tVar 5)) (gName 6) tYes (tAndV (tCallB (mkF q cl c) f 2 (wsA f fa d) (spAs P w K q cl f fa d c m) (tCons (tAt K 0 1) (tCons (tSl (rSlA K) (tVar 1) tNoPart (tPart (tVar 6))) tNil))) (tCallB (mkF q cl c) f 2 (wsA f fa d) (spAs P w K q cl f fa d c m) (tCons (tVar 0) (tCons (tSl (rSlA K) (tVar 1) (tPart (tVar 6)) tNoPart) tNil)))) [6]))) { nx := fun _ H' => Q .non H', rt := Q } [some (.ref b), some (.ref a), some (.ref f), none, none, none, none] H2 := by
        intro H2 S2 hd2
        have h50 := hg.tn.1
        refine ⟨_, rfl, a, us, rfl, .inr (SqT.of (S2 _ _ ha)), _, _, rfl, rfl, _, _, rfl, rfl, RgOk.of_le (by decide) ?_ (by decide) ?_, fun pl hpl => ?_⟩
        · show ((us.length : Nat) : Int) + 1 ≤ 16777216
          rw [hus.len]
          omega
        · show (0 : Int) ≤ ((us.length : Nat) : Int) + 1
          omega
        have S3 := same_new hpl (.lst (rgV 1 (((us.length : Nat) : Int) + 1)))
        have hpl3 : (upd H2 pl (.lst (rgV 1 (((us.length : Nat) : Int) + 1)))) pl = some (.lst (rgV ((1 : Nat) : Int) (((r.len : Nat) : Int) + 1))) := by
          rw [upd_same, hus.len]
          rfl
        have S23 := S2.trans S3
        refine rd_parts (b1 := c2) (b2 := b) (p := p) (R := .many p) (lo := 1) (hA.same S23) (hR.imm (Same.imm S23)) hg hpl3 (by decide) (fun H1 Q1 v S1 hq1 => ⟨_, rfl, b, _, 1, .ref c2, rfl, rfl, SqT.of (S1 _ _ (S23 _ _ hb)), atI_nat (j := 1) rfl, hq1⟩) (fun H1 Q1 v S1 hq1 => ⟨_, rfl, hq1⟩)
          (hp.imm (Same.imm S23)) ⟨gs.ok.2, by omega, by omega⟩ hlv (by omega) (hT.imm (Same.imm S23)) gs hlv (by show p.sz + 1 + r.len ≤ m + 1; omega) fun bb H4 S4 hbb => ?_
        have e3 : Dv rs r (.many p) = bb := by
          rw [Bool.eq_iff_iff, hbb, hd2]
        rw [← e3]
        exact hq H4 (S23.trans S4)
      refine rd_tag rfl hb ?_
      rw [show decide (("many" : Str) = "some") = false by decide +kernel]
      refine iteF (iteF ?_)
      refine rd_tag rfl hb ?_
      rw [show decide (("many" : Str) = "many") = true by decide +kernel]
      refine iteT ?_
      refine unit H _ (fun _ _ z => z) fun H2 S2 => ⟨_, rfl, ?_⟩
      have ed : Dv rs r (.many p) = true ↔ r = .nil ∨ ∃ k, 1 ≤ k ∧ k ≤ r.len ∧ Dv rs (r.take k) p = true ∧ Dv rs (r.drop k) (.many p) = true := by
        rw [bv_iff, d_many, sg_len, sg_nil]
        simp only [bv_iff, sg_take, sg_drop]
      by_cases cn : r = .nil
      · rw [decide_eq_true cn]
        have z := hq H2 S2
        rw [ed.mpr (.inl cn)] at z
        exact iteT z
      · rw [decide_eq_false cn]
        exact iteF (go H2 S2 ⟨fun z => (ed.mp z).elim (fun y => absurd y cn) id, fun z => ed.mpr (.inr z)⟩)
    | some p =>
      obtain ⟨b', c2, eb, hb, hp⟩ := id hT
      cases eb
      have z1 : p.sz + 1 ≤ 20 := gs.sz
      have z2 : p.deep + 1 ≤ 3 := gs.deep
      have z3 : p.sz + 1 + r.len ≤ m + 1 := hm
      obtain ⟨us, ha, hus⟩ := id hR
      refine if_tagF rfl hb (by decide +kernel) (if_tagF rfl hb (by decide +kernel) (if_tagF rfl hb (by decide +kernel) (if_tagF rfl hb (by decide +kernel) (if_tagF rfl hb (by decide +kernel) ?_))))
      have go : ∀ H2, Same H H2 → (Dv rs r (.some p) = true ↔ ∃ k, 1 ≤ k ∧ k ≤ r.len ∧ Dv rs (r.take k) p = true ∧ Dv rs (r.drop k) (.some p) = true) → tSeq (tAsg (tLstRg (tRg2 (tC (.int 1)) (tOp (rI0 fun i j => .int (i + j)) (tCB (rLenS K) (tCons (tVar 1) tNil)) (tC (.int 1))))) (gName 5)) (tRet (tOp (rIn K false) (tC (.bl true)) (tLc (iList K (tVar 5)) (gName 6) tYes (tAndV (tCallB (mkF q cl c) f 2 (wsA f fa d) (spAs P w K q cl f fa d c m) (tCons (tAt K 0 1) (tCons (tSl (rSlA K) (tVar 1) tNoPart (tPart (tVar 6))) tNil))) (tCallB (mkF q cl c) f 2 (wsA f fa d) (spAs P w K q cl f fa d c m) (tCons (tVar 0) (tCons (tSl (rSlA K) (tVar 1) (tPart (tVar 6)) tNoPart) tNil)))) [6]))) { nx := fun _ H' => Q .non H', rt := Q } [some (.ref b), some (.ref a), some (.ref f), none, none, none, none] H2 := by
        intro H2 S2 hd2
        have h50 := hg.tn.1
        refine ⟨_, rfl, a, us, rfl, .inr (SqT.of (S2 _ _ ha)), _, _, rfl, rfl, _, _, rfl, rfl, RgOk.of_le (by decide) ?_ (by decide) ?_, fun pl hpl => ?_⟩
        · show ((us.length : Nat) : Int) + 1 ≤ 16777216
          rw [hus.len]
          omega
        · show (0 : Int) ≤ ((us.length : Nat) : Int) + 1
          omega
        have S3 := same_new hpl (.lst (rgV 1 (((us.length : Nat) : Int) + 1)))
        have hpl3 : (upd H2 pl (.lst (rgV 1 (((us.length : Nat) : Int) + 1)))) pl = some (.lst (rgV ((1 : Nat) : Int) (((r.len : Nat) : Int) + 1))) := by
          rw [upd_same, hus.len]
          rfl
        have S23 := S2.trans S3
        refine rd_parts (b1 := c2) (b2 := b) (p := p) (R := .some p) (lo := 1) (hA.same S23) (hR.imm (Same.imm S23)) hg hpl3 (by decide) (fun H1 Q1 v S1 hq1 => ⟨_, rfl, b, _, 1, .ref c2, rfl, rfl, SqT.of (S1 _ _ (S23 _ _ hb)), atI_nat (j := 1) rfl, hq1⟩) (fun H1 Q1 v S1 hq1 => ⟨_, rfl, hq1⟩)
          (hp.imm (Same.imm S23)) ⟨gs.ok.2, by omega, by omega⟩ hlv (by omega) (hT.imm (Same.imm S23)) gs hlv (by show p.sz + 1 + r.len ≤ m + 1; omega) fun bb H4 S4 hbb => ?_
        have e3 : Dv rs r (.some p) = bb := by
          rw [Bool.eq_iff_iff, hbb, hd2]
        rw [← e3]
        exact hq H4 (S23.trans S4)
      refine rd_tag rfl hb ?_
      rw [show decide (("some" : Str) = "some") = true by decide +kernel]
      refine iteT ⟨rfl, hA.1, _, rfl, b, _, 1, .ref c2, rfl, rfl, SqT.of hb, atI_nat (j := 1) rfl, _, rfl, ?_⟩
      refine ask H _ c2 a p r (fun _ _ z => z) hp hR ⟨gs.ok.2, by omega, by omega⟩ hg (by omega) hlv fun H2 S2 => ⟨_, rfl, ?_⟩
      have ed : Dv rs r (.some p) = true ↔ Dv rs r p = true ∨ ∃ k, 1 ≤ k ∧ k ≤ r.len ∧ Dv rs (r.take k) p = true ∧ Dv rs (r.drop k) (.some p) = true := by
        rw [bv_iff, bv_iff, d_some, sg_len]
        simp only [bv_iff, sg_take, sg_drop]
      by_cases c1 : Dv rs r p = true
      · rw [c1]
        have z := hq H2 S2
        rw [ed.mpr (.inl c1)] at z
        exact iteT (iteT z)
      · have c1' : Dv rs r p = false := by simpa using c1
        rw [c1']
        refine iteF ?_
        refine rd_tag rfl (S2 _ _ hb) ?_
        rw [show decide (("some" : Str) = "many") = false by decide +kernel]
        exact iteF (iteF (go H2 S2 ⟨fun z => (ed.mp z).elim (fun y => absurd y c1) id, fun z => ed.mpr (.inr z)⟩))
    | chain ps =>
      obtain ⟨b', t, vs, eb, hb, ht, hP⟩ := hT
      cases eb
      have okp := gs.ok.2.1
      have hc2 := gs.ok.2.2
      have z1 : ps.sz + 1 ≤ 20 := gs.sz
      have z2 : ps.deep + 1 ≤ 3 := gs.deep
      have z3 : ps.sz + 1 + r.len ≤ m + 1 := hm
      obtain ⟨us, ha, hus⟩ := id hR
      refine if_tagF rfl hb (by decide +kernel) (if_tagF rfl hb (by decide +kernel) (if_tagF rfl hb (by decide +kernel) (if_tagF rfl hb (by decide +kernel) (if_tagT rfl hb (by decide +kernel) ?_))))
      cases ps with
      | cons p0 qs =>
        obtain ⟨b0, vs', rfl, h0, h1⟩ := hP
        have okq := okp.2.2
        have z4 : p0.sz + qs.sz + 1 ≤ 20 := z1
        have z5 : max p0.deep qs.deep + 1 ≤ 3 := z2
        have z6 : p0.sz + qs.sz + 1 + r.len ≤ m + 1 := z3
        have lv0 : ∀ x ∈ p0.lvs, x.2 ∈ nms rs := fun x hx => hlv x (List.mem_append_left _ hx)
        have lvq : ∀ x ∈ qs.lvs, x.2 ∈ nms rs := fun x hx => hlv x (List.mem_append_right _ hx)
        have p0s : 1 ≤ p0.sz := by
          have := cnt_sz (s := .cons p0 .nil) ⟨rfl, okp.2.1, rfl⟩
          exact this
        have go : ∀ (R : Sh) (b2 : Addr) (H2 : Hp), Same H H2 → TAt H2 R [.ref b2] → Gq rs R → (∀ x ∈ R.lvs, x.2 ∈ nms rs) → R.sz + r.len ≤ m → (Dv rs r (.chain (.cons p0 qs)) = true ↔ ∃ k, k ≤ r.len ∧ Dv rs (r.take k) p0 = true ∧ Dv rs (r.drop k) R = true) → tSeq (tAsg (tLstRg (tRg1 (tOp (rI0 fun i j => .int (i + j)) (tCB (rLenS K) (tCons (tVar 1) tNil)) (tC (.int 1))))) (gName 5)) (tRet (tOp (rIn K false) (tC (.bl true)) (tLc (iList K (tVar 5)) (gName 6) tYes (tAndV (tCallB (mkF q cl c) f 2 (wsA f fa d) (spAs P w K q cl f fa d c m) (tCons (tOp (rIxT K) (tAt K 0 1) (tC (.int 0))) (tCons (tSl (rSlA K) (tVar 1) tNoPart (tPart (tVar 6))) tNil))) (tCallB (mkF q cl c) f 2 (wsA f fa d) (spAs P w K q cl f fa d c m) (tCons (tVar 4) (tCons (tSl (rSlA K) (tVar 1) (tPart (tVar 6)) tNoPart) tNil)))) [6]))) { nx := fun _ H' => Q .non H', rt := Q } [some (.ref b), some (.ref a), some (.ref f), none, some (.ref b2), none, none] H2 := by
          intro R b2 H2 S2 hTR gR nR mR hd2
          have h50 := hg.tn.1
          refine ⟨_, rfl, a, us, rfl, .inr (SqT.of (S2 _ _ ha)), _, _, rfl, rfl, _, rfl, RgOk.of_le (by decide) ?_ (by decide) ?_, fun pl hpl => ?_⟩
          · show ((us.length : Nat) : Int) + 1 ≤ 16777216
            rw [hus.len]
            omega
          · show (0 : Int) ≤ ((us.length : Nat) : Int) + 1
            omega
          have S3 := same_new hpl (.lst (rgV 0 (((us.length : Nat) : Int) + 1)))
          have hpl3 : (upd H2 pl (.lst (rgV 0 (((us.length : Nat) : Int) + 1)))) pl = some (.lst (rgV ((0 : Nat) : Int) (((r.len : Nat) : Int) + 1))) := by
            rw [upd_same, hus.len]
            rfl
          have S23 := S2.trans S3
          refine rd_parts (b1 := b0) (b2 := b2) (p := p0) (R := R) (lo := 0) (hA.same S23) (hR.imm (Same.imm S23)) hg hpl3 (by decide) (fun H1 Q1 v S1 hq1 => ⟨_, rfl, b, _, 1, .ref t, rfl, rfl, SqT.of (S1 _ _ (S23 _ _ hb)), atI_nat (j := 1) rfl, t, _, 0, .ref b0, rfl, rfl, SqT.of (S1 _ _ (S23 _ _ ht)), atI_nat (j := 0) rfl, hq1⟩) (fun H1 Q1 v S1 hq1 => ⟨_, rfl, hq1⟩)
            (h0.imm (Same.imm S23)) ⟨okp.2.1, by omega, by omega⟩ lv0 (by omega) (hTR.imm (Same.imm S3)) gR nR mR fun bb H4 S4 hbb => ?_
          have e3 : Dv rs r (.chain (.cons p0 qs)) = bb := by
            rw [Bool.eq_iff_iff, hbb, hd2]
            constructor
            · rintro ⟨k, y1, y2⟩
              exact ⟨k, Nat.zero_le _, y1, y2⟩
            · rintro ⟨k, _, y1, y2⟩
              exact ⟨k, y1, y2⟩
          rw [← e3]
          exact hq H4 (S23.trans S4)
        refine ⟨_, rfl, b, _, 1, .ref t, rfl, rfl, SqT.of hb, atI_nat (j := 1) rfl, 1, rfl, t, _, rfl, SqT.of ht, fun z => absurd z.1 ?_, fun _ tq htq => ?_⟩
        · show ¬ min 1 (V.ref b0 :: vs').length = 0
          simp
        have ecut : cutV (V.ref b0 :: vs') (some 1) none = vs' := by
          unfold cutV
          show ((V.ref b0 :: vs').drop (min 1 (V.ref b0 :: vs').length)).take ((V.ref b0 :: vs').length - min 1 (V.ref b0 :: vs').length) = vs'
          simp
        rw [ecut]
        refine ⟨(by show 2 ≤ sizeLine; decide), fun c1 hc1 => ?_⟩
        have S5 := same_new htq (.tup vs')
        have S6 := same_new hc1 (.tup [.str "chain", .ref tq])
        have S56 := S5.trans S6
        have hTc : TAt (upd (upd H tq (.tup vs')) c1 (.tup [.str "chain", .ref tq])) (.chain qs) [.ref c1] := ⟨c1, tq, vs', rfl, upd_same, S6 _ _ upd_same, TAt.imm (Same.imm S56) h1⟩
        generalize upd (upd H tq (.tup vs')) c1 (.tup [.str "chain", .ref tq]) = H2 at S56 hTc
        refine ⟨_, rfl, b, _, 1, .ref t, rfl, rfl, SqT.of (S56 _ _ hb), atI_nat (j := 1) rfl, t, _, rfl, .inr (SqT.of (S56 _ _ ht)), rfl, _, rfl, ?_⟩
        have hcn := TAt.len okq h1
        have hcq : qs.cnt + 1 ≥ 2 := hc2
        by_cases cl2 : qs.cnt = 1
        · rw [decide_eq_true (show V.int (((V.ref b0 :: vs').length : Nat) : Int) = V.int 2 from by
            have e : (V.ref b0 :: vs').length = 2 := by
              show vs'.length + 1 = 2
              omega
            rw [e]
            rfl)]
          cases qs with
          | cons p1 q2 =>
            have e2 : q2 = .nil := by
              cases q2 with
              | nil => rfl
              | cons _ _ =>
                have z : _ + 1 + 1 = 1 := cl2
                omega
              | _ => have o := okq.2.2; simp [Sh.ok] at o
            subst e2
            obtain ⟨b1, vs2, rfl, h3, h4⟩ := h1
            refine iteT ⟨_, rfl, b, _, 1, .ref t, rfl, rfl, SqT.of (S56 _ _ hb), atI_nat (j := 1) rfl, t, _, 1, .ref b1, rfl, rfl, SqT.of (S56 _ _ ht), atI_nat (j := 1) rfl, ?_⟩
            have z7 : p0.sz + (p1.sz + 0) + 1 ≤ 20 := z4
            have z8 : max p0.deep (max p1.deep 0) + 1 ≤ 3 := z5
            have z9 : p0.sz + (p1.sz + 0) + 1 + r.len ≤ m + 1 := z6
            refine go p1 b1 H2 S56 (h3.imm (Same.imm S56)) ⟨okq.2.1, by omega, by omega⟩ (fun x hx => lvq x (List.mem_append_left _ hx)) (by omega) ?_
            rw [bv_iff, d_chain2, sg_len]
            simp only [bv_iff, sg_take, sg_drop]
          | nil => cases cl2
          | _ => simp [Sh.ok] at okq
        · rw [decide_eq_false (show ¬ V.int (((V.ref b0 :: vs').length : Nat) : Int) = V.int 2 from fun z => by
            injection z with z
            have e : (V.ref b0 :: vs').length = vs'.length + 1 := rfl
            rw [e] at z
            omega)]
          refine iteF ?_
          refine go (.chain qs) c1 H2 S56 hTc ⟨⟨rfl, okq, by omega⟩, by show qs.deep + 1 ≤ 3; omega, by show qs.sz + 1 ≤ 20; omega⟩ lvq (by show qs.sz + 1 + r.len ≤ m; omega) ?_
          rw [bv_iff, d_chain3, sg_len]
          simp only [bv_iff, sg_take, sg_drop]
      | nil =>
        have e : (0 : Nat) ≥ 2 := hc2
        omega
      | _ => simp [Sh.ok] at okp
    | nil => cases gs.ok
    | cons p ps => cases gs.ok.1
theorem du_all (T : Tx K mg) {f fa d : Addr} (bc : BCells base cl frA (wsA f fa d)) : ∀ n, DuG P w K mg base q cl (wsA f fa d) n ∧ AsG P w K mg base q cl f fa d n
  | 0 => by
    have h : DuG P w K mg base q cl (wsA f fa d) 0 := fo_none fun vs H Q E ⟨_, _, _, _, _, _, _, _, r, s, _, _, _, _, _, _, g, h, _⟩ => by
      have := deep_pos g.ok
      have : 1 ≤ s.sz := by
        have z := cnt_sz (s := .cons s .nil) ⟨rfl, g.ok, rfl⟩
        exact z
      omega
    exact ⟨h, as_step T h⟩
  | n + 1 => by
    have ih := du_all T bc n
    have h : DuG P w K mg base q cl (wsA f fa d) (n + 1) := du_step T bc ih.2
    exact ⟨h, as_step T h⟩
/-- the cells that the base has hold what they hold at the call -/
theorem bc_of {A : Around} {outer : List Env} {s : Shared} {H : Hp} {ws0 ws : List (Option V)} (bc : BCells base cl frA ws0) (e0 : Env0 P w K mg base A outer s H) (C : CellsAt cl frA ws s.heap H) : BCells base cl frA ws := by
  refine ⟨C.len, bc.all, bc.inj, fun i y hy => ?_⟩
  obtain ⟨c, hc, hv⟩ := C.has i y hy
  refine ⟨c, hc, fun v ev => ?_⟩
  obtain ⟨u, ru, o, ho, hd⟩ := hv v ev
  obtain ⟨v0, o0, ho0, hd0⟩ := bc.all y c hc
  have z := (e0.bs c o0 ho0).1
  rw [ho] at z
  injection z with z
  subst z
  exact ⟨u, ru, o, ho0, hd⟩
theorem as_any (T : Tx K mg) {ws0 : List (Option V)} (bc : BCells base cl frA ws0) (n : Nat) (f c : Addr) : NOk P w K mg base CX0 (136 + 2 * n) f (mkF q cl c) pAsked frA fun ws vs H Q E => ∃ fa d, spAs P w K q cl f fa d c n ws vs H Q E := by
  refine ⟨fun ws vs H Q E ⟨fa, d, a, rs, kvs, r, _, _, _, _, h⟩ => ?_, fun A outer s H us vs ws Q E hr e0 hf hc C rv ⟨fa, d, hsp⟩ => ?_⟩
  · rcases h with ⟨x, rfl, _⟩ | ⟨b, s, rfl, _⟩ <;> rfl
  · have ews : ws = wsA f fa d := by
      obtain ⟨a, rs, kvs, r, e, _⟩ := hsp
      exact e
    subst ews
    exact ((du_all T (bc_of bc e0 C) n).2 c).run A outer s H us vs _ Q E hr e0 hf hc C rv hsp
theorem du_any (T : Tx K mg) {ws : List (Option V)} (bc : BCells base cl frA ws) (n : Nat) : FO P w K mg base (135 + 2 * n) (ca K "_law_due") pDue (spDu P w K q cl n ws) := by
  by_cases h : ∃ f fa d, ws = wsA f fa d
  · obtain ⟨f, fa, d, rfl⟩ := h
    exact (du_all T bc n).1
  · exact fo_none fun vs H Q E ⟨f, c, fa, d, _, _, _, _, _, _, _, e, _⟩ => h ⟨f, fa, d, e⟩
end
end K17
end PartK17J4
section PartK17L1
set_option Elab.async false
set_option linter.all false
set_option maxRecDepth 100000
set_option maxHeartbeats 4000000
/-! law: asked, the loop, the end. -/
namespace K17
open PySem PySem.Spec PyProof.Rows L2 NdefX LamX
theorem extn_imm {H H' : Hp} (e : ExtN H H') : Imm H H' := ⟨fun a xs h => e a _ h fun ps z => (by cases z), fun a C dx fs h => e a _ h fun ps z => (by cases z)⟩
theorem asked_free : ∀ y ∈ (C8.fnScope sAsked).names, y.2 = .free → (defScope sLaw).names.lookup y.1 = some .cell := by decide +kernel
theorem asked_frs : ∀ y ∈ frA, (y, NameKind.free) ∈ (C8.fnScope sAsked).names := by decide +kernel
abbrev lawTail : List Stmt := (defBody sLaw).drop 15
abbrev cxL (P : Program) (w : World) (K : PySem.W.Frag) (mg : Str → Option Value) (base : Heap) (cdv : Value) (A : Around) (outer : List Env) (st : Shared) (H0 : Hp) (E : XK) : Cx := (cxOf CX0 P w K mg base nLaw "law" (defScope sLaw) (ca K "law") cdv A outer st H0 E).nox
section
variable {P : Program} {w : World} {K : PySem.W.Frag} {mg : Str → Option Value} {base : Heap}
theorem law_tail (T : Tx K mg) {cc tb : Addr} (TB : TabB base mg cc tb) {A : Around} {outer : List Env} {st : Shared} {H0 : Hp} {E : XK} (hr : Room 229 (A.deeper (envOfC "law" (defScope sLaw) st.heap.objs.size (ca K "law") (.ref cc)))) :
    ∃ t, PSs (cxL P w K mg base (.ref cc) A outer st H0 E) lawTail t ∧
      ∀ (fa sh m ra ol : Addr) (us xs : List V) (rs rs0 : List Rl) (ss : List Sh) (kvs : List (Sh × V)) (r : Row) (s0 s1 s2 s6 s7 s8 s9 s11 : Option V) (H : Hp) (Q : VK),
        FsAt K H fa rs → Fk rs → H ol = some (.lst xs) → QsAt H xs rs0 → (∀ u ∈ rs0, u ∈ rs) → (∃ n0 t0 tl, rs0 = .shaped n0 t0 :: tl ∧ Gq rs t0 ∧ t0.sz ≤ 13 ∧ ∀ x ∈ t0.lvs, x.2 ∈ nms rs) → H sh = some (.lst us) → ToldS H us ss → (∀ s ∈ ss, Gq rs s ∧ s.sz ≤ 13 ∧ (∀ x ∈ s.lvs, x.2 ∈ nms rs) ∧ ∃ v, valV kvs s = some v) →
        KD P w H m kvs → (∀ p ∈ kvs, ∃ x, p.2 = .str x ∧ Rl.shaped x p.1 ∈ rs) → RowAt H r ra → Gr r → r.len ≤ 9 → H tb = some (.tbl #[]) → (∀ H', Q (.bl true) H') →
        t { nx := fun _ H' => Q .non H', rt := Q } [s0, s1, s2, some (.ref ol), some (.ref ra), some (.ref sh), s6, s7, s8, s9, some (.ref m), s11, some (.ref fa), none] H := by
  have nd := scLaw.nd
  have GJ : FO P w K mg base 229 (ca K "_law_joined") pJoined (spJoined K) := (ok_joined T).mono (by decide)
  have GF : FO P w K mg base 229 (ca K "fits") pFits (spFits K) := (ok_fits T).mono (by decide)
  have hr180 := hr.mono (j := 180) (by decide)
  refine ⟨_, pss_cons (ps_ndefMS (st := sAsked) (T := [(tb, fun _ _ => (cxL P w K mg base (.ref cc) A outer st H0 E).env.qual ++ "_law_asked")]) (nm := fun _ _ => (cxL P w K mg base (.ref cc) A outer st H0 E).env.qual ++ "_law_asked") (name := "_law_asked") (i := 13) (pos := ⟨561, 4, 566, 58⟩) rfl TB rfl (List.mem_singleton.mpr rfl) rfl
        (fun p hp _ => by rw [List.mem_singleton.mp hp]) (fun y hy e => .inl (asked_free y hy e)) rfl rfl rfl nd rfl (.inr rfl) (.inl rfl))
    (pss_cons (ps_for PassesOwn.never rfl (pi_list (pv 5)) (pg_name (i := 9) nd rfl (.inl rfl))
      (pss_one (ps_if (pt_cmpR op_ne (pe_call GF hr (by rfl) T.g_fits T.d_fits.kp (bd_fits T) .nil pass0 (pa_cons (pv 12) (pa_cons (pe_kget hr (pv 10) (pv 9)) (pa_cons (pv 4) pa_nil))))
        (pe_callW (cl := cloFrom (cxL P w K mg base (.ref cc) A outer st H0 E).env.cells (C8.fnScope sAsked).names []) (fr := frA) (js := [13, 12, 10]) (k := 179) (sp := fun ws => spDu P w K ((cxL P w K mg base (.ref cc) A outer st H0 E).env.qual ++ "_law_asked") (cloFrom (cxL P w K mg base (.ref cc) A outer st H0 E).env.cells (C8.fnScope sAsked).names []) 22 ws)
          (fun base' ws _ _ bc => du_any T bc 22) (hr.mono (j := 179) (by decide)) (by rfl) T.g_law_due T.d_law_due.kp (bd_law_due T) (fun ok => Caps.made ok (fun y hy e => .inl (asked_free y hy e)) asked_frs rfl) (fun _ _ _ => rfl) (pa_cons (pv 9) (pa_cons (pv 4) (pa_cons (pv 13) pa_nil)))) (nomark _)) (pss_one (ps_ret pe_bl)) pss_nil)))
    (pss_one (ps_ret (pe_and (pe_call GJ hr (by rfl) T.g_law_joined T.d_law_joined.kp (bd_law_joined T) .nil pass0 (pa_cons (pv 12) (pa_cons (pv 3) (pa_cons (pv 4) pa_nil))))
      (pe_one (pe_cmpR op_eq (pe_call GF hr (by rfl) T.g_fits T.d_fits.kp (bd_fits T) .nil pass0 (pa_cons (pv 12) (pa_cons (pe_ix ix_tup (pe_ix ix_list (pv 3) pe_int (fun _ _ => rfl)) pe_int (fun _ _ => rfl)) (pa_cons (pv 4) pa_nil))))
        (pe_callnW (mk := fun c' => mkF ((cxL P w K mg base (.ref cc) A outer st H0 E).env.qual ++ "_law_asked") (cloFrom (cxL P w K mg base (.ref cc) A outer st H0 E).env.cells (C8.fnScope sAsked).names []) c') (k := 180) (i := 13) (fr := frA) (js := [13, 12, 10]) (cl := cloFrom (cxL P w K mg base (.ref cc) A outer st H0 E).env.cells (C8.fnScope sAsked).names [])
          (sp := fun f c' ws vs H Q E => ∃ fa d, spAs P w K ((cxL P w K mg base (.ref cc) A outer st H0 E).env.qual ++ "_law_asked") (cloFrom (cxL P w K mg base (.ref cc) A outer st H0 E).env.cells (C8.fnScope sAsked).names []) f fa d c' 22 ws vs H Q E)
          (fun base' ws _ _ bc f c' => as_any T bc 22 f c') (fun _ => rfl) hr180 (fun ok => Caps.made ok (fun y hy e => .inl (asked_free y hy e)) asked_frs rfl) (fun _ _ _ => rfl) rfl (by first | exact Or.inl rfl | exact Or.inr (Or.inl rfl) | exact Or.inr (Or.inr rfl)) (pa_cons (pe_ix ix_tup (pe_ix ix_list (pv 3) pe_int (fun _ _ => rfl)) pe_int (fun _ _ => rfl)) (pa_cons (pv 4) pa_nil))) rfl)))))), ?_⟩
  intro fa sh m ra ol us xs rs rs0 ss kvs r s0 s1 s2 s6 s7 s8 s9 s11 H Q hF fk hol hQ hsub hfirst hsh hTs hss hK hkv hR hg hl9 htb hQ2
  refine ⟨fun p hp => by rw [List.mem_singleton.mp hp]; exact TabN.nil htb, fun f c' H1 eN _ _ _ hf1 hc1 => ?_⟩
  have im1 := extn_imm eN
  have keep : ∀ b o, H b = some o → (∀ ps, o ≠ .tbl ps) → H1 b = some o := eN
  have hF1 := hF.imm im1
  have hol1 := keep _ _ hol fun ps z => by cases z
  have hsh1 := keep _ _ hsh fun ps z => by cases z
  have hQ1 := hQ.imm im1
  have hTs1 := hTs.imm im1
  have hR1 := hR.imm im1
  have hK1 : KD P w H1 m kvs := hK.ext im1 fun o ho => by
    obtain ⟨_, _, _, o2, _, _, _, e, _⟩ := hK
    rw [e] at ho
    injection ho with ho
    subst ho
    exact keep _ _ e fun ps z => by cases z
  have hA1 : Aq P w K H1 f fa m (mkF ((cxL P w K mg base (.ref cc) A outer st H0 E).env.qual ++ "_law_asked") (cloFrom (cxL P w K mg base (.ref cc) A outer st H0 E).env.cells (C8.fnScope sAsked).names []) c') rs kvs := ⟨hf1, hc1, hF1, fk, hK1, hkv⟩
  clear keep eN
  refine ⟨_, rfl, sh, rfl, ⟨us, SqL.of hsh1⟩, for_list (K := K) (a := sh) (xs := us) (fun k σ H' => ∃ v9, σ = [s0, s1, s2, some (.ref ol), some (.ref ra), some (.ref sh), s6, s7, s8, v9, some (.ref m), s11, some (.ref fa), some (.ref f)] ∧ Same H1 H') ⟨s9, rfl, fun _ _ z => z⟩ (fun k σ H' _ ⟨_, _, S⟩ => SqL.of (S _ _ hsh1)) ?_ ?_⟩
  · rintro k y σ H2 hy ⟨v9, rfl, S2⟩
    obtain ⟨s, hs, b, rfl, hT⟩ := paired_get hTs1 hy
    have hsm : s ∈ ss := List.mem_of_getElem? hs
    obtain ⟨gs, sz13, hlv, v, hv⟩ := hss s hsm
    obtain ⟨x, hx, hmem⟩ := hkv _ (valV_mem hv)
    have hx : v = .str x := hx
    subst hx
    have hT2 := hT.imm (Same.imm S2)
    have hA2 := hA1.same S2
    have hxn : x ∈ nms rs := List.mem_map.mpr ⟨_, hmem, rfl⟩
    have eF : F rs r x = Dv rs r s := F_rule (row := r) fk.ok hmem
    refine ⟨_, rfl, _, rfl, _, rfl, b, m, s, kvs, _, rfl, rfl, ⟨gs.ok, gs.deep⟩, hT2, hA2.2.2.2.2.1, hv, _, rfl, ?_⟩
    refine ⟨fa, ra, x, rs, r, rfl, hA2.2.2.1, fk, hR1.imm (Same.imm S2), hg.rok, hg.tn, hxn, fun H3 S3 => ?_⟩
    have S23 := S2.trans S3
    refine ⟨_, rfl, _, rfl, _, rfl, ?_⟩
    refine ⟨f, c', fa, m, ra, b, rs, kvs, r, s, rfl, rfl, hA1.same S23, hR1.imm (Same.imm S23), hg, hT.imm (Same.imm S23), gs, by omega, hlv, fun H4 S4 => ⟨rfl, _, rfl, ?_⟩⟩
    rw [eF, decide_eq_true rfl]
    exact iteF ⟨_, rfl, S23.trans S4⟩
  · rintro σ H2 ⟨v9, rfl, S2⟩
    obtain ⟨n0, t0, tl, e0, gt, szt, lvt⟩ := hfirst
    have hA2 := hA1.same S2
    have hQ2' := hQ1.imm (Same.imm S2)
    have hR2 := hR1.imm (Same.imm S2)
    have hol2 := S2 _ _ hol1
    refine ⟨_, rfl, _, rfl, _, rfl, fa, ol, ra, xs, rs, rs0, r, rfl, hA2.2.2.1, fk, hol2, hQ2', hsub, hR2, hg.rok, hg.tn, fun H3 S3 => ⟨_, rfl, iteT ?_⟩⟩
    have hmem : Rl.shaped n0 t0 ∈ rs := hsub _ (by rw [e0]; exact List.mem_cons_self ..)
    have hA3 := hA2.same S3
    have S23 := S2.trans S3
    rw [e0] at hQ1
    cases hQ1 with
    | cons q0 _ =>
    obtain ⟨a0, b0, rfl, ha0, hT0⟩ := q0
    have eF : F rs r n0 = Dv rs r t0 := F_rule (row := r) fk.ok hmem
    refine ⟨_, rfl, _, rfl, ol, _, 0, .ref a0, rfl, rfl, SqL.of (S23 _ _ hol1), atI_nat (j := 0) rfl, a0, _, 1, .str n0, rfl, rfl, SqT.of (S23 _ _ ha0), atI_nat (j := 1) rfl, _, rfl, ?_⟩
    refine ⟨fa, ra, n0, rs, r, rfl, hA3.2.2.1, fk, hR1.imm (Same.imm S23), hg.rok, hg.tn, List.mem_map.mpr ⟨_, hmem, rfl⟩, fun H4 S4 => ?_⟩
    have S24 := S23.trans S4
    have hA4 := hA1.same S24
    refine ⟨f, c', rfl, hA4.1, _, rfl, ol, _, 0, .ref a0, rfl, rfl, SqL.of (S24 _ _ hol1), atI_nat (j := 0) rfl, a0, _, 2, .ref b0, rfl, rfl, SqT.of (S24 _ _ ha0), atI_nat (j := 2) rfl, _, rfl, hA4.1, hA4.2.1, fa, m, ?_⟩
    refine ⟨ra, rs, kvs, r, rfl, hA4, hR1.imm (Same.imm S24), hg, .inr ⟨b0, t0, rfl, hT0.imm (Same.imm S24), gt, by omega, lvt, fun H5 S5 => ⟨rfl, ?_⟩⟩⟩
    rw [eF, decide_eq_true rfl]
    exact hQ2 H5
end
end K17
end PartK17L1
section PartK17L2
set_option Elab.async false
set_option linter.all false
set_option maxRecDepth 100000
set_option maxHeartbeats 4000000
/-! law: from the shapes to the forms. -/
namespace K17
open PySem PySem.Spec PyProof.Rows L2 NdefX LamX
abbrev lawMid : List Stmt := (defBody sLaw).drop 5
theorem paired_app {α β : Type} {F : α → β → Prop} : ∀ {xs xs' : List α} {ys ys' : List β}, Paired F xs ys → Paired F xs' ys' → Paired F (xs ++ xs') (ys ++ ys')
  | _, _, _, _, .nil, h => h
  | _, _, _, _, .cons r t, h => .cons r (paired_app t h)
theorem paired_getR {α β : Type} {F : α → β → Prop} : ∀ {xs : List α} {ys : List β} {k : Nat} {y : β}, Paired F xs ys → ys[k]? = some y → ∃ x, xs[k]? = some x ∧ F x y
  | _, _, 0, y, .cons r t, e => by
    cases e
    exact ⟨_, rfl, r⟩
  | _, _, k + 1, y, .cons r t, e => by
    obtain ⟨x, h1, h2⟩ := paired_getR (k := k) t (by simpa using e)
    exact ⟨x, by simpa using h1, h2⟩
abbrev lawA (ws : List Str) (rs0 : List Rl) : Option Str → Str → Prop := fun w n => (∀ y, w = some y → y ∈ ws) ∧ n ∈ nms rs0
theorem gd_of_dn {ws : List Str} {rs0 : List Rl} (hw : ∀ x ∈ ws, Nm x) (hn : ∀ x ∈ nms rs0, Nm x) {t : Sh} (h : Dn ws (nms rs0) 2 t) : Gd (lawA ws rs0) t := by
  have h1 := h.sz
  have h2 := h.tr
  have e1 : bz 2 = 13 := rfl
  have e2 : (3 : Nat) ^ 2 = 9 := rfl
  exact ⟨h.ok, h.deep, by omega, by omega, Sh.all_mono (fun w n z => ⟨fun x hx => (hw x (z.1 x hx)).2.2.1, (hn n z.2).2.2.1⟩) h.nm, h.nm⟩
section
variable {P : Program} {w : World} {K : PySem.W.Frag} {mg : Str → Option Value} {base : Heap}
theorem law_mid (T : Tx K mg) {cc tb : Addr} (TB : TabB base mg cc tb) {A : Around} {outer : List Env} {st : Shared} {H0 : Hp} {E : XK} (hr : Room 229 (A.deeper (envOfC "law" (defScope sLaw) st.heap.objs.size (ca K "law") (.ref cc)))) :
    ∃ t, PSs (cxL P w K mg base (.ref cc) A outer st H0 E) lawMid t ∧
      ∀ (ra ol wl : Addr) (xs : List V) (ws : List Str) (rs0 : List Rl) (many : Nat) (r : Row) (s0 s1 : Option V) (H : Hp) (Q : VK),
        H ol = some (.lst xs) → QsAt H xs rs0 → Lr ws many rs0 → many ≤ 4 → H wl = some (.lst (ws.map V.str)) → ws.length = 2 → (∀ x ∈ ws, Nm x) → RowAt H r ra → Gr r → r.len ≤ 9 → H tb = some (.tbl #[]) → (∀ H', Q (.bl true) H') →
        t { nx := fun _ H' => Q .non H', rt := Q } [s0, s1, some (.ref wl), some (.ref ol), some (.ref ra), none, none, none, none, none, none, none, none, none] H := by
  have nd := scLaw.nd
  have hu := hr.units
  have GA : FO P w K mg base 229 (ca K "_law_all_shapes") pAllShapes (spAll 13) := (ok_all T 13).mono (by decide)
  have GT : FO P w K mg base 229 (ca K "_law_trees") pTrees (spTrees 3) := (ok_lawtrees T 3).mono (by decide)
  have GN : FO P w K mg base 229 (ca K "_law_named") pNamed (spNamed P w) := (ok_named T).mono (by decide)
  have GM : FO P w K mg base 229 (ca K "_law_forms_made") pFormsMade (spFMade K) := (ok_fmade T).mono (by decide)
  obtain ⟨tt, htl, htq⟩ := law_tail (P := P) (w := w) T TB (outer := outer) (H0 := H0) (E := E) hr
  refine ⟨_, pss_cons (ps_set (i := 5) nd rfl (.inl rfl) (pe_lst pa_nil))
    (pss_cons (ps_expr (pe_call GA hr (by rfl) T.g_law_all_shapes T.d_law_all_shapes.kp (bd_law_all_shapes T) .nil pass0 (pa_cons (pe_ix ix_tup (pe_ix ix_list (pv 3) pe_int (fun _ _ => rfl)) pe_int (fun _ _ => rfl)) (pa_cons (pv 5) pa_nil))))
    (pss_cons (ps_set (i := 6) nd rfl (.inl rfl) (pe_op op_sub pe_int (pe_callB (cr_sum rfl) (by rfl) T.b_sum (by decide +kernel) (pa_cons (pe_lc (own := [("_law_rule", 7)]) (g := gName 7) (tt := tTag K 7 "shaped") (te := tCall (spTrees 3) [] E0 (tCons (tAt K 7 2) tNil)) rfl nd (pi_list (pv 3)) (blkOk_by (N := nLaw) (sc := defScope sLaw) (by decide +kernel))
        (fun _ _ _ _ _ => pg_name (i := 7) nd rfl (.inl rfl) (.inr rfl)) (fun _ _ _ _ _ => pts_one (pt_cmpR op_eq (pe_ix ix_tup (pv 7) pe_int (fun _ _ => rfl)) pe_str (nomark _))) (fun _ _ _ _ _ => pe_call GT hr (by rfl) T.g_law_trees T.d_law_trees.kp (bd_law_trees T) .nil pass0 (pa_cons (pe_ix ix_tup (pv 7) pe_int (fun _ _ => rfl)) pa_nil))) pa_nil))))
    (pss_cons (ps_set (i := 8) nd rfl (.inl rfl) (pe_lst pa_nil))
    (pss_cons (ps_for PassesOwn.never rfl (pi_list (pe_slice sl_list (pv 5) po_none (po_some pe_int))) (pg_name (i := 9) nd rfl (.inl rfl))
      (pss_one (ps_if (pt_cmpR op_le (pe_call GT hr (by rfl) T.g_law_trees T.d_law_trees.kp (bd_law_trees T) .nil pass0 (pa_cons (pv 9) pa_nil)) (pv 6) (nomark _))
        (pss_cons (ps_set (i := 6) nd rfl (.inl rfl) (pe_op op_sub (pv 6) (pe_call GT hr (by rfl) T.g_law_trees T.d_law_trees.kp (bd_law_trees T) .nil pass0 (pa_cons (pv 9) pa_nil))))
        (pss_one (ps_expr (pe_bm PySem.F.plainAttrs_list PySem.F.slot_list_append PySem.F.type_list_append mt_append (pv 8) (pa_cons (pv 9) pa_nil))))) pss_nil)))
    (pss_cons (ps_set (i := 5) nd rfl (.inl rfl) (pv 8))
    (pss_cons (ps_set (i := 10) nd rfl (.inr rfl) pe_knew)
    (pss_cons (ps_set (i := 11) nd rfl (.inr rfl) (pe_op op_cat (pe_lc (own := [("_law_rule", 7)]) (g := gName 7) (tt := tYes) (te := tAt K 7 1) rfl nd (pi_list (pv 3)) (blkOk_by (N := nLaw) (sc := defScope sLaw) (by decide +kernel))
        (fun _ _ _ _ _ => pg_name (i := 7) nd rfl (.inl rfl) (.inr rfl)) (fun _ _ _ _ _ => pts_nil) (fun _ _ _ _ _ => pe_ix ix_tup (pv 7) pe_int (fun _ _ => rfl))) (pv 2)))
    (pss_cons (ps_setLc (i := 8) (own := [("_law_told", 9)]) (g := gName 9) (tt := tYes) (te := tTup (tCons (tC (.str "shaped")) (tCons (tCall (spNamed P w) [] E0 (tCons (tVar 9) (tCons (tVar 10) (tCons (tVar 11) tNil)))) (tCons (tVar 9) tNil)))) rfl nd rfl rfl (by rfl) (pi_list (pv 5)) (blkOk_by (N := nLaw) (sc := defScope sLaw) (by decide +kernel))
        (fun _ _ _ _ _ => pg_name (i := 9) nd rfl (.inl rfl) (.inr rfl)) (fun _ _ _ _ _ => pts_nil) (fun _ _ _ _ _ => pe_tup (pa_cons pe_str (pa_cons (pe_call GN hr (by rfl) T.g_law_named T.d_law_named.kp (bd_law_named T) .nil pass0 (pa_cons (pv 9) (pa_cons (pv 10) (pa_cons (pv 11) pa_nil)))) (pa_cons (pv 9) pa_nil)))))
    (pss_cons (ps_set (i := 12) nd rfl (.inr rfl) (pe_call GM hr (by rfl) T.g_law_forms_made T.d_law_forms_made.kp (bd_law_forms_made T) .nil pass0 (pa_cons (pe_op op_cat (pv 3) (pv 8)) pa_nil)))
    htl))))))))), ?_⟩
  intro ra ol wl xs ws rs0 many r s0 s1 H Q hol hQ hLr hm4 hwl hws2 hwsn hR hg hl9 htb hQ2
  obtain ⟨n0, t0, tl, e0⟩ := hLr.first
  have hnmn : ∀ x ∈ nms rs0, Nm x := fun x hx => by
    obtain ⟨u, hu, rfl⟩ := List.mem_map.mp hx
    exact hLr.nm u hu
  have gdn : ∀ t, Dn ws (nms rs0) 2 t → Gd (lawA ws rs0) t := fun t ht => gd_of_dn hwsn hnmn ht
  have hshp : ∀ u ∈ rs0, u.shp (Dn ws (nms rs0) 2) := hLr.shp
  have hlen4 : rs0.length ≤ 4 := by rw [hLr.len]; exact hm4
  have g0 : Gd (lawA ws rs0) t0 := gdn t0 (hshp (.shaped n0 t0) (by rw [e0]; exact List.mem_cons_self ..))
  refine ⟨Nat.zero_le _, fun sh hsh => ?_⟩
  have S1 : Same H (upd H sh (.lst [])) := same_new hsh _
  have hq0 : ∃ a0 b0 xs', xs = .ref a0 :: xs' ∧ H a0 = some (.tup [.str "shaped", .str n0, .ref b0]) ∧ TAt H t0 [.ref b0] := by
    rw [e0] at hQ
    cases hQ with
    | cons q0 _ =>
    obtain ⟨a0, b0, rfl, h1, h2⟩ := q0
    exact ⟨a0, b0, _, rfl, h1, h2⟩
  obtain ⟨a0, b0, xs', exs, ha0, hT0⟩ := hq0
  have at0 : atI xs ((0 : Nat) : Int) = some (.ref a0) := by rw [exs]; exact atI_nat (j := 0) rfl
  have ulen := (un_len g0.ok).1 rfl
  have usz := g0.sz
  refine ⟨_, rfl, ol, _, 0, .ref a0, rfl, rfl, SqL.of (S1 _ _ hol), at0, a0, _, 2, .ref b0, rfl, rfl, SqT.of (S1 _ _ ha0), atI_nat (j := 2) rfl, _, rfl, b0, sh, t0, [], [], unS t0, lawA ws rs0, rfl, hT0.imm (Same.imm S1), g0, g0.sz, ⟨upd_same, .nil, List.nodup_nil, (fun t ht => by cases ht), fun t ht => by cases ht⟩, fun t ht => ht, by omega, fun H2 us ss E2 hF2 => ?_⟩
  have S2 : Same H H2 := fun u o ho => E2 u o (S1 u o ho) fun z => ne_of_none ho hsh (List.mem_singleton.mp z)
  obtain ⟨f1, f2, f3, f4, f5⟩ := hF2
  clear E2 S1
  -- left
  refine ⟨_, rfl, ol, rfl, ⟨_, SqL.of (S2 _ _ hol)⟩, fun L hL => ?_⟩
  have htot : tot rs0 ≤ 36 := by
    have go : ∀ l : List Rl, (∀ u ∈ l, u.shp (Dn ws (nms rs0) 2)) → tot l ≤ 9 * l.length := by
      intro l
      induction l with
      | nil => intro _; exact Nat.le_refl _
      | cons u l ih =>
        intro h
        have i1 := ih fun v hv => h v (List.mem_cons_of_mem _ hv)
        have i2 : u.lvs.length ≤ 9 := by
          have hu := h u (List.mem_cons_self ..)
          cases u with
          | shaped n s =>
            have hd : Dn ws (nms rs0) 2 s := hu
            have := hd.tr
            have e := lvs_len s
            show s.lvs.length ≤ 9
            have : (3 : Nat) ^ 2 = 9 := rfl
            omega
          | _ => exact Nat.zero_le _
        show u.lvs.length + tot l ≤ 9 * (l.length + 1)
        omega
    have := go rs0 hshp
    omega
  refine lc_list (K := K) (a := ol) (xs := xs) (fun k H6 => ∃ acc : List Int, Same H2 H6 ∧ H6 L = some (.lst (acc.map V.int)) ∧ acc.length ≤ k ∧ acc.sum = ((tot (rs0.take k) : Nat) : Int)) ⟨[], same_new hL _, upd_same, Nat.le_refl _, rfl⟩ (fun k H6 _ ⟨_, S, _⟩ => SqL.of (S _ _ (S2 _ _ hol))) ?_ ?_
  · rintro k y H6 hy ⟨acc, S6, hA, hal, hsum⟩
    have hk := (List.getElem?_eq_some_iff.mp hy).1
    rw [hQ.len] at hk
    obtain ⟨u, hu, hq⟩ := paired_get hQ hy
    have hum := List.mem_of_getElem? hu
    have ht1 := tot_succ hu
    have hq6 := hq.imm (Same.imm (S2.trans S6))
    refine ⟨rfl, ?_⟩
    have oth : u.lvs = [] → ∃ acc : List Int, Same H2 H6 ∧ H6 L = some (.lst (acc.map V.int)) ∧ acc.length ≤ k + 1 ∧ acc.sum = ((tot (rs0.take (k + 1)) : Nat) : Int) := fun e => ⟨acc, S6, hA, Nat.le_succ_of_le hal, by rw [ht1, e]; exact hsum⟩
    cases u with
    | shaped n s =>
      obtain ⟨a, b, rfl, ha, hT⟩ := hq6
      have hd : Dn ws (nms rs0) 2 s := hshp _ hum
      have hz := hd.sz
      have hbz : bz 2 ≤ 1000 := by decide
      refine rd_tag (i := 7) rfl ha ?_
      rw [show decide (("shaped" : Str) = "shaped") = true by decide +kernel]
      refine iteT ⟨_, rfl, a, _, 2, .ref b, rfl, rfl, SqT.of ha, atI_nat (j := 2) rfl, b, s, rfl, hT, hd.ok, by omega, hd.deep, fun H7 S7 => ?_⟩
      refine ⟨_, S7 _ _ hA, ?_, acc ++ [((s.trees : Nat) : Int)], fun z o ho => ?_, ?_, by rw [List.length_append]; exact Nat.succ_le_succ hal, ?_⟩
      · rw [List.length_map]
        exact sl5 (by omega)
      · rw [upd_ne (ne_of_none ho hL)]
        exact S7 _ _ (S6 _ _ ho)
      · rw [upd_same, List.map_append]
        rfl
      · have e := lvs_len s
        have e2 : (Rl.shaped n s).lvs.length = s.trees := e
        rw [List.sum_append, hsum, ht1, e2]
        simp
    | turned n o =>
      obtain ⟨a, rfl, ha⟩ := hq6
      refine rd_tag (i := 7) rfl ha ?_
      rw [show decide (("turned" : Str) = "shaped") = false by decide +kernel]
      exact iteF (oth rfl)
    | both n o v =>
      obtain ⟨a, rfl, ha⟩ := hq6
      refine rd_tag (i := 7) rfl ha ?_
      rw [show decide (("both" : Str) = "shaped") = false by decide +kernel]
      exact iteF (oth rfl)
    | any n o v =>
      obtain ⟨a, rfl, ha⟩ := hq6
      refine rd_tag (i := 7) rfl ha ?_
      rw [show decide (("any" : Str) = "shaped") = false by decide +kernel]
      exact iteF (oth rfl)
  rintro H3 ⟨acc, S3, hA3, _, hsum⟩
  rw [hQ.len, List.take_length] at hsum
  refine ⟨L, acc, rfl, SqL.of hA3, _, _, rfl, rfl, ?_⟩
  rw [hsum]
  have eleft : (40 : Int) - ((tot rs0 : Nat) : Int) = ((40 - tot rs0 : Nat) : Int) := by omega
  dsimp only
  rw [eleft]
  have S03 := S2.trans S3
  have f1' := S3 _ _ f1
  have f2' := f2.imm (Same.imm S3)
  clear hsum hA3 f1 f2
  -- some
  refine ⟨Nat.zero_le _, fun so hso => ?_⟩
  have S4 := same_new hso (.lst [])
  have hso0 : H so = none := S03.free hso
  have S04 := S03.trans S4
  have hso4 : (upd H3 so (.lst [])) so = some (.lst []) := upd_same
  have f1'' := S4 _ _ f1'
  have f2'' := f2'.imm (Same.imm S4)
  generalize upd H3 so (.lst []) = H4 at S4 S04 hso4 f1'' f2''
  refine ⟨_, rfl, 8, rfl, sh, us, rfl, SqL.of f1'', fun p8 hp8 => ?_⟩
  have ecut : cutV us none (some 8) = us.take 8 := by
    unfold cutV
    show (us.drop 0).take (min 8 us.length - 0) = us.take 8
    rw [List.drop_zero, Nat.sub_zero]
    by_cases c : 8 ≤ us.length
    · rw [Nat.min_eq_left c]
    · rw [Nat.min_eq_right (by omega), List.take_length, List.take_of_length_le (by omega)]
  rw [ecut]
  have S5 := same_new hp8 (.lst (us.take 8))
  have hp85 : (upd H4 p8 (.lst (us.take 8))) p8 = some (.lst (us.take 8)) := upd_same
  have S05 := S04.trans S5
  have hso5 := S5 _ _ hso4
  have f2s := f2''.imm (Same.imm S5)
  have np8 : p8 ≠ so := fun z => by
    rw [z, hso4] at hp8
    cases hp8
  generalize upd H4 p8 (.lst (us.take 8)) = H5 at S5 S05 hp85 hso5 f2s
  refine ⟨p8, rfl, ⟨_, SqL.of hp85⟩, for_list (K := K) (a := p8) (xs := us.take 8) (fun k σ H' => ∃ (v9 : Option V) (lf : Nat) (ys : List V) (cs : List Sh), σ = [s0, s1, some (.ref wl), some (.ref ol), some (.ref ra), some (.ref sh), some (.int (lf : Int)), none, some (.ref so), v9, none, none, none, none] ∧ Ext [so] H5 H' ∧ H' so = some (.lst ys) ∧ ToldS H' ys cs ∧ cs.Nodup ∧ (∀ t ∈ cs, t ∈ ss.take k) ∧ cs.length ≤ k ∧ tot rs0 + (cs.map Sh.trees).sum + lf = 40)
    ⟨none, 40 - tot rs0, [], [], rfl, Ext.refl _ _, hso5, .nil, List.nodup_nil, (fun t ht => by cases ht), Nat.le_refl _, by simp; omega⟩ (fun k σ H' _ ⟨_, _, _, _, _, E, _⟩ => SqL.of (E _ _ hp85 fun z => np8 (List.mem_singleton.mp z))) ?_ ?_⟩
  · rintro k y σ H6 hy ⟨v9, lf, ys, cs, rfl, E6, hso6, hT6, hn6, hs6, hl6, hsum6⟩
    have hk := (List.getElem?_eq_some_iff.mp hy).1
    rw [List.length_take] at hk
    have hy2 : us[k]? = some y := by
      rw [List.getElem?_take, if_pos (by omega)] at hy
      exact hy
    obtain ⟨t, ht, b, rfl, hT⟩ := paired_get f2s hy2
    have htm := List.mem_of_getElem? ht
    have gt := f4 t htm
    have im6 := ext_imm hso5 E6
    have hkss := (List.getElem?_eq_some_iff.mp ht)
    obtain ⟨hkl, hke⟩ := hkss
    have tk1 : ss.take (k + 1) = ss.take k ++ [t] := by rw [List.take_add_one, ht]; rfl
    have new : ¬ t ∈ cs := fun z => by
      have z2 := hs6 t z
      obtain ⟨i, hi, e⟩ := List.mem_iff_getElem.mp z2
      rw [List.length_take] at hi
      rw [List.getElem_take] at e
      have := (List.getElem_inj f3).mp (e.trans hke.symm)
      omega
    have gz := gt.sz
    refine ⟨_, rfl, b, t, rfl, hT.imm im6, gt.ok, by omega, gt.deep, fun H7 S7 => ?_⟩
    have E7 : Ext [so] H5 H7 := E6.trans (Ext.of_same S7)
    have hso7 := S7 _ _ hso6
    have hT7 := hT6.imm (Same.imm S7)
    refine ⟨_, rfl, _, _, rfl, rfl, _, rfl, ?_⟩
    refine ite2 (fun cc => ?_) (fun cc => ⟨_, lf, ys, cs, rfl, E7, hso7, hT7, hn6, fun x hx => by rw [tk1]; exact List.mem_append_left _ (hs6 x hx), Nat.le_succ_of_le hl6, hsum6⟩)
    have lc : ((t.trees : Nat) : Int) ≤ (lf : Int) := of_decide_eq_true cc
    refine ⟨_, rfl, _, rfl, b, t, rfl, hT.imm (im6.trans (Same.imm S7)), gt.ok, by omega, gt.deep, fun H8 S8 => ⟨_, _, rfl, rfl, ?_⟩⟩
    have hso8 := S8 _ _ hso7
    have im9 : Imm H8 (upd H8 so (.lst (ys ++ [.ref b]))) := imm_lst hso8 _
    refine ⟨_, rfl, .inl ⟨rfl, _, SqL.of hso8⟩, _, rfl, so, ys, .ref b, rfl, rfl, hso8, ?_, ?_⟩
    · rw [hT6.len]
      exact sl5 (by omega)
    have elf : ((lf : Int) - ((t.trees : Nat) : Int)) = ((lf - t.trees : Nat) : Int) := by omega
    refine ⟨some (.ref b), lf - t.trees, ys ++ [.ref b], cs ++ [t], ?_, ?_, upd_same, ?_, nd_snoc hn6 new, fun x hx => ?_, by rw [List.length_append]; exact Nat.succ_le_succ hl6, ?_⟩
    · rw [← elf]
      rfl
    · exact E7.trans ((Ext.of_same S8).trans (Ext.upd_in (List.mem_singleton.mpr rfl) _))
    · exact ToldS.app (hT7.imm ((Same.imm S8).trans im9)) (.cons ⟨b, rfl, hT.imm (im6.trans ((Same.imm (S7.trans S8)).trans im9))⟩ .nil)
    · rw [tk1]
      rcases List.mem_append.mp hx with z | z
      · exact List.mem_append_left _ (hs6 x z)
      · exact List.mem_append_right _ z
    · rw [List.map_append, List.sum_append]
      simp
      omega
  rintro σ H6 ⟨v9, lf, ys, cs, rfl, E6, hso6, hT6, hn6, hs6, hl6, hsum6⟩
  have S06 : Same H H6 := fun u o ho => E6 u o (S05 u o ho) fun z => ne_of_none ho hso0 (List.mem_singleton.mp z)
  have hcs8 : cs.length ≤ 8 := by
    rw [List.length_take] at hl6
    omega
  have gcs : ∀ t ∈ cs, Gd (lawA ws rs0) t := fun t ht => f4 t (List.mem_of_mem_take (hs6 t ht))
  clear E6 f2s hso5 hp85 S5 S05 np8 f1'' f2'' hso4 S04 S4 f1' f2' S03 S3 hso hp8 hsh hL
  refine ⟨_, rfl, ?_⟩
  refine fun m Hm hm Sm _ hKm => ?_
  have S0m : Same H Hm := S06.trans Sm
  have hm0 : H m = none := S06.free hm
  have hsom := Sm _ _ hso6
  have hTm := hT6.imm (Same.imm Sm)
  -- taken
  refine ⟨_, rfl, ol, rfl, ⟨_, SqL.of (S0m _ _ hol)⟩, fun L2 hL2 => ?_⟩
  refine lc_list (K := K) (a := ol) (xs := xs) (fun k H7 => Same Hm H7 ∧ H7 L2 = some (.lst ((nms (rs0.take k)).map V.str))) ⟨same_new hL2 _, upd_same⟩ (fun k H7 _ ⟨S, _⟩ => SqL.of (S _ _ (S0m _ _ hol))) ?_ ?_
  · rintro k y H7 hy ⟨S7, hA⟩
    have hk := (List.getElem?_eq_some_iff.mp hy).1
    rw [hQ.len] at hk
    obtain ⟨u, hu, hq⟩ := paired_get hQ hy
    obtain ⟨a, zs, rfl, ha⟩ := (hq.imm (Same.imm (S0m.trans S7))).head
    refine ⟨rfl, ?_⟩
    dsimp only [tYes]
    rw [if_pos rfl]
    refine ⟨_, rfl, a, _, 1, .str u.name, rfl, rfl, SqT.of ha, atI_nat (j := 1) rfl, _, hA, ?_, fun z o ho => ?_, ?_⟩
    · rw [List.length_map, List.length_map, List.length_take]
      exact sl5 (by omega)
    · rw [upd_ne (ne_of_none ho hL2)]
      exact S7 _ _ ho
    · rw [upd_same, List.take_add_one, hu]
      simp
  rintro H7 ⟨S7, hA7⟩
  rw [hQ.len, List.take_length] at hA7
  have S07 := S0m.trans S7
  refine ⟨_, rfl, L2, wl, _, _, rfl, rfl, hA7, S07 _ _ hwl, ?_, fun tk htk => ?_⟩
  · rw [List.length_map, List.length_map, List.length_map]
    exact Nat.le_of_lt (sl5 (by omega))
  have S8 := same_new htk (.lst ((nms rs0).map V.str ++ ws.map V.str))
  have htk8 : (upd H7 tk (.lst ((nms rs0).map V.str ++ ws.map V.str))) tk = some (.lst ((nms rs0 ++ ws).map V.str)) := by
    rw [upd_same, List.map_append]
  have hKs : ∀ {Ha Hb : Hp} {kv : List (Sh × V)}, KD P w Ha m kv → Same Ha Hb → KD P w Hb m kv := fun h S => h.ext (Same.imm S) fun o ho => S _ _ ho
  have S78 := S7.trans S8
  have S08 := S07.trans S8
  have hK8 := hKs hKm S78
  have hso8 := S78 _ _ hsom
  have hT8 := hTm.imm (Same.imm S78)
  generalize upd H7 tk (.lst ((nms rs0).map V.str ++ ws.map V.str)) = H8 at S8 htk8 S78 S08 hK8 hso8 hT8
  clear S8 S7 hA7 hL2 htk S78 hTm hsom hKm S0m Sm hm
  have htkl : (nms rs0 ++ ws).length ≤ 20 := by
    rw [List.length_append, List.length_map]
    omega
  -- the new rules
  refine ⟨_, rfl, so, rfl, ⟨_, SqL.of hso8⟩, fun L3 hL3 => ?_⟩
  have hmo : ∃ o d0, H8 m = some (oneO d0 o) := by
    obtain ⟨_, _, _, o, _, _, _, e, _⟩ := hK8
    exact ⟨o, m, e⟩
  obtain ⟨om, dm, hom⟩ := hmo
  have imM : ∀ {Hb : Hp}, Ext [m] H8 Hb → Imm H8 Hb := fun g => Ext.imm g fun x hx => by
    rw [List.mem_singleton.mp hx, hom]
    exact ⟨fun xs z => (by cases z), fun C dx fs z => (by cases z)⟩
  have nL3m : L3 ≠ m := fun z => by
    rw [z, hom] at hL3
    cases hL3
  have nsom : so ≠ m := fun z => by
    rw [z, hom] at hso8
    cases hso8
  have ntkm : tk ≠ m := fun z => by
    rw [z, hom] at htk8
    cases htk8
  refine lc_list (K := K) (a := so) (xs := ys) (fun k H9 => ∃ (kvs : List (Sh × V)) (new : List Rl) (acc : List V), Ext [m] H8 H9 ∧ H9 L3 = some (.lst acc) ∧ KD P w H9 m kvs ∧ QsAt H9 acc new ∧ new.length = k ∧ kvs.length = k ∧ kvs.map (·.1) = cs.take k ∧ Paired (fun p u => ∃ x, p.2 = V.str x ∧ u = Rl.shaped x p.1) kvs new ∧
      (∀ (i : Nat) u, new[i]? = some u → ∃ c, u.name = qn c i ∧ c < 26) ∧ Okl [] (rs0 ++ new)) ⟨[], [], [], Ext.of_same (same_new hL3 _), upd_same, hKs hK8 (same_new hL3 _), .nil, rfl, rfl, rfl, .nil, (fun i u h => by cases h), by rw [List.append_nil]; exact hLr.ok⟩ (fun k H9 _ ⟨_, _, _, E, _⟩ => SqL.of (E _ _ hso8 fun z => nsom (List.mem_singleton.mp z))) ?_ ?_
  · rintro k y H9 hy ⟨kvs, new, acc, E9, hA9, hK9, hQ9, hnl, hkl, hkk, hpr, hnn, hok⟩
    obtain ⟨t, ht, b, rfl, hT⟩ := paired_get hT8 hy
    have htm := List.mem_of_getElem? ht
    have gt := gcs t htm
    obtain ⟨hkc, hke⟩ := List.getElem?_eq_some_iff.mp ht
    have im9 := imM E9
    have hT9 := hT.imm im9
    have htk9 := E9 _ _ htk8 fun z => ntkm (List.mem_singleton.mp z)
    have hvn : valV kvs t = none := by
      cases e : valV kvs t with
      | none => rfl
      | some v =>
        have z := valV_in e
        rw [hkk] at z
        obtain ⟨i, hi, e2⟩ := List.mem_iff_getElem.mp z
        rw [List.length_take] at hi
        rw [List.getElem_take] at e2
        have := (List.getElem_inj hn6).mp (e2.trans hke.symm)
        omega
    refine ⟨rfl, ?_⟩
    dsimp only [tYes]
    rw [if_pos rfl]
    refine ⟨_, rfl, _, rfl, _, rfl, b, m, tk, t, kvs, _, rfl, hT9, ⟨gt.ok, gt.deep⟩, hK9, by omega, hvn, htk9, htkl, fun c H10 hc hnt E10 I10 hK10 => ?_⟩
    refine ⟨_, rfl, (by show 3 ≤ sizeLine; decide), fun p hp => ?_⟩
    have S11 := same_new hp (.tup [.str "shaped", .str (qn c kvs.length), .ref b])
    have hA11 : (upd H10 p (.tup [.str "shaped", .str (qn c kvs.length), .ref b])) L3 = some (.lst acc) := S11 _ _ (E10 _ _ hA9 fun z => nL3m (List.mem_singleton.mp z))
    have im11 := I10.trans (Same.imm S11)
    have hK11 := hKs hK10 S11
    have hp11 : (upd H10 p (.tup [.str "shaped", .str (qn c kvs.length), .ref b])) p = some (.tup [.str "shaped", .str (qn c kvs.length), .ref b]) := upd_same
    have E11 : Ext [m] H8 (upd H10 p (.tup [.str "shaped", .str (qn c kvs.length), .ref b])) := E9.trans (E10.trans (Ext.of_same S11))
    generalize upd H10 p (.tup [.str "shaped", .str (qn c kvs.length), .ref b]) = H11 at S11 hA11 im11 hK11 hp11 E11
    have im12 : Imm H11 (upd H11 L3 (.lst (acc ++ [.ref p]))) := imm_lst hA11 _
    have hK12 : KD P w (upd H11 L3 (.lst (acc ++ [.ref p]))) m (kvs ++ [(t, .str (qn c kvs.length))]) := hK11.ext im12 fun o ho => by
      rw [upd_ne (fun z => nL3m z.symm)]
      exact ho
    have fresh : ¬ qn c kvs.length ∈ nms (rs0 ++ new) := fun z => by
      rw [nms, List.map_append] at z
      rcases List.mem_append.mp z with z | z
      · exact hnt (List.mem_append_left _ z)
      · obtain ⟨u, hu, eu⟩ := List.mem_map.mp z
        obtain ⟨i, hi, e2⟩ := List.mem_iff_getElem.mp hu
        obtain ⟨c', e3, _⟩ := hnn i u (by rw [List.getElem?_eq_getElem hi, e2])
        rw [e3] at eu
        have := (qn_inj eu).2
        omega
    refine ⟨acc, hA11, ?_, kvs ++ [(t, .str (qn c kvs.length))], new ++ [.shaped (qn c kvs.length) t], acc ++ [.ref p], fun z o hz nz => ?_, upd_same, hK12, ?_, by rw [List.length_append, hnl]; rfl, by rw [List.length_append, hkl]; rfl, ?_, ?_, fun i u hi => ?_, ?_⟩
    · rw [hQ9.len]
      exact sl5 (by omega)
    · rw [upd_ne (ne_of_none hz hL3)]
      exact E11 z o hz nz
    · exact QsAt.app (hQ9.imm (im11.trans im12)) (.cons ⟨p, b, rfl, im12.1 _ _ hp11, hT9.imm (im11.trans im12)⟩ .nil)
    · rw [List.map_append, hkk, List.take_add_one, ht]
      rfl
    · exact paired_app hpr (.cons ⟨_, rfl, rfl⟩ .nil)
    · rcases get_app1 hi with ⟨h1, h2⟩ | ⟨h1, h2⟩
      · exact hnn i u h2
      · refine ⟨c, ?_, hc⟩
        rw [h2, h1, hnl, hkl]
        rfl
    · rw [← List.append_assoc]
      exact okl_snoc hok (by simp) fresh fun x hx => by cases hx
  rintro H9 ⟨kvs, new, acc, E9, hA9, hK9, hQ9, hnl, hkl, hkk, hpr, hnn, hok⟩
  have eys : ys.length = cs.length := hT8.len
  rw [eys] at hnl hkl hkk
  rw [List.take_length] at hkk
  have im9 := imM E9
  have S09 : Same H H9 := fun u o ho => E9 u o (S08 u o ho) fun z => ne_of_none ho hm0 (List.mem_singleton.mp z)
  have hso9 := E9 _ _ hso8 fun z => nsom (List.mem_singleton.mp z)
  have hT9 := hT8.imm im9
  -- forms
  refine ⟨_, rfl, _, rfl, ol, L3, xs, acc, rfl, rfl, S09 _ _ hol, hA9, ?_, fun fl hfl => ?_⟩
  · rw [hQ.len, hQ9.len]
    exact Nat.le_of_lt (sl5 (by omega))
  have S10 := same_new hfl (.lst (xs ++ acc))
  have hnew : ∀ u ∈ new, ∃ x t, u = .shaped x t ∧ t ∈ cs ∧ Nm x := fun u hu => by
    obtain ⟨i, hi, e⟩ := List.mem_iff_getElem.mp hu
    have hi2 : new[i]? = some u := by rw [List.getElem?_eq_getElem hi, e]
    obtain ⟨p, hp, x, _, e2⟩ := paired_getR hpr hi2
    obtain ⟨c, e3, hc⟩ := hnn i u hi2
    have hpm : p.1 ∈ cs := by
      rw [← hkk]
      exact List.mem_map.mpr ⟨p, List.mem_of_getElem? hp, rfl⟩
    refine ⟨x, p.1, e2, hpm, ?_⟩
    rw [e2] at e3
    have e4 : x = qn c i := e3
    rw [e4]
    exact qn_nm hc (by omega)
  have hnsub : ∀ x ∈ nms rs0, x ∈ nms (rs0 ++ new) := fun x hx => by
    rw [nms, List.map_append]
    exact List.mem_append_left _ hx
  have hskd : ∀ {t}, Gd (lawA ws rs0) t → Sk t := fun {t} g => by
    have e := lvs_len t
    have h1 := g.tr
    have h2 := g.sz
    have h3 := g.deep
    exact ⟨g.ok, by omega, by omega, by omega, Sh.all_mono (fun w n z => ⟨fun x hx => hwsn x (z.1 x hx), hnmn n z.2⟩) g.nm⟩
  have hlv : ∀ {t}, Gd (lawA ws rs0) t → ∀ x ∈ t.lvs, x.2 ∈ nms rs0 := fun {t} g x hx => (lvs_all g.nm x hx).2
  have htot2 : tot new = (cs.map Sh.trees).sum := by
    have go : ∀ {kv : List (Sh × V)} {nw : List Rl}, Paired (fun p u => ∃ x, p.2 = V.str x ∧ u = Rl.shaped x p.1) kv nw → tot nw = ((kv.map (·.1)).map Sh.trees).sum := by
      intro kv nw h
      induction h with
      | nil => rfl
      | cons r _ ih =>
        obtain ⟨x, _, rfl⟩ := r
        show (Sh.lvs _).length + tot _ = Sh.trees _ + _
        rw [ih, lvs_len]
        rfl
    rw [go hpr, hkk]
  have fk : Fk (rs0 ++ new) := by
    refine ⟨by rw [List.length_append, e0]; simp; omega, by rw [List.length_append]; omega, hok, fun u hu => ?_, ?_, fun u hu x hx => ?_⟩
    · rcases List.mem_append.mp hu with z | z
      · refine ⟨hLr.nm u z, fun x hx => hnmn x (leans_in hLr.ok z hx), ?_⟩
        cases u with
        | shaped n t => exact hskd (gdn t (hshp _ z))
        | _ => trivial
      · obtain ⟨x, t, rfl, ht, hx⟩ := hnew u z
        exact ⟨hx, fun y hy => (by cases hy), hskd (gcs t ht)⟩
    · have e : tot (rs0 ++ new) = tot rs0 + tot new := by
        unfold tot
        rw [List.map_append, List.sum_append]
      rw [e, htot2]
      omega
    · refine hnsub _ ?_
      rcases List.mem_append.mp hu with z | z
      · cases u with
        | shaped n t => exact hlv (gdn t (hshp _ z)) x hx
        | _ => cases hx
      · obtain ⟨y, t, rfl, ht, _⟩ := hnew u z
        exact hlv (gcs t ht) x hx
  have hQall : QsAt (upd H9 fl (.lst (xs ++ acc))) (xs ++ acc) (rs0 ++ new) := QsAt.app (hQ.imm (Same.imm (S09.trans S10))) (hQ9.imm (Same.imm S10))
  refine ⟨fl, xs ++ acc, rs0 ++ new, rfl, upd_same, hQall, fk, fun fa H11 S11 hFs => ?_⟩
  have S9B := S10.trans S11
  have S0B := S09.trans S9B
  have gq : ∀ {t}, Gd (lawA ws rs0) t → Gq (rs0 ++ new) t := fun {t} g => ⟨g.ok, g.deep, Nat.le_trans g.sz (by decide)⟩
  refine htq fa so m ra ol ys xs (rs0 ++ new) rs0 cs kvs r _ _ _ _ _ _ _ _ H11 Q hFs fk (S0B _ _ hol) (hQ.imm (Same.imm S0B)) (fun u hu => List.mem_append_left _ hu) ⟨n0, t0, tl, e0, gq g0, g0.sz, fun x hx => hnsub _ (hlv g0 x hx)⟩ (S9B _ _ hso9) (hT9.imm (Same.imm S9B)) (fun t ht => ⟨gq (gcs t ht), (gcs t ht).sz, fun x hx => hnsub _ (hlv (gcs t ht) x hx), ?_⟩) (hKs hK9 S9B) (fun p hp => ?_) (hR.imm (Same.imm S0B)) hg hl9 (S0B _ _ htb) hQ2
  · cases e : valV kvs t with
    | some v => exact ⟨v, rfl⟩
    | none =>
      have z := valV_not e
      rw [hkk] at z
      exact absurd ht z
  · obtain ⟨i, hi, e⟩ := List.mem_iff_getElem.mp hp
    obtain ⟨u, hu, x, e1, e2⟩ := paired_get hpr (k := i) (x := p) (by rw [List.getElem?_eq_getElem hi, e])
    refine ⟨x, e1, List.mem_append_right _ ?_⟩
    rw [← e2]
    exact List.mem_of_getElem? hu
end
end K17
end PartK17L2
section PartK17End
set_option Elab.async false
set_option linter.all false
set_option maxRecDepth 100000
set_option maxHeartbeats 0
namespace K17
open PySem PySem.Spec PyProof.Rows L2
def spLaw (K : PySem.W.Frag) (tb : Addr) : Sp := fun vs H Q _ => ∃ (a : Addr) (ns : List Int), vs = [.ref a] ∧ SqL K H a (ns.map V.int) ∧ ns.length ≤ 63 ∧ H tb = some (.tbl #[]) ∧ ∀ H', Q (.bl true) H'
def LawGoal : Prop := ∀ (w : World) (K : PySem.W.Frag) (h : Heap) (mg : Str → Option Value) (fa : Addr), K.In h → h.Ns mainGlobals mg → SaysY h K → mg "law" = some (.ref fa) →
  ∃ fd : FuncData, (∀ (s : Shared) (v : Value), BindsTo s fd ⟨[v], []⟩ [("_law_script", v)]) ∧
    ∀ base : Heap, K.In base → base.Ns mainGlobals mg → (LamX.TabB base mg (He.cT K ("law", none)).1 (He.cT K ("law", none)).2) → FnOk Rw.prog w K mg base CX0 230 fa fd ["_law_script"] (spLaw K (He.cT K ("law", none)).2)
end K17
open PySem PySem.W PySem.Calls PyProof.Rows
theorem K17.holds_of (main : K17.LawGoal) : PySem.Challenge.rw_formwood_k17_whole_by_parting.Holds := by
  w_on; o_law
  refine HandSHeadRun.head_any (r := OpenLaw.row PySem.Challenge.rw_formwood_k17_whole_by_parting) (q := view (OpenLaw.row PySem.Challenge.rw_formwood_k17_whole_by_parting).prog [59]) (H := K17.hk) (ob := K17.ob) (M := 20000) (loose := K17.loose) (d := HandSHeadRun.topDef (OpenLaw.row PySem.Challenge.rw_formwood_k17_whole_by_parting).prog 59) (kwd := []) K17.ob_eq
    (by kernel_rfl) (fun s => by kernel_rfl) K17.run (by kernel_rfl) (by kernel_rfl) (by kernel_rfl) (by rfl) (by first | assumption | decide +kernel) (by decide +kernel) ⟨rfl, rfl, rfl, rfl, rfl, by decide +kernel⟩ ?hw ?hc
  case hw => w_witness2
  case hc =>
    refine LamX.walk_ofTsE (l := PySem.Challenge.rw_formwood_k17_whole_by_parting) (n := 63) (k := 230) (x := "_law_script") (CX := fun _ => L2.CX0) rfl (by decide) (by kernel_rfl) ⟨rfl, by decide, by decide⟩ ?F (fun _ _ _ _ _ z => z)
    intro w mg fa h Y G hmg0
    obtain ⟨K, KX, c⟩ := Y
    have hmg : mg ("law" : PySem.Str) = some (.ref fa) := by
      have e : (HandSHeadRun.topDef (OpenLaw.row PySem.Challenge.rw_formwood_k17_whole_by_parting).prog 59).name = ("law" : PySem.Str) := by kernel_rfl
      rw [← e]
      exact hmg0
    obtain ⟨fd, hb, hF⟩ := main w K h mg fa KX G c hmg
    have mem : (("law", none) : He.Defn) ∈ K17.tf := List.mem_cons_self ..
    refine ⟨K, KX, fd, [He.cT K ("law", none)], K17.spLaw K (He.cT K ("law", none)).2, fun p hp => ?_, fun p hp => ?_, fun p hp => ?_, hb, fun H a ns hl _ hT hS => ?_, fun base hK hG hTB => hF base hK hG (hTB _ (List.mem_cons_self ..))⟩
    · rw [List.mem_singleton.mp hp]
      exact c.empty _ mem
    · rw [List.mem_singleton.mp hp]
      exact c.out _ mem
    · rw [List.mem_singleton.mp hp]
      exact PySem.W.codeHd_of_K KX (c.hd _ mem)
    · exact ⟨a, ns, rfl, hS, hl, hT _ (List.mem_cons_self ..), fun _ => rfl⟩
end PartK17End
section PartK17L3
set_option Elab.async false
set_option linter.all false
set_option maxRecDepth 100000
set_option maxHeartbeats 4000000
/-! law: the head, and the whole. -/
namespace K17
open PySem PySem.Spec PyProof.Rows L2 NdefX LamX
theorem take_none {r : Row} {k : Nat} (h : r.len ≤ k) : r.take k = r := by
  induction r generalizing k with
  | nil => cases k <;> rfl
  | cons w i r _ ih =>
    cases k with
    | zero => exact absurd h (by show ¬ (r.len + 1 ≤ 0); omega)
    | succ k =>
      show Row.cons w i (r.take k) = _
      rw [ih (by have : r.len + 1 ≤ k + 1 := h; omega)]
theorem rd_slK {K : PySem.W.Frag} {H : Hp} {Q : VK} {a : Addr} {r : Row} {k : Nat} (h : RowAt H r a) (q : ∀ a' H', Same H H' → RowAt H' (r.take k) a' → Q (.ref a') H') : rSlA K (.ref a) none (some (k : Int)) H Q := by
  by_cases hk : k ≤ r.len
  · exact rd_slT h hk q
  · obtain ⟨us, h1, h2⟩ := h
    have hl := h2.len
    have e : HT.sIx us.length us.length (some (k : Int)) = us.length := by rw [HT.sIx_nat]; omega
    refine ⟨a, us, rfl, SqT.of h1, fun z => q a H (fun _ _ e => e) ⟨us, h1, ?_⟩, fun z p hp => absurd ⟨?_, e⟩ z⟩
    · rw [take_none (by omega)]
      exact h2
    · exact HT.sIx_none _ _
theorem thin_size : ∀ {r : Row}, r.size ≤ 50 → r.thin
  | .nil, _ => trivial
  | .cons w i r, h => by
    have h : i.size + r.size + 1 ≤ 50 := h
    have := len_size i
    exact ⟨by omega, thin_size (by omega), thin_size (by omega)⟩
theorem Nm.toWd {x : Str} (h : Nm x) : Wd x := ⟨h.1, h.2.1, h.2.2.1⟩
theorem sqL_go {K : PySem.W.Frag} {H H' : Hp} {a : Addr} {xs : List V} (h : SqL K H a xs) (S : Same H H') : SqL K H' a xs := by
  rcases h with (h | ⟨o, h⟩) | h
  · exact .inl (.inl (S _ _ h))
  · exact .inl (.inr ⟨o, S _ _ h⟩)
  · exact .inr h
theorem cut_ints {ns : List Int} (lo hi : Option Int) (hl : ns.length ≤ 63) : ∃ ms : List Int, cutV (ns.map V.int) lo hi = ms.map V.int ∧ ms.length ≤ 100 := by
  unfold cutV
  rw [← List.map_drop, ← List.map_take]
  refine ⟨_, rfl, ?_⟩
  rw [List.length_take, List.length_drop]
  omega
section
variable {P : Program} {w : World} {K : PySem.W.Frag} {mg : Str → Option Value} {base : Heap}
theorem law_all (T : Tx K mg) {cc tb : Addr} (TB : TabB base mg cc tb) {A : Around} {outer : List Env} {st : Shared} {H0 : Hp} {E : XK} (hr : Room 229 (A.deeper (envOfC "law" (defScope sLaw) st.heap.objs.size (ca K "law") (.ref cc)))) {vs : List V} {H : Hp} {Q : VK} (h : spLaw K tb vs H Q E) :
    ∃ t, PSs (cxL P w K mg base (.ref cc) A outer st H0 E) (defBody sLaw) t ∧ t { nx := fun _ H' => Q .non H', rt := Q } (start nLaw vs) H := by
  have nd := scLaw.nd
  obtain ⟨a, ns, rfl, hS, hl63, htb, hQ2⟩ := h
  have GC : FO P w K mg base 229 (ca K "_law_cell_at") pCellAt (spCellAt K) := (ok_cell T).mono (by decide)
  have GN : FO P w K mg base 229 (ca K "_law_names") pNames spNames := (ok_names T).mono (by decide)
  have N : FO P w K mg base 229 (ca K "_law_next") pNext spNext := (ok_next T).mono (by decide)
  have GR : FO P w K mg base 229 (ca K "_law_rules") pRules spRules := (ok_rules T).mono (by decide)
  have GB : FO P w K mg base 229 (ca K "_law_row_by") pRowBy (spRowBy K) := (ok_rowby T).mono (by decide)
  have GO : FO P w K mg base 229 (ca K "_law_of_rule") pOfRule (spOR 2 4) := FnOk.mono (ofrule_all T 2) (by decide)
  obtain ⟨tt, htl, htq⟩ := law_mid (P := P) (w := w) T TB (outer := outer) (H0 := H0) (E := E) hr
  refine ⟨_, pss_cons (ps_set (i := 1) nd rfl (.inl rfl) (pe_lst (pa_cons (pe_call GC hr (by rfl) T.g_law_cell_at T.d_law_cell_at.kp (bd_law_cell_at T) .nil pass0 (pa_cons (pv 0) (pa_cons pe_int pa_nil))) (pa_cons pe_int pa_nil))))
    (pss_cons (ps_set (i := 2) nd rfl (.inl rfl) (pe_call GN hr (by rfl) T.g_law_names T.d_law_names.kp (bd_law_names T) .nil pass0 (pa_cons (pv 1) (pa_cons pe_int pa_nil))))
    (pss_cons (ps_set (i := 3) nd rfl (.inl rfl) (pe_call GR hr (by rfl) T.g_law_rules T.d_law_rules.kp (bd_law_rules T) .nil pass0 (pa_cons (pv 1) (pa_cons (pv 2) (pa_cons (pe_op op_add pe_int (pe_call N hr (by rfl) T.g_law_next T.d_law_next.kp (bd_law_next T) .nil pass0 (pa_cons (pv 1) (pa_cons pe_int pa_nil)))) pa_nil)))))
    (pss_cons (ps_set (i := 4) nd rfl (.inl rfl) (pe_call GB hr (by rfl) T.g_law_row_by T.d_law_row_by.kp (bd_law_row_by T) .nil pass0 (pa_cons (pe_slice sl_list (pv 0) (po_some pe_int) (po_some pe_int)) (pa_cons (pv 2) (pa_cons pe_int (pa_cons pe_int pa_nil))))))
    (pss_cons (ps_if (pt_cmpR op_gt (pe_call N hr (by rfl) T.g_law_next T.d_law_next.kp (bd_law_next T) .nil pass0 (pa_cons (pv 1) (pa_cons pe_int pa_nil))) pe_int (nomark _))
      (pss_one (ps_set (i := 4) nd rfl (.inl rfl) (pe_slice sl_tupA (pe_call GO hr (by rfl) T.g_law_of_rule T.d_law_of_rule.kp (bd_law_of_rule T) .nil pass0 (pa_cons (pv 1) (pa_cons (pv 3) (pa_cons (pv 2) (pa_cons (pe_ix ix_list (pv 3) (pe_call N hr (by rfl) T.g_law_next T.d_law_next.kp (bd_law_next T) .nil pass0 (pa_cons (pv 1) (pa_cons (pe_callB call_lenS (by rfl) T.b_len PySem.boot_len (pa_cons (pv 3) pa_nil)) pa_nil))) (fun _ _ => rfl)) (pa_cons pe_int pa_nil)))))) po_none (po_some pe_int)))) pss_nil)
    htl)))), ?_⟩
  refine ⟨_, rfl, a, ns, 0, rfl, hS, by decide, fun c c0 c1 => ⟨sl5 (by show 1 ≤ 100000; decide), fun d hd => ?_⟩⟩
  have S1 : Same H (upd H d (.lst [.int c, .int 0])) := same_new hd _
  have D1 : DrawAt (upd H d (.lst [.int c, .int 0])) d := ⟨c, 0, upd_same⟩
  refine ⟨_, rfl, d, 2, rfl, D1, by decide, fun wl ws H2 E2 D2 fwl hwl hwlen hwnd hwnm => ?_⟩
  have nwd : wl ≠ d := fun z => by
    rw [z, upd_same] at fwl
    cases fwl
  have hwd : ∀ x ∈ ws, Wd x := fun x hx => (hwnm x hx).toWd
  refine ⟨_, rfl, _, rfl, _, rfl, d, 4, rfl, D2, by decide, fun mn H3 m0 m1 E3 D3 _ => ?_⟩
  refine ⟨1, mn, rfl, rfl, ?_⟩
  refine ⟨d, wl, ws, (1 + mn).toNat, ?_, D3, Ext.lst E3 nwd hwl, by omega, by omega, nwd, by omega, by omega, fun rl xs rs H4 E4 D4 frl hrl hQ hLr => ?_⟩
  · show [V.ref d, V.ref wl, V.int (1 + mn)] = [V.ref d, V.ref wl, V.int ((1 + mn).toNat : Nat)]
    rw [show (((1 + mn).toNat : Nat) : Int) = 1 + mn by omega]
  have nrd : rl ≠ d := fun z => by
    obtain ⟨c', m', e⟩ := D3
    rw [z, e] at frl
    cases frl
  have E24 := E3.trans E4
  have hwl4 := Ext.lst E24 nwd hwl
  have E14 : Ext [d] (upd H d (.lst [.int c, .int 0])) H4 := E2.trans E24
  have S4 : Same H H4 := fun u o ho => E14 u o (S1 u o ho) fun z => ne_of_none ho hd (List.mem_singleton.mp z)
  obtain ⟨ms, ecut, hms⟩ := cut_ints (ns := ns) (some 1) (some 24) hl63
  refine ⟨_, rfl, 1, rfl, 24, rfl, a, _, rfl, sqL_go hS S4, fun sl hsl => ?_⟩
  have S5 : Same H4 (upd H4 sl (.lst (cutV (ns.map V.int) (some 1) (some 24)))) := same_new hsl _
  refine ⟨_, rfl, sl, wl, ms, ws, rfl, (by rw [upd_same, ecut]), hms, S5 _ _ hwl4, by omega, by omega, hwd, fun ra r H6 S6 hR wr rz rd => ?_⟩
  have S46 := S5.trans S6
  have D6 := D4.same S46
  have hrl6 := S46 _ _ hrl
  have hQ6 := hQ.imm (Same.imm S46)
  have hwl6 := S46 _ _ hwl4
  have htb6 := (S4.trans S46) _ _ htb
  have many4 : (1 + mn).toNat ≤ 4 := by omega
  have hnmn : ∀ x ∈ nms rs, Nm x := fun x hx => by
    obtain ⟨u, hu, rfl⟩ := List.mem_map.mp hx
    exact hLr.nm u hu
  refine ⟨_, rfl, d, 3, rfl, D6, by decide, fun b H7 b0 b1 E7 D7 _ => ?_⟩
  have hrl7 := Ext.lst E7 nrd hrl6
  have hwl7 := Ext.lst E7 nwd hwl6
  have hQ7 := hQ6.imm (Dr.imm D6 E7)
  have ndtb : tb ≠ d := ne_of_none htb hd
  have htb7 := Ext.lst E7 ndtb htb6
  refine ⟨b, 0, rfl, rfl, _, rfl, ?_⟩
  by_cases hb : (0 : Int) < b
  · rw [decide_eq_true hb]
    refine iteT ?_
    refine ⟨_, rfl, _, rfl, _, rfl, _, rfl, _, rfl, _, rfl, rl, xs, rfl, .inl (SqL.of hrl7), d, _, rfl, D7, ?_, fun j H8 j0 j1 E8 D8 _ => ?_⟩
    · rw [hQ7.len, hLr.len]
      omega
    rw [hQ7.len] at j1
    have hj : j.toNat < rs.length := by omega
    have hQ8 := hQ7.imm (Dr.imm D7 E8)
    obtain ⟨v, hv, hq⟩ := paired_getR hQ8 (List.getElem?_eq_getElem hj)
    have ej : ((j.toNat : Nat) : Int) = j := by omega
    have hat : atI xs j = some v := by
      rw [← ej]
      exact atI_nat hv
    have hrl8 := Ext.lst E8 nrd hrl7
    have hwl8 := Ext.lst E8 nwd hwl7
    refine ⟨rl, xs, j, v, rfl, rfl, SqL.of hrl8, hat, ?_⟩
    refine ⟨d, rl, wl, v, xs, ws, rs, rs[j.toNat], j.toNat, rfl, ⟨D8, hrl8, hQ8, hwl8, nrd, nwd, hLr.ok, hLr.shp, by omega, by omega, hwd, by rw [hLr.len]; omega⟩, hq, List.getElem?_eq_getElem hj, by rw [hLr.len] at hj; omega, fun a2 r2 H9 E9 D9 hR9 hw9 => ?_⟩
    refine ⟨8, rfl, rd_slK (k := 8) hR9 fun a3 H10 S10 hR10 => ?_⟩
    have E79 := E8.trans E9
    have g2 : Gr r2 := by
      have z1 := hw9.sz
      have z2 := hw9.dep
      have z3 := hw9.len
      have z4 : zz 2 = 90 := rfl
      rw [z4] at z1
      exact ⟨⟨hw9.w, by omega, by omega⟩, ⟨by omega, hw9.thin⟩⟩
    refine htq a3 rl wl xs ws rs (1 + mn).toNat (r2.take 8) _ _ H10 Q (S10 _ _ (Ext.lst E79 nrd hrl7)) ((hQ7.imm (Dr.imm D7 E79)).imm (Same.imm S10)) hLr many4 (S10 _ _ (Ext.lst E79 nwd hwl7)) hwlen hwnm hR10 (g2.take 8) (Nat.le_trans (take_len_le 8 r2) hw9.len) (S10 _ _ (Ext.lst E79 ndtb htb7)) hQ2
  · rw [decide_eq_false hb]
    refine iteF ?_
    have rl8 := len_size r
    exact htq ra rl wl xs ws rs (1 + mn).toNat r _ _ H7 Q hrl7 hQ7 hLr many4 hwl7 hwlen hwnm (hR.imm (Dr.imm D6 E7)) ⟨⟨wr, by omega, by omega⟩, ⟨by omega, thin_size (by omega)⟩⟩ (by omega) htb7 hQ2
end
theorem law_goal : LawGoal := by
  intro w K h mg fa KX G c hmg
  have T : Tx K mg := tx_of KX G c
  have efa : fa = ca K "law" := by
    have e := T.g_law
    rw [hmg] at e
    cases e
    rfl
  subst efa
  refine ⟨fdOf K (ca K "law"), fun s v => ?_, fun base hK hG TB => ?_⟩
  · exact T.d_law.bindsA (ps := pLaw) (fun _ _ _ _ _ _ us hl => match us, hl with | [_], _ => rfl) s [v] rfl
  · obtain ⟨oc, od, dV, kV, doc, pm, an, cdv, ct, osl, e, lk, hcd, hd, hk⟩ := T.d_law.ex
    obtain ⟨cc, rfl⟩ := He.codeIn_ref hcd
    have ec : (He.cT K ("law", none)).1 = cc := He.codeOf_eq lk (by rw [e])
    rw [ec] at TB
    rw [e] at lk ⊢
    refine fn_of lk hcd scLaw (fun vs H Q E h => ?_) fun A outer s H vs Q E hr hsp => ?_
    · obtain ⟨a, ns, rfl, _⟩ := h
      rfl
    · obtain ⟨t, h1, h2⟩ := law_all (P := Rw.prog) (w := w) (outer := outer) (H0 := H) (E := E) T TB hr hsp
      exact ⟨t, h1.nox, h2⟩
end K17
end PartK17L3
theorem PySem.Challenge.cw_formwood_k17_whole_by_parting_holds : PySem.Challenge.rw_formwood_k17_whole_by_parting.Holds := by
  exact K17.holds_of K17.law_goal
