import PyProof.Rows.All
import Wide.All
import OpenK.AllK
import Wide.FinOn
import PySem.Challenge.RW_offerhouse_k36_whole_cost_and_form
import KE.KStateDown
import HandS.ForExc
import HandS.More
import HandS.Head0
import HandS.Head1
import HandS.Head2
import HandS.HeadEnd
import HandS.HeadHook1
import HandS.HeadHook2
import HandS.ForMost
import HandS.Exc
import HandS.TryOnly
import HandS.ExcOwn
import HandS.WordsExc
import HandS.Wide
import HandS.Rev
import HandS.SortInts
import HandS.IsInst
import HandS.Defaults
import HandS.TupAny
import HandS.Comp
import KE.GoesComp
import KE.GoesRaise
import KE.KDictZip
import KE.GoesMore
import KE.KItemsList
import PyProof.ZipIter
import HandS.Iter
import HandS.ListItems
import HandS.Set
import HandS.SetFor
import PyProof.Rows.SortShellAny
import HandS.Strs
import HandS.Call
import PyProof.ListNew
set_option Elab.async false
set_option linter.all false
set_option maxRecDepth 100000
set_option maxHeartbeats 0
namespace K36H
open PySem PySem.Spec PyProof.Rows L2
def top (i : Nat) : Stmt := PySem.Challenge.pw_offerhouse_k36_whole_cost_and_form.main.body.getD i (.Pass ⟨0, 0, 0, 0⟩)
abbrev sDown : Stmt := top 6
abbrev sUp : Stmt := top 7
abbrev sLineAt : Stmt := top 8
abbrev sNoDearer : Stmt := top 9
abbrev sLowerLine : Stmt := top 10
abbrev sDrawnOn : Stmt := top 12
abbrev sJoins : Stmt := top 13
abbrev sBegun : Stmt := top 14
abbrev sLaid : Stmt := top 15
abbrev sCostAt : Stmt := top 16
abbrev sClipped : Stmt := top 18
abbrev sPlus : Stmt := top 19
abbrev sRaised : Stmt := top 20
abbrev sWithin : Stmt := top 21
abbrev sWithout : Stmt := top 22
abbrev sFreed : Stmt := top 23
abbrev sLinesOver : Stmt := top 25
abbrev sSideBySide : Stmt := top 26
abbrev sLeast : Stmt := top 27
abbrev sGreatest : Stmt := top 28
abbrev sAtLeast : Stmt := top 29
abbrev sLawAt : Stmt := top 49
abbrev sLawMix : Stmt := top 50
abbrev sLawPrice : Stmt := top 51
abbrev sLawRows : Stmt := top 52
abbrev sLawLeaf : Stmt := top 53
abbrev sLawForm : Stmt := top 54
abbrev sLawForms : Stmt := top 55
abbrev sLawFolded : Stmt := top 56
abbrev sLawTurned : Stmt := top 57
abbrev sLawTree : Stmt := top 58
abbrev sLawRule : Stmt := top 59
abbrev sLawEnds : Stmt := top 60
abbrev sLawAmounts : Stmt := top 61
abbrev sLawSame : Stmt := top 62
abbrev sLawIsForm : Stmt := top 63
abbrev sLawApart : Stmt := top 64
abbrev sLawCostIn : Stmt := top 65
abbrev sLawFormOrNone : Stmt := top 66
abbrev sLawHasRoomy : Stmt := top 67
abbrev sLawAgree : Stmt := top 68
abbrev sLaw : Stmt := top 69
abbrev sRule_inner : Stmt := inClass (top 32) 0
abbrev sRule_ownnames : Stmt := inClass (top 32) 1
abbrev sRule_names : Stmt := inClass (top 32) 2
abbrev sRule_lookat : Stmt := inClass (top 32) 3
abbrev sEach_priced : Stmt := inClass (top 33) 1
abbrev sEach_drawn : Stmt := inClass (top 33) 2
abbrev sRule_made : Stmt := inClass (top 32) 6
abbrev sRule_cost : Stmt := inClass (top 32) 7
abbrev sRule_form : Stmt := inClass (top 32) 8
abbrev sEach_init : Stmt := inClass (top 33) 0
abbrev sFlat_priced : Stmt := inClass (top 34) 1
abbrev sFlat_drawn : Stmt := inClass (top 34) 2
abbrev sFlat_init : Stmt := inClass (top 34) 0
abbrev sBands_priced : Stmt := inClass (top 35) 1
abbrev sBands_drawn : Stmt := inClass (top 35) 2
abbrev sBands_init : Stmt := inClass (top 35) 0
abbrev sSteps_priced : Stmt := inClass (top 36) 1
abbrev sSteps_drawn : Stmt := inClass (top 36) 2
abbrev sSteps_init : Stmt := inClass (top 36) 0
abbrev sBlocks_priced : Stmt := inClass (top 37) 1
abbrev sBlocks_drawn : Stmt := inClass (top 37) 2
abbrev sBlocks_init : Stmt := inClass (top 37) 0
abbrev sNamed_ownnames : Stmt := inClass (top 38) 1
abbrev sNamed_priced : Stmt := inClass (top 38) 2
abbrev sNamed_drawn : Stmt := inClass (top 38) 3
abbrev sNamed_init : Stmt := inClass (top 38) 0
abbrev sPair_inner : Stmt := inClass (top 39) 1
abbrev sSum_priced : Stmt := inClass (top 40) 1
abbrev sSum_drawn : Stmt := inClass (top 40) 2
abbrev sPair_init : Stmt := inClass (top 39) 0
abbrev sCheaper_priced : Stmt := inClass (top 41) 1
abbrev sCheaper_drawn : Stmt := inClass (top 41) 2
abbrev sDearer_priced : Stmt := inClass (top 42) 1
abbrev sDearer_drawn : Stmt := inClass (top 42) 2
abbrev sTurned_inner : Stmt := inClass (top 43) 0
abbrev sOnly_priced : Stmt := inClass (top 44) 2
abbrev sOnly_drawn : Stmt := inClass (top 44) 3
abbrev sOnly_init : Stmt := inClass (top 44) 0
abbrev sAfter_priced : Stmt := inClass (top 45) 2
abbrev sAfter_drawn : Stmt := inClass (top 45) 3
abbrev sAfter_init : Stmt := inClass (top 45) 0
abbrev sRoomy_priced : Stmt := inClass (top 46) 2
abbrev sRoomy_drawn : Stmt := inClass (top 46) 3
abbrev sRoomy_init : Stmt := inClass (top 46) 0
abbrev sFee_priced : Stmt := inClass (top 47) 2
abbrev sFee_drawn : Stmt := inClass (top 47) 3
abbrev sFee_init : Stmt := inClass (top 47) 0
def dF (x : PySem.Str) (st : Stmt) : He.DefD := ⟨(x, none), x, x, defArgs st, defBody st, defScope st, [], []⟩
def dM (c m q : PySem.Str) (st : Stmt) : He.DefD := ⟨(c, some m), m, q, defArgs st, defBody st, defScope st, [], []⟩
def fnF : List He.DefD := [dF "down" sDown, dF "up" sUp, dF "line_at" sLineAt, dF "no_dearer" sNoDearer, dF "lower_line" sLowerLine, dF "drawn_on" sDrawnOn, dF "joins" sJoins, dF "begun" sBegun, dF "laid" sLaid, dF "cost_at" sCostAt, dF "clipped" sClipped, dF "plus" sPlus, dF "raised" sRaised, dF "within" sWithin, dF "without" sWithout, dF "freed" sFreed, dF "lines_over" sLinesOver, dF "side_by_side" sSideBySide, dF "least" sLeast, dF "greatest" sGreatest, dF "at_least" sAtLeast, dF "_law_at" sLawAt, dF "_law_mix" sLawMix, dF "_law_price" sLawPrice, dF "_law_rows" sLawRows, dF "_law_leaf" sLawLeaf, dF "_law_form" sLawForm, dF "_law_forms" sLawForms, dF "_law_folded" sLawFolded, dF "_law_turned" sLawTurned, dF "_law_tree" sLawTree, dF "_law_rule" sLawRule, dF "_law_ends" sLawEnds, dF "_law_amounts" sLawAmounts, dF "_law_same" sLawSame, dF "_law_is_form" sLawIsForm, dF "_law_apart" sLawApart, dF "_law_cost_in" sLawCostIn, dF "_law_form_or_none" sLawFormOrNone, dF "_law_has_roomy" sLawHasRoomy, dF "_law_agree" sLawAgree, dF "law" sLaw]
def fnEach : List He.DefD := [dM "Each" "inner" "Rule.inner" sRule_inner, dM "Each" "own_names" "Rule.own_names" sRule_ownnames, dM "Each" "names" "Rule.names" sRule_names, dM "Each" "look_at" "Rule.look_at" sRule_lookat, dM "Each" "priced" "Each.priced" sEach_priced, dM "Each" "drawn" "Each.drawn" sEach_drawn, dM "Each" "made" "Rule.made" sRule_made, dM "Each" "cost" "Rule.cost" sRule_cost, dM "Each" "form" "Rule.form" sRule_form, dM "Each" "__init__" "Each.__init__" sEach_init]
def fnFlat : List He.DefD := [dM "Flat" "inner" "Rule.inner" sRule_inner, dM "Flat" "own_names" "Rule.own_names" sRule_ownnames, dM "Flat" "names" "Rule.names" sRule_names, dM "Flat" "look_at" "Rule.look_at" sRule_lookat, dM "Flat" "priced" "Flat.priced" sFlat_priced, dM "Flat" "drawn" "Flat.drawn" sFlat_drawn, dM "Flat" "made" "Rule.made" sRule_made, dM "Flat" "cost" "Rule.cost" sRule_cost, dM "Flat" "form" "Rule.form" sRule_form, dM "Flat" "__init__" "Flat.__init__" sFlat_init]
def fnBands : List He.DefD := [dM "Bands" "inner" "Rule.inner" sRule_inner, dM "Bands" "own_names" "Rule.own_names" sRule_ownnames, dM "Bands" "names" "Rule.names" sRule_names, dM "Bands" "look_at" "Rule.look_at" sRule_lookat, dM "Bands" "priced" "Bands.priced" sBands_priced, dM "Bands" "drawn" "Bands.drawn" sBands_drawn, dM "Bands" "made" "Rule.made" sRule_made, dM "Bands" "cost" "Rule.cost" sRule_cost, dM "Bands" "form" "Rule.form" sRule_form, dM "Bands" "__init__" "Bands.__init__" sBands_init]
def fnSteps : List He.DefD := [dM "Steps" "inner" "Rule.inner" sRule_inner, dM "Steps" "own_names" "Rule.own_names" sRule_ownnames, dM "Steps" "names" "Rule.names" sRule_names, dM "Steps" "look_at" "Rule.look_at" sRule_lookat, dM "Steps" "priced" "Steps.priced" sSteps_priced, dM "Steps" "drawn" "Steps.drawn" sSteps_drawn, dM "Steps" "made" "Rule.made" sRule_made, dM "Steps" "cost" "Rule.cost" sRule_cost, dM "Steps" "form" "Rule.form" sRule_form, dM "Steps" "__init__" "Steps.__init__" sSteps_init]
def fnBlocks : List He.DefD := [dM "Blocks" "inner" "Rule.inner" sRule_inner, dM "Blocks" "own_names" "Rule.own_names" sRule_ownnames, dM "Blocks" "names" "Rule.names" sRule_names, dM "Blocks" "look_at" "Rule.look_at" sRule_lookat, dM "Blocks" "priced" "Blocks.priced" sBlocks_priced, dM "Blocks" "drawn" "Blocks.drawn" sBlocks_drawn, dM "Blocks" "made" "Rule.made" sRule_made, dM "Blocks" "cost" "Rule.cost" sRule_cost, dM "Blocks" "form" "Rule.form" sRule_form, dM "Blocks" "__init__" "Blocks.__init__" sBlocks_init]
def fnNamed : List He.DefD := [dM "Named" "inner" "Rule.inner" sRule_inner, dM "Named" "own_names" "Named.own_names" sNamed_ownnames, dM "Named" "names" "Rule.names" sRule_names, dM "Named" "look_at" "Rule.look_at" sRule_lookat, dM "Named" "priced" "Named.priced" sNamed_priced, dM "Named" "drawn" "Named.drawn" sNamed_drawn, dM "Named" "made" "Rule.made" sRule_made, dM "Named" "cost" "Rule.cost" sRule_cost, dM "Named" "form" "Rule.form" sRule_form, dM "Named" "__init__" "Named.__init__" sNamed_init]
def fnSum : List He.DefD := [dM "Sum" "inner" "Pair.inner" sPair_inner, dM "Sum" "own_names" "Rule.own_names" sRule_ownnames, dM "Sum" "names" "Rule.names" sRule_names, dM "Sum" "look_at" "Rule.look_at" sRule_lookat, dM "Sum" "priced" "Sum.priced" sSum_priced, dM "Sum" "drawn" "Sum.drawn" sSum_drawn, dM "Sum" "made" "Rule.made" sRule_made, dM "Sum" "cost" "Rule.cost" sRule_cost, dM "Sum" "form" "Rule.form" sRule_form, dM "Sum" "__init__" "Pair.__init__" sPair_init]
def fnCheaper : List He.DefD := [dM "Cheaper" "inner" "Pair.inner" sPair_inner, dM "Cheaper" "own_names" "Rule.own_names" sRule_ownnames, dM "Cheaper" "names" "Rule.names" sRule_names, dM "Cheaper" "look_at" "Rule.look_at" sRule_lookat, dM "Cheaper" "priced" "Cheaper.priced" sCheaper_priced, dM "Cheaper" "drawn" "Cheaper.drawn" sCheaper_drawn, dM "Cheaper" "made" "Rule.made" sRule_made, dM "Cheaper" "cost" "Rule.cost" sRule_cost, dM "Cheaper" "form" "Rule.form" sRule_form, dM "Cheaper" "__init__" "Pair.__init__" sPair_init]
def fnDearer : List He.DefD := [dM "Dearer" "inner" "Pair.inner" sPair_inner, dM "Dearer" "own_names" "Rule.own_names" sRule_ownnames, dM "Dearer" "names" "Rule.names" sRule_names, dM "Dearer" "look_at" "Rule.look_at" sRule_lookat, dM "Dearer" "priced" "Dearer.priced" sDearer_priced, dM "Dearer" "drawn" "Dearer.drawn" sDearer_drawn, dM "Dearer" "made" "Rule.made" sRule_made, dM "Dearer" "cost" "Rule.cost" sRule_cost, dM "Dearer" "form" "Rule.form" sRule_form, dM "Dearer" "__init__" "Pair.__init__" sPair_init]
def fnOnly : List He.DefD := [dM "Only" "inner" "Turned.inner" sTurned_inner, dM "Only" "own_names" "Rule.own_names" sRule_ownnames, dM "Only" "names" "Rule.names" sRule_names, dM "Only" "look_at" "Rule.look_at" sRule_lookat, dM "Only" "priced" "Only.priced" sOnly_priced, dM "Only" "drawn" "Only.drawn" sOnly_drawn, dM "Only" "made" "Rule.made" sRule_made, dM "Only" "cost" "Rule.cost" sRule_cost, dM "Only" "form" "Rule.form" sRule_form, dM "Only" "__init__" "Only.__init__" sOnly_init]
def fnAfter : List He.DefD := [dM "After" "inner" "Turned.inner" sTurned_inner, dM "After" "own_names" "Rule.own_names" sRule_ownnames, dM "After" "names" "Rule.names" sRule_names, dM "After" "look_at" "Rule.look_at" sRule_lookat, dM "After" "priced" "After.priced" sAfter_priced, dM "After" "drawn" "After.drawn" sAfter_drawn, dM "After" "made" "Rule.made" sRule_made, dM "After" "cost" "Rule.cost" sRule_cost, dM "After" "form" "Rule.form" sRule_form, dM "After" "__init__" "After.__init__" sAfter_init]
def fnRoomy : List He.DefD := [dM "Roomy" "inner" "Turned.inner" sTurned_inner, dM "Roomy" "own_names" "Rule.own_names" sRule_ownnames, dM "Roomy" "names" "Rule.names" sRule_names, dM "Roomy" "look_at" "Rule.look_at" sRule_lookat, dM "Roomy" "priced" "Roomy.priced" sRoomy_priced, dM "Roomy" "drawn" "Roomy.drawn" sRoomy_drawn, dM "Roomy" "made" "Rule.made" sRule_made, dM "Roomy" "cost" "Rule.cost" sRule_cost, dM "Roomy" "form" "Rule.form" sRule_form, dM "Roomy" "__init__" "Roomy.__init__" sRoomy_init]
def fnFee : List He.DefD := [dM "Fee" "inner" "Turned.inner" sTurned_inner, dM "Fee" "own_names" "Rule.own_names" sRule_ownnames, dM "Fee" "names" "Rule.names" sRule_names, dM "Fee" "look_at" "Rule.look_at" sRule_lookat, dM "Fee" "priced" "Fee.priced" sFee_priced, dM "Fee" "drawn" "Fee.drawn" sFee_drawn, dM "Fee" "made" "Rule.made" sRule_made, dM "Fee" "cost" "Rule.cost" sRule_cost, dM "Fee" "form" "Rule.form" sRule_form, dM "Fee" "__init__" "Fee.__init__" sFee_init]
def fns : List He.DefD := fnF ++ (fnEach ++ (fnFlat ++ (fnBands ++ (fnSteps ++ (fnBlocks ++ (fnNamed ++ (fnSum ++ (fnCheaper ++ (fnDearer ++ (fnOnly ++ (fnAfter ++ (fnRoomy ++ (fnFee)))))))))))))
def faG : List He.Fa := [.glo "down", .glo "up", .glo "line_at", .glo "no_dearer", .glo "lower_line", .glo "drawn_on", .glo "joins", .glo "begun", .glo "laid", .glo "cost_at", .glo "clipped", .glo "plus", .glo "raised", .glo "within", .glo "without", .glo "freed", .glo "lines_over", .glo "side_by_side", .glo "least", .glo "greatest", .glo "at_least", .glo "_law_at", .glo "_law_mix", .glo "_law_price", .glo "_law_rows", .glo "_law_leaf", .glo "_law_form", .glo "_law_forms", .glo "_law_folded", .glo "_law_turned", .glo "_law_tree", .glo "_law_rule", .glo "_law_ends", .glo "_law_amounts", .glo "_law_same", .glo "_law_is_form", .glo "_law_apart", .glo "_law_cost_in", .glo "_law_form_or_none", .glo "_law_has_roomy", .glo "_law_agree", .glo "law", .glo "Each", .glo "Flat", .glo "Bands", .glo "Steps", .glo "Blocks", .glo "Named", .glo "Sum", .glo "Cheaper", .glo "Dearer", .glo "Only", .glo "After", .glo "Roomy", .glo "Fee", .glo "Rule", .glo "TooMany"]
def faB : List He.Fa := [.free "len", .free "min", .free "max", .free "list", .free "tuple", .free "set", .free "sorted", .free "range", .free "reversed", .free "zip", .free "isinstance", .free "int", .free "bool", .int "MOST_STRETCHES" 60, .exc "TooMany", .exm "TooMany" "TooMany" true]
def faEach : List He.Fa := [.cls "Each", .mkr "Each", .meth "Each" "inner", .meth "Each" "own_names", .meth "Each" "names", .meth "Each" "look_at", .meth "Each" "priced", .meth "Each" "drawn", .meth "Each" "made", .meth "Each" "cost", .meth "Each" "form", .noat "Each" "unit", .noat "Each" "low", .noat "Each" "high"]
def faFlat : List He.Fa := [.cls "Flat", .mkr "Flat", .meth "Flat" "inner", .meth "Flat" "own_names", .meth "Flat" "names", .meth "Flat" "look_at", .meth "Flat" "priced", .meth "Flat" "drawn", .meth "Flat" "made", .meth "Flat" "cost", .meth "Flat" "form", .noat "Flat" "price", .noat "Flat" "low", .noat "Flat" "high"]
def faBands : List He.Fa := [.cls "Bands", .mkr "Bands", .meth "Bands" "inner", .meth "Bands" "own_names", .meth "Bands" "names", .meth "Bands" "look_at", .meth "Bands" "priced", .meth "Bands" "drawn", .meth "Bands" "made", .meth "Bands" "cost", .meth "Bands" "form", .noat "Bands" "rows"]
def faSteps : List He.Fa := [.cls "Steps", .mkr "Steps", .meth "Steps" "inner", .meth "Steps" "own_names", .meth "Steps" "names", .meth "Steps" "look_at", .meth "Steps" "priced", .meth "Steps" "drawn", .meth "Steps" "made", .meth "Steps" "cost", .meth "Steps" "form", .noat "Steps" "rows"]
def faBlocks : List He.Fa := [.cls "Blocks", .mkr "Blocks", .meth "Blocks" "inner", .meth "Blocks" "own_names", .meth "Blocks" "names", .meth "Blocks" "look_at", .meth "Blocks" "priced", .meth "Blocks" "drawn", .meth "Blocks" "made", .meth "Blocks" "cost", .meth "Blocks" "form", .noat "Blocks" "size", .noat "Blocks" "price", .noat "Blocks" "many"]
def faNamed : List He.Fa := [.cls "Named", .mkr "Named", .meth "Named" "inner", .meth "Named" "own_names", .meth "Named" "names", .meth "Named" "look_at", .meth "Named" "priced", .meth "Named" "drawn", .meth "Named" "made", .meth "Named" "cost", .meth "Named" "form", .noat "Named" "name"]
def faSum : List He.Fa := [.cls "Sum", .mkr "Sum", .meth "Sum" "inner", .meth "Sum" "own_names", .meth "Sum" "names", .meth "Sum" "look_at", .meth "Sum" "priced", .meth "Sum" "drawn", .meth "Sum" "made", .meth "Sum" "cost", .meth "Sum" "form", .noat "Sum" "one", .noat "Sum" "other"]
def faCheaper : List He.Fa := [.cls "Cheaper", .mkr "Cheaper", .meth "Cheaper" "inner", .meth "Cheaper" "own_names", .meth "Cheaper" "names", .meth "Cheaper" "look_at", .meth "Cheaper" "priced", .meth "Cheaper" "drawn", .meth "Cheaper" "made", .meth "Cheaper" "cost", .meth "Cheaper" "form", .noat "Cheaper" "one", .noat "Cheaper" "other"]
def faDearer : List He.Fa := [.cls "Dearer", .mkr "Dearer", .meth "Dearer" "inner", .meth "Dearer" "own_names", .meth "Dearer" "names", .meth "Dearer" "look_at", .meth "Dearer" "priced", .meth "Dearer" "drawn", .meth "Dearer" "made", .meth "Dearer" "cost", .meth "Dearer" "form", .noat "Dearer" "one", .noat "Dearer" "other"]
def faOnly : List He.Fa := [.cls "Only", .mkr "Only", .meth "Only" "inner", .meth "Only" "own_names", .meth "Only" "names", .meth "Only" "look_at", .meth "Only" "priced", .meth "Only" "drawn", .meth "Only" "made", .meth "Only" "cost", .meth "Only" "form", .noat "Only" "one", .noat "Only" "low", .noat "Only" "high"]
def faAfter : List He.Fa := [.cls "After", .mkr "After", .meth "After" "inner", .meth "After" "own_names", .meth "After" "names", .meth "After" "look_at", .meth "After" "priced", .meth "After" "drawn", .meth "After" "made", .meth "After" "cost", .meth "After" "form", .noat "After" "one", .noat "After" "count"]
def faRoomy : List He.Fa := [.cls "Roomy", .mkr "Roomy", .meth "Roomy" "inner", .meth "Roomy" "own_names", .meth "Roomy" "names", .meth "Roomy" "look_at", .meth "Roomy" "priced", .meth "Roomy" "drawn", .meth "Roomy" "made", .meth "Roomy" "cost", .meth "Roomy" "form", .noat "Roomy" "one"]
def faFee : List He.Fa := [.cls "Fee", .mkr "Fee", .meth "Fee" "inner", .meth "Fee" "own_names", .meth "Fee" "names", .meth "Fee" "look_at", .meth "Fee" "priced", .meth "Fee" "drawn", .meth "Fee" "made", .meth "Fee" "cost", .meth "Fee" "form", .noat "Fee" "one", .noat "Fee" "price"]
def fas : List He.Fa := faG ++ (faB ++ (faEach ++ (faFlat ++ (faBands ++ (faSteps ++ (faBlocks ++ (faNamed ++ (faSum ++ (faCheaper ++ (faDearer ++ (faOnly ++ (faAfter ++ (faRoomy ++ (faFee))))))))))))))
def isRow (K : PySem.W.Frag) (c : PySem.Str) : Bool := He.eqO (PySem.W.findIn K (.ref (He.ga K c)) "__class__") (some (some (.builtin "object.__class__"))) && (decide (PySem.W.mroIn K (He.ga K c) (.type "object") = some true) && decide (PySem.W.kitOne K (.ref (He.ga K c)) (.ref (He.ga K "Rule")) = some true))
def ruleNames : List PySem.Str := ["Each", "Flat", "Bands", "Steps", "Blocks", "Named", "Sum", "Cheaper", "Dearer", "Only", "After", "Roomy", "Fee"]
def isB (K : PySem.W.Frag) : Bool := He.eqO (PySem.W.specialIn K (.builtin "object.__class__") "__get__") (some (some (.builtin "getset_descriptor.__get__"))) && (decide (PySem.W.takesIn K (.builtin "object.__class__") = some true) && ruleNames.all (isRow K))
/-! ### a Hook of our own: the objects by which the facts go, taken once -/
def nextR (o : Obj) : List Addr := match o.data with
  | .func fd => He.refV fd.code
  | .cls cd => [cd.ns]
  | .dict es _ => es.toList.flatMap fun e => He.refV e.val
  | _ => []
def stepR (g : Addr → Option Obj) (as : List Addr) : List Addr := as.flatMap fun a => match g a with
  | some o => nextR o
  | none => []
def frL {α : Type} : PySem.W.Frag → (PySem.W.Frag → α) → α
  | [], k => k []
  | (a, o) :: r, k => HandSHeadRun.frNat a fun a => frL r fun r => k ((a, o) :: r)
theorem frL_eq {α : Type} : ∀ (K : PySem.W.Frag) (k : PySem.W.Frag → α), frL K k = k K
  | [], _ => rfl
  | (a, o) :: r, k => by
    show HandSHeadRun.frNat a (fun a => frL r fun r => k ((a, o) :: r)) = k ((a, o) :: r)
    rw [HandSHeadRun.frNat_eq, frL_eq r]
def asR (g : Addr → Option Obj) : List Addr :=
  let a1 := stepR g [mainGlobals]
  let a2 := stepR g a1
  let a3 := stepR g a2
  [mainGlobals] ++ (a1 ++ (a2 ++ (a3 ++ stepR g a3)))

def obsI (K : PySem.W.Frag) : He.AlD × Bool := (He.obsD fas fns K, isB K)
def obsRG (g : Addr → Option Obj) : He.AlD × Bool := frL (He.frG g (asR g)) fun K => obsI K
def hookR : PySem.W.Hook where
  α := He.AlD × Bool
  obs := fun s => obsRG s.heap.get?
  val := fun _ => (He.valD fns, true)
  says := fun _ h => ∃ K : PySem.W.Frag, K.In h ∧ He.SaysD fas fns K ∧ isB K = true
  of := fun _ _ e => by
    unfold obsRG at e
    rw [frL_eq] at e
    exact ⟨_, He.frG_in, congrArg Prod.fst e, congrArg Prod.snd e⟩
  keeps := fun _ _ _ ⟨K, hK, c⟩ k => ⟨K, PySem.W.Frag.In.keeps hK k, c⟩
theorem obsRG_eq {g : Addr → Option Obj} {s : Shared} (h : ∀ a, g a = s.heap.get? a) : obsRG g = hookR.obs s := by
  have e : g = s.heap.get? := funext h
  rw [e] <;> rfl
abbrev Rw : PySem.W.OpenRow := PySem.W.OpenLaw.row PySem.Challenge.rw_offerhouse_k36_whole_cost_and_form
def ob (s : PySem.W.SharedT) : He.AlD × Bool := obsRG (HandSHeadRun.getT s)
theorem ob_eq (s : PySem.W.SharedT) : ob s = hookR.obs s.abs := obsRG_eq (HandSHeadRun.getT_eq s)
def names0 : List PySem.Str := ["_wall", "down", "up", "line_at", "no_dearer", "lower_line", "drawn_on", "joins", "begun", "laid", "cost_at", "clipped", "plus", "raised", "within"]
def names1 : List PySem.Str := ["without", "freed", "lines_over", "side_by_side", "least", "greatest", "at_least", "_law_at", "_law_mix", "_law_price", "_law_rows", "_law_leaf", "_law_form", "_law_forms", "_law_folded"]
def names2 : List PySem.Str := ["_law_turned", "_law_tree", "_law_rule", "_law_ends", "_law_amounts", "_law_same", "_law_is_form", "_law_apart", "_law_cost_in", "_law_form_or_none", "_law_has_roomy", "_law_agree", "OfferError", "TooMany", "NoOffer"]
def names3 : List PySem.Str := ["Rule", "Each", "Flat", "Bands", "Steps", "Blocks", "Named", "Pair", "Sum", "Cheaper", "Dearer", "Turned", "Only", "After", "Roomy"]
def names4 : List PySem.Str := ["Fee", "MOST_STRETCHES"]
def names : List PySem.Str := names0 ++ names1 ++ names2 ++ names3 ++ names4
theorem run (w : World) : HandSHeadRun.RunEq Rw (PySem.W.view Rw.prog [69]) hookR ob 9000 names w := by
  intro os
  kernel_rfl
end K36H
set_option Elab.async false
set_option linter.all false
namespace K36

/-! ## stretches -/
structure Row where
  lo : Int
  hi : Int
  pr : Int
  st : Int
  deriving DecidableEq

def Row.at_ (r : Row) (x : Int) : Int := r.pr + r.st * (x - r.lo)

def cost : List Row → Int → Option Int
  | [], _ => none
  | r :: rs, x => if r.lo ≤ x ∧ x ≤ r.hi then some (r.at_ x) else cost rs x

theorem cost_append (a b : List Row) (x : Int) : cost (a ++ b) x = (cost a x).or (cost b x) := by
  induction a with
  | nil => simp [cost]
  | cons r a ih =>
    simp only [List.cons_append, cost]
    split
    · simp
    · exact ih

theorem cost_none (l : List Row) (x : Int) (h : ∀ r ∈ l, x < r.lo ∨ r.hi < x) : cost l x = none := by
  induction l with
  | nil => rfl
  | cons r l ih =>
    simp only [cost]
    have h1 := h r (by simp)
    rw [if_neg (by omega)]
    exact ih fun q hq => h q (by simp [hq])

theorem cost_mem {l : List Row} {x c : Int} (h : cost l x = some c) : ∃ r ∈ l, r.lo ≤ x ∧ x ≤ r.hi ∧ c = r.at_ x := by
  induction l with
  | nil => simp [cost] at h
  | cons r l ih =>
    simp only [cost] at h
    split at h
    · rename_i hh
      exact ⟨r, by simp, hh.1, hh.2, by simpa using h.symm⟩
    · obtain ⟨q, hq, e⟩ := ih h
      exact ⟨q, by simp [hq], e⟩

/-- ascending stretches -/
def Asc : List Row → Prop
  | [] => True
  | r :: rs => r.lo ≤ r.hi ∧ (∀ q ∈ rs, r.hi < q.lo) ∧ Asc rs

theorem Asc.le {l : List Row} (h : Asc l) : ∀ r ∈ l, r.lo ≤ r.hi := by
  induction l with
  | nil => simp
  | cons a l ih =>
    intro r hr
    rcases List.mem_cons.mp hr with rfl | hr
    · exact h.1
    · exact ih h.2.2 r hr

theorem Asc.append {a b : List Row} (ha : Asc a) (hb : Asc b) (h : ∀ r ∈ a, ∀ q ∈ b, r.hi < q.lo) : Asc (a ++ b) := by
  induction a with
  | nil => exact hb
  | cons r a ih =>
    refine ⟨ha.1, ?_, ih ha.2.2 fun x hx q hq => h x (by simp [hx]) q hq⟩
    intro q hq
    rcases List.mem_append.mp hq with hq | hq
    · exact ha.2.1 q hq
    · exact h r (by simp) q hq

theorem Asc.left {a b : List Row} (h : Asc (a ++ b)) : Asc a := by
  induction a with
  | nil => trivial
  | cons r a ih => exact ⟨h.1, fun q hq => h.2.1 q (by simp [hq]), ih h.2.2⟩
theorem Asc.right {a b : List Row} (h : Asc (a ++ b)) : Asc b := by
  induction a with
  | nil => exact h
  | cons r a ih => exact ih h.2.2

theorem cost_in {l : List Row} (h : Asc l) {r : Row} (hr : r ∈ l) {x : Int} (h1 : r.lo ≤ x) (h2 : x ≤ r.hi) : cost l x = some (r.at_ x) := by
  induction l with
  | nil => simp at hr
  | cons a l ih =>
    simp only [cost]
    rcases List.mem_cons.mp hr with rfl | hr
    · rw [if_pos ⟨h1, h2⟩]
    · have := h.2.1 r hr
      rw [if_neg (by omega)]
      exact ih h.2.2 hr

/-! ## forms -/
def Row.ok (a : Row) : Prop := a.lo ≤ a.hi ∧ (a.lo = a.hi → a.st = 0)
def apart (a b : Row) : Prop := a.hi < b.lo ∧ (b.lo = a.hi + 1 → a.lo < a.hi ∧ a.at_ b.lo ≠ b.pr)
def IsForm : List Row → Prop
  | [] => True
  | [a] => a.ok
  | a :: b :: r => a.ok ∧ apart a b ∧ IsForm (b :: r)

theorem IsForm.head {a : Row} {l : List Row} (h : IsForm (a :: l)) : a.ok := by
  cases l with
  | nil => exact h
  | cons b l => exact h.1
theorem IsForm.tail {a : Row} {l : List Row} (h : IsForm (a :: l)) : IsForm l := by
  cases l with
  | nil => trivial
  | cons b l => exact h.2.2

theorem IsForm.asc : ∀ {l : List Row}, IsForm l → Asc l
  | [], _ => trivial
  | [a], h => ⟨h.1, by simp, trivial⟩
  | a :: b :: r, h => by
    have ih := IsForm.asc h.2.2
    refine ⟨h.1.1, ?_, ih⟩
    intro q hq
    have hab := h.2.1.1
    rcases List.mem_cons.mp hq with rfl | hq
    · exact hab
    · have := ih.2.1 q hq
      have := ih.1
      omega

theorem IsForm.ok_at {l : List Row} (h : IsForm l) : ∀ r ∈ l, r.ok := by
  induction l with
  | nil => simp
  | cons a l ih =>
    intro r hr
    rcases List.mem_cons.mp hr with rfl | hr
    · exact h.head
    · exact ih h.tail r hr

theorem IsForm.apart_at : ∀ {l : List Row}, IsForm l → ∀ {i : Nat} {a b : Row}, l[i]? = some a → l[i + 1]? = some b → apart a b
  | [], _, i, a, b, h1, _ => by simp at h1
  | [x], _, i, a, b, _, h2 => by simp at h2
  | x :: y :: r, h, 0, a, b, h1, h2 => by
    simp at h1 h2
    subst h1; subst h2
    exact h.2.1
  | x :: y :: r, h, i + 1, a, b, h1, h2 => by
    have := IsForm.apart_at h.2.2 (i := i) (a := a) (b := b) (by simpa using h1) (by simpa using h2)
    exact this

theorem IsForm.snoc : ∀ {l : List Row} {a b : Row}, IsForm (l ++ [a]) → b.ok → apart a b → IsForm (l ++ [a, b])
  | [], a, b, h, hb, hab => ⟨h, hab, hb⟩
  | [x], a, b, h, hb, hab => ⟨h.1, h.2.1, h.2.2, hab, hb⟩
  | x :: y :: l, a, b, h, hb, hab => ⟨h.1, h.2.1, IsForm.snoc (l := y :: l) h.2.2 hb hab⟩

/-- the last stretch in another make: its low and its price stay -/
theorem IsForm.last : ∀ {l : List Row} {a b : Row}, IsForm (l ++ [a]) → b.ok → b.lo = a.lo → b.pr = a.pr → IsForm (l ++ [b])
  | [], a, b, _, hb, _, _ => hb
  | [x], a, b, h, hb, h1, h2 => by
    refine ⟨h.1, ?_, hb⟩
    have := h.2.1
    unfold apart at this ⊢
    rw [h1, h2]
    exact this
  | x :: y :: l, a, b, h, hb, h1, h2 => ⟨h.1, h.2.1, IsForm.last (l := y :: l) h.2.2 hb h1 h2⟩

/-! ## laid -/
def joins (s : Row) (low price : Int) : Bool := decide (s.hi = low - 1) && (decide (s.lo = s.hi) || decide (s.at_ low = price))
def begun (low hi pr st : Int) : Row := if low = hi then ⟨low, hi, pr, 0⟩ else ⟨low, hi, pr, st⟩
def ownStep (f r : Row) : Int := if f.lo = f.hi then r.pr - f.pr else f.st
/-- one row more: acc is what is told, from behind -/
def laidStep (acc : List Row) (r : Row) : List Row :=
  match acc with
  | [] => [begun r.lo r.hi r.pr r.st]
  | f :: t =>
    if joins f r.lo r.pr = true then
      if r.lo = r.hi ∨ r.st = ownStep f r then ⟨f.lo, r.hi, f.pr, ownStep f r⟩ :: t
      else begun (r.lo + 1) r.hi (r.pr + r.st) r.st :: ⟨f.lo, r.lo, f.pr, ownStep f r⟩ :: t
    else begun r.lo r.hi r.pr r.st :: f :: t
def laid (rows : List Row) : List Row := (rows.foldl laidStep []).reverse

theorem begun_ok {low hi pr st : Int} (h : low ≤ hi) : (begun low hi pr st).ok := by
  unfold begun Row.ok
  split <;> simp_all
theorem begun_lo {low hi pr st : Int} : (begun low hi pr st).lo = low := by unfold begun; split <;> rfl
theorem begun_hi {low hi pr st : Int} : (begun low hi pr st).hi = hi := by unfold begun; split <;> rfl
theorem begun_pr {low hi pr st : Int} : (begun low hi pr st).pr = pr := by unfold begun; split <;> rfl
theorem cost_begun (r : Row) (x : Int) : cost [begun r.lo r.hi r.pr r.st] x = cost [r] x := by
  simp only [cost, begun_lo, begun_hi]
  split
  · rename_i h
    unfold begun Row.at_
    split
    · have : x = r.lo := by omega
      subst this; simp
    · rfl
  · rfl

theorem laidStep_spec (acc : List Row) (r : Row) (hr : r.lo ≤ r.hi) (hf : IsForm acc.reverse) (hb : ∀ f, acc.head? = some f → f.hi < r.lo) :
    IsForm (laidStep acc r).reverse ∧ (∃ g t, laidStep acc r = g :: t ∧ g.hi = r.hi) ∧ ∀ x, cost (laidStep acc r).reverse x = (cost acc.reverse x).or (cost [r] x) := by
  cases acc with
  | nil =>
    refine ⟨?_, ⟨_, _, rfl, begun_hi⟩, fun x => ?_⟩
    · show IsForm [begun r.lo r.hi r.pr r.st]
      exact begun_ok hr
    · show cost [begun r.lo r.hi r.pr r.st] x = _
      rw [cost_begun]; simp [cost]
  | cons f t =>
    have hfr := hb f rfl
    have hf' : IsForm (t.reverse ++ [f]) := by simpa using hf
    have hfok : f.ok := hf'.ok_at f (by simp)
    unfold laidStep
    by_cases hj : joins f r.lo r.pr = true
    · simp only [hj, if_true]
      have hj' : f.hi = r.lo - 1 ∧ (f.lo = f.hi ∨ f.at_ r.lo = r.pr) := by simpa [joins] using hj
      obtain ⟨hj1, hj2⟩ := hj'
      have hfle := hfok.1
      have hown : f.pr + ownStep f r * (r.lo - f.lo) = r.pr := by
        unfold ownStep
        split
        · rename_i e
          have : r.lo - f.lo = 1 := by omega
          rw [this]; omega
        · rename_i e
          rcases hj2 with h | h
          · exact absurd h e
          · exact h
      have hown2 : ∀ x, f.lo ≤ x → x ≤ f.hi → f.pr + ownStep f r * (x - f.lo) = f.pr + f.st * (x - f.lo) := by
        intro x h1 h2
        unfold ownStep
        split
        · have : x - f.lo = 0 := by omega
          rw [this]; simp
        · rfl
      by_cases hc : r.lo = r.hi ∨ r.st = ownStep f r
      · rw [if_pos hc]
        refine ⟨?_, ⟨_, _, rfl, rfl⟩, fun x => ?_⟩
        · rw [List.reverse_cons]
          exact hf'.last ⟨by simp; omega, by simp; omega⟩ rfl rfl
        · rw [List.reverse_cons, List.reverse_cons, cost_append, cost_append, Option.or_assoc]
          congr 1
          simp only [cost, Row.at_]
          by_cases h1 : f.lo ≤ x ∧ x ≤ f.hi
          · rw [if_pos h1, if_pos (by omega), hown2 x h1.1 h1.2]; rfl
          · rw [if_neg h1]
            by_cases h2 : r.lo ≤ x ∧ x ≤ r.hi
            · rw [if_pos h2, if_pos (by omega)]
              simp only [Option.none_or, Option.some.injEq]
              rcases hc with hc | hc
              · have : x = r.lo := by omega
                subst this
                simp only [Int.sub_self, Int.mul_zero, Int.add_zero]
                exact hown
              · rw [hc]
                have e : x - f.lo = (r.lo - f.lo) + (x - r.lo) := by omega
                rw [e, Int.mul_add, ← Int.add_assoc, hown]
            · rw [if_neg h2, if_neg (by omega)]; rfl
      · rw [if_neg hc]
        have hc1 : r.lo ≠ r.hi := fun h => hc (.inl h)
        have hc2 : r.st ≠ ownStep f r := fun h => hc (.inr h)
        refine ⟨?_, ⟨_, _, rfl, begun_hi⟩, fun x => ?_⟩
        · rw [List.reverse_cons, List.reverse_cons, List.append_assoc]
          refine IsForm.snoc (hf'.last (b := ⟨f.lo, r.lo, f.pr, ownStep f r⟩) ⟨by simp; omega, by simp; omega⟩ rfl rfl) (begun_ok (by omega)) ?_
          unfold apart
          rw [begun_lo, begun_pr]
          refine ⟨by simp; omega, fun _ => ⟨by simp; omega, ?_⟩⟩
          simp only [Row.at_]
          have e : r.lo + 1 - f.lo = (r.lo - f.lo) + 1 := by omega
          rw [e, Int.mul_add, ← Int.add_assoc, hown]
          omega
        · rw [List.reverse_cons, List.reverse_cons, List.reverse_cons]
          simp only [cost_append, Option.or_assoc]
          congr 1
          rw [← cost_append]
          simp only [List.cons_append, List.nil_append, cost, begun_lo, begun_hi]
          by_cases h1 : f.lo ≤ x ∧ x ≤ f.hi
          · rw [if_pos h1, if_pos (by omega)]
            simp only [Row.at_]
            rw [hown2 x h1.1 h1.2]; rfl
          · rw [if_neg h1]
            by_cases h2 : r.lo ≤ x ∧ x ≤ r.hi
            · rw [if_pos h2]
              by_cases h3 : x = r.lo
              · rw [if_pos (by omega)]
                subst h3
                simp only [Row.at_, Int.sub_self, Int.mul_zero, Int.add_zero, hown]; rfl
              · rw [if_neg (by omega), if_pos (by omega)]
                simp only [Row.at_, begun_pr, begun_lo]
                have hst : (begun (r.lo + 1) r.hi (r.pr + r.st) r.st).st * (x - (r.lo + 1)) = r.st * (x - (r.lo + 1)) := by
                  unfold begun
                  split
                  · have : x - (r.lo + 1) = 0 := by omega
                    rw [this]; simp
                  · rfl
                rw [hst]
                have e : x - r.lo = 1 + (x - (r.lo + 1)) := by omega
                simp only [Option.none_or, Option.some.injEq]
                rw [e, Int.mul_add]; omega
            · rw [if_neg h2, if_neg (by omega), if_neg (by omega)]; rfl
    · simp only [hj]
      refine ⟨?_, ⟨_, _, rfl, begun_hi⟩, fun x => ?_⟩
      · show IsForm (begun r.lo r.hi r.pr r.st :: f :: t).reverse
        rw [List.reverse_cons, List.reverse_cons, List.append_assoc]
        refine IsForm.snoc hf' (begun_ok hr) ?_
        unfold apart
        rw [begun_lo, begun_pr]
        refine ⟨hfr, fun e => ?_⟩
        have hj' : ¬ (f.hi = r.lo - 1 ∧ (f.lo = f.hi ∨ f.at_ r.lo = r.pr)) := by simpa [joins] using hj
        have := hfok.1
        have h1 : f.lo ≠ f.hi := fun z => hj' ⟨by omega, .inl z⟩
        have h2 : f.at_ r.lo ≠ r.pr := fun z => hj' ⟨by omega, .inr z⟩
        exact ⟨by omega, h2⟩
      · show cost (begun r.lo r.hi r.pr r.st :: f :: t).reverse x = _
        rw [List.reverse_cons, cost_append, cost_begun]

theorem laid_foldl : ∀ (rows acc : List Row), Asc rows → IsForm acc.reverse → (∀ f, acc.head? = some f → ∀ r ∈ rows, f.hi < r.lo) →
    IsForm (rows.foldl laidStep acc).reverse ∧ ∀ x, cost (rows.foldl laidStep acc).reverse x = (cost acc.reverse x).or (cost rows x)
  | [], acc, _, hf, _ => ⟨hf, fun x => by simp [cost]⟩
  | r :: rows, acc, ha, hf, hb => by
    obtain ⟨h1, ⟨g, t, e, hg⟩, h3⟩ := laidStep_spec acc r ha.1 hf fun f h => hb f h r (by simp)
    obtain ⟨i1, i2⟩ := laid_foldl rows (laidStep acc r) ha.2.2 h1 (fun f hf' q hq => by
      rw [e] at hf'
      cases hf'
      rw [hg]
      exact ha.2.1 q hq)
    refine ⟨i1, fun x => ?_⟩
    rw [List.foldl_cons, i2, h3, Option.or_assoc]
    congr 1
    simp only [cost]
    split <;> simp
theorem laid_form {rows : List Row} (h : Asc rows) : IsForm (laid rows) := (laid_foldl rows [] h trivial (by simp)).1
theorem laid_cost {rows : List Row} (h : Asc rows) (x : Int) : cost (laid rows) x = cost rows x := by
  have := (laid_foldl rows [] h trivial (by simp)).2 x
  simpa [cost, laid] using this
theorem laidStep_length (acc : List Row) (r : Row) : (laidStep acc r).length ≤ acc.length + 1 := by
  cases acc with
  | nil => simp [laidStep]
  | cons f t =>
    unfold laidStep
    dsimp only
    split
    · split <;> simp
    · simp
theorem laid_foldl_length : ∀ (rows acc : List Row), (rows.foldl laidStep acc).length ≤ acc.length + rows.length
  | [], acc => by simp
  | r :: rows, acc => by
    have h1 := laid_foldl_length rows (laidStep acc r)
    have h2 := laidStep_length acc r
    simp only [List.foldl_cons, List.length_cons]
    omega
theorem laid_length (rows : List Row) : (laid rows).length ≤ rows.length := by
  have := laid_foldl_length rows []
  simpa [laid] using this

/-! ## lines -/
def pyMin (i j : Int) : Int := if j < i then j else i
def pyMax (i j : Int) : Int := if j > i then j else i
def down (a b : Int) : Int := a / b
def up (a b : Int) : Int := -((-a) / b)
def lineAt (l : Int × Int) (low x : Int) : Int := l.1 + l.2 * (x - low)

def noDearer (one other : Int × Int) (low high : Int) : Option (Int × Int) :=
  let price := one.1 - other.1
  let step := one.2 - other.2
  if step > 0 then
    let last := pyMin (high - low) (down (-price) step)
    if 0 > last then none else some (low + 0, low + last)
  else if step < 0 then
    let first := pyMax 0 (up price (-step))
    if first > high - low then none else some (low + first, low + (high - low))
  else if price > 0 then none
  else if 0 > high - low then none else some (low + 0, low + (high - low))

def lowerLine (one other : Int × Int) (low high : Int) : List Row :=
  match noDearer one other low high with
  | none => [⟨low, high, other.1, other.2⟩]
  | some (first, last) =>
    (if low < first then [⟨low, first - 1, other.1, other.2⟩] else []) ++ [⟨first, last, lineAt one low first, one.2⟩] ++
      (if last < high then [⟨last + 1, high, lineAt other low (last + 1), other.2⟩] else [])

theorem down_iff {a b t : Int} (hb : 0 < b) : t ≤ down a b ↔ t * b ≤ a := Int.le_ediv_iff_mul_le hb
theorem up_iff {a b t : Int} (hb : 0 < b) : up a b ≤ t ↔ a ≤ t * b := by
  unfold up
  have h : -t ≤ (-a) / b ↔ (-t) * b ≤ -a := Int.le_ediv_iff_mul_le hb
  rw [Int.neg_mul] at h
  omega

/-- what no_dearer tells -/
theorem noDearer_none {one other : Int × Int} {low high : Int} (h : low ≤ high) (e : noDearer one other low high = none) : ∀ x, low ≤ x → x ≤ high → lineAt other low x < lineAt one low x := by
  intro x h1 h2
  unfold noDearer at e
  unfold lineAt
  have key : one.1 + one.2 * (x - low) - (other.1 + other.2 * (x - low)) = (one.1 - other.1) + (one.2 - other.2) * (x - low) := by grind
  dsimp only at e
  split at e
  · rename_i hs
    split at e
    · rename_i hl
      have hd : ¬ (x - low) ≤ down (-(one.1 - other.1)) (one.2 - other.2) := by
        unfold pyMin at hl
        split at hl <;> omega
      rw [down_iff hs, Int.mul_comm] at hd
      omega
    · cases e
  · split at e
    · rename_i _ hs
      split at e
      · rename_i hl
        have hd : ¬ up (one.1 - other.1) (-(one.2 - other.2)) ≤ (x - low) := by
          unfold pyMax at hl
          split at hl <;> omega
        rw [up_iff (by omega), Int.mul_comm, Int.neg_mul] at hd
        omega
      · cases e
    · have hz : one.2 - other.2 = 0 := by omega
      rw [hz, Int.zero_mul] at key
      split at e
      · omega
      · split at e
        · omega
        · cases e
theorem noDearer_some {one other : Int × Int} {low high a b : Int} (h : low ≤ high) (e : noDearer one other low high = some (a, b)) :
    low ≤ a ∧ a ≤ b ∧ b ≤ high ∧ (low = a ∨ b = high) ∧ ∀ x, low ≤ x → x ≤ high → (lineAt one low x ≤ lineAt other low x ↔ (a ≤ x ∧ x ≤ b)) := by
  unfold noDearer at e
  have key : ∀ x, one.1 + one.2 * (x - low) - (other.1 + other.2 * (x - low)) = (one.1 - other.1) + (one.2 - other.2) * (x - low) := by intro x; grind
  dsimp only at e
  split at e
  · rename_i hs
    split at e
    · cases e
    · rename_i hl
      simp only [Option.some.injEq, Prod.mk.injEq] at e
      obtain ⟨rfl, rfl⟩ := e
      have hm : ∀ t, t ≤ pyMin (high - low) (down (-(one.1 - other.1)) (one.2 - other.2)) ↔ t ≤ high - low ∧ t ≤ down (-(one.1 - other.1)) (one.2 - other.2) := by
        intro t; unfold pyMin; split <;> omega
      have hb := (hm _).mp (Int.le_refl _)
      refine ⟨by omega, by omega, by omega, .inl (by omega), fun x h1 h2 => ?_⟩
      have k := key x
      have d := hm (x - low)
      rw [down_iff hs, Int.mul_comm] at d
      unfold lineAt
      omega
  · split at e
    · rename_i _ hs
      split at e
      · cases e
      · rename_i hl
        simp only [Option.some.injEq, Prod.mk.injEq] at e
        obtain ⟨rfl, rfl⟩ := e
        have hm : ∀ t, pyMax 0 (up (one.1 - other.1) (-(one.2 - other.2))) ≤ t ↔ 0 ≤ t ∧ up (one.1 - other.1) (-(one.2 - other.2)) ≤ t := by
          intro t; unfold pyMax; split <;> omega
        have hb := (hm _).mp (Int.le_refl _)
        refine ⟨by omega, by omega, by omega, .inr (by omega), fun x h1 h2 => ?_⟩
        have k := key x
        have d := hm (x - low)
        rw [up_iff (by omega), Int.mul_comm, Int.neg_mul] at d
        unfold lineAt
        omega
    · have hz : one.2 - other.2 = 0 := by omega
      split at e
      · cases e
      · split at e
        · cases e
        · simp only [Option.some.injEq, Prod.mk.injEq] at e
          obtain ⟨rfl, rfl⟩ := e
          refine ⟨by omega, by omega, by omega, .inl (by omega), fun x h1 h2 => ?_⟩
          have k := key x
          rw [hz, Int.zero_mul] at k
          unfold lineAt
          omega

/-- rows within some amounts -/
def Within (lo hi : Int) (l : List Row) : Prop := ∀ r ∈ l, lo ≤ r.lo ∧ r.hi ≤ hi
theorem Within.none {lo hi x : Int} {l : List Row} (h : Within lo hi l) (hx : x < lo ∨ hi < x) : cost l x = none :=
  cost_none l x fun r hr => by have := h r hr; omega

theorem lineAt_shift (l : Int × Int) (low m x : Int) : lineAt l low m + l.2 * (x - m) = lineAt l low x := by
  unfold lineAt; grind

structure LowerSpec (one other : Int × Int) (low high : Int) (l : List Row) : Prop where
  asc : Asc l
  within : Within low high l
  len : l.length ≤ 2
  cost : ∀ x, low ≤ x → x ≤ high → cost l x = some (min (lineAt one low x) (lineAt other low x))
  steps : ∀ r ∈ l, r.st = one.2 ∨ r.st = other.2

theorem lowerLine_spec (one other : Int × Int) {low high : Int} (h : low ≤ high) : LowerSpec one other low high (lowerLine one other low high) := by
  unfold lowerLine
  split
  · rename_i e
    have hn := noDearer_none h e
    refine ⟨⟨h, by simp, trivial⟩, by intro r hr; simp at hr; subst hr; simp, by simp, fun x h1 h2 => ?_, by simp⟩
    simp only [K36.cost]
    rw [if_pos ⟨h1, h2⟩]
    have := hn x h1 h2
    have e2 : (⟨low, high, other.1, other.2⟩ : Row).at_ x = lineAt other low x := rfl
    rw [e2]; congr 1; omega
  · rename_i a b e
    obtain ⟨h1, h2, h3, h4, h5⟩ := noDearer_some h e
    have e1 : ∀ x, (⟨low, a - 1, other.1, other.2⟩ : Row).at_ x = lineAt other low x := fun _ => rfl
    have e2 : ∀ x, (⟨a, b, lineAt one low a, one.2⟩ : Row).at_ x = lineAt one low x := fun x => lineAt_shift one low a x
    have e3 : ∀ x, (⟨b + 1, high, lineAt other low (b + 1), other.2⟩ : Row).at_ x = lineAt other low x := fun x => lineAt_shift other low (b + 1) x
    by_cases c1 : low < a <;> by_cases c2 : b < high
    · omega
    · simp only [c1, c2, if_true, if_false, List.append_nil, List.cons_append, List.nil_append]
      refine ⟨⟨by simp; omega, by simp; omega, by simp; omega, by simp, trivial⟩, by intro r hr; simp at hr; rcases hr with rfl | rfl <;> simp <;> omega, by simp, fun x q1 q2 => ?_, by simp⟩
      simp only [K36.cost, e1, e2]
      have := h5 x q1 q2
      by_cases c3 : x ≤ a - 1
      · rw [if_pos ⟨q1, c3⟩]; congr 1; omega
      · rw [if_neg (by omega), if_pos (by omega)]; congr 1; omega
    · simp only [c1, c2, if_true, if_false, List.cons_append, List.nil_append]
      refine ⟨⟨by simp; omega, by simp; omega, by simp; omega, by simp, trivial⟩, by intro r hr; simp at hr; rcases hr with rfl | rfl <;> simp <;> omega, by simp, fun x q1 q2 => ?_, by simp⟩
      simp only [K36.cost, e3, e2]
      have := h5 x q1 q2
      by_cases c3 : x ≤ b
      · rw [if_pos (by omega)]; congr 1; omega
      · rw [if_neg (by omega), if_pos (by omega)]; congr 1; omega
    · simp only [c1, c2, if_false, List.append_nil, List.nil_append]
      refine ⟨⟨by simp; omega, by simp, trivial⟩, by intro r hr; simp at hr; subst hr; simp; omega, by simp, fun x q1 q2 => ?_, by simp⟩
      simp only [K36.cost, e2]
      have := h5 x q1 q2
      rw [if_pos (by omega)]; congr 1; omega

/-! ## cuts -/
def insU (x : Int) : List Int → List Int
  | [] => [x]
  | y :: ys => if x < y then x :: y :: ys else if x = y then y :: ys else y :: insU x ys
def sortU (l : List Int) : List Int := l.foldr insU []

theorem mem_insU {x z : Int} {l : List Int} : z ∈ insU x l ↔ z = x ∨ z ∈ l := by
  induction l with
  | nil => simp [insU]
  | cons y ys ih =>
    unfold insU
    split
    · simp
    · split
      · rename_i _ e
        subst e
        simp
      · simp only [List.mem_cons, ih]
        constructor <;> intro h <;> rcases h with h | h | h <;> simp [h]
theorem mem_sortU {z : Int} {l : List Int} : z ∈ sortU l ↔ z ∈ l := by
  induction l with
  | nil => simp [sortU]
  | cons x l ih =>
    show z ∈ insU x (sortU l) ↔ _
    rw [mem_insU, ih, List.mem_cons]
theorem insU_sorted {x : Int} {l : List Int} (h : l.Pairwise (· < ·)) : (insU x l).Pairwise (· < ·) := by
  induction l with
  | nil => simp [insU]
  | cons y ys ih =>
    have h' := List.pairwise_cons.mp h
    unfold insU
    split
    · rename_i hx
      refine List.pairwise_cons.mpr ⟨fun z hz => ?_, h⟩
      rcases List.mem_cons.mp hz with rfl | hz
      · exact hx
      · have := h'.1 z hz; omega
    · split
      · exact h
      · refine List.pairwise_cons.mpr ⟨fun z hz => ?_, ih h'.2⟩
        rcases mem_insU.mp hz with rfl | hz
        · omega
        · exact h'.1 z hz
theorem sortU_sorted (l : List Int) : (sortU l).Pairwise (· < ·) := by
  induction l with
  | nil => simp [sortU]
  | cons x l ih => exact insU_sorted ih
theorem sorted_ext : ∀ {a b : List Int}, a.Pairwise (· < ·) → b.Pairwise (· < ·) → (∀ z, z ∈ a ↔ z ∈ b) → a = b
  | [], [], _, _, _ => rfl
  | [], y :: b, _, _, h => by have := (h y).mpr (by simp); simp at this
  | x :: a, [], _, _, h => by have := (h x).mp (by simp); simp at this
  | x :: a, y :: b, ha, hb, h => by
    have ha' := List.pairwise_cons.mp ha
    have hb' := List.pairwise_cons.mp hb
    have e : x = y := by
      have h1 := (h x).mp (by simp)
      have h2 := (h y).mpr (by simp)
      rcases List.mem_cons.mp h1 with e | h1
      · exact e
      · rcases List.mem_cons.mp h2 with e | h2
        · exact e.symm
        · have := hb'.1 x h1
          have := ha'.1 y h2
          omega
    subst e
    congr 1
    refine sorted_ext ha'.2 hb'.2 fun z => ?_
    constructor
    · intro hz
      have q := (h z).mp (by simp [hz])
      rcases List.mem_cons.mp q with rfl | q
      · exact absurd (ha'.1 z hz) (by omega)
      · exact q
    · intro hz
      have q := (h z).mpr (by simp [hz])
      rcases List.mem_cons.mp q with rfl | q
      · exact absurd (hb'.1 z hz) (by omega)
      · exact q
theorem insU_length (x : Int) (l : List Int) : (insU x l).length ≤ l.length + 1 := by
  induction l with
  | nil => simp [insU]
  | cons y ys ih =>
    unfold insU
    split
    · simp
    · split
      · simp
      · simp only [List.length_cons]; omega
theorem sortU_length (l : List Int) : (sortU l).length ≤ l.length := by
  induction l with
  | nil => simp [sortU]
  | cons x l ih =>
    have := insU_length x (sortU l)
    show (insU x (sortU l)).length ≤ _
    simp only [List.length_cons]; omega

def bounds (f : List Row) : List Int := f.flatMap fun r => [r.lo, r.hi + 1]
def cuts (one other : List Row) : List Int := sortU (bounds (one ++ other))

/-- the line of a form from a low on -/
def lineFrom : List Row → Int → Option (Int × Int)
  | [], _ => none
  | r :: rs, x => if r.lo ≤ x ∧ x ≤ r.hi then some (r.at_ x, r.st) else lineFrom rs x

theorem lineFrom_none {f : List Row} {x : Int} (h : ∀ r ∈ f, x < r.lo ∨ r.hi < x) : lineFrom f x = none := by
  induction f with
  | nil => rfl
  | cons r f ih =>
    simp only [lineFrom]
    have := h r (by simp)
    rw [if_neg (by omega)]
    exact ih fun q hq => h q (by simp [hq])

/-- between two cuts a form is one line, or not there -/
theorem cost_between {f : List Row} {lo hi x : Int} (hb : ∀ b ∈ bounds f, b ≤ lo ∨ hi < b) (h1 : lo ≤ x) (h2 : x ≤ hi) :
    cost f x = (lineFrom f lo).map fun l => lineAt l lo x := by
  induction f with
  | nil => rfl
  | cons r f ih =>
    have b1 := hb r.lo (by simp [bounds])
    have b2 := hb (r.hi + 1) (by simp [bounds])
    simp only [cost, lineFrom]
    by_cases c : r.lo ≤ lo ∧ lo ≤ r.hi
    · rw [if_pos (by omega), if_pos c]
      show some (r.at_ x) = some (lineAt (r.at_ lo, r.st) lo x)
      have := lineAt_shift (r.pr, r.st) r.lo lo x
      congr 1
      exact this.symm
    · rw [if_neg (by omega), if_neg c]
      refine ih fun b hbb => hb b ?_
      simp only [bounds, List.flatMap_cons, List.mem_append]
      exact .inr hbb

/-- rows made piece by piece between the cuts -/
def segRows (g : Int → Int → List Row) : List Int → List Row
  | c :: d :: r => g c (d - 1) ++ segRows g (d :: r)
  | _ => []

theorem segRows_spec {g : Int → Int → List Row} {φ : Int → Option Int} {B : List Int}
    (hg : ∀ lo hi, lo ≤ hi → (∀ b ∈ B, b ≤ lo ∨ hi < b) → Asc (g lo hi) ∧ Within lo hi (g lo hi) ∧ ∀ x, lo ≤ x → x ≤ hi → cost (g lo hi) x = φ x)
    (hr : ∀ x, (∀ b ∈ B, b ≤ x) → φ x = none) :
    ∀ (cs : List Int) (c : Int), (c :: cs).Pairwise (· < ·) → (∀ b ∈ B, b ≤ c ∨ b ∈ cs) →
      Asc (segRows g (c :: cs)) ∧ (∀ r ∈ segRows g (c :: cs), c ≤ r.lo) ∧ ∀ x, c ≤ x → cost (segRows g (c :: cs)) x = φ x
  | [], c, _, hB => by
    refine ⟨trivial, by simp [segRows], fun x hx => ?_⟩
    have := hr x fun b hb => by
      rcases hB b hb with h | h
      · omega
      · simp at h
    rw [this]; rfl
  | d :: cs, c, hp, hB => by
    have hp' := List.pairwise_cons.mp hp
    have hcd := hp'.1 d (by simp)
    have hp2 := List.pairwise_cons.mp hp'.2
    obtain ⟨i1, i2, i3⟩ := segRows_spec hg hr cs d hp'.2 (fun b hb => by
      rcases hB b hb with h | h
      · left; omega
      · rcases List.mem_cons.mp h with rfl | h
        · left; omega
        · right; exact h)
    obtain ⟨g1, g2, g3⟩ := hg c (d - 1) (by omega) (fun b hb => by
      rcases hB b hb with h | h
      · left; exact h
      · rcases List.mem_cons.mp h with rfl | h
        · right; omega
        · right; have := hp2.1 b h; omega)
    refine ⟨Asc.append g1 i1 fun r hr q hq => ?_, fun r hr => ?_, fun x hx => ?_⟩
    · have := g2 r hr
      have := i2 q hq
      omega
    · rcases List.mem_append.mp hr with hr | hr
      · exact (g2 r hr).1
      · have := i2 r hr; omega
    · show cost (g c (d - 1) ++ segRows g (d :: cs)) x = _
      rw [cost_append]
      by_cases h : x < d
      · rw [cost_none (segRows g (d :: cs)) x (fun r hr => by have := i2 r hr; omega), g3 x hx (by omega), Option.or_none]
      · rw [g2.none (by omega), i3 x (by omega), Option.none_or]

theorem segRows_cuts {g : Int → Int → List Row} {φ : Int → Option Int} {one other : List Row}
    (hg : ∀ lo hi, lo ≤ hi → (∀ b ∈ bounds (one ++ other), b ≤ lo ∨ hi < b) → Asc (g lo hi) ∧ Within lo hi (g lo hi) ∧ ∀ x, lo ≤ x → x ≤ hi → cost (g lo hi) x = φ x)
    (hr : ∀ x, (∀ b ∈ bounds (one ++ other), b ≤ x) → φ x = none) (hl : ∀ x, (∀ b ∈ bounds (one ++ other), x < b) → φ x = none) :
    Asc (segRows g (cuts one other)) ∧ ∀ x, cost (segRows g (cuts one other)) x = φ x := by
  have hm : ∀ b, b ∈ cuts one other ↔ b ∈ bounds (one ++ other) := fun b => mem_sortU
  have hs : (cuts one other).Pairwise (· < ·) := sortU_sorted _
  cases hc : cuts one other with
  | nil =>
    refine ⟨trivial, fun x => ?_⟩
    rw [hr x fun b hb => by rw [← hm, hc] at hb; simp at hb]; rfl
  | cons c cs =>
    rw [hc] at hs hm
    obtain ⟨i1, i2, i3⟩ := segRows_spec hg hr cs c hs (fun b hb => by
      rcases List.mem_cons.mp ((hm b).mpr hb) with rfl | h
      · left; omega
      · right; exact h)
    refine ⟨i1, fun x => ?_⟩
    by_cases h : c ≤ x
    · exact i3 x h
    · rw [cost_none _ x (fun r hr => by have := i2 r hr; omega), hl x fun b hb => ?_]
      rcases List.mem_cons.mp ((hm b).mpr hb) with rfl | hb'
      · omega
      · have := (List.pairwise_cons.mp hs).1 b hb'
        omega

theorem mem_bounds {f : List Row} {b : Int} : b ∈ bounds f ↔ ∃ r ∈ f, b = r.lo ∨ b = r.hi + 1 := by
  simp [bounds]
theorem bounds_append (a b : List Row) : bounds (a ++ b) = bounds a ++ bounds b := by simp [bounds]
theorem cost_right {f : List Row} {x : Int} (h : ∀ b ∈ bounds f, b ≤ x) : cost f x = none :=
  cost_none f x fun r hr => by have := h (r.hi + 1) (mem_bounds.mpr ⟨r, hr, .inr rfl⟩); omega
theorem cost_left {f : List Row} {x : Int} (h : ∀ b ∈ bounds f, x < b) : cost f x = none :=
  cost_none f x fun r hr => by have := h r.lo (mem_bounds.mpr ⟨r, hr, .inl rfl⟩); omega

def leastSeg (a b : Option (Int × Int)) (lo hi : Int) : List Row :=
  match a, b with
  | some l, some m => lowerLine l m lo hi
  | some l, none => [⟨lo, hi, l.1, l.2⟩]
  | none, some m => [⟨lo, hi, m.1, m.2⟩]
  | none, none => []
def leastRows (one other : List Row) : List Row := segRows (fun lo hi => leastSeg (lineFrom one lo) (lineFrom other lo) lo hi) (cuts one other)
def negRow (r : Row) : Row := ⟨r.lo, r.hi, -r.pr, -r.st⟩
def greatestSeg (a b : Option (Int × Int)) (lo hi : Int) : List Row :=
  match a, b with
  | some l, some m => (lowerLine (-l.1, -l.2) (-m.1, -m.2) lo hi).map negRow
  | _, _ => []
def greatestRows (one other : List Row) : List Row := segRows (fun lo hi => greatestSeg (lineFrom one lo) (lineFrom other lo) lo hi) (cuts one other)

def optLeast : Option Int → Option Int → Option Int
  | some a, some b => some (pyMin a b)
  | some a, none => some a
  | none, b => b
def optGreatest : Option Int → Option Int → Option Int
  | some a, some b => some (pyMax a b)
  | _, _ => none
def optSum : Option Int → Option Int → Option Int
  | some a, some b => some (a + b)
  | _, _ => none

theorem pyMin_eq (a b : Int) : pyMin a b = min a b := by unfold pyMin; split <;> omega
theorem pyMax_eq (a b : Int) : pyMax a b = max a b := by unfold pyMax; split <;> omega

theorem asc_one {lo hi p s : Int} (h : lo ≤ hi) : Asc [⟨lo, hi, p, s⟩] := ⟨h, by simp, trivial⟩
theorem within_one {lo hi p s : Int} : Within lo hi [⟨lo, hi, p, s⟩] := by intro r hr; simp at hr; subst hr; simp
theorem cost_one {lo hi x : Int} (l : Int × Int) (h1 : lo ≤ x) (h2 : x ≤ hi) : cost [⟨lo, hi, l.1, l.2⟩] x = some (lineAt l lo x) := by
  simp only [cost]; rw [if_pos ⟨h1, h2⟩]; rfl

theorem least_spec (one other : List Row) : Asc (leastRows one other) ∧ ∀ x, cost (leastRows one other) x = optLeast (cost one x) (cost other x) := by
  refine segRows_cuts (fun lo hi h hb => ?_) (fun x h => ?_) (fun x h => ?_)
  · rw [bounds_append] at hb
    have h1 : ∀ x, lo ≤ x → x ≤ hi → cost one x = _ := fun x => cost_between (fun b hbb => hb b (List.mem_append.mpr (.inl hbb)))
    have h2 : ∀ x, lo ≤ x → x ≤ hi → cost other x = _ := fun x => cost_between (fun b hbb => hb b (List.mem_append.mpr (.inr hbb)))
    unfold leastSeg
    cases e1 : lineFrom one lo with
    | none =>
      cases e2 : lineFrom other lo with
      | none =>
        refine ⟨trivial, by intro r hr; simp at hr, fun x q1 q2 => ?_⟩
        rw [h1 x q1 q2, h2 x q1 q2, e1, e2]; rfl
      | some m =>
        refine ⟨asc_one h, within_one, fun x q1 q2 => ?_⟩
        rw [h1 x q1 q2, h2 x q1 q2, e1, e2]
        exact cost_one m q1 q2
    | some l =>
      cases e2 : lineFrom other lo with
      | none =>
        refine ⟨asc_one h, within_one, fun x q1 q2 => ?_⟩
        rw [h1 x q1 q2, h2 x q1 q2, e1, e2]
        exact cost_one l q1 q2
      | some m =>
        have L := lowerLine_spec l m h
        refine ⟨L.asc, L.within, fun x q1 q2 => ?_⟩
        rw [h1 x q1 q2, h2 x q1 q2, e1, e2, L.cost x q1 q2]
        simp [optLeast, pyMin_eq]
  · rw [bounds_append] at h
    rw [cost_right fun b hb => h b (List.mem_append.mpr (.inl hb)), cost_right fun b hb => h b (List.mem_append.mpr (.inr hb))]; rfl
  · rw [bounds_append] at h
    rw [cost_left fun b hb => h b (List.mem_append.mpr (.inl hb)), cost_left fun b hb => h b (List.mem_append.mpr (.inr hb))]; rfl

theorem cost_neg (l : List Row) (x : Int) : cost (l.map negRow) x = (cost l x).map fun c => -c := by
  induction l with
  | nil => rfl
  | cons r l ih =>
    simp only [List.map_cons, cost]
    have e : (negRow r).lo = r.lo ∧ (negRow r).hi = r.hi := ⟨rfl, rfl⟩
    rw [e.1, e.2]
    split
    · simp only [Option.map_some, Option.some.injEq]
      show -r.pr + -r.st * (x - r.lo) = -(r.pr + r.st * (x - r.lo))
      rw [Int.neg_mul]; omega
    · exact ih
theorem asc_neg {l : List Row} (h : Asc l) : Asc (l.map negRow) := by
  induction l with
  | nil => trivial
  | cons r l ih =>
    refine ⟨h.1, fun q hq => ?_, ih h.2.2⟩
    obtain ⟨z, hz, rfl⟩ := List.mem_map.mp hq
    exact h.2.1 z hz
theorem lineAt_neg (l : Int × Int) (low x : Int) : lineAt (-l.1, -l.2) low x = -lineAt l low x := by
  unfold lineAt; simp only; rw [Int.neg_mul]; omega

theorem greatest_spec (one other : List Row) : Asc (greatestRows one other) ∧ ∀ x, cost (greatestRows one other) x = optGreatest (cost one x) (cost other x) := by
  refine segRows_cuts (fun lo hi h hb => ?_) (fun x h => ?_) (fun x h => ?_)
  · rw [bounds_append] at hb
    have h1 : ∀ x, lo ≤ x → x ≤ hi → cost one x = _ := fun x => cost_between (fun b hbb => hb b (List.mem_append.mpr (.inl hbb)))
    have h2 : ∀ x, lo ≤ x → x ≤ hi → cost other x = _ := fun x => cost_between (fun b hbb => hb b (List.mem_append.mpr (.inr hbb)))
    unfold greatestSeg
    cases e1 : lineFrom one lo with
    | none =>
      refine ⟨trivial, by intro r hr; simp at hr, fun x q1 q2 => ?_⟩
      rw [h1 x q1 q2, e1]; rfl
    | some l =>
      cases e2 : lineFrom other lo with
      | none =>
        refine ⟨trivial, by intro r hr; simp at hr, fun x q1 q2 => ?_⟩
        rw [h1 x q1 q2, h2 x q1 q2, e1, e2]; rfl
      | some m =>
        have L := lowerLine_spec (-l.1, -l.2) (-m.1, -m.2) h
        refine ⟨asc_neg L.asc, ?_, fun x q1 q2 => ?_⟩
        · intro r hr
          obtain ⟨z, hz, rfl⟩ := List.mem_map.mp hr
          exact L.within z hz
        · rw [h1 x q1 q2, h2 x q1 q2, e1, e2]
          show cost ((lowerLine (-l.1, -l.2) (-m.1, -m.2) lo hi).map negRow) x = _
          rw [cost_neg, L.cost x q1 q2, lineAt_neg, lineAt_neg]
          simp only [Option.map_some, optGreatest, pyMax_eq, Option.some.injEq]
          omega
  · rw [bounds_append] at h
    rw [cost_right fun b hb => h b (List.mem_append.mpr (.inl hb))]; rfl
  · rw [bounds_append] at h
    rw [cost_left fun b hb => h b (List.mem_append.mpr (.inl hb))]; rfl
end K36
set_option Elab.async false
set_option linter.all false
namespace K36

/-! ## deeds -/
def clip (r : Row) (lo hi : Int) : List Row :=
  if pyMax lo r.lo > pyMin hi r.hi then [] else [⟨pyMax lo r.lo, pyMin hi r.hi, r.at_ (pyMax lo r.lo), r.st⟩]
theorem at_shift (r : Row) (m x : Int) : r.at_ m + r.st * (x - m) = r.at_ x := by unfold Row.at_; grind
theorem clip_cost (r : Row) (lo hi x : Int) : cost (clip r lo hi) x = if (r.lo ≤ x ∧ x ≤ r.hi) ∧ (lo ≤ x ∧ x ≤ hi) then some (r.at_ x) else none := by
  unfold clip
  have h1 := pyMax_eq lo r.lo
  have h2 := pyMin_eq hi r.hi
  split
  · rename_i h
    rw [if_neg (by omega)]; rfl
  · rename_i h
    simp only [cost]
    have e : (⟨pyMax lo r.lo, pyMin hi r.hi, r.at_ (pyMax lo r.lo), r.st⟩ : Row).at_ x = r.at_ x := at_shift r _ x
    rw [e]
    split
    · rw [if_pos (by omega)]
    · rw [if_neg (by omega)]
theorem clip_within {r : Row} {lo hi : Int} : ∀ q ∈ clip r lo hi, q.lo ≤ q.hi ∧ r.lo ≤ q.lo ∧ q.hi ≤ r.hi ∧ lo ≤ q.lo ∧ q.hi ≤ hi ∧ q.st = r.st := by
  unfold clip
  have h1 := pyMax_eq lo r.lo
  have h2 := pyMin_eq hi r.hi
  split
  · simp
  · rename_i h
    intro q hq
    rw [List.mem_singleton] at hq
    subst hq
    refine ⟨?_, ?_, ?_, ?_, ?_, rfl⟩ <;> simp only <;> omega
theorem clip_asc (r : Row) (lo hi : Int) : Asc (clip r lo hi) := by
  have h := clip_within (r := r) (lo := lo) (hi := hi)
  unfold clip at h ⊢
  split
  · trivial
  · rename_i c
    rw [if_neg c] at h
    exact ⟨(h _ (by simp)).1, by simp, trivial⟩
theorem clip_length (r : Row) (lo hi : Int) : (clip r lo hi).length ≤ 1 := by unfold clip; split <;> simp

/-- one behind another -/
theorem flatMap_asc {f : List Row} {g : Row → List Row} (h : Asc f) (hg : ∀ r ∈ f, Asc (g r) ∧ ∀ q ∈ g r, r.lo ≤ q.lo ∧ q.hi ≤ r.hi) : Asc (f.flatMap g) := by
  induction f with
  | nil => trivial
  | cons r f ih =>
    rw [List.flatMap_cons]
    refine Asc.append (hg r (by simp)).1 (ih h.2.2 fun q hq => hg q (by simp [hq])) fun q hq z hz => ?_
    obtain ⟨y, hy, hz⟩ := List.mem_flatMap.mp hz
    have a := (hg r (by simp)).2 q hq
    have b := (hg y (by simp [hy])).2 z hz
    have c := h.2.1 y hy
    omega
theorem flatMap_cost {f : List Row} {g : Row → List Row} {φ : Option Int → Option Int} (x : Int) (hφ : φ none = none) (h : Asc f) (hg : ∀ r ∈ f, cost (g r) x = φ (cost [r] x)) : cost (f.flatMap g) x = φ (cost f x) := by
  induction f with
  | nil => simp [cost, hφ]
  | cons r f ih =>
    rw [List.flatMap_cons, cost_append, hg r (by simp), ih h.2.2 fun q hq => hg q (by simp [hq])]
    simp only [cost]
    by_cases c : r.lo ≤ x ∧ x ≤ r.hi
    · rw [if_pos c, if_pos c]
      rw [cost_none f x fun q hq => by have := h.2.1 q hq; omega, hφ, Option.or_none]
    · rw [if_neg c, if_neg c, hφ, Option.none_or]

def withinRows (f : List Row) (lo hi : Int) : List Row := f.flatMap fun r => clip r lo hi
theorem within_spec {f : List Row} (h : Asc f) (lo hi : Int) : Asc (withinRows f lo hi) ∧ ∀ x, cost (withinRows f lo hi) x = if lo ≤ x ∧ x ≤ hi then cost f x else none := by
  refine ⟨flatMap_asc h fun r _ => ⟨clip_asc r lo hi, fun q hq => ?_⟩, fun x => ?_⟩
  · have := clip_within q hq; omega
  · refine flatMap_cost (φ := fun o => if lo ≤ x ∧ x ≤ hi then o else none) x (by simp) h fun r hr => ?_
    rw [clip_cost]
    simp only [cost]
    split <;> split <;> (try split) <;> first | rfl | (exfalso; omega)
def withoutRows (f : List Row) (lo hi : Int) : List Row := f.flatMap fun r => clip r r.lo (lo - 1) ++ clip r (hi + 1) r.hi
theorem without_spec {f : List Row} (h : Asc f) {lo hi : Int} (hl : lo ≤ hi) : Asc (withoutRows f lo hi) ∧ ∀ x, cost (withoutRows f lo hi) x = if lo ≤ x ∧ x ≤ hi then none else cost f x := by
  refine ⟨flatMap_asc h fun r _ => ⟨Asc.append (clip_asc _ _ _) (clip_asc _ _ _) fun q hq z hz => ?_, fun q hq => ?_⟩, fun x => ?_⟩
  · have a := clip_within q hq
    have b := clip_within z hz
    omega
  · rcases List.mem_append.mp hq with hq | hq
    · have := clip_within q hq; omega
    · have := clip_within q hq; omega
  · refine flatMap_cost (φ := fun o => if lo ≤ x ∧ x ≤ hi then none else o) x (by simp) h fun r hr => ?_
    rw [cost_append, clip_cost, clip_cost]
    simp only [cost]
    by_cases c1 : r.lo ≤ x ∧ x ≤ r.hi
    · rw [if_pos c1]
      by_cases c2 : lo ≤ x ∧ x ≤ hi
      · rw [if_pos c2, if_neg (by omega), if_neg (by omega)]; rfl
      · rw [if_neg c2]
        by_cases c3 : x < lo
        · rw [if_pos (by omega)]; rfl
        · rw [if_neg (by omega), if_pos (by omega)]; rfl
    · rw [if_neg c1, if_neg (by omega), if_neg (by omega)]; simp
def raisedRows (f : List Row) (p : Int) : List Row := f.map fun r => ⟨r.lo, r.hi, r.pr + p, r.st⟩
theorem raised_spec {f : List Row} (h : Asc f) (p : Int) : Asc (raisedRows f p) ∧ ∀ x, cost (raisedRows f p) x = (cost f x).map (· + p) := by
  induction f with
  | nil => exact ⟨trivial, fun x => rfl⟩
  | cons r f ih =>
    obtain ⟨i1, i2⟩ := ih h.2.2
    refine ⟨⟨h.1, fun q hq => ?_, i1⟩, fun x => ?_⟩
    · obtain ⟨z, hz, rfl⟩ := List.mem_map.mp hq
      exact h.2.1 z hz
    · show (if r.lo ≤ x ∧ x ≤ r.hi then some ((r.pr + p) + r.st * (x - r.lo)) else cost (raisedRows f p) x) = _
      simp only [cost]
      split
      · simp only [Option.map_some, Row.at_, Option.some.injEq]; omega
      · exact i2 x
def shiftRow (c : Int) (r : Row) : Row := ⟨r.lo + c, r.hi + c, r.pr, r.st⟩
theorem shift_cost (l : List Row) (c x : Int) : cost (l.map (shiftRow c)) x = cost l (x - c) := by
  induction l with
  | nil => rfl
  | cons r l ih =>
    simp only [List.map_cons, cost, shiftRow]
    by_cases h : r.lo ≤ x - c ∧ x - c ≤ r.hi
    · rw [if_pos (by omega), if_pos h]
      simp only [Row.at_]
      rw [show x - (r.lo + c) = x - c - r.lo by omega]
    · rw [if_neg (by omega), if_neg h]
      exact ih
theorem shift_asc {l : List Row} (c : Int) (h : Asc l) : Asc (l.map (shiftRow c)) := by
  induction l with
  | nil => trivial
  | cons r l ih =>
    refine ⟨by have := h.1; simp only [shiftRow]; omega, fun q hq => ?_, ih h.2.2⟩
    obtain ⟨z, hz, rfl⟩ := List.mem_map.mp hq
    have := h.2.1 z hz
    simp only [shiftRow]; omega
def freedHead (f : List Row) (c : Int) : List Row := match cost f 0 with
  | some p => [⟨0, c, p, 0⟩]
  | none => []
def freedTail (f : List Row) (c : Int) : List Row := f.flatMap fun r => (clip r 1 r.hi).map (shiftRow c)
def freedRows (f : List Row) (c : Int) : List Row := freedHead f c ++ freedTail f c
theorem freedTail_eq (f : List Row) (c : Int) : freedTail f c = (f.flatMap fun r => clip r 1 r.hi).map (shiftRow c) := by
  unfold freedTail; rw [List.map_flatMap]
theorem freed_spec {f : List Row} (h : Asc f) {c : Int} (hc : 0 ≤ c) : Asc (freedRows f c) ∧ ∀ x, cost (freedRows f c) x = if x < 0 then none else cost f (pyMax 0 (x - c)) := by
  have ha : Asc (f.flatMap fun r => clip r 1 r.hi) := flatMap_asc h fun r _ => ⟨clip_asc _ _ _, fun q hq => by have := clip_within q hq; omega⟩
  have hm : ∀ q ∈ (f.flatMap fun r => clip r 1 r.hi), 1 ≤ q.lo := fun q hq => by
    obtain ⟨r, _, hq⟩ := List.mem_flatMap.mp hq
    have := clip_within q hq; omega
  have hcost : ∀ x, cost (f.flatMap fun r => clip r 1 r.hi) x = if 1 ≤ x then cost f x else none := fun x => by
    refine flatMap_cost (φ := fun o => if 1 ≤ x then o else none) x (by simp) h fun r _ => ?_
    rw [clip_cost]
    simp only [cost]
    split <;> split <;> (try split) <;> first | rfl | (exfalso; omega)
  have hh : ∀ q ∈ freedHead f c, q.lo = 0 ∧ q.hi = c := by
    unfold freedHead
    split <;> intro q hq <;> simp at hq
    subst hq; simp
  refine ⟨Asc.append ?_ ?_ fun q hq z hz => ?_, fun x => ?_⟩
  · unfold freedHead
    split
    · exact ⟨hc, by simp, trivial⟩
    · trivial
  · rw [freedTail_eq]; exact shift_asc c ha
  · rw [freedTail_eq] at hz
    obtain ⟨y, hy, rfl⟩ := List.mem_map.mp hz
    have := hm y hy
    have := hh q hq
    simp only [shiftRow]; omega
  · unfold freedRows
    rw [cost_append, freedTail_eq, shift_cost, hcost]
    by_cases h0 : x < 0
    · rw [if_pos h0, if_neg (by omega), Option.or_none]
      exact cost_none _ x fun r hr => by have := hh r hr; omega
    · rw [if_neg h0]
      have e := pyMax_eq 0 (x - c)
      by_cases h1 : x ≤ c
      · rw [if_neg (by omega), Option.or_none, show pyMax 0 (x - c) = 0 by omega]
        unfold freedHead
        cases hz : cost f 0 with
        | none => rfl
        | some p => 
          simp only [cost]
          rw [if_pos (by omega)]
          simp [Row.at_]
      · rw [if_pos (by omega), show pyMax 0 (x - c) = x - c by omega, cost_none (freedHead f c) x fun r hr => by have := hh r hr; omega]
        rfl

/-! ## plus -/
def plusSeg (a b : Row) : List Row := (clip a b.lo b.hi).flatMap fun f => (clip b f.lo f.hi).map fun s => ⟨f.lo, f.hi, f.pr + s.pr, f.st + s.st⟩
def plusRows : List Row → List Row → List Row
  | a :: as, b :: bs => plusSeg a b ++ if a.hi < b.hi then plusRows as (b :: bs) else plusRows (a :: as) bs
  | [], _ => []
  | _ :: _, [] => []
termination_by x y => x.length + y.length
theorem clip_self {b : Row} {lo hi : Int} (h : lo ≤ hi) (h1 : b.lo ≤ lo) (h2 : hi ≤ b.hi) : clip b lo hi = [⟨lo, hi, b.at_ lo, b.st⟩] := by
  unfold clip
  have e1 : pyMax lo b.lo = lo := by rw [pyMax_eq]; omega
  have e2 : pyMin hi b.hi = hi := by rw [pyMin_eq]; omega
  rw [e1, e2, if_neg (by omega)]
theorem plusSeg_cost (a b : Row) (x : Int) : cost (plusSeg a b) x = if (a.lo ≤ x ∧ x ≤ a.hi) ∧ (b.lo ≤ x ∧ x ≤ b.hi) then some (a.at_ x + b.at_ x) else none := by
  unfold plusSeg
  have hc := clip_cost a b.lo b.hi x
  have hw := clip_within (r := a) (lo := b.lo) (hi := b.hi)
  have h1 := clip_length a b.lo b.hi
  cases e : clip a b.lo b.hi with
  | nil =>
    rw [e] at hc
    simp only [cost] at hc
    simp only [List.flatMap_nil, cost]
    split
    · rename_i q; rw [if_pos q] at hc; cases hc
    · rfl
  | cons f t =>
    rw [e] at hc hw h1
    have ht : t = [] := List.eq_nil_of_length_eq_zero (by rw [List.length_cons] at h1; omega)
    subst ht
    have w := hw f (by simp)
    rw [List.flatMap_cons, List.flatMap_nil, List.append_nil, clip_self w.1 w.2.2.2.1 w.2.2.2.2.1]
    simp only [List.map_cons, List.map_nil, cost] at hc ⊢
    by_cases c : f.lo ≤ x ∧ x ≤ f.hi
    · rw [if_pos c] at hc ⊢
      split at hc
      · rename_i q
        rw [if_pos q]
        have e1 : f.at_ x = a.at_ x := by simpa using hc
        have e2 := at_shift b f.lo x
        simp only [Row.at_, Option.some.injEq] at e1 e2 ⊢
        rw [Int.add_mul]; omega
      · cases hc
    · rw [if_neg c] at hc ⊢
      split
      · rename_i q; rw [if_pos q] at hc; cases hc
      · rfl
theorem plusSeg_within (a b : Row) : ∀ q ∈ plusSeg a b, q.lo ≤ q.hi ∧ a.lo ≤ q.lo ∧ q.hi ≤ a.hi ∧ b.lo ≤ q.lo ∧ q.hi ≤ b.hi := by
  intro q hq
  unfold plusSeg at hq
  obtain ⟨f, hf, hq⟩ := List.mem_flatMap.mp hq
  obtain ⟨s, hs, rfl⟩ := List.mem_map.mp hq
  have := clip_within f hf
  simp only; omega
theorem plusSeg_asc (a b : Row) : Asc (plusSeg a b) := by
  have hw := plusSeg_within a b
  have h1 := clip_length a b.lo b.hi
  unfold plusSeg at hw ⊢
  cases e : clip a b.lo b.hi with
  | nil => trivial
  | cons f t =>
    rw [e] at hw h1
    have ht : t = [] := List.eq_nil_of_length_eq_zero (by rw [List.length_cons] at h1; omega)
    subst ht
    rw [List.flatMap_cons, List.flatMap_nil, List.append_nil] at hw ⊢
    have h2 := clip_length b f.lo f.hi
    cases e2 : clip b f.lo f.hi with
    | nil => trivial
    | cons s t =>
      rw [e2] at h2 hw
      have ht : t = [] := List.eq_nil_of_length_eq_zero (by rw [List.length_cons] at h2; omega)
      subst ht
      exact ⟨(hw _ (by simp)).1, by simp, trivial⟩
theorem plusSeg_length (a b : Row) : (plusSeg a b).length ≤ 1 := by
  unfold plusSeg
  have h1 := clip_length a b.lo b.hi
  cases e : clip a b.lo b.hi with
  | nil => simp
  | cons f t =>
    rw [e] at h1
    have ht : t = [] := List.eq_nil_of_length_eq_zero (by rw [List.length_cons] at h1; omega)
    subst ht
    have := clip_length b f.lo f.hi
    simp only [List.flatMap_cons, List.flatMap_nil, List.append_nil, List.length_map]
    exact this
theorem plus_spec : ∀ (f g : List Row), Asc f → Asc g → Asc (plusRows f g) ∧ (∀ q ∈ plusRows f g, (∀ a ∈ f.head?, a.lo ≤ q.lo) ∧ (∀ b ∈ g.head?, b.lo ≤ q.lo)) ∧ (∀ x, cost (plusRows f g) x = optSum (cost f x) (cost g x)) ∧ (plusRows f g).length ≤ f.length + g.length
  | [], g, _, _ => by
    unfold plusRows
    exact ⟨trivial, by simp, fun x => by simp [cost, optSum], by simp⟩
  | a :: as, [], _, _ => by
    unfold plusRows
    refine ⟨trivial, by simp, fun x => ?_, by simp⟩
    simp only [cost]
    cases (if a.lo ≤ x ∧ x ≤ a.hi then some (a.at_ x) else cost as x) <;> rfl
  | a :: as, b :: bs, hf, hg => by
    have sw := plusSeg_within a b
    unfold plusRows
    by_cases c : a.hi < b.hi
    · rw [if_pos c]
      obtain ⟨i1, i2, i3, i4⟩ := plus_spec as (b :: bs) hf.2.2 hg
      have low : ∀ q ∈ plusRows as (b :: bs), a.hi < q.lo := fun q hq => by
        cases has : as with
        | nil => rw [has] at hq; unfold plusRows at hq; simp at hq
        | cons a2 r =>
          have h1 := (i2 q hq).1 a2 (by rw [has]; simp)
          have h2 := hf.2.1 a2 (by rw [has]; simp)
          omega
      refine ⟨Asc.append (plusSeg_asc a b) i1 fun q hq z hz => ?_, fun q hq => ?_, fun x => ?_, ?_⟩
      · have := sw q hq; have := low z hz; omega
      · simp only [List.head?_cons, Option.mem_some_iff, forall_eq']
        rcases List.mem_append.mp hq with hq | hq
        · have := sw q hq; omega
        · have h1 := low q hq
          have h2 := (i2 q hq).2 b (by simp)
          have := hf.1
          omega
      · rw [cost_append, plusSeg_cost, i3]
        simp only [cost]
        by_cases h1 : x ≤ a.hi
        · have e0 : cost as x = none := cost_none as x fun q hq => by have := hf.2.1 q hq; omega
          have e1 : cost bs x = none := cost_none bs x fun q hq => by have := hg.2.1 q hq; omega
          rw [e0, e1]
          have hb : (b.lo ≤ x ∧ x ≤ b.hi) ↔ b.lo ≤ x := by omega
          have ha : (a.lo ≤ x ∧ x ≤ a.hi) ↔ a.lo ≤ x := by omega
          simp only [ha, hb]
          by_cases h2 : a.lo ≤ x <;> by_cases h3 : b.lo ≤ x <;> simp [h2, h3, optSum]
        · have ha : ¬ (a.lo ≤ x ∧ x ≤ a.hi) := by omega
          simp only [ha, false_and, if_false, Option.none_or]
      · simp only [List.length_append, List.length_cons] at i4 ⊢
        have := plusSeg_length a b
        omega
    · rw [if_neg c]
      obtain ⟨i1, i2, i3, i4⟩ := plus_spec (a :: as) bs hf hg.2.2
      have low : ∀ q ∈ plusRows (a :: as) bs, b.hi < q.lo := fun q hq => by
        cases hbs : bs with
        | nil => rw [hbs] at hq; unfold plusRows at hq; simp at hq
        | cons b2 r =>
          have h1 := (i2 q hq).2 b2 (by rw [hbs]; simp)
          have h2 := hg.2.1 b2 (by rw [hbs]; simp)
          omega
      refine ⟨Asc.append (plusSeg_asc a b) i1 fun q hq z hz => ?_, fun q hq => ?_, fun x => ?_, ?_⟩
      · have := sw q hq; have := low z hz; omega
      · simp only [List.head?_cons, Option.mem_some_iff, forall_eq']
        rcases List.mem_append.mp hq with hq | hq
        · have := sw q hq; omega
        · have h1 := low q hq
          have h2 := (i2 q hq).1 a (by simp)
          have := hg.1
          omega
      · rw [cost_append, plusSeg_cost, i3]
        simp only [cost]
        by_cases h1 : x ≤ b.hi
        · have e0 : cost bs x = none := cost_none bs x fun q hq => by have := hg.2.1 q hq; omega
          rw [e0]
          have hb : (b.lo ≤ x ∧ x ≤ b.hi) ↔ b.lo ≤ x := by omega
          have ha : (a.lo ≤ x ∧ x ≤ a.hi) ↔ a.lo ≤ x := by omega
          simp only [ha, hb]
          by_cases h2 : a.lo ≤ x
          · by_cases h3 : b.lo ≤ x <;> simp [h2, h3, optSum]
          · have e2 : cost as x = none := cost_none as x fun q hq => by have := hf.2.1 q hq; have := hf.1; omega
            simp [h2, e2, optSum]
        · have hb : ¬ (b.lo ≤ x ∧ x ≤ b.hi) := by omega
          simp only [hb, and_false, if_false, Option.none_or]
      · simp only [List.length_append, List.length_cons] at i4 ⊢
        have := plusSeg_length a b
        omega
termination_by x y => x.length + y.length
end K36
set_option Elab.async false
set_option linter.all false
namespace K36

/-! ## at_least -/
structure AL where
  rows : List Row
  lsf : Option Int
  behind : Int
def alStep (s : AL) (r : Row) : AL :=
  let e := r.at_ r.hi
  let l := match s.lsf with | none => e | some l => l
  let rows := match s.lsf with
    | none => s.rows
    | some l => if r.hi < s.behind - 1 then [⟨r.hi + 1, s.behind - 1, l, 0⟩] ++ s.rows else s.rows
  if r.st < 0 then ⟨[⟨r.lo, r.hi, pyMin l e, 0⟩] ++ rows, some (pyMin l e), r.lo⟩
  else ⟨lowerLine (r.pr, r.st) (l, 0) r.lo r.hi ++ rows, some (pyMin l r.pr), r.lo⟩
def atLeastRows (f : List Row) : List Row := (f.reverse.foldl alStep ⟨[], none, 0⟩).rows

/-- what holds behind each turn: the rows told so far ascend and stand from behind on; all costs within M -/
structure ALOk (M : Int) (s : AL) : Prop where
  asc : Asc s.rows
  low : ∀ r ∈ s.rows, s.behind ≤ r.lo
  lsf : ∀ l, s.lsf = some l → -M ≤ l ∧ l ≤ M
  non : s.lsf = none → s.rows = []
  cost : ∀ x c, K36.cost s.rows x = some c → -M ≤ c ∧ c ≤ M
theorem alStep_ok {M : Int} {s : AL} {r : Row} (h : ALOk M s) (hr : r.lo ≤ r.hi) (hb : s.lsf ≠ none → r.hi < s.behind) (hc : ∀ x, r.lo ≤ x → x ≤ r.hi → -M ≤ r.at_ x ∧ r.at_ x ≤ M) : ALOk M (alStep s r) ∧ (alStep s r).behind = r.lo ∧ (alStep s r).lsf ≠ none := by
  have he := hc r.hi hr (Int.le_refl _)
  have hl0 : r.at_ r.lo = r.pr := by simp [Row.at_]
  have hp := hc r.lo (Int.le_refl _) hr
  rw [hl0] at hp
  -- the rows with the gap
  have key : ∃ l rows, (match s.lsf with | none => r.at_ r.hi | some l => l) = l ∧ (match s.lsf with
    | none => s.rows
    | some l => if r.hi < s.behind - 1 then [⟨r.hi + 1, s.behind - 1, l, 0⟩] ++ s.rows else s.rows) = rows ∧ (-M ≤ l ∧ l ≤ M) ∧ Asc rows ∧ (∀ q ∈ rows, r.hi < q.lo) ∧ (∀ x c, K36.cost rows x = some c → -M ≤ c ∧ c ≤ M) := by
    cases e : s.lsf with
    | none =>
      have := h.non e
      exact ⟨_, _, rfl, rfl, he, h.asc, by rw [this]; simp, h.cost⟩
    | some l =>
      have hb' := hb (by rw [e]; simp)
      have hl := h.lsf l e
      refine ⟨_, _, rfl, rfl, hl, ?_⟩
      dsimp only
      split
      · rename_i g
        refine ⟨⟨by simp only; omega, fun q hq => ?_, h.asc⟩, fun q hq => ?_, fun x c hx => ?_⟩
        · have := h.low q hq; simp only; omega
        · rcases List.mem_cons.mp hq with rfl | hq
          · simp only; omega
          · have := h.low q hq; omega
        · have e2 : ([⟨r.hi + 1, s.behind - 1, l, 0⟩] ++ s.rows : List Row) = ⟨r.hi + 1, s.behind - 1, l, 0⟩ :: s.rows := rfl
          rw [e2] at hx
          simp only [K36.cost] at hx
          split at hx
          · simp [Row.at_] at hx
            subst hx; exact hl
          · exact h.cost x c hx
      · refine ⟨h.asc, fun q hq => ?_, h.cost⟩
        have := h.low q hq; omega
  obtain ⟨l, rows, e1, e2, hl, ha, hq, hcst⟩ := key
  unfold alStep
  dsimp only
  rw [e1, e2]
  have m1 := pyMin_eq l (r.at_ r.hi)
  have m2 := pyMin_eq l r.pr
  split
  · refine ⟨⟨⟨hr, hq, ha⟩, fun q hq' => ?_, fun l' hl' => ?_, fun z => by simp at z, fun x c hx => ?_⟩, rfl, by simp⟩
    · rcases List.mem_cons.mp hq' with rfl | hq'
      · simp
      · have := hq q hq'; simp only; omega
    · have e5 := Option.some.inj hl'; subst e5; omega
    · have e3 : ([⟨r.lo, r.hi, pyMin l (r.at_ r.hi), 0⟩] ++ rows : List Row) = ⟨r.lo, r.hi, pyMin l (r.at_ r.hi), 0⟩ :: rows := rfl
      rw [e3] at hx
      simp only [K36.cost] at hx
      split at hx
      · simp only [Row.at_, Int.zero_mul, Int.add_zero, Option.some.injEq] at hx
        simp only [Row.at_] at m1 he
        omega
      · exact hcst x c hx
  · have L := lowerLine_spec (r.pr, r.st) (l, 0) hr
    refine ⟨⟨Asc.append L.asc ha fun q hq' z hz => ?_, fun q hq' => ?_, fun l' hl' => ?_, fun z => by simp at z, fun x c hx => ?_⟩, rfl, by simp⟩
    · have := L.within q hq'; have := hq z hz; omega
    · rcases List.mem_append.mp hq' with hq' | hq'
      · exact (L.within q hq').1
      · have := hq q hq'; simp only; omega
    · have e5 := Option.some.inj hl'; subst e5; omega
    · rw [cost_append] at hx
      by_cases hx2 : r.lo ≤ x ∧ x ≤ r.hi
      · rw [L.cost x hx2.1 hx2.2] at hx
        simp only [Option.some_or, Option.some.injEq] at hx
        have h1 := hc x hx2.1 hx2.2
        have h2 : lineAt (r.pr, r.st) r.lo x = r.at_ x := rfl
        have h3 : lineAt (l, 0) r.lo x = l := by simp [lineAt]
        rw [h2, h3] at hx
        omega
      · rw [L.within.none (by omega), Option.none_or] at hx
        exact hcst x c hx
theorem atLeast_foldl {M : Int} : ∀ (f : List Row) (s : AL), Asc f.reverse → ALOk M s → (∀ r ∈ f, ∀ x, r.lo ≤ x → x ≤ r.hi → -M ≤ r.at_ x ∧ r.at_ x ≤ M) → (s.lsf ≠ none → ∀ r ∈ f, r.hi < s.behind) → ALOk M (f.foldl alStep s)
  | [], s, _, h, _, _ => h
  | r :: f, s, ha, h, hc, hb => by
    rw [List.reverse_cons] at ha
    have hr : r.lo ≤ r.hi := (Asc.right ha).1
    obtain ⟨h1, h2, h3⟩ := alStep_ok h hr (fun z => hb z r (by simp)) (hc r (by simp))
    refine atLeast_foldl f _ (Asc.left ha) h1 (fun q hq => hc q (by simp [hq])) fun _ q hq => ?_
    rw [h2]
    have : ∀ {a : List Row} {b : Row}, Asc (a ++ [b]) → ∀ q ∈ a, q.hi < b.lo := fun {a b} h => by
      induction a with
      | nil => simp
      | cons c a ih =>
        intro q hq
        rcases List.mem_cons.mp hq with rfl | hq
        · exact h.2.1 b (by simp)
        · exact ih h.2.2 q hq
    exact this ha q (by simp [hq])
theorem atLeast_spec {M : Int} {f : List Row} (ha : Asc f) (hc : ∀ r ∈ f, ∀ x, r.lo ≤ x → x ≤ r.hi → -M ≤ r.at_ x ∧ r.at_ x ≤ M) : ALOk M (f.reverse.foldl alStep ⟨[], none, 0⟩) :=
  atLeast_foldl f.reverse ⟨[], none, 0⟩ (by rw [List.reverse_reverse]; exact ha) ⟨trivial, by simp, by simp, fun _ => rfl, by simp [cost]⟩ (fun r hr => hc r (by simpa using hr)) (by simp)
theorem alStep_length (s : AL) (r : Row) (h : r.lo ≤ r.hi) : (alStep s r).rows.length ≤ s.rows.length + 3 := by
  unfold alStep
  dsimp only
  have h2 := fun a => (lowerLine_spec (r.pr, r.st) (a, 0) h).len
  split <;> simp only [List.length_append]
  · cases s.lsf with
    | none => simp <;> omega
    | some l => dsimp only; split <;> simp <;> omega
  · cases s.lsf with
    | none => have := h2 (r.at_ r.hi); dsimp only; omega
    | some l => 
      have := h2 l
      dsimp only; split <;> simp <;> omega
theorem alFold_length : ∀ (f : List Row) (s : AL), (∀ r ∈ f, r.lo ≤ r.hi) → (f.foldl alStep s).rows.length ≤ s.rows.length + 3 * f.length
  | [], s, _ => by simp
  | r :: f, s, h => by
    have h1 := alFold_length f (alStep s r) fun q hq => h q (by simp [hq])
    have h2 := alStep_length s r (h r (by simp))
    simp only [List.foldl_cons, List.length_cons]
    omega
/-- all rows told lie within the form's own amounts -/
theorem alStep_within {s : AL} {r : Row} {A B : Int} (h : r.lo ≤ r.hi) (h1 : A ≤ r.lo) (h2 : r.hi ≤ B) (hs : Within A B s.rows) (hb : s.lsf ≠ none → A ≤ s.behind ∧ s.behind ≤ B) : Within A B (alStep s r).rows := by
  have key : Within A B (match s.lsf with
    | none => s.rows
    | some l => if r.hi < s.behind - 1 then [⟨r.hi + 1, s.behind - 1, l, 0⟩] ++ s.rows else s.rows) := by
    cases e : s.lsf with
    | none => exact hs
    | some l =>
      have := hb (by rw [e]; simp)
      dsimp only
      split
      · intro q hq
        rcases List.mem_cons.mp hq with rfl | hq
        · simp only; omega
        · exact hs q hq
      · exact hs
  unfold alStep
  dsimp only
  split
  · intro q hq
    rcases List.mem_cons.mp hq with rfl | hq
    · exact ⟨h1, h2⟩
    · exact key q hq
  · intro q hq
    rcases List.mem_append.mp hq with hq | hq
    · have := (lowerLine_spec (r.pr, r.st) _ h).within q hq
      omega
    · exact key q hq
theorem alFold_within {A B : Int} : ∀ (f : List Row) (s : AL), (∀ r ∈ f, r.lo ≤ r.hi ∧ A ≤ r.lo ∧ r.hi ≤ B) → Within A B s.rows → (s.lsf ≠ none → A ≤ s.behind ∧ s.behind ≤ B) → Within A B (f.foldl alStep s).rows
  | [], s, _, hs, _ => hs
  | r :: f, s, h, hs, hb => by
    have h0 := h r (by simp)
    refine alFold_within f (alStep s r) (fun q hq => h q (by simp [hq])) (alStep_within h0.1 h0.2.1 h0.2.2 hs hb) fun _ => ?_
    have : (alStep s r).behind = r.lo := by unfold alStep; dsimp only; split <;> rfl
    rw [this]; omega

/-! ## leaves -/
def bandRows : Int → List (Int × Int) → List Row
  | _, [] => []
  | low, (top, unit) :: r => ⟨low, top, unit * low, unit⟩ :: bandRows (top + 1) r
def bandAt : List (Int × Int) → Int → Option Int
  | [], _ => none
  | (top, unit) :: r, x => if x ≤ top then some (x * unit) else bandAt r x
/-- ascending tops, from a low on -/
def TopsFrom : Int → List (Int × Int) → Prop
  | _, [] => True
  | low, (top, _) :: r => low ≤ top ∧ TopsFrom (top + 1) r
theorem band_low : ∀ (rows : List (Int × Int)) (low : Int), TopsFrom low rows → ∀ q ∈ bandRows low rows, low ≤ q.lo
  | [], _, _ => by simp [bandRows]
  | (top, unit) :: r, low, h => by
    intro q hq
    rcases List.mem_cons.mp hq with rfl | hq
    · simp
    · have := band_low r (top + 1) h.2 q hq
      have := h.1; omega
theorem band_spec : ∀ (rows : List (Int × Int)) (low : Int), TopsFrom low rows → Asc (bandRows low rows) ∧ ∀ x, cost (bandRows low rows) x = if x < low then none else bandAt rows x
  | [], low, _ => ⟨trivial, fun x => by simp [bandRows, cost, bandAt]⟩
  | (top, unit) :: r, low, h => by
    obtain ⟨i1, i2⟩ := band_spec r (top + 1) h.2
    have hl := band_low r (top + 1) h.2
    refine ⟨⟨h.1, fun q hq => by have := hl q hq; simp only; omega, i1⟩, fun x => ?_⟩
    have h1 := h.1
    simp only [bandRows, cost, bandAt, i2]
    by_cases c1 : x < low
    · rw [if_pos c1, if_neg (by omega), if_pos (by omega)]
    · rw [if_neg c1]
      by_cases c2 : x ≤ top
      · rw [if_pos (by omega), if_pos c2]
        simp only [Row.at_, Option.some.injEq]
        rw [Int.mul_sub, Int.mul_comm x unit]; omega
      · rw [if_neg (by omega), if_neg c2, if_neg (by omega)]
def stepRows : Int → Int → List (Int × Int) → List Row
  | _, _, [] => []
  | price, done, (top, unit) :: r => if top > done then ⟨done + 1, top, price + unit, unit⟩ :: stepRows (price + unit * (top - done)) top r else stepRows price done r
def stepSum : Int → Int → Int → List (Int × Int) → Int
  | _, told, _, [] => told
  | x, told, done, (top, unit) :: r => stepSum x (told + unit * (pyMin x top - done)) (pyMin x top) r
def lastTop : Int → List (Int × Int) → Int
  | t, [] => t
  | _, (top, _) :: r => lastTop top r
theorem step_low : ∀ (rows : List (Int × Int)) (price done : Int), ∀ q ∈ stepRows price done rows, done + 1 ≤ q.lo
  | [], _, _ => by simp [stepRows]
  | (top, unit) :: r, price, done => by
    intro q hq
    unfold stepRows at hq
    split at hq
    · rcases List.mem_cons.mp hq with rfl | hq
      · simp
      · have := step_low r _ _ q hq
        omega
    · exact step_low r _ _ q hq
/-- tops that do not fall below done -/
def TopsUp : Int → List (Int × Int) → Prop
  | _, [] => True
  | done, (top, _) :: r => done ≤ top ∧ TopsUp top r
theorem lastTop_ge : ∀ (rows : List (Int × Int)) (t : Int), TopsUp t rows → t ≤ lastTop t rows
  | [], t, _ => by simp [lastTop]
  | (top, _) :: r, t, h => by
    have := lastTop_ge r top h.2
    have := h.1
    simp only [lastTop]; omega
theorem stepSum_stay : ∀ (rows : List (Int × Int)) (x told : Int), TopsUp x rows → stepSum x told x rows = told
  | [], x, told, _ => rfl
  | (top, unit) :: r, x, told, h => by
    have h1 := h.1
    have e : pyMin x top = x := by rw [pyMin_eq]; omega
    unfold stepSum
    rw [e, Int.sub_self, Int.mul_zero, Int.add_zero]
    refine stepSum_stay r x told ?_
    have mono : ∀ (rows : List (Int × Int)) (a b : Int), a ≤ b → TopsUp b rows → TopsUp a rows := fun rows a b hab hb => by
      cases rows with
      | nil => trivial
      | cons p r => exact ⟨by have := hb.1; omega, hb.2⟩
    exact mono r x top h1 h.2
theorem step_spec : ∀ (rows : List (Int × Int)) (price done : Int), TopsUp done rows → Asc (stepRows price done rows) ∧ ∀ x, done < x → cost (stepRows price done rows) x = if x ≤ lastTop done rows then some (stepSum x price done rows) else none
  | [], price, done, _ => ⟨trivial, fun x hx => by rw [if_neg (show ¬ x ≤ lastTop done [] from by simp only [lastTop]; omega)]; rfl⟩
  | (top, unit) :: r, price, done, h => by
    have h1 := h.1
    have lg := lastTop_ge r top h.2
    unfold stepRows
    by_cases c : top > done
    · rw [if_pos c]
      obtain ⟨i1, i2⟩ := step_spec r (price + unit * (top - done)) top h.2
      have hl := step_low r (price + unit * (top - done)) top
      refine ⟨⟨by simp only; omega, fun q hq => by have := hl q hq; simp only; omega, i1⟩, fun x hx => ?_⟩
      have el : lastTop done ((top, unit) :: r) = lastTop top r := rfl
      have es : stepSum x price done ((top, unit) :: r) = stepSum x (price + unit * (pyMin x top - done)) (pyMin x top) r := rfl
      rw [el, es]
      simp only [cost]
      by_cases c2 : x ≤ top
      · rw [if_pos (show done + 1 ≤ x ∧ x ≤ top by omega), if_pos (show x ≤ lastTop top r by omega)]
        have e : pyMin x top = x := by rw [pyMin_eq]; omega
        have tu : TopsUp x r := by
          cases r with
          | nil => trivial
          | cons p r => exact ⟨by have := h.2.1; omega, h.2.2⟩
        rw [e, stepSum_stay r x _ tu]
        simp only [Row.at_, Option.some.injEq]
        have : x - done = 1 + (x - (done + 1)) := by omega
        rw [this, Int.mul_add]; omega
      · rw [if_neg (show ¬ (done + 1 ≤ x ∧ x ≤ top) by omega), i2 x (by omega)]
        have e : pyMin x top = top := by rw [pyMin_eq]; omega
        rw [e]
    · rw [if_neg c]
      have e0 : top = done := by omega
      subst e0
      obtain ⟨i1, i2⟩ := step_spec r price top h.2
      refine ⟨i1, fun x hx => ?_⟩
      have el : lastTop top ((top, unit) :: r) = lastTop top r := rfl
      have es : stepSum x price top ((top, unit) :: r) = stepSum x (price + unit * (pyMin x top - top)) (pyMin x top) r := rfl
      have e : pyMin x top = top := by rw [pyMin_eq]; omega
      rw [el, es, e, Int.sub_self, Int.mul_zero, Int.add_zero]
      exact i2 x hx
def blockRows (size price : Int) (many : Nat) : List Row := (List.range many).map fun (k : Nat) => ⟨size * k + 1, size * (k + 1), price * (k + 1), 0⟩
theorem up_spec {x s : Int} (hs : 0 < s) {k : Int} (h1 : s * k + 1 ≤ x) (h2 : x ≤ s * (k + 1)) : up x s = k + 1 := by
  have a : up x s ≤ k + 1 := (up_iff hs).mpr (by rw [Int.mul_comm]; exact h2)
  have b : ¬ up x s ≤ k := fun z => by
    have := (up_iff hs).mp z
    rw [Int.mul_comm] at this; omega
  omega
theorem block_spec {size price : Int} (hs : 1 ≤ size) : ∀ many : Nat, Asc (blockRows size price many) ∧ (∀ q ∈ blockRows size price many, 1 ≤ q.lo ∧ q.hi ≤ size * many) ∧
    ∀ x, cost (blockRows size price many) x = if x < 1 ∨ x > size * many then none else some (price * up x size)
  | 0 => ⟨trivial, by simp [blockRows], fun x => by simp [blockRows, cost]; omega⟩
  | m + 1 => by
    obtain ⟨i1, i2, i3⟩ := block_spec hs m
    have e : blockRows size price (m + 1) = blockRows size price m ++ [⟨size * m + 1, size * (m + 1), price * (m + 1), 0⟩] := by
      unfold blockRows; rw [List.range_succ, List.map_append]; rfl
    have e1 : size * ((m : Int) + 1) = size * m + size := by rw [Int.mul_add, Int.mul_one]
    have e2 : ((m + 1 : Nat) : Int) = (m : Int) + 1 := by omega
    have h0 : 0 ≤ size * (m : Int) := Int.mul_nonneg (by omega) (by omega)
    rw [e, e2]
    refine ⟨Asc.append i1 ⟨by simp only; omega, by simp, trivial⟩ fun q hq z hz => ?_, fun q hq => ?_, fun x => ?_⟩
    · rw [List.mem_singleton] at hz; subst hz
      have := (i2 q hq).2; simp only; omega
    · rcases List.mem_append.mp hq with hq | hq
      · have := i2 q hq; omega
      · rw [List.mem_singleton] at hq; subst hq
        simp only; omega
    · have key : cost [⟨size * m + 1, size * (m + 1), price * (m + 1), 0⟩] x = if size * m + 1 ≤ x ∧ x ≤ size * ((m : Int) + 1) then some (price * ((m : Int) + 1)) else none := by
        simp only [cost]
        split <;> simp [Row.at_]
      rw [cost_append, i3, key]
      by_cases c1 : x < 1
      · rw [if_pos (show x < 1 ∨ x > size * (m : Int) from .inl c1), if_neg (show ¬ (size * m + 1 ≤ x ∧ x ≤ size * ((m : Int) + 1)) by omega), if_pos (show x < 1 ∨ x > size * ((m : Int) + 1) from .inl c1)]; rfl
      · by_cases c2 : x > size * m
        · rw [if_pos (show x < 1 ∨ x > size * (m : Int) from .inr c2)]
          by_cases c3 : x > size * ((m : Int) + 1)
          · rw [if_pos (show x < 1 ∨ x > size * ((m : Int) + 1) from .inr c3), if_neg (show ¬ (size * m + 1 ≤ x ∧ x ≤ size * ((m : Int) + 1)) by omega)]; rfl
          · rw [if_neg (show ¬ (x < 1 ∨ x > size * ((m : Int) + 1)) by omega), if_pos (show size * m + 1 ≤ x ∧ x ≤ size * ((m : Int) + 1) by omega), up_spec (k := m) (by omega) (by omega) (by omega)]; rfl
        · rw [if_neg (show ¬ (x < 1 ∨ x > size * (m : Int)) by omega), if_neg (show ¬ (x < 1 ∨ x > size * ((m : Int) + 1)) by omega), Option.some_or]
end K36
set_option Elab.async false
set_option linter.all false
namespace K36

theorem lineFrom_at : ∀ {f : List Row} {k : Nat} {r : Row} {x : Int}, Asc f → f[k]? = some r → r.lo ≤ x → x ≤ r.hi → lineFrom f x = some (r.at_ x, r.st)
  | [], k, r, x, _, hk, _, _ => by simp at hk
  | a :: f, 0, r, x, _, hk, h1, h2 => by
    simp at hk; subst hk
    simp only [lineFrom]; rw [if_pos ⟨h1, h2⟩]
  | a :: f, k + 1, r, x, h, hk, h1, h2 => by
    simp at hk
    simp only [lineFrom]
    have := h.2.1 r (List.mem_of_getElem? hk)
    rw [if_neg (by omega)]
    exact lineFrom_at h.2.2 hk h1 h2
theorem asc_get {f : List Row} (h : Asc f) {i j : Nat} {a b : Row} (hij : i < j) (ha : f[i]? = some a) (hb : f[j]? = some b) : a.hi < b.lo := by
  induction f generalizing i j with
  | nil => simp at ha
  | cons r f ih =>
    cases j with
    | zero => omega
    | succ j =>
      cases i with
      | zero =>
        simp at ha hb
        subst ha
        exact h.2.1 b (List.mem_of_getElem? hb)
      | succ i => exact ih (i := i) (j := j) h.2.2 (by omega) ha hb
theorem lineFrom_gap {f : List Row} {k : Nat} {x : Int} (h : Asc f) (hb : ∀ (i : Nat) r, i < k → f[i]? = some r → r.hi < x) (hk : ∀ r, f[k]? = some r → x < r.lo) : lineFrom f x = none := by
  refine lineFrom_none fun r hr => ?_
  obtain ⟨i, hi, e⟩ := List.getElem_of_mem hr
  have e' : f[i]? = some r := by rw [List.getElem?_eq_getElem hi, e]
  by_cases c : i < k
  · exact .inr (hb i r c e')
  · by_cases c2 : i = k
    · subst c2; exact .inl (hk r e')
    · left
      have hkl : k < f.length := by omega
      have h1 := hk f[k] (List.getElem?_eq_getElem hkl)
      have h2 := asc_get h (show k < i by omega) (List.getElem?_eq_getElem hkl) e'
      have h3 := h.le f[k] (List.getElem_mem hkl)
      omega

/-! ## rules -/
inductive Nm where
  | p | qq | ptop
  deriving DecidableEq
inductive Plan where
  | each (u lo hi : Int) | flat (p lo hi : Int) | bands (rows : List (Int × Int)) | steps (rows : List (Int × Int)) | blocks (s p m : Int) | name (n : Nm)
  | plus (a b : Plan) | or_ (a b : Plan) | max_ (a b : Plan)
  | only (a : Plan) (lo hi : Int) | after (a : Plan) (c : Int) | fee (a : Plan) (p : Int) | roomy (a : Plan)

def fWithin (f : List Row) (lo hi : Int) : List Row := laid (withinRows f lo hi)
def fWithout (f : List Row) (lo hi : Int) : List Row := laid (withoutRows f lo hi)
def fRaised (f : List Row) (p : Int) : List Row := laid (raisedRows f p)
def fFreed (f : List Row) (c : Int) : List Row := laid (freedRows f c)
def fPlus (f g : List Row) : List Row := laid (plusRows f g)
def fLeast (f g : List Row) : List Row := laid (leastRows f g)
def fGreatest (f g : List Row) : List Row := laid (greatestRows f g)
def fAtLeast (f : List Row) : List Row := laid (atLeastRows f)
def fFee (f : List Row) (p : Int) : List Row := fLeast (fWithin f 0 0) (fRaised (fWithout f 0 0) p)

abbrev Fo := Nm → List Row
def mk (F : Fo) : Plan → List Row
  | .each u lo hi => laid [⟨lo, hi, u * lo, u⟩]
  | .flat p lo hi => laid [⟨lo, hi, p, 0⟩]
  | .bands rows => laid (bandRows 0 rows)
  | .steps rows => laid (⟨0, 0, 0, 0⟩ :: stepRows 0 0 rows)
  | .blocks s p m => laid (⟨0, 0, 0, 0⟩ :: blockRows s p m.toNat)
  | .name n => F n
  | .plus a b => fPlus (mk F a) (mk F b)
  | .or_ a b => fLeast (mk F a) (mk F b)
  | .max_ a b => fGreatest (mk F a) (mk F b)
  | .only a lo hi => fWithin (mk F a) lo hi
  | .after a c => fFreed (mk F a) c
  | .fee a p => fFee (mk F a) p
  | .roomy a => fAtLeast (mk F a)
def feeCost (p x : Int) : Option Int → Option Int
  | none => none
  | some c => if x = 0 then some c else some (c + p)
def priced (F : Fo) : Plan → Int → Option Int
  | .each u lo hi, x => if lo ≤ x ∧ x ≤ hi then some (u * x) else none
  | .flat p lo hi, x => if lo ≤ x ∧ x ≤ hi then some p else none
  | .bands rows, x => if x < 0 then none else bandAt rows x
  | .steps rows, x => if x < 0 ∨ x > lastTop 0 rows then none else some (stepSum x 0 0 rows)
  | .blocks s p m, x => if x < 0 ∨ x > s * m then none else some (p * up x s)
  | .name n, x => cost (F n) x
  | .plus a b, x => optSum (priced F a x) (priced F b x)
  | .or_ a b, x => optLeast (priced F a x) (priced F b x)
  | .max_ a b, x => optGreatest (priced F a x) (priced F b x)
  | .only a lo hi, x => if lo ≤ x ∧ x ≤ hi then priced F a x else none
  | .after a c, x => if x < 0 then none else priced F a (pyMax 0 (x - c))
  | .fee a p, x => feeCost p x (priced F a x)
  | .roomy a, x => cost (fAtLeast (mk F a)) x
def weight : Plan → Nat
  | .plus a b => weight a + weight b
  | .or_ a b => weight a + weight b
  | .max_ a b => weight a + weight b
  | .only a _ _ => weight a + 1
  | .after a _ => weight a + 1
  | .fee a _ => weight a + 1
  | .roomy a => weight a + 1
  | _ => 1
/-- bounds of a leaf: amounts to A, prices to U -/
structure Lim where
  A : Int
  U : Int
  M : Int
  hA : 1 ≤ A
  hU : 1 ≤ U
  hM : U * A + 40 * U ≤ M
def RowsOk (L : Lim) (rows : List (Int × Int)) : Prop := rows ≠ [] ∧ TopsFrom 0 rows ∧ ∀ q ∈ rows, q.1 ≤ L.A ∧ -L.U ≤ q.2 ∧ q.2 ≤ L.U
def POk (L : Lim) : Plan → Prop
  | .each u lo hi => (-L.U ≤ u ∧ u ≤ L.U) ∧ 0 ≤ lo ∧ lo ≤ hi ∧ hi ≤ L.A
  | .flat p lo hi => (-L.U ≤ p ∧ p ≤ L.U) ∧ 0 ≤ lo ∧ lo ≤ hi ∧ hi ≤ L.A
  | .bands rows => RowsOk L rows
  | .steps rows => RowsOk L rows
  | .blocks s p m => 1 ≤ s ∧ (-L.U ≤ p ∧ p ≤ L.U) ∧ 1 ≤ m ∧ m ≤ 40 ∧ s * m ≤ L.A
  | .name _ => True
  | .plus a b => POk L a ∧ POk L b
  | .or_ a b => POk L a ∧ POk L b
  | .max_ a b => POk L a ∧ POk L b
  | .only a _ _ => POk L a
  | .after a c => POk L a ∧ 0 ≤ c ∧ c ≤ L.A
  | .fee a p => POk L a ∧ -L.U ≤ p ∧ p ≤ L.U
  | .roomy a => POk L a
/-- a form within bounds -/
structure Good (L : Lim) (w : Nat) (f : List Row) : Prop where
  form : IsForm f
  bd : ∀ x c, cost f x = some c → (-((w : Int) * L.A) ≤ x ∧ x ≤ (w : Int) * L.A) ∧ (-((w : Int) * L.M) ≤ c ∧ c ≤ (w : Int) * L.M)
theorem Lim.M0 (L : Lim) : L.U ≤ L.M ∧ 1 ≤ L.M ∧ L.U * L.A ≤ L.M := by
  have h1 := L.hA
  have h2 := L.hU
  have h3 := L.hM
  have h4 : 0 ≤ L.U * L.A := Int.mul_nonneg (by omega) (by omega)
  omega
theorem mul_bd {U a u x : Int} (hu : -U ≤ u ∧ u ≤ U) (hx : -a ≤ x ∧ x ≤ a) : -(U * a) ≤ u * x ∧ u * x ≤ U * a := by
  have h1 : (u * x).natAbs ≤ U.natAbs * a.natAbs := by
    rw [Int.natAbs_mul]
    exact Nat.mul_le_mul (by omega) (by omega)
  have h2 : (U * a).natAbs = U.natAbs * a.natAbs := Int.natAbs_mul U a
  have h3 : 0 ≤ U * a := Int.mul_nonneg (by omega) (by omega)
  omega
theorem Good.rows {L : Lim} {w : Nat} {rows : List Row} (h : Asc rows) (hb : ∀ x c, cost rows x = some c → (-((w : Int) * L.A) ≤ x ∧ x ≤ (w : Int) * L.A) ∧ (-((w : Int) * L.M) ≤ c ∧ c ≤ (w : Int) * L.M)) : Good L w (laid rows) :=
  ⟨laid_form h, fun x c e => hb x c (by rw [← laid_cost h]; exact e)⟩
theorem wmono {L : Lim} {w w' : Nat} (h : w ≤ w') {x c : Int} (hb : (-((w : Int) * L.A) ≤ x ∧ x ≤ (w : Int) * L.A) ∧ (-((w : Int) * L.M) ≤ c ∧ c ≤ (w : Int) * L.M)) : (-((w' : Int) * L.A) ≤ x ∧ x ≤ (w' : Int) * L.A) ∧ (-((w' : Int) * L.M) ≤ c ∧ c ≤ (w' : Int) * L.M) := by
  have h1 : (w : Int) * L.A ≤ (w' : Int) * L.A := Int.mul_le_mul_of_nonneg_right (by omega) (by have := L.hA; omega)
  have h2 : (w : Int) * L.M ≤ (w' : Int) * L.M := Int.mul_le_mul_of_nonneg_right (by omega) (by have := L.M0; omega)
  omega
theorem Good.mono {L : Lim} {w w' : Nat} {f : List Row} (g : Good L w f) (h : w ≤ w') : Good L w' f := ⟨g.form, fun x c e => wmono h (g.bd x c e)⟩

theorem bandAt_bd {L : Lim} : ∀ {rows : List (Int × Int)} {x c : Int}, 0 ≤ x → (∀ q ∈ rows, q.1 ≤ L.A ∧ -L.U ≤ q.2 ∧ q.2 ≤ L.U) → bandAt rows x = some c → x ≤ L.A ∧ (-(L.U * L.A) ≤ c ∧ c ≤ L.U * L.A)
  | [], x, c, _, _, e => by simp [bandAt] at e
  | (top, unit) :: r, x, c, h0, h, e => by
    simp only [bandAt] at e
    split at e
    · rename_i hx
      have e' := Option.some.inj e
      have h1 := h (top, unit) (by simp)
      simp only at h1
      have := mul_bd (U := L.U) (a := L.A) (u := unit) (x := x) h1.2 (by omega)
      rw [Int.mul_comm] at e'
      omega
    · exact bandAt_bd h0 (fun q hq => h q (by simp [hq])) e
theorem stepSum_bd {L : Lim} : ∀ {rows : List (Int × Int)} {x told done : Int}, done ≤ x → TopsUp done rows → (∀ q ∈ rows, -L.U ≤ q.2 ∧ q.2 ≤ L.U) → told - L.U * (x - done) ≤ stepSum x told done rows ∧ stepSum x told done rows ≤ told + L.U * (x - done)
  | [], x, told, done, h, _, _ => by
    have : 0 ≤ L.U * (x - done) := Int.mul_nonneg (by have := L.hU; omega) (by omega)
    simp only [stepSum]; omega
  | (top, unit) :: r, x, told, done, h, ht, hu => by
    simp only [stepSum]
    have hm := pyMin_eq x top
    have h1 := ht.1
    have tu : TopsUp (pyMin x top) r := by
      cases r with
      | nil => trivial
      | cons p r => exact ⟨by have := ht.2.1; omega, ht.2.2⟩
    have ih := stepSum_bd (rows := r) (x := x) (told := told + unit * (pyMin x top - done)) (done := pyMin x top) (by omega) tu fun q hq => hu q (by simp [hq])
    have b := mul_bd (U := L.U) (a := pyMin x top - done) (u := unit) (x := pyMin x top - done) (hu (top, unit) (by simp)) (by omega)
    have e : L.U * (x - done) = L.U * (pyMin x top - done) + L.U * (x - pyMin x top) := by rw [← Int.mul_add]; congr 1; omega
    omega
theorem topsUp_of : ∀ {rows : List (Int × Int)} {a : Int}, TopsFrom a rows → TopsUp a rows
  | [], _, _ => trivial
  | (top, _) :: r, a, h => by
    refine ⟨h.1, ?_⟩
    have := topsUp_of h.2
    cases r with
    | nil => trivial
    | cons p r => exact ⟨by have := this.1; omega, this.2⟩
theorem lastTop_le {L : Lim} : ∀ {rows : List (Int × Int)} {t : Int}, t ≤ L.A → (∀ q ∈ rows, q.1 ≤ L.A) → lastTop t rows ≤ L.A
  | [], t, h, _ => h
  | (top, u) :: r, t, _, h => lastTop_le (rows := r) (t := top) (h (top, u) (by simp)) fun q hq => h q (by simp [hq])

theorem Good.at_bd {L : Lim} {w : Nat} {f : List Row} (g : Good L w f) {r : Row} (hr : r ∈ f) {x : Int} (h1 : r.lo ≤ x) (h2 : x ≤ r.hi) : (-((w : Int) * L.A) ≤ x ∧ x ≤ (w : Int) * L.A) ∧ (-((w : Int) * L.M) ≤ r.at_ x ∧ r.at_ x ≤ (w : Int) * L.M) :=
  g.bd x _ (cost_in g.form.asc hr h1 h2)
/-- a stretch's numbers -/
theorem Good.row {L : Lim} {w : Nat} {f : List Row} (g : Good L w f) {r : Row} (hr : r ∈ f) : r.lo ≤ r.hi ∧ (-((w : Int) * L.A) ≤ r.lo ∧ r.hi ≤ (w : Int) * L.A) ∧ (-((w : Int) * L.M) ≤ r.pr ∧ r.pr ≤ (w : Int) * L.M) ∧ (-(2 * ((w : Int) * L.M)) ≤ r.st ∧ r.st ≤ 2 * ((w : Int) * L.M)) := by
  have ok := g.form.ok_at r hr
  have h1 := g.at_bd hr (Int.le_refl _) ok.1
  have h2 := g.at_bd hr ok.1 (Int.le_refl _)
  have e0 : r.at_ r.lo = r.pr := by simp [Row.at_]
  rw [e0] at h1
  refine ⟨ok.1, ⟨h1.1.1, h2.1.2⟩, h1.2, ?_⟩
  by_cases c : r.lo = r.hi
  · rw [ok.2 c]
    have := L.M0
    have : 0 ≤ (w : Int) * L.M := Int.mul_nonneg (by omega) (by omega)
    omega
  · have h3 := g.at_bd hr (x := r.lo + 1) (by omega) (by have := ok.1; omega)
    have e1 : r.at_ (r.lo + 1) = r.pr + r.st := by
      unfold Row.at_
      rw [show r.lo + 1 - r.lo = 1 by omega, Int.mul_one]
    rw [e1] at h3
    omega

theorem optLeast_bd {L : Lim} {w1 w2 : Nat} {a b : Option Int} {x c : Int} (h1 : ∀ c, a = some c → (-((w1 : Int) * L.A) ≤ x ∧ x ≤ (w1 : Int) * L.A) ∧ (-((w1 : Int) * L.M) ≤ c ∧ c ≤ (w1 : Int) * L.M))
    (h2 : ∀ c, b = some c → (-((w2 : Int) * L.A) ≤ x ∧ x ≤ (w2 : Int) * L.A) ∧ (-((w2 : Int) * L.M) ≤ c ∧ c ≤ (w2 : Int) * L.M)) (e : optLeast a b = some c) : (-(((w1 + w2 : Nat) : Int) * L.A) ≤ x ∧ x ≤ ((w1 + w2 : Nat) : Int) * L.A) ∧ (-(((w1 + w2 : Nat) : Int) * L.M) ≤ c ∧ c ≤ ((w1 + w2 : Nat) : Int) * L.M) := by
  cases a with
  | none => exact wmono (by omega) (h2 c (by simpa [optLeast] using e))
  | some p =>
    cases b with
    | none => exact wmono (by omega) (h1 c (by simpa [optLeast] using e))
    | some q =>
      have e' : pyMin p q = c := by simpa [optLeast] using e
      rw [pyMin_eq] at e'
      by_cases k : p ≤ q
      · have : p = c := by omega
        subst this
        exact wmono (by omega) (h1 p rfl)
      · have : q = c := by omega
        subst this
        exact wmono (by omega) (h2 q rfl)

theorem good_plus {L : Lim} {w1 w2 : Nat} {f g : List Row} (hf : Good L w1 f) (hg : Good L w2 g) : Good L (w1 + w2) (fPlus f g) ∧ ∀ x, cost (fPlus f g) x = optSum (cost f x) (cost g x) := by
  obtain ⟨h1, _, h3, _⟩ := plus_spec f g hf.form.asc hg.form.asc
  refine ⟨Good.rows h1 fun x c e => ?_, fun x => by unfold fPlus; rw [laid_cost h1, h3]⟩
  rw [h3] at e
  cases ef : cost f x with
  | none => rw [ef] at e; simp [optSum] at e
  | some p =>
    cases eg : cost g x with
    | none => rw [ef, eg] at e; simp [optSum] at e
    | some q =>
      rw [ef, eg] at e
      have e' : p + q = c := by simpa [optSum] using e
      have a := hf.bd x p ef
      have b := hg.bd x q eg
      have m := wmono (L := L) (show w1 ≤ w1 + w2 by omega) a
      have e1 : ((w1 + w2 : Nat) : Int) * L.M = (w1 : Int) * L.M + (w2 : Int) * L.M := by rw [Int.natCast_add, Int.add_mul]
      rw [e1]
      omega
theorem good_least {L : Lim} {w1 w2 : Nat} {f g : List Row} (hf : Good L w1 f) (hg : Good L w2 g) : Good L (w1 + w2) (fLeast f g) ∧ ∀ x, cost (fLeast f g) x = optLeast (cost f x) (cost g x) := by
  obtain ⟨h1, h3⟩ := least_spec f g
  refine ⟨Good.rows h1 fun x c e => ?_, fun x => by unfold fLeast; rw [laid_cost h1, h3]⟩
  rw [h3] at e
  exact optLeast_bd (hf.bd x) (hg.bd x) e
theorem good_greatest {L : Lim} {w1 w2 : Nat} {f g : List Row} (hf : Good L w1 f) (hg : Good L w2 g) : Good L (w1 + w2) (fGreatest f g) ∧ ∀ x, cost (fGreatest f g) x = optGreatest (cost f x) (cost g x) := by
  obtain ⟨h1, h3⟩ := greatest_spec f g
  refine ⟨Good.rows h1 fun x c e => ?_, fun x => by unfold fGreatest; rw [laid_cost h1, h3]⟩
  rw [h3] at e
  cases ef : cost f x with
  | none => rw [ef] at e; simp [optGreatest] at e
  | some p =>
    cases eg : cost g x with
    | none => rw [ef, eg] at e; simp [optGreatest] at e
    | some q =>
      rw [ef, eg] at e
      have e' : pyMax p q = c := by simpa [optGreatest] using e
      rw [pyMax_eq] at e'
      by_cases k : p ≤ q
      · have : q = c := by omega
        subst this
        exact wmono (by omega) (hg.bd x q eg)
      · have : p = c := by omega
        subst this
        exact wmono (by omega) (hf.bd x p ef)
theorem good_within {L : Lim} {w : Nat} {f : List Row} (hf : Good L w f) (lo hi : Int) : Good L w (fWithin f lo hi) ∧ ∀ x, cost (fWithin f lo hi) x = if lo ≤ x ∧ x ≤ hi then cost f x else none := by
  obtain ⟨h1, h3⟩ := within_spec hf.form.asc lo hi
  refine ⟨Good.rows h1 fun x c e => ?_, fun x => by unfold fWithin; rw [laid_cost h1, h3]⟩
  rw [h3] at e
  split at e
  · exact hf.bd x c e
  · cases e
theorem good_without {L : Lim} {w : Nat} {f : List Row} (hf : Good L w f) {lo hi : Int} (h : lo ≤ hi) : Good L w (fWithout f lo hi) ∧ ∀ x, cost (fWithout f lo hi) x = if lo ≤ x ∧ x ≤ hi then none else cost f x := by
  obtain ⟨h1, h3⟩ := without_spec hf.form.asc h
  refine ⟨Good.rows h1 fun x c e => ?_, fun x => by unfold fWithout; rw [laid_cost h1, h3]⟩
  rw [h3] at e
  split at e
  · cases e
  · exact hf.bd x c e
theorem good_raised {L : Lim} {w : Nat} {f : List Row} (hf : Good L w f) {p : Int} (hp : -L.U ≤ p ∧ p ≤ L.U) : Good L (w + 1) (fRaised f p) ∧ ∀ x, cost (fRaised f p) x = (cost f x).map (· + p) := by
  obtain ⟨h1, h3⟩ := raised_spec hf.form.asc p
  refine ⟨Good.rows h1 fun x c e => ?_, fun x => by unfold fRaised; rw [laid_cost h1, h3]⟩
  rw [h3] at e
  obtain ⟨q, e1, e2⟩ := Option.map_eq_some_iff.mp e
  have a := hf.bd x q e1
  have m := L.M0
  have hA := L.hA
  have x1 : ((w + 1 : Nat) : Int) * L.A = (w : Int) * L.A + L.A := by rw [Int.natCast_add, Int.add_mul]; simp
  have x2 : ((w + 1 : Nat) : Int) * L.M = (w : Int) * L.M + L.M := by rw [Int.natCast_add, Int.add_mul]; simp
  rw [x1, x2]
  omega
theorem good_freed {L : Lim} {w : Nat} {f : List Row} (hf : Good L w f) {c : Int} (hc : 0 ≤ c ∧ c ≤ L.A) : Good L (w + 1) (fFreed f c) ∧ ∀ x, cost (fFreed f c) x = if x < 0 then none else cost f (pyMax 0 (x - c)) := by
  obtain ⟨h1, h3⟩ := freed_spec hf.form.asc hc.1
  refine ⟨Good.rows h1 fun x q e => ?_, fun x => by unfold fFreed; rw [laid_cost h1, h3]⟩
  rw [h3] at e
  split at e
  · cases e
  · have a := hf.bd _ q e
    have m := pyMax_eq 0 (x - c)
    have x1 : ((w + 1 : Nat) : Int) * L.A = (w : Int) * L.A + L.A := by rw [Int.natCast_add, Int.add_mul]; simp
    have x2 : ((w + 1 : Nat) : Int) * L.M = (w : Int) * L.M + L.M := by rw [Int.natCast_add, Int.add_mul]; simp
    have := L.M0
    rw [x1, x2]
    omega
theorem good_fee {L : Lim} {w : Nat} {f : List Row} (hf : Good L w f) {p : Int} (hp : -L.U ≤ p ∧ p ≤ L.U) : Good L (w + 1) (fFee f p) ∧ ∀ x, cost (fFee f p) x = feeCost p x (cost f x) := by
  obtain ⟨a1, a2⟩ := good_within hf 0 0
  obtain ⟨b1, b2⟩ := good_without hf (Int.le_refl 0)
  obtain ⟨c1, c2⟩ := good_raised b1 hp
  obtain ⟨d1, d2⟩ := good_least a1 c1
  have key : ∀ x, cost (fFee f p) x = feeCost p x (cost f x) := fun x => by
    unfold fFee
    rw [d2, a2, c2, b2]
    by_cases h : x = 0
    · subst h
      rw [if_pos (by omega), if_pos (by omega)]
      cases cost f 0 <;> simp [optLeast, feeCost]
    · rw [if_neg (by omega), if_neg (by omega)]
      cases cost f x <;> simp [optLeast, feeCost, h]
  refine ⟨⟨d1.form, fun x c e => ?_⟩, key⟩
  rw [key] at e
  cases ef : cost f x with
  | none => rw [ef] at e; simp [feeCost] at e
  | some q =>
    rw [ef] at e
    have a := hf.bd x q ef
    have := L.M0
    have hA := L.hA
    have x1 : ((w + 1 : Nat) : Int) * L.A = (w : Int) * L.A + L.A := by rw [Int.natCast_add, Int.add_mul]; simp
    have x2 : ((w + 1 : Nat) : Int) * L.M = (w : Int) * L.M + L.M := by rw [Int.natCast_add, Int.add_mul]; simp
    rw [x1, x2]
    simp only [feeCost] at e
    split at e
    · have := Option.some.inj e; omega
    · have := Option.some.inj e; omega
theorem good_atLeast {L : Lim} {w : Nat} {f : List Row} (hf : Good L w f) : Good L w (fAtLeast f) ∧ Asc (atLeastRows f) := by
  have S := atLeast_spec (M := (w : Int) * L.M) hf.form.asc fun r hr x h1 h2 => (hf.at_bd hr h1 h2).2
  refine ⟨Good.rows S.asc fun x c e => ⟨?_, S.cost x c e⟩, S.asc⟩
  obtain ⟨r, hr, h1, h2, _⟩ := cost_mem e
  have W : Within (-((w : Int) * L.A)) ((w : Int) * L.A) (atLeastRows f) := alFold_within f.reverse ⟨[], none, 0⟩ (fun r hr => by
    have := hf.row (r := r) (by simpa using hr)
    omega) (by intro r hr; simp at hr) (by simp)
  have := W r hr
  omega

theorem plan_good {L : Lim} {F : Fo} (hF : ∀ n, Good L 1 (F n)) : ∀ p : Plan, POk L p → Good L (weight p) (mk F p) ∧ ∀ x, cost (mk F p) x = priced F p x
  | .each u lo hi, h => by
    obtain ⟨h1, h2, h3, h4⟩ := h
    have a : Asc [⟨lo, hi, u * lo, u⟩] := asc_one h3
    have e : ∀ x, cost [⟨lo, hi, u * lo, u⟩] x = if lo ≤ x ∧ x ≤ hi then some (u * x) else none := fun x => by
      simp only [cost, Row.at_]
      split
      · rw [Int.mul_sub]; congr 1; omega
      · rfl
    refine ⟨Good.rows a fun x c q => ?_, fun x => by unfold mk priced; rw [laid_cost a, e]⟩
    rw [e] at q
    split at q
    · have q' := Option.some.inj q
      have b := mul_bd (U := L.U) (a := L.A) (u := u) (x := x) h1 (by omega)
      have := L.M0
      simp only [weight, Int.natCast_one, Int.one_mul]; omega
    · cases q
  | .flat p lo hi, h => by
    obtain ⟨h1, h2, h3, h4⟩ := h
    have a : Asc [⟨lo, hi, p, 0⟩] := asc_one h3
    have e : ∀ x, cost [⟨lo, hi, p, 0⟩] x = if lo ≤ x ∧ x ≤ hi then some p else none := fun x => by
      simp only [cost, Row.at_]
      split
      · simp
      · rfl
    refine ⟨Good.rows a fun x c q => ?_, fun x => by unfold mk priced; rw [laid_cost a, e]⟩
    rw [e] at q
    split at q
    · have q' := Option.some.inj q
      have := L.M0
      simp only [weight, Int.natCast_one, Int.one_mul]; omega
    · cases q
  | .bands rows, h => by
    obtain ⟨h1, h2, h3⟩ := h
    obtain ⟨a, e⟩ := band_spec rows 0 h2
    refine ⟨Good.rows a fun x c q => ?_, fun x => by unfold mk priced; rw [laid_cost a, e]⟩
    rw [e] at q
    split at q
    · cases q
    · rename_i h0
      have b := bandAt_bd (L := L) (by omega) h3 q
      have := L.M0
      simp only [weight, Int.natCast_one, Int.one_mul]; omega
  | .steps rows, h => by
    obtain ⟨h1, h2, h3⟩ := h
    have tu := topsUp_of h2
    obtain ⟨a, e⟩ := step_spec rows 0 0 tu
    have lo := step_low rows 0 0
    have a' : Asc (⟨0, 0, 0, 0⟩ :: stepRows 0 0 rows) := ⟨by simp, fun q hq => by have := lo q hq; simp only; omega, a⟩
    have lg := lastTop_ge rows 0 tu
    have e' : ∀ x, cost (⟨0, 0, 0, 0⟩ :: stepRows 0 0 rows) x = if x < 0 ∨ x > lastTop 0 rows then none else some (stepSum x 0 0 rows) := fun x => by
      simp only [cost]
      by_cases c0 : x = 0
      · subst c0
        rw [if_pos (by omega), if_neg (show ¬ ((0 : Int) < 0 ∨ 0 > lastTop 0 rows) by omega), stepSum_stay rows 0 0 tu]
        simp [Row.at_]
      · rw [if_neg (show ¬ (0 ≤ x ∧ x ≤ 0) by omega)]
        by_cases c1 : x < 0
        · rw [if_pos (show x < 0 ∨ x > lastTop 0 rows from .inl c1)]
          exact cost_none _ x fun q hq => by have := lo q hq; omega
        · rw [e x (by omega)]
          by_cases c2 : x ≤ lastTop 0 rows
          · rw [if_pos c2, if_neg (show ¬ (x < 0 ∨ x > lastTop 0 rows) by omega)]
          · rw [if_neg c2, if_pos (show x < 0 ∨ x > lastTop 0 rows by omega)]
    refine ⟨Good.rows a' fun x c q => ?_, fun x => by unfold mk priced; rw [laid_cost a', e']⟩
    rw [e'] at q
    split at q
    · cases q
    · rename_i h0
      have q' := Option.some.inj q
      have b := stepSum_bd (L := L) (rows := rows) (x := x) (told := 0) (done := 0) (by omega) tu fun q hq => (h3 q hq).2
      have lt := lastTop_le (L := L) (rows := rows) (t := 0) (by have := L.hA; omega) fun q hq => (h3 q hq).1
      have m : L.U * (x - 0) ≤ L.U * L.A := Int.mul_le_mul_of_nonneg_left (by omega) (by have := L.hU; omega)
      have := L.M0
      simp only [weight, Int.natCast_one, Int.one_mul]; omega
  | .blocks s p m, h => by
    obtain ⟨h1, h2, h3, h4, h5⟩ := h
    obtain ⟨a, w, e⟩ := block_spec (size := s) (price := p) h1 m.toNat
    have em : ((m.toNat : Nat) : Int) = m := by omega
    rw [em] at w e
    have sm : 0 ≤ s * m := Int.mul_nonneg (by omega) (by omega)
    have a' : Asc (⟨0, 0, 0, 0⟩ :: blockRows s p m.toNat) := ⟨by simp, fun q hq => by have := (w q hq).1; simp only; omega, a⟩
    have u0 : up 0 s = 0 := by unfold up; simp
    have e' : ∀ x, cost (⟨0, 0, 0, 0⟩ :: blockRows s p m.toNat) x = if x < 0 ∨ x > s * m then none else some (p * up x s) := fun x => by
      simp only [cost]
      by_cases c0 : x = 0
      · subst c0
        rw [if_pos (by omega), if_neg (show ¬ ((0 : Int) < 0 ∨ 0 > s * m) by omega), u0]
        simp [Row.at_]
      · rw [if_neg (show ¬ (0 ≤ x ∧ x ≤ 0) by omega), e]
        by_cases c1 : x < 1 ∨ x > s * m
        · rw [if_pos c1, if_pos (show x < 0 ∨ x > s * m by omega)]
        · rw [if_neg c1, if_neg (show ¬ (x < 0 ∨ x > s * m) by omega)]
    refine ⟨Good.rows a' fun x c q => ?_, fun x => by unfold mk priced; rw [laid_cost a', e']⟩
    rw [e'] at q
    split at q
    · cases q
    · rename_i h0
      have q' := Option.some.inj q
      have u1 : up x s ≤ m := (up_iff (by omega)).mpr (by rw [Int.mul_comm]; omega)
      have u2 : ¬ up x s ≤ -1 := fun z => by have := (up_iff (show 0 < s by omega)).mp z; omega
      have b := mul_bd (U := L.U) (a := 40) (u := p) (x := up x s) h2 (by omega)
      have := L.M0
      have hM := L.hM
      have : 0 ≤ L.U * L.A := Int.mul_nonneg (by have := L.hU; omega) (by have := L.hA; omega)
      simp only [weight, Int.natCast_one, Int.one_mul]; omega
  | .name n, _ => ⟨hF n, fun _ => rfl⟩
  | .plus a b, h => by
    obtain ⟨a1, a2⟩ := plan_good hF a h.1
    obtain ⟨b1, b2⟩ := plan_good hF b h.2
    obtain ⟨c1, c2⟩ := good_plus a1 b1
    exact ⟨c1, fun x => by unfold mk priced; rw [c2, a2, b2]⟩
  | .or_ a b, h => by
    obtain ⟨a1, a2⟩ := plan_good hF a h.1
    obtain ⟨b1, b2⟩ := plan_good hF b h.2
    obtain ⟨c1, c2⟩ := good_least a1 b1
    exact ⟨c1, fun x => by unfold mk priced; rw [c2, a2, b2]⟩
  | .max_ a b, h => by
    obtain ⟨a1, a2⟩ := plan_good hF a h.1
    obtain ⟨b1, b2⟩ := plan_good hF b h.2
    obtain ⟨c1, c2⟩ := good_greatest a1 b1
    exact ⟨c1, fun x => by unfold mk priced; rw [c2, a2, b2]⟩
  | .only a lo hi, h => by
    obtain ⟨a1, a2⟩ := plan_good hF a h
    obtain ⟨c1, c2⟩ := good_within a1 lo hi
    exact ⟨c1.mono (Nat.le_succ _), fun x => by unfold mk priced; rw [c2, a2]⟩
  | .after a c, h => by
    obtain ⟨a1, a2⟩ := plan_good hF a h.1
    obtain ⟨c1, c2⟩ := good_freed a1 h.2
    exact ⟨c1, fun x => by unfold mk priced; rw [c2, a2]⟩
  | .fee a p, h => by
    obtain ⟨a1, a2⟩ := plan_good hF a h.1
    obtain ⟨c1, c2⟩ := good_fee a1 h.2
    exact ⟨c1, fun x => by unfold mk priced; rw [c2, a2]⟩
  | .roomy a, h => by
    obtain ⟨a1, a2⟩ := plan_good hF a h
    obtain ⟨c1, c2⟩ := good_atLeast a1
    exact ⟨c1.mono (Nat.le_succ _), fun x => rfl⟩

/-! ## more than sixty stretches -/
def most : Nat := 60
/-- neither the form nor a form within has more than sixty -/
def calm (F : Fo) : Plan → Bool
  | .plus a b => calm F a && calm F b && decide ((mk F (.plus a b)).length ≤ most)
  | .or_ a b => calm F a && calm F b && decide ((mk F (.or_ a b)).length ≤ most)
  | .max_ a b => calm F a && calm F b && decide ((mk F (.max_ a b)).length ≤ most)
  | .only a lo hi => calm F a && decide ((mk F (.only a lo hi)).length ≤ most)
  | .after a c => calm F a && decide ((mk F (.after a c)).length ≤ most)
  | .fee a p => calm F a && decide ((mk F (.fee a p)).length ≤ most)
  | .roomy a => calm F a && decide ((mk F (.roomy a)).length ≤ most)
  | p => decide ((mk F p).length ≤ most)
theorem calm_len {F : Fo} {p : Plan} (h : calm F p = true) : (mk F p).length ≤ 60 := by
  cases p <;> simp only [calm, Bool.and_eq_true, decide_eq_true_eq] at h <;> first | exact h | exact h.2
end K36
set_option Elab.async false
set_option linter.all false
set_option maxRecDepth 100000
set_option maxHeartbeats 2000000
/-! A data layer over the hand layer: readings that speak of data alone. -/
namespace K36
open PySem PySem.Spec PyProof.Rows L2

/-! ### data -/
inductive D where
  | non | bl (b : Bool) | int (i : Int) | str (x : PySem.Str)
  | tup (l : List D) | lst (l : List D)
  | scr (ns : List Int)
  | ins (C : Addr) (fs : List (PySem.Str × D))
  | dct (kvs : List (PySem.Str × D))

inductive DR (K : PySem.W.Frag) (H : Hp) : V → D → Prop where
  | non : DR K H .non .non
  | bl (b : Bool) : DR K H (.bl b) (.bl b)
  | int (i : Int) : DR K H (.int i) (.int i)
  | str (x : PySem.Str) : DR K H (.str x) (.str x)
  | tup {a : Addr} {vs : List V} {ds : List D} : H a = some (.tup vs) → vs.length = ds.length → (∀ (i : Nat) v d, vs[i]? = some v → ds[i]? = some d → DR K H v d) → DR K H (.ref a) (.tup ds)
  | lst {a : Addr} {vs : List V} {ds : List D} : H a = some (.lst vs) → vs.length = ds.length → (∀ (i : Nat) v d, vs[i]? = some v → ds[i]? = some d → DR K H v d) → DR K H (.ref a) (.lst ds)
  | scr {a : Addr} {ns : List Int} : SqL K H a (ns.map V.int) → DR K H (.ref a) (.scr ns)
  | ins {a C dx : Addr} {fs : List (PySem.Str × V)} {ds : List (PySem.Str × D)} : H a = some (.ins C dx fs) → fs.map (·.1) = ds.map (·.1) →
      (∀ (i : Nat) f v g d, fs[i]? = some (f, v) → ds[i]? = some (g, d) → DR K H v d) → DR K H (.ref a) (.ins C ds)
  | dct {a : Addr} {kvs : List (Key × V)} {ds : List (PySem.Str × D)} : H a = some (.dK kvs) → kvs.map (·.1) = ds.map (fun p => Sum.inr p.1) →
      (∀ (i : Nat) f v g d, kvs[i]? = some (f, v) → ds[i]? = some (g, d) → DR K H v d) → DR K H (.ref a) (.dct ds)

/-- lists of values and of data -/
def Rl (K : PySem.W.Frag) (H : Hp) (vs : List V) (ds : List D) : Prop := vs.length = ds.length ∧ ∀ (i : Nat) v d, vs[i]? = some v → ds[i]? = some d → DR K H v d

section
variable {K : PySem.W.Frag} {H H' : Hp} {v w : V} {d e : D} {vs ws : List V} {ds es : List D}

theorem DR.mono (h : DR K H v d) (s : Same H H') : DR K H' v d := by
  induction h with
  | non => exact .non
  | bl b => exact .bl b
  | int i => exact .int i
  | str x => exact .str x
  | tup h1 h2 _ ih => exact .tup (s _ _ h1) h2 ih
  | lst h1 h2 _ ih => exact .lst (s _ _ h1) h2 ih
  | scr h => exact .scr (s.seq h)
  | ins h1 h2 _ ih => exact .ins (s _ _ h1) h2 ih
  | dct h1 h2 _ ih => exact .dct (s _ _ h1) h2 ih
theorem Rl.mono (h : Rl K H vs ds) (s : Same H H') : Rl K H' vs ds := ⟨h.1, fun i v d a b => (h.2 i v d a b).mono s⟩
theorem Rl.nil : Rl K H [] [] := ⟨rfl, fun i v d a _ => by simp at a⟩
theorem Rl.cons (h : DR K H v d) (r : Rl K H vs ds) : Rl K H (v :: vs) (d :: ds) := by
  refine ⟨congrArg Nat.succ r.1, fun i w e a b => ?_⟩
  cases i with
  | zero =>
    simp at a b
    subst a; subst b
    exact h
  | succ i => exact r.2 i w e (by simpa using a) (by simpa using b)
theorem Rl.head (r : Rl K H (v :: vs) (d :: ds)) : DR K H v d := r.2 0 v d rfl rfl
theorem Rl.tail (r : Rl K H (v :: vs) (d :: ds)) : Rl K H vs ds := ⟨Nat.succ.inj r.1, fun i w e a b => r.2 (i + 1) w e (by simpa using a) (by simpa using b)⟩
theorem Rl.nil_inv (r : Rl K H vs []) : vs = [] := List.eq_nil_of_length_eq_zero r.1
theorem Rl.cons_inv (r : Rl K H vs (d :: ds)) : ∃ v ws, vs = v :: ws ∧ DR K H v d ∧ Rl K H ws ds := by
  cases vs with
  | nil => exact absurd r.1 (by simp)
  | cons v ws => exact ⟨v, ws, rfl, r.head, r.tail⟩
theorem Rl.append (r : Rl K H vs ds) (q : Rl K H ws es) : Rl K H (vs ++ ws) (ds ++ es) := by
  induction ds generalizing vs with
  | nil =>
    have := r.nil_inv
    subst this
    exact q
  | cons d ds ih =>
    obtain ⟨v, us, rfl, h1, h2⟩ := r.cons_inv
    exact Rl.cons h1 (ih h2)
theorem Rl.get (r : Rl K H vs ds) {i : Nat} (h : ds[i]? = some d) : ∃ v, vs[i]? = some v ∧ DR K H v d := by
  obtain ⟨hi, e⟩ := List.getElem?_eq_some_iff.mp h
  have hi' : i < vs.length := by rw [r.1]; exact hi
  exact ⟨vs[i], List.getElem?_eq_getElem hi', r.2 i _ d (List.getElem?_eq_getElem hi') h⟩
theorem Rl.get' (r : Rl K H vs ds) {i : Nat} (h : vs[i]? = some v) : ∃ d, ds[i]? = some d ∧ DR K H v d := by
  obtain ⟨hi, e⟩ := List.getElem?_eq_some_iff.mp h
  have hi' : i < ds.length := by rw [← r.1]; exact hi
  exact ⟨ds[i], List.getElem?_eq_getElem hi', r.2 i v _ h (List.getElem?_eq_getElem hi')⟩
theorem Rl.take (r : Rl K H vs ds) (n : Nat) : Rl K H (vs.take n) (ds.take n) := by
  refine ⟨by rw [List.length_take, List.length_take, r.1], fun i v d a b => ?_⟩
  rw [List.getElem?_take] at a b
  split at a
  · rename_i h
    rw [if_pos h] at b
    exact r.2 i v d a b
  · cases a
theorem Rl.drop (r : Rl K H vs ds) (n : Nat) : Rl K H (vs.drop n) (ds.drop n) := by
  refine ⟨by rw [List.length_drop, List.length_drop, r.1], fun i v d a b => ?_⟩
  rw [List.getElem?_drop] at a b
  exact r.2 _ v d a b
theorem Rl.dropLast (r : Rl K H vs ds) : Rl K H vs.dropLast ds.dropLast := by
  rw [List.dropLast_eq_take, List.dropLast_eq_take, r.1]
  exact r.take _
theorem Rl.set (r : Rl K H vs ds) (h : DR K H v d) (j : Nat) : Rl K H (vs.set j v) (ds.set j d) := by
  refine ⟨by rw [List.length_set, List.length_set, r.1], fun i w e a b => ?_⟩
  by_cases hij : j = i
  · subst hij
    have hj := (List.getElem?_eq_some_iff.mp a).1
    rw [List.length_set] at hj
    rw [List.getElem?_set_self hj] at a
    rw [List.getElem?_set_self (by rw [← r.1]; exact hj)] at b
    cases a; cases b
    exact h
  · rw [List.getElem?_set_ne hij] at a b
    exact r.2 i w e a b
theorem Rl.ints {ns : List Int} (h : Rl K H vs (ns.map D.int)) : vs = ns.map V.int := by
  induction ns generalizing vs with
  | nil => exact h.nil_inv
  | cons n ns ih =>
    obtain ⟨v, us, rfl, h1, h2⟩ := Rl.cons_inv (ds := ns.map D.int) h
    cases h1
    rw [ih h2]; rfl
theorem Rl.of_ints {ns : List Int} : Rl K H (ns.map V.int) (ns.map D.int) := by
  induction ns with
  | nil => exact Rl.nil
  | cons n ns ih => exact Rl.cons (.int n) ih
theorem Rl.strs {ns : List PySem.Str} (h : Rl K H vs (ns.map D.str)) : vs = ns.map V.str := by
  induction ns generalizing vs with
  | nil => exact h.nil_inv
  | cons n ns ih =>
    obtain ⟨v, us, rfl, h1, h2⟩ := Rl.cons_inv (ds := ns.map D.str) h
    cases h1
    rw [ih h2]; rfl
theorem Rl.of_strs {ns : List PySem.Str} : Rl K H (ns.map V.str) (ns.map D.str) := by
  induction ns with
  | nil => exact Rl.nil
  | cons n ns ih => exact Rl.cons (.str n) ih

/-- a data sequence's items -/
def D.seq : D → Option (List D)
  | .tup l => some l
  | .lst l => some l
  | .scr ns => some (ns.map D.int)
  | _ => none
theorem DR.seq_inv {l : List D} (h : DR K H v d) (e : d.seq = some l) : ∃ a vs, v = .ref a ∧ (SqL K H a vs ∨ SqT K H a vs) ∧ Rl K H vs l := by
  cases h with
  | tup h1 h2 h3 => cases e; exact ⟨_, _, rfl, .inr (SqT.of h1), h2, h3⟩
  | lst h1 h2 h3 => cases e; exact ⟨_, _, rfl, .inl (SqL.of h1), h2, h3⟩
  | scr h1 => cases e; exact ⟨_, _, rfl, .inl h1, Rl.of_ints⟩
  | _ => cases e
theorem DR.lst_inv {l : List D} (h : DR K H v (.lst l)) : ∃ a vs, v = .ref a ∧ H a = some (.lst vs) ∧ Rl K H vs l := by
  cases h with
  | lst h1 h2 h3 => exact ⟨_, _, rfl, h1, h2, h3⟩
theorem DR.tup_inv {l : List D} (h : DR K H v (.tup l)) : ∃ a vs, v = .ref a ∧ H a = some (.tup vs) ∧ Rl K H vs l := by
  cases h with
  | tup h1 h2 h3 => exact ⟨_, _, rfl, h1, h2, h3⟩
theorem DR.int_inv {i : Int} (h : DR K H v (.int i)) : v = .int i := by cases h; rfl
theorem DR.str_inv {i : PySem.Str} (h : DR K H v (.str i)) : v = .str i := by cases h; rfl
theorem DR.bl_inv {i : Bool} (h : DR K H v (.bl i)) : v = .bl i := by cases h; rfl
theorem DR.non_inv (h : DR K H v .non) : v = .non := by cases h; rfl
theorem DR.mk_lst {a : Addr} (h : H a = some (.lst vs)) (r : Rl K H vs ds) : DR K H (.ref a) (.lst ds) := .lst h r.1 r.2
theorem DR.mk_tup {a : Addr} (h : H a = some (.tup vs)) (r : Rl K H vs ds) : DR K H (.ref a) (.tup ds) := .tup h r.1 r.2
end

/-! ### what the slots hold -/
/-- a slot: nothing known; data; a list of the def's own, that it may still change -/
inductive Sl where
  | un | val (d : D) | own (l : List D)

/-- the settled part and the heap at the def's entry -/
structure Bs where
  s : Hp
  h : Hp
structure Rep (K : PySem.W.Frag) (B : Bs) (Hs H : Hp) (σ : L2.St) (ρ : List Sl) : Prop where
  same : Same Hs H
  ent : Same B.h H
  fr : ∀ a, B.s a = none → B.h a ≠ none → Hs a = none
  len : σ.length = ρ.length
  val : ∀ (i : Nat) d, ρ[i]? = some (.val d) → ∃ v, σ[i]? = some (some v) ∧ DR K Hs v d
  own : ∀ (i : Nat) ds, ρ[i]? = some (.own ds) → ∃ a vs, σ[i]? = some (some (.ref a)) ∧ Hs a = none ∧ B.h a = none ∧ H a = some (.lst vs) ∧ Rl K Hs vs ds
  sep : ∀ (i j : Nat) ds es a, i ≠ j → ρ[i]? = some (.own ds) → ρ[j]? = some (.own es) → σ[i]? = some (some (.ref a)) → σ[j]? = some (some (.ref a)) → False

theorem same_upd {H : Hp} {p : Addr} {o : HO} (h : H p = none) : Same H (upd H p o) := fun b u e => by rw [upd_ne (ne_of_none e h)]; exact e
theorem same_upd_of {H H' : Hp} {p : Addr} {o : HO} (s : Same H H') (h : H p = none) : Same H (L2.upd H' p o) := fun b u e => by rw [upd_ne (ne_of_none e h)]; exact s b u e
theorem same_upd_both {H H' : Hp} {p : Addr} {o : HO} (s : Same H H') : Same (L2.upd H p o) (L2.upd H' p o) := fun b u e => by
  by_cases hb : b = p
  · subst hb
    rw [upd_same] at e ⊢
    exact e
  · rw [upd_ne hb] at e ⊢
    exact s b u e
theorem same_settle {H H' : Hp} {p : Addr} {o : HO} (s : Same H H') (h : H' p = some o) : Same (L2.upd H p o) H' := fun b u e => by
  by_cases hb : b = p
  · subst hb
    rw [upd_same] at e
    rw [h]; exact e
  · rw [upd_ne hb] at e
    exact s b u e

section
variable {K : PySem.W.Frag} {B : Bs} {Hs H : Hp} {σ : L2.St} {ρ : List Sl} {i : Nat} {v : V} {d : D} {p : Addr} {o : HO} {vs : List V} {ds : List D}
/-- the settled part and the heap grow -/
theorem Rep.grow {Hs' H' : Hp} (r : Rep K B Hs H σ ρ) (s1 : Same Hs Hs') (s2 : Same Hs' H') (s3 : Same H H') (hn : ∀ a, Hs a = none → H a ≠ none → Hs' a = none) : Rep K B Hs' H' σ ρ := by
  refine ⟨s2, r.ent.trans s3, fun a h1 h2 => hn a (r.fr a h1 h2) (fun z => h2 (r.ent.free z)), r.len, fun i d e => ?_, fun i ds e => ?_, r.sep⟩
  · obtain ⟨v, e1, e2⟩ := r.val i d e
    exact ⟨v, e1, e2.mono s1⟩
  · obtain ⟨a, vs, e1, e2, e0, e3, e4⟩ := r.own i ds e
    exact ⟨a, vs, e1, hn a e2 (by rw [e3]; simp), e0, s3 _ _ e3, e4.mono s1⟩
/-- a new object is laid and settled -/
theorem Rep.new (r : Rep K B Hs H σ ρ) (h : H p = none) : Same Hs (upd Hs p o) ∧ Rep K B (upd Hs p o) (upd H p o) σ ρ := by
  have hp : Hs p = none := r.same.free h
  have s : Same Hs (upd Hs p o) := same_upd hp
  refine ⟨s, r.grow s (same_upd_both r.same) (same_upd h) fun a h1 h2 => ?_⟩
  rw [upd_ne (fun z => h2 (by rw [z]; exact h))]
  exact h1
/-- a new object is laid, not settled -/
theorem Rep.laid (r : Rep K B Hs H σ ρ) (h : H p = none) : Rep K B Hs (upd H p o) σ ρ := 
  r.grow (Same.refl _) (same_upd_of r.same (r.same.free h)) (same_upd h) fun _ h1 _ => h1
/-- what a slot's list of its own is not: new -/
theorem Rep.notOwn (r : Rep K B Hs H σ ρ) (h : H p = none) (i : Nat) (ds : List D) (hi : ρ[i]? = some (.own ds)) : σ[i]? ≠ some (some (.ref p)) := fun z => by
  obtain ⟨a, vs, e1, e2, e0, e3, e4⟩ := r.own i ds hi
  rw [z] at e1
  cases e1
  rw [h] at e3
  cases e3
/-- the slots' new make, one slot set -/
theorem set_key {α : Type} {ρ : List α} {i j : Nat} {x s : α} (q : (ρ.set i x)[j]? = some s) : (i = j ∧ s = x ∧ i < ρ.length) ∨ (i ≠ j ∧ ρ[j]? = some s) := by
  by_cases hj : i = j
  · subst hj
    have hi := (List.getElem?_eq_some_iff.mp q).1
    rw [List.length_set] at hi
    rw [List.getElem?_set_self hi] at q
    exact .inl ⟨rfl, (Option.some.inj q).symm, hi⟩
  · rw [List.getElem?_set_ne hj] at q
    exact .inr ⟨hj, q⟩
theorem Rep.setVal (r : Rep K B Hs H σ ρ) (h : DR K Hs v d) (i : Nat) : Rep K B Hs H (σ.set i (some v)) (ρ.set i (.val d)) := by
  refine ⟨r.same, r.ent, r.fr, by simpa using r.len, fun j e q => ?_, fun j es q => ?_, fun j k es fs a hjk q1 q2 q3 q4 => ?_⟩
  · rcases set_key q with ⟨rfl, z, hi⟩ | ⟨n, q⟩
    · cases z
      exact ⟨v, List.getElem?_set_self (by rw [r.len]; exact hi), h⟩
    · rw [List.getElem?_set_ne n]
      exact r.val j e q
  · rcases set_key q with ⟨_, z, _⟩ | ⟨n, q⟩
    · cases z
    · rw [List.getElem?_set_ne n]
      exact r.own j es q
  · rcases set_key q1 with ⟨_, z, _⟩ | ⟨n1, q1⟩
    · cases z
    · rcases set_key q2 with ⟨_, z, _⟩ | ⟨n2, q2⟩
      · cases z
      · rw [List.getElem?_set_ne n1] at q3
        rw [List.getElem?_set_ne n2] at q4
        exact r.sep j k es fs a hjk q1 q2 q3 q4
/-- nothing more is known of a slot -/
theorem Rep.weak {ρ' : List Sl} (r : Rep K B Hs H σ ρ) (hl : ρ'.length = ρ.length) (h : ∀ (i : Nat) (s : Sl), ρ'[i]? = some s → s = .un ∨ ρ[i]? = some s) : Rep K B Hs H σ ρ' := by
  refine ⟨r.same, r.ent, r.fr, by rw [hl]; exact r.len, fun i d e => ?_, fun i ds e => ?_, fun i j ds es a hij e1 e2 => ?_⟩
  · rcases h i _ e with z | z
    · cases z
    · exact r.val i d z
  · rcases h i _ e with z | z
    · cases z
    · exact r.own i ds z
  · rcases h i _ e1 with z | z
    · cases z
    · rcases h j _ e2 with z' | z'
      · cases z'
      · exact r.sep i j ds es a hij z z'
theorem Rep.setAny (r : Rep K B Hs H σ ρ) (x : Option V) (i : Nat) : Rep K B Hs H (σ.set i x) (ρ.set i .un) := by
  refine ⟨r.same, r.ent, r.fr, by simpa using r.len, fun j e q => ?_, fun j es q => ?_, fun j k es fs a hjk q1 q2 q3 q4 => ?_⟩
  · rcases set_key q with ⟨_, z, _⟩ | ⟨n, q⟩
    · cases z
    · rw [List.getElem?_set_ne n]
      exact r.val j e q
  · rcases set_key q with ⟨_, z, _⟩ | ⟨n, q⟩
    · cases z
    · rw [List.getElem?_set_ne n]
      exact r.own j es q
  · rcases set_key q1 with ⟨_, z, _⟩ | ⟨n1, q1⟩
    · cases z
    · rcases set_key q2 with ⟨_, z, _⟩ | ⟨n2, q2⟩
      · cases z
      · rw [List.getElem?_set_ne n1] at q3
        rw [List.getElem?_set_ne n2] at q4
        exact r.sep j k es fs a hjk q1 q2 q3 q4
/-- a new list of the def's own -/
theorem Rep.setOwn (r : Rep K B Hs H σ ρ) (h1 : Hs p = none) (h2 : B.h p = none) (h3 : H p = some (.lst vs)) (h : Rl K Hs vs ds) (hn : ∀ (i : Nat) ds, ρ[i]? = some (.own ds) → σ[i]? ≠ some (some (.ref p))) (i : Nat) : Rep K B Hs H (σ.set i (some (.ref p))) (ρ.set i (.own ds)) := by
  refine ⟨r.same, r.ent, r.fr, by simpa using r.len, fun j e q => ?_, fun j es q => ?_, fun j k es fs a hjk q1 q2 q3 q4 => ?_⟩
  · rcases set_key q with ⟨_, z, _⟩ | ⟨n, q⟩
    · cases z
    · rw [List.getElem?_set_ne n]
      exact r.val j e q
  · rcases set_key q with ⟨rfl, z, hi⟩ | ⟨n, q⟩
    · cases z
      exact ⟨p, vs, List.getElem?_set_self (by rw [r.len]; exact hi), h1, h2, h3, h⟩
    · rw [List.getElem?_set_ne n]
      exact r.own j es q
  · rcases set_key q1 with ⟨rfl, _, hi⟩ | ⟨n1, q1⟩
    · rcases set_key q2 with ⟨rfl, _, _⟩ | ⟨n2, q2⟩
      · exact hjk rfl
      · rw [List.getElem?_set_self (by rw [r.len]; exact hi)] at q3
        cases q3
        rw [List.getElem?_set_ne n2] at q4
        exact hn k fs q2 q4
    · rw [List.getElem?_set_ne n1] at q3
      rcases set_key q2 with ⟨rfl, _, hi⟩ | ⟨n2, q2⟩
      · rw [List.getElem?_set_self (by rw [r.len]; exact hi)] at q4
        cases q4
        exact hn j es q1 q3
      · rw [List.getElem?_set_ne n2] at q4
        exact r.sep j k es fs a hjk q1 q2 q3 q4
/-- the own list is changed in place -/
theorem Rep.mutOwn {a : Addr} {es : List D} (r : Rep K B Hs H σ ρ) (hi : ρ[i]? = some (.own es)) (ha : σ[i]? = some (some (.ref a))) (h : Rl K Hs vs ds) : Rep K B Hs (upd H a (.lst vs)) σ (ρ.set i (.own ds)) := by
  obtain ⟨b, ws, e1, e2, e0, e3, e4⟩ := r.own i es hi
  rw [ha] at e1
  cases e1
  refine ⟨same_upd_of r.same e2, same_upd_of r.ent e0, r.fr, by simpa using r.len, fun j e q => ?_, fun j fs q => ?_, fun j k fs gs b hjk q1 q2 q3 q4 => ?_⟩
  · rcases set_key q with ⟨_, z, _⟩ | ⟨_, q⟩
    · cases z
    · exact r.val j e q
  · rcases set_key q with ⟨rfl, z, _⟩ | ⟨n, q⟩
    · cases z
      exact ⟨a, vs, ha, e2, e0, upd_same, h⟩
    · obtain ⟨b, us, f1, f2, f0, f3, f4⟩ := r.own j fs q
      have ne : b ≠ a := fun z => by
        rw [z] at f1
        exact r.sep i j es fs a n hi q ha f1
      exact ⟨b, us, f1, f2, f0, by rw [upd_ne ne]; exact f3, f4⟩
  · have own_of : ∀ {j : Nat} {fs : List D}, (ρ.set i (.own ds))[j]? = some (.own fs) → ∃ gs, ρ[j]? = some (.own gs) := fun {j fs} q => by
      rcases set_key q with ⟨rfl, _, _⟩ | ⟨_, q⟩
      · exact ⟨es, hi⟩
      · exact ⟨fs, q⟩
    obtain ⟨g1, q1⟩ := own_of q1
    obtain ⟨g2, q2⟩ := own_of q2
    exact r.sep j k g1 g2 b hjk q1 q2 q3 q4
/-- the own list is settled: it is data from now on -/
theorem Rep.settle (r : Rep K B Hs H σ ρ) (hi : ρ[i]? = some (.own ds)) : ∃ a Hs', σ[i]? = some (some (.ref a)) ∧ Same Hs Hs' ∧ Rep K B Hs' H σ (ρ.set i (.val (.lst ds))) ∧ DR K Hs' (.ref a) (.lst ds) := by
  obtain ⟨a, vs, e1, e2, e0, e3, e4⟩ := r.own i ds hi
  have s : Same Hs (upd Hs a (.lst vs)) := same_upd e2
  have dr : DR K (upd Hs a (.lst vs)) (.ref a) (.lst ds) := DR.mk_lst upd_same (e4.mono s)
  refine ⟨a, upd Hs a (.lst vs), e1, s, ⟨same_settle r.same e3, r.ent, fun b h1 h2 => ?_, by simpa using r.len, fun j e q => ?_, fun j fs q => ?_, fun j k fs gs b hjk q1 q2 q3 q4 => ?_⟩, dr⟩
  · rw [upd_ne (fun z => h2 (by rw [z]; exact e0))]
    exact r.fr b h1 h2
  · rcases set_key q with ⟨rfl, z, _⟩ | ⟨_, q⟩
    · cases z
      exact ⟨.ref a, e1, dr⟩
    · obtain ⟨v, f1, f2⟩ := r.val j e q
      exact ⟨v, f1, f2.mono s⟩
  · rcases set_key q with ⟨_, z, _⟩ | ⟨n, q⟩
    · cases z
    · obtain ⟨b, us, f1, f2, f0, f3, f4⟩ := r.own j fs q
      have ne : b ≠ a := fun z => by
        rw [z] at f1
        exact r.sep i j ds fs a n hi q e1 f1
      exact ⟨b, us, f1, by rw [upd_ne ne]; exact f2, f0, f3, f4.mono s⟩
  · rcases set_key q1 with ⟨_, z, _⟩ | ⟨_, q1⟩
    · cases z
    · rcases set_key q2 with ⟨_, z, _⟩ | ⟨_, q2⟩
      · cases z
      · exact r.sep j k fs gs b hjk q1 q2 q3 q4
/-- a list that stands unsettled, owned by no slot, is settled -/
theorem Rep.settleNew (r : Rep K B Hs H σ ρ) (h1 : Hs p = none) (h2 : B.h p = none) (h3 : H p = some (.lst vs)) (h : Rl K Hs vs ds) (hn : ∀ (i : Nat) ds, ρ[i]? = some (.own ds) → σ[i]? ≠ some (some (.ref p))) :
    Same Hs (upd Hs p (.lst vs)) ∧ Rep K B (upd Hs p (.lst vs)) H σ ρ ∧ DR K (upd Hs p (.lst vs)) (.ref p) (.lst ds) := by
  have s : Same Hs (upd Hs p (.lst vs)) := same_upd h1
  refine ⟨s, ⟨same_settle r.same h3, r.ent, fun b g1 g2 => ?_, r.len, fun j e q => ?_, fun j fs q => ?_, r.sep⟩, DR.mk_lst upd_same (h.mono s)⟩
  · rw [upd_ne (fun z => g2 (by rw [z]; exact h2))]
    exact r.fr b g1 g2
  · obtain ⟨v, f1, f2⟩ := r.val j e q
    exact ⟨v, f1, f2.mono s⟩
  · obtain ⟨b, us, f1, f2, f0, f3, f4⟩ := r.own j fs q
    have ne : b ≠ p := fun z => hn j fs q (by rw [← z]; exact f1)
    exact ⟨b, us, f1, by rw [upd_ne ne]; exact f2, f0, f3, f4.mono s⟩
end
end K36
set_option Elab.async false
set_option linter.all false
set_option maxRecDepth 100000
set_option maxHeartbeats 2000000
namespace K36
open PySem PySem.Spec PyProof.Rows L2

/-! ### readings over data -/
abbrev DE := List Sl → (D → List Sl → Prop) → Prop
abbrev DT := List Sl → (Bool → List Sl → Prop) → Prop
abbrev DA := List Sl → (List D → List Sl → Prop) → Prop
structure DEnds where
  nx : List Sl → Prop
  rt : D → Prop
  bk : List Sl → Prop := fun _ => False
  ct : List Sl → Prop := fun _ => False
  ro : List D → Prop := fun _ => False
abbrev DS := DEnds → List Sl → Prop

def RefE (K : PySem.W.Frag) (t : TE) (w : DE) : Prop := ∀ (B : Bs) (Hs H : Hp) (σ : L2.St) (ρ : List Sl) (k : D → List Sl → Prop) (Q : VK), Rep K B Hs H σ ρ → w ρ k →
  (∀ v Hs' H' d ρ', Same Hs Hs' → Rep K B Hs' H' σ ρ' → DR K Hs' v d → k d ρ' → Q v H') → t σ H Q
def RefT (K : PySem.W.Frag) (t : TT) (w : DT) : Prop := ∀ (B : Bs) (Hs H : Hp) (σ : L2.St) (ρ : List Sl) (k : Bool → List Sl → Prop) (Q : Bool → Hp → Prop), Rep K B Hs H σ ρ → w ρ k →
  (∀ b Hs' H' ρ', Same Hs Hs' → Rep K B Hs' H' σ ρ' → k b ρ' → Q b H') → t σ H Q
def RefA (K : PySem.W.Frag) (t : TA) (w : DA) : Prop := ∀ (B : Bs) (Hs H : Hp) (σ : L2.St) (ρ : List Sl) (k : List D → List Sl → Prop) (Q : List V → Hp → Prop), Rep K B Hs H σ ρ → w ρ k →
  (∀ vs Hs' H' ds ρ', Same Hs Hs' → Rep K B Hs' H' σ ρ' → Rl K Hs' vs ds → k ds ρ' → Q vs H') → t σ H Q
/-- an expression that makes a new list -/
def RefL (K : PySem.W.Frag) (t : TE) (w : DA) : Prop := ∀ (B : Bs) (Hs H : Hp) (σ : L2.St) (ρ : List Sl) (k : List D → List Sl → Prop) (Q : VK), Rep K B Hs H σ ρ → w ρ k →
  (∀ p vs Hs' H' ds ρ', Same Hs Hs' → Rep K B Hs' H' σ ρ' → Hs' p = none → B.h p = none → H' p = some (.lst vs) → Rl K Hs' vs ds → (∀ (i : Nat) ds, ρ'[i]? = some (.own ds) → σ[i]? ≠ some (some (.ref p))) → k ds ρ' → Q (.ref p) H') → t σ H Q
structure EndsOk (K : PySem.W.Frag) (B : Bs) (Hs : Hp) (D : Ends) (W : DEnds) : Prop where
  nx : ∀ Hs' H' σ' ρ', Same Hs Hs' → Rep K B Hs' H' σ' ρ' → W.nx ρ' → D.nx σ' H'
  rt : ∀ Hs' H' σ' ρ' v d, Same Hs Hs' → Rep K B Hs' H' σ' ρ' → DR K Hs' v d → W.rt d → D.rt v H'
  bk : ∀ Hs' H' σ' ρ', Same Hs Hs' → Rep K B Hs' H' σ' ρ' → W.bk ρ' → D.bk σ' H'
  ct : ∀ Hs' H' σ' ρ', Same Hs Hs' → Rep K B Hs' H' σ' ρ' → W.ct ρ' → D.ct σ' H'
  ro : ∀ Hs' H' σ' ρ' p vs ds, Same Hs Hs' → Rep K B Hs' H' σ' ρ' → Hs' p = none → B.h p = none → H' p = some (.lst vs) → Rl K Hs' vs ds → W.ro ds → D.rt (.ref p) H'
def RefS (K : PySem.W.Frag) (t : TS) (w : DS) : Prop := ∀ (B : Bs) (Hs H : Hp) (σ : L2.St) (ρ : List Sl) (D : Ends) (W : DEnds), Rep K B Hs H σ ρ → w W ρ → EndsOk K B Hs D W → t D σ H
/-- a target -/
def RefG (K : PySem.W.Frag) (g : TG) (w : D → List Sl → (List Sl → Prop) → Prop) : Prop := ∀ (B : Bs) (Hs H : Hp) (σ : L2.St) (ρ : List Sl) (v : V) (d : D) (k : List Sl → Prop) (Q : L2.St → Hp → Prop), Rep K B Hs H σ ρ → DR K Hs v d → w d ρ k →
  (∀ σ' ρ', Rep K B Hs H σ' ρ' → k ρ' → Q σ' H) → g v σ H Q

structure PED (X : Cx) (e : Expr) (t : TE) (w : DE) : Prop where
  pe : PE X e t
  ref : RefE X.K t w
structure PTD (X : Cx) (e : Expr) (t : TT) (w : DT) : Prop where
  pe : PT X e t
  ref : RefT X.K t w
structure PAD (X : Cx) (es : List Expr) (t : TA) (w : DA) : Prop where
  pe : PA X es t
  ref : RefA X.K t w
structure PLD (X : Cx) (e : Expr) (t : TE) (w : DA) : Prop where
  pe : PE X e t
  ref : RefL X.K t w
structure PSD (X : Cx) (st : Stmt) (t : TS) (w : DS) : Prop where
  pe : PS X st t
  ref : RefS X.K t w
structure PSsD (X : Cx) (st : List Stmt) (t : TS) (w : DS) : Prop where
  pe : PSs X st t
  ref : RefS X.K t w
structure PGD (X : Cx) (e : Expr) (t : TG) (w : D → List Sl → (List Sl → Prop) → Prop) : Prop where
  pe : PG X e t
  ref : RefG X.K t w

theorem EndsOk.mono {K : PySem.W.Frag} {B : Bs} {Hs Hs1 : Hp} {D : Ends} {W : DEnds} (h : EndsOk K B Hs D W) (s : Same Hs Hs1) : EndsOk K B Hs1 D W :=
  ⟨fun a b c d e => h.nx a b c d (s.trans e), fun a b c d e f g => h.rt a b c d e f (s.trans g), fun a b c d e => h.bk a b c d (s.trans e), fun a b c d e => h.ct a b c d (s.trans e), fun a b c d e f g i => h.ro a b c d e f g (s.trans i)⟩

section
variable {X : Cx} {a b c e : Expr} {ta tb tc te : TE} {wa wb wc we : DE} {pos : Pos}

/-! ### names, constants -/
def wVar (i : Nat) : DE := fun ρ k => ∃ d, ρ[i]? = some (.val d) ∧ k d ρ
def wOwn (i : Nat) : DE := fun ρ k => ∃ l, ρ[i]? = some (.own l) ∧ k (.lst l) (ρ.set i (.val (.lst l)))
def wC (d : D) : DE := fun ρ k => k d ρ
theorem ref_var {K : PySem.W.Frag} (i : Nat) : RefE K (tVar i) (wVar i) := by
  intro B Hs H σ ρ k Q r hw hQ
  obtain ⟨d, e, q⟩ := hw
  obtain ⟨v, e1, e2⟩ := r.val i d e
  exact ⟨v, e1, hQ v Hs H d ρ (Same.refl _) r e2 q⟩
theorem ref_own {K : PySem.W.Frag} (i : Nat) : RefE K (tVar i) (wOwn i) := by
  intro B Hs H σ ρ k Q r hw hQ
  obtain ⟨l, e, q⟩ := hw
  obtain ⟨p, Hs', e1, s, r', dr⟩ := r.settle e
  exact ⟨.ref p, e1, hQ _ Hs' H _ _ s r' dr q⟩
theorem dv (i : Nat) {x : PySem.Str} (hN : X.N[i]? = some x := by rfl) (hv : Vis X.env.scope x := by first | exact Or.inl rfl | exact Or.inr (Or.inl rfl) | exact Or.inr (Or.inr rfl)) (hd : (x == ("__debug__" : PySem.Str)) = false := by decide)
    (hcd : (x == ("__classdict__" : PySem.Str)) = false := by decide) : PED X (.Name x pos) (tVar i) (wVar i) := ⟨pe_var hN hv hd hcd, ref_var i⟩
theorem dvo (i : Nat) {x : PySem.Str} (hN : X.N[i]? = some x := by rfl) (hv : Vis X.env.scope x := by first | exact Or.inl rfl | exact Or.inr (Or.inl rfl) | exact Or.inr (Or.inr rfl)) (hd : (x == ("__debug__" : PySem.Str)) = false := by decide)
    (hcd : (x == ("__classdict__" : PySem.Str)) = false := by decide) : PED X (.Name x pos) (tVar i) (wOwn i) := ⟨pe_var hN hv hd hcd, ref_own i⟩
theorem ref_c {K : PySem.W.Frag} {v : V} {d : D} (h : ∀ H, DR K H v d) : RefE K (tC v) (wC d) := by
  intro B Hs H σ ρ k Q r hw hQ
  exact hQ v Hs H d ρ (Same.refl _) r (h Hs) hw
theorem dint {i j pos} : PED X (.Constant (.int i) j pos) (tC (.int i)) (wC (.int i)) := ⟨pe_int, ref_c fun _ => .int i⟩
theorem dbl {i j pos} : PED X (.Constant (.bool i) j pos) (tC (.bl i)) (wC (.bl i)) := ⟨pe_bl, ref_c fun _ => .bl i⟩
theorem dnon {j pos} : PED X (.Constant .none j pos) (tC .non) (wC .non) := ⟨pe_non, ref_c fun _ => .non⟩
theorem dstr {x j pos} : PED X (.Constant (.str x) j pos) (tC (.str x)) (wC (.str x)) := ⟨pe_str, ref_c fun _ => .str x⟩
/-- a module's whole number -/
theorem dglobI {x : PySem.Str} {i : Int} {t : Tok} {pos : Pos} (hm : X.mg x = some (.int i t)) (hg : Gl X x := by rfl) (hd : (x == ("__debug__" : PySem.Str)) = false := by decide) : PED X (.Name x pos) (tC (.int i)) (wC (.int i)) := ⟨pe_glob hg hm ⟨t, rfl⟩ hd, ref_c fun _ => .int i⟩

/-! ### two-place operations by values -/
abbrev RD2 := D → D → List Sl → (D → List Sl → Prop) → Prop
def RefR (K : PySem.W.Frag) (r : R2) (rd : RD2) : Prop := ∀ (B : Bs) (Hs H : Hp) (σ : L2.St) (ρ : List Sl) (x y : V) (d e : D) (k : D → List Sl → Prop) (Q : VK), Rep K B Hs H σ ρ → DR K Hs x d → DR K Hs y e → rd d e ρ k →
  (∀ v Hs' H' d ρ', Same Hs Hs' → Rep K B Hs' H' σ ρ' → DR K Hs' v d → k d ρ' → Q v H') → r x y H Q
def wOp (rd : RD2) (wa wb : DE) : DE := fun ρ k => wa ρ fun d ρ1 => wb ρ1 fun e ρ2 => rd d e ρ2 k
theorem ref_op {K : PySem.W.Frag} {r : R2} {rd : RD2} (ha : RefE K ta wa) (hb : RefE K tb wb) (hr : RefR K r rd) : RefE K (tOp r ta tb) (wOp rd wa wb) := by
  intro B Hs H σ ρ k Q r0 hw hQ
  refine ha B Hs H σ ρ _ _ r0 hw fun v Hs1 H1 d ρ1 s1 r1 d1 q1 => ?_
  refine hb B Hs1 H1 σ ρ1 _ _ r1 q1 fun u Hs2 H2 e ρ2 s2 r2 d2 q2 => ?_
  exact hr B Hs2 H2 σ ρ2 v u d e k Q r2 (d1.mono s2) d2 q2 fun v' Hs' H' d' ρ' s' => hQ v' Hs' H' d' ρ' ((s1.trans s2).trans s')
def rdI (g : Int → Int → D) : RD2 := fun d e ρ k => ∃ i j, d = .int i ∧ e = .int j ∧ k (g i j) ρ
def rdIC (C : Int → Int → Prop) (g : Int → Int → D) : RD2 := fun d e ρ k => ∃ i j, d = .int i ∧ e = .int j ∧ C i j ∧ k (g i j) ρ
theorem ref_I {K : PySem.W.Frag} {g : Int → Int → V} {g' : Int → Int → D} (h : ∀ H i j, DR K H (g i j) (g' i j)) : RefR K (rI0 g) (rdI g') := by
  intro B Hs H σ ρ x y d e k Q r dx dy hw hQ
  obtain ⟨i, j, rfl, rfl, q⟩ := hw
  exact ⟨i, j, dx.int_inv, dy.int_inv, hQ _ Hs H _ ρ (Same.refl _) r (h Hs i j) q⟩
theorem ref_IC {K : PySem.W.Frag} {C : Int → Int → Prop} {g : Int → Int → V} {g' : Int → Int → D} (h : ∀ H i j, DR K H (g i j) (g' i j)) : RefR K (rI C g) (rdIC C g') := by
  intro B Hs H σ ρ x y d e k Q r dx dy hw hQ
  obtain ⟨i, j, rfl, rfl, hc, q⟩ := hw
  exact ⟨i, j, dx.int_inv, dy.int_inv, hc, hQ _ Hs H _ ρ (Same.refl _) r (h Hs i j) q⟩
theorem dop {op : Operator} {r : R2} {rd : RD2} (ho : OpR X (binaryOp op) r) (hr : RefR X.K r rd) (ha : PED X a ta wa) (hb : PED X b tb wb) : PED X (.BinOp a op b pos) (tOp r ta tb) (wOp rd wa wb) := ⟨pe_op ho ha.pe hb.pe, ref_op ha.ref hb.ref hr⟩
theorem dadd (ha : PED X a ta wa) (hb : PED X b tb wb) : PED X (.BinOp a .Add b pos) (tOp (rI0 fun i j => .int (i + j)) ta tb) (wOp (rdI fun i j => .int (i + j)) wa wb) := dop op_add (ref_I fun _ _ _ => .int _) ha hb
theorem dsub (ha : PED X a ta wa) (hb : PED X b tb wb) : PED X (.BinOp a .Sub b pos) (tOp (rI0 fun i j => .int (i - j)) ta tb) (wOp (rdI fun i j => .int (i - j)) wa wb) := dop op_sub (ref_I fun _ _ _ => .int _) ha hb
theorem dmul (ha : PED X a ta wa) (hb : PED X b tb wb) : PED X (.BinOp a .Mult b pos) (tOp (rI CMulW fun i j => .int (i * j)) ta tb) (wOp (rdIC CMulW fun i j => .int (i * j)) wa wb) := dop op_mulW (ref_IC fun _ _ _ => .int _) ha hb
theorem ddiv (ha : PED X a ta wa) (hb : PED X b tb wb) : PED X (.BinOp a .FloorDiv b pos) (tOp (rI CDivW fun i j => .int (i / j)) ta tb) (wOp (rdIC CDivW fun i j => .int (i / j)) wa wb) := dop op_fdivW (ref_IC fun _ _ _ => .int _) ha hb
theorem dmod (ha : PED X a ta wa) (hb : PED X b tb wb) : PED X (.BinOp a .Mod b pos) (tOp (rI (fun _ j => 0 < j) fun i j => .int (i % j)) ta tb) (wOp (rdIC (fun _ j => 0 < j) fun i j => .int (i % j)) wa wb) := dop op_mod (ref_IC fun _ _ _ => .int _) ha hb
theorem dpow (ha : PED X a ta wa) (hb : PED X b tb wb) : PED X (.BinOp a .Pow b pos) (tOp (rI CPow fun i j => .int (i ^ j.toNat)) ta tb) (wOp (rdIC CPow fun i j => .int (i ^ j.toNat)) wa wb) := dop op_pow (ref_IC fun _ _ _ => .int _) ha hb
def wNeg (wa : DE) : DE := fun ρ k => wa ρ fun d ρ1 => ∃ i, d = .int i ∧ k (.int (-i)) ρ1
theorem dneg (ha : PED X a ta wa) : PED X (.UnaryOp .USub a pos) (tUn (rU fun i => .int (-i)) ta) (wNeg wa) := by
  refine ⟨pe_un un_neg ha.pe, ?_⟩
  intro B Hs H σ ρ k Q r hw hQ
  refine ha.ref B Hs H σ ρ _ _ r hw fun v Hs1 H1 d ρ1 s1 r1 d1 q1 => ?_
  obtain ⟨i, rfl, q⟩ := q1
  exact ⟨i, d1.int_inv, hQ _ Hs1 H1 _ ρ1 s1 r1 (.int _) q⟩

/-! ### comparisons, as values (pe) and as tests (pt) -/
theorem dcmp {op : CmpOp} {r : R2} {rd : RD2} (ho : OpR X (compareOp op) r) (hr : RefR X.K r rd) (ha : PED X a ta wa) (hb : PED X b tb wb) (hm : behindInMarks op b = false := by rfl) : PED X (.Compare a [op] [b] pos) (tOp r ta tb) (wOp rd wa wb) := ⟨pe_cmpR ho ha.pe hb.pe hm, ref_op ha.ref hb.ref hr⟩
def wTest (w : DE) : DT := fun ρ k => w ρ fun d ρ1 => ∃ b, d = .bl b ∧ k b ρ1
theorem ref_test {K : PySem.W.Frag} {t : TE} {w : DE} (h : RefE K t w) : RefT K (tTest t) (wTest w) := by
  intro B Hs H σ ρ k Q r hw hQ
  refine h B Hs H σ ρ _ _ r hw fun v Hs1 H1 d ρ1 s1 r1 d1 q1 => ?_
  obtain ⟨b, rfl, q⟩ := q1
  exact ⟨b, d1.bl_inv, hQ b Hs1 H1 ρ1 s1 r1 q⟩
theorem tcmp {op : CmpOp} {r : R2} {rd : RD2} (ho : OpR X (compareOp op) r) (hr : RefR X.K r rd) (ha : PED X a ta wa) (hb : PED X b tb wb) (hm : behindInMarks op b = false := by rfl) : PTD X (.Compare a [op] [b] pos) (tTest (tOp r ta tb)) (wTest (wOp rd wa wb)) := ⟨pt_cmpR ho ha.pe hb.pe hm, ref_test (ref_op ha.ref hb.ref hr)⟩
def eqD : D → D → Option Bool
  | .int i, .int j => some (decide (i = j))
  | .str x, .str y => some (decide (x = y))
  | _, _ => none
def rdEq : RD2 := fun d e ρ k => ∃ b, eqD d e = some b ∧ k (.bl b) ρ
def rdNe : RD2 := fun d e ρ k => ∃ b, eqD d e = some b ∧ k (.bl !b) ρ
theorem eqD_inv {K : PySem.W.Frag} {H : Hp} {x y : V} {d e : D} {b : Bool} (hx : DR K H x d) (hy : DR K H y e) (h : eqD d e = some b) : scal x y = true ∧ decide (x = y) = b := by
  cases hx with
  | int i =>
    cases hy with
    | int j =>
      have hb : decide (i = j) = b := Option.some.inj h
      refine ⟨rfl, ?_⟩
      rw [← hb]
      by_cases q : i = j
      · subst q; simp
      · rw [decide_eq_false q, decide_eq_false (fun z => q (V.int.inj z))]
    | _ => cases h
  | str i =>
    cases hy with
    | str j =>
      have hb : decide (i = j) = b := Option.some.inj h
      refine ⟨rfl, ?_⟩
      rw [← hb]
      by_cases q : i = j
      · subst q; simp
      · rw [decide_eq_false q, decide_eq_false (fun z => q (V.str.inj z))]
    | _ => cases h
  | _ => cases h
theorem ref_eq {K : PySem.W.Frag} : RefR K rEq rdEq := by
  intro B Hs H σ ρ x y d e k Q r dx dy hw hQ
  obtain ⟨b, e1, q⟩ := hw
  obtain ⟨h1, h2⟩ := eqD_inv dx dy e1
  exact ⟨h1, by rw [h2]; exact hQ _ Hs H _ ρ (Same.refl _) r (.bl b) q⟩
theorem ref_ne {K : PySem.W.Frag} : RefR K rNe rdNe := by
  intro B Hs H σ ρ x y d e k Q r dx dy hw hQ
  obtain ⟨b, e1, q⟩ := hw
  obtain ⟨h1, h2⟩ := eqD_inv dx dy e1
  exact ⟨h1, by rw [h2]; exact hQ _ Hs H _ ρ (Same.refl _) r (.bl _) q⟩
def D.isNon : D → Bool
  | .non => true
  | _ => false
theorem DR.isNon {K : PySem.W.Frag} {H : Hp} {x : V} {d : D} (h : DR K H x d) : decide (x = .non) = d.isNon := by
  cases h <;> rfl
def rdIsN : RD2 := fun d e ρ k => e = .non ∧ k (.bl d.isNon) ρ
def rdNotN : RD2 := fun d e ρ k => e = .non ∧ k (.bl !d.isNon) ρ
theorem ref_isN {K : PySem.W.Frag} : RefR K (fun x y H Q => y = .non ∧ Q (.bl (decide (x = .non))) H) rdIsN := by
  intro B Hs H σ ρ x y d e k Q r dx dy hw hQ
  obtain ⟨rfl, q⟩ := hw
  exact ⟨dy.non_inv, by rw [dx.isNon]; exact hQ _ Hs H _ ρ (Same.refl _) r (.bl _) q⟩
theorem ref_notN {K : PySem.W.Frag} : RefR K (fun x y H Q => y = .non ∧ Q (.bl (!decide (x = .non))) H) rdNotN := by
  intro B Hs H σ ρ x y d e k Q r dx dy hw hQ
  obtain ⟨rfl, q⟩ := hw
  exact ⟨dy.non_inv, by rw [dx.isNon]; exact hQ _ Hs H _ ρ (Same.refl _) r (.bl _) q⟩
/-- a text in a list of texts -/
def rdIn : RD2 := fun d e ρ k => ∃ (x : PySem.Str) (xs : List PySem.Str), d = .str x ∧ e = .lst (xs.map D.str) ∧ k (.bl (decide (x ∈ xs))) ρ
theorem inV_strs (x : PySem.Str) (xs : List PySem.Str) : inV (.str x) (xs.map V.str) = decide (x ∈ xs) := by
  unfold inV
  rw [List.any_map]
  have e : ∀ y : PySem.Str, ((fun y => eqV y (.str x)) ∘ V.str) y = decide (y = x) := fun y => by
    show (y == x) = _
    exact Bool.beq_eq_decide_eq y x
  rw [show ((fun y => eqV y (.str x)) ∘ V.str) = fun y => decide (y = x) from funext e]
  by_cases h : x ∈ xs
  · rw [decide_eq_true h]
    exact List.any_eq_true.mpr ⟨x, h, by simp⟩
  · rw [decide_eq_false h]
    refine Bool.eq_false_iff.mpr fun q => ?_
    obtain ⟨y, hy, e⟩ := List.any_eq_true.mp q
    exact h (by rw [← of_decide_eq_true e]; exact hy)
theorem ref_in {K : PySem.W.Frag} : RefR K (rIn K false) rdIn := by
  intro B Hs H σ ρ x y d e k Q r dx dy hw hQ
  obtain ⟨z, zs, rfl, rfl, q⟩ := hw
  obtain ⟨p, vs, rfl, h1, h2⟩ := dy.lst_inv
  have e2 := h2.strs
  subst e2
  have e1 := dx.str_inv
  subst e1
  refine ⟨p, zs.map V.str, rfl, .inl (SqL.of (r.same _ _ h1)), rfl, by rw [List.all_map]; exact List.all_eq_true.mpr fun _ _ => rfl, ?_⟩
  show Q (.bl (inV (.str z) (zs.map V.str))) H
  rw [inV_strs]
  exact hQ _ Hs H _ ρ (Same.refl _) r (.bl _) q
section
variable (ha : PED X a ta wa) (hb : PED X b tb wb)
include ha hb
theorem dlt : PED X (.Compare a [.Lt] [b] pos) (tOp (rI0 fun i j => .bl (decide (i < j))) ta tb) (wOp (rdI fun i j => .bl (decide (i < j))) wa wb) := dcmp op_lt (ref_I fun _ _ _ => .bl _) ha hb (nomark _)
theorem deq : PED X (.Compare a [.Eq] [b] pos) (tOp (rEq) ta tb) (wOp rdEq wa wb) := dcmp op_eq ref_eq ha hb (nomark _)
theorem dne : PED X (.Compare a [.NotEq] [b] pos) (tOp (rNe) ta tb) (wOp rdNe wa wb) := dcmp op_ne ref_ne ha hb (nomark _)
theorem disN : PED X (.Compare a [.Is] [b] pos) (tOp (fun x y H Q => y = .non ∧ Q (.bl (decide (x = .non))) H) ta tb) (wOp rdIsN wa wb) := dcmp op_isN ref_isN ha hb (nomark _)
theorem din (hm : behindInMarks .In b = false := by rfl) : PED X (.Compare a [.In] [b] pos) (tOp (rIn X.K false) ta tb) (wOp rdIn wa wb) := dcmp op_in_seq ref_in ha hb hm
theorem tlt : PTD X (.Compare a [.Lt] [b] pos) (tTest (tOp (rI0 fun i j => .bl (decide (i < j))) ta tb)) (wTest (wOp (rdI fun i j => .bl (decide (i < j))) wa wb)) := tcmp op_lt (ref_I fun _ _ _ => .bl _) ha hb (nomark _)
theorem tle : PTD X (.Compare a [.LtE] [b] pos) (tTest (tOp (rI0 fun i j => .bl (decide (i ≤ j))) ta tb)) (wTest (wOp (rdI fun i j => .bl (decide (i ≤ j))) wa wb)) := tcmp op_le (ref_I fun _ _ _ => .bl _) ha hb (nomark _)
theorem tgt : PTD X (.Compare a [.Gt] [b] pos) (tTest (tOp (rI0 fun i j => .bl (decide (j < i))) ta tb)) (wTest (wOp (rdI fun i j => .bl (decide (j < i))) wa wb)) := tcmp op_gt (ref_I fun _ _ _ => .bl _) ha hb (nomark _)
theorem teq : PTD X (.Compare a [.Eq] [b] pos) (tTest (tOp (rEq) ta tb)) (wTest (wOp rdEq wa wb)) := tcmp op_eq ref_eq ha hb (nomark _)
theorem tne : PTD X (.Compare a [.NotEq] [b] pos) (tTest (tOp (rNe) ta tb)) (wTest (wOp rdNe wa wb)) := tcmp op_ne ref_ne ha hb (nomark _)
theorem tisN : PTD X (.Compare a [.Is] [b] pos) (tTest (tOp (fun x y H Q => y = .non ∧ Q (.bl (decide (x = .non))) H) ta tb)) (wTest (wOp rdIsN wa wb)) := tcmp op_isN ref_isN ha hb (nomark _)
theorem tnotN : PTD X (.Compare a [.IsNot] [b] pos) (tTest (tOp (fun x y H Q => y = .non ∧ Q (.bl (!decide (x = .non))) H) ta tb)) (wTest (wOp rdNotN wa wb)) := tcmp op_notN ref_notN ha hb (nomark _)
theorem tin (hm : behindInMarks .In b = false := by rfl) : PTD X (.Compare a [.In] [b] pos) (tTest (tOp (rIn X.K false) ta tb)) (wTest (wOp rdIn wa wb)) := tcmp op_in_seq ref_in ha hb hm
end
/-- a <= b <= c of whole numbers, as a test -/
def wChain (wa wb wc : DE) : DT := fun ρ k => wa ρ fun d ρ1 => wb ρ1 fun e ρ2 => ∃ i j, d = .int i ∧ e = .int j ∧ (i ≤ j → wc ρ2 fun f ρ3 => ∃ l, f = .int l ∧ k (decide (j ≤ l)) ρ3) ∧ (¬ i ≤ j → k false ρ2)
theorem tchain (ha : PED X a ta wa) (hb : PED X b tb wb) (hc : PED X c tc wc) {t : TT} (h : PT X (.Compare a [.LtE, .LtE] [b, c] pos) t)
    (ht : t = fun σ H Q => tChain (rI0 fun i j => .bl (decide (i ≤ j))) (rI0 fun i j => .bl (decide (i ≤ j))) ta tb tc σ H fun x H' => ∃ k, x = .bl k ∧ Q k H') : PTD X (.Compare a [.LtE, .LtE] [b, c] pos) t (wChain wa wb wc) := by
  subst ht
  refine ⟨h, ?_⟩
  intro B Hs H σ ρ k Q r0 hw hQ
  refine ha.ref B Hs H σ ρ _ _ r0 hw fun v Hs1 H1 d ρ1 s1 r1 d1 q1 => ?_
  refine hb.ref B Hs1 H1 σ ρ1 _ _ r1 q1 fun u Hs2 H2 e ρ2 s2 r2 d2 q2 => ?_
  obtain ⟨i, j, rfl, rfl, y, n⟩ := q2
  refine ⟨i, j, (d1.mono s2).int_inv, d2.int_inv, _, rfl, ?_⟩
  by_cases h : i ≤ j
  · rw [decide_eq_true h, if_pos rfl]
    refine hc.ref B Hs2 H2 σ ρ2 _ _ r2 (y h) fun x Hs3 H3 f ρ3 s3 r3 d3 q3 => ?_
    obtain ⟨l, rfl, q⟩ := q3
    exact ⟨j, l, (d2.mono s3).int_inv, d3.int_inv, _, rfl, hQ _ Hs3 H3 ρ3 ((s1.trans s2).trans s3) r3 q⟩
  · rw [decide_eq_false h, if_neg Bool.false_ne_true]
    exact ⟨_, rfl, hQ _ Hs2 H2 ρ2 (s1.trans s2) r2 (n h)⟩

/-! ### and, or, not -/
def wAnd (wt wu : DT) : DT := fun ρ k => wt ρ fun b ρ1 => (b = true → wu ρ1 k) ∧ (b = false → k false ρ1)
def wOr (wt wu : DT) : DT := fun ρ k => wt ρ fun b ρ1 => (b = true → k true ρ1) ∧ (b = false → wu ρ1 k)
def wNot (wt : DT) : DT := fun ρ k => wt ρ fun b ρ1 => k (!b) ρ1
structure PWD (X : Cx) (e : Expr) (t : TT) (w : DT) : Prop where
  pe : PW X e t
  ref : RefT X.K t w
variable {tA tB' : TT} {wA wB : DT} {rest : List Expr}
theorem PWD.pt (h : PWD X e tA wA) : PTD X e tA wA := ⟨h.pe.pt, h.ref⟩
theorem tand1 (h : PTD X a tA wA) : PWD X (.BoolOp .And [a] pos) tA wA := ⟨pw_and1 h.pe, h.ref⟩
theorem tor1 (h : PTD X a tA wA) : PWD X (.BoolOp .Or [a] pos) tA wA := ⟨pw_or1 h.pe, h.ref⟩
theorem tand (h : PTD X a tA wA) (h2 : PWD X (.BoolOp .And (b :: rest) pos) tB' wB) : PWD X (.BoolOp .And (a :: b :: rest) pos) (tAnd tA tB') (wAnd wA wB) := by
  refine ⟨pw_and h.pe h2.pe, ?_⟩
  intro B Hs H σ ρ k Q r hw hQ
  refine h.ref B Hs H σ ρ _ _ r hw fun x Hs1 H1 ρ1 s1 r1 q1 => ?_
  cases x with
  | true =>
    show tB' σ H1 Q
    exact h2.ref B Hs1 H1 σ ρ1 _ _ r1 (q1.1 rfl) fun y Hs2 H2 ρ2 s2 => hQ y Hs2 H2 ρ2 (s1.trans s2)
  | false => exact hQ false Hs1 H1 ρ1 s1 r1 (q1.2 rfl)
theorem tor (h : PTD X a tA wA) (h2 : PWD X (.BoolOp .Or (b :: rest) pos) tB' wB) : PWD X (.BoolOp .Or (a :: b :: rest) pos) (tOr tA tB') (wOr wA wB) := by
  refine ⟨pw_or h.pe h2.pe, ?_⟩
  intro B Hs H σ ρ k Q r hw hQ
  refine h.ref B Hs H σ ρ _ _ r hw fun x Hs1 H1 ρ1 s1 r1 q1 => ?_
  cases x with
  | true => exact hQ true Hs1 H1 ρ1 s1 r1 (q1.1 rfl)
  | false =>
    show tB' σ H1 Q
    exact h2.ref B Hs1 H1 σ ρ1 _ _ r1 (q1.2 rfl) fun y Hs2 H2 ρ2 s2 => hQ y Hs2 H2 ρ2 (s1.trans s2)
theorem tnot (h : PTD X a tA wA) : PTD X (.UnaryOp .Not a pos) (tNot tA) (wNot wA) := by
  refine ⟨pt_not h.pe, ?_⟩
  intro B Hs H σ ρ k Q r hw hQ
  exact h.ref B Hs H σ ρ _ _ r hw fun x Hs1 H1 ρ1 s1 r1 q1 => hQ (!x) Hs1 H1 ρ1 s1 r1 q1
/-- a value that is a truth value, as a test -/
theorem tval (h : PED X e te we) (he : ∀ whole, isTrue e X.env whole = (do let v ← whole; standAt e.pos; holding [v] (truthy v)) := by intro _; rfl) : PTD X e (tB te) (wTest we) := by
  refine ⟨pt_val h.pe he, ?_⟩
  intro B Hs H σ ρ k Q r hw hQ
  refine h.ref B Hs H σ ρ _ _ r hw fun v Hs1 H1 d ρ1 s1 r1 d1 q1 => ?_
  obtain ⟨b, rfl, q⟩ := q1
  exact ⟨b, d1.bl_inv, hQ b Hs1 H1 ρ1 s1 r1 q⟩
/-- as values -/
def wAndV (wa wb : DE) : DE := fun ρ k => wa ρ fun d ρ1 => ∃ b, d = .bl b ∧ (b = true → wb ρ1 k) ∧ (b = false → k (.bl false) ρ1)
def wOrV (wa wb : DE) : DE := fun ρ k => wa ρ fun d ρ1 => ∃ b, d = .bl b ∧ (b = true → k (.bl true) ρ1) ∧ (b = false → wb ρ1 k)
def wNotV (wa : DE) : DE := fun ρ k => wa ρ fun d ρ1 => ∃ b, d = .bl b ∧ k (.bl !b) ρ1
theorem done1 {op} {t : TE} {w : DE} (h : PED X a t w) : PED X (.BoolOp op [a] pos) t w := ⟨pe_one h.pe, h.ref⟩
theorem dand (ha : PED X a ta wa) (hb : PED X (.BoolOp .And (b :: rest) pos) tb wb) : PED X (.BoolOp .And (a :: b :: rest) pos) (tAndV ta tb) (wAndV wa wb) := by
  refine ⟨pe_and ha.pe hb.pe, ?_⟩
  intro B Hs H σ ρ k Q r hw hQ
  refine ha.ref B Hs H σ ρ _ _ r hw fun v Hs1 H1 d ρ1 s1 r1 d1 q1 => ?_
  obtain ⟨x, rfl, y, n⟩ := q1
  refine ⟨x, d1.bl_inv, ?_⟩
  cases x with
  | true =>
    show tb σ H1 Q
    exact hb.ref B Hs1 H1 σ ρ1 _ _ r1 (y rfl) fun u Hs2 H2 d2 ρ2 s2 => hQ u Hs2 H2 d2 ρ2 (s1.trans s2)
  | false => exact hQ _ Hs1 H1 _ ρ1 s1 r1 (.bl false) (n rfl)
theorem dor (ha : PED X a ta wa) (hb : PED X (.BoolOp .Or (b :: rest) pos) tb wb) : PED X (.BoolOp .Or (a :: b :: rest) pos) (tOrV ta tb) (wOrV wa wb) := by
  refine ⟨pe_or ha.pe hb.pe, ?_⟩
  intro B Hs H σ ρ k Q r hw hQ
  refine ha.ref B Hs H σ ρ _ _ r hw fun v Hs1 H1 d ρ1 s1 r1 d1 q1 => ?_
  obtain ⟨x, rfl, y, n⟩ := q1
  refine ⟨x, d1.bl_inv, ?_⟩
  cases x with
  | true => exact hQ _ Hs1 H1 _ ρ1 s1 r1 (.bl true) (y rfl)
  | false =>
    show tb σ H1 Q
    exact hb.ref B Hs1 H1 σ ρ1 _ _ r1 (n rfl) fun u Hs2 H2 d2 ρ2 s2 => hQ u Hs2 H2 d2 ρ2 (s1.trans s2)
theorem dnot (ha : PED X a ta wa) : PED X (.UnaryOp .Not a pos) (tNotV ta) (wNotV wa) := by
  refine ⟨pe_not ha.pe, ?_⟩
  intro B Hs H σ ρ k Q r hw hQ
  refine ha.ref B Hs H σ ρ _ _ r hw fun v Hs1 H1 d ρ1 s1 r1 d1 q1 => ?_
  obtain ⟨x, rfl, q⟩ := q1
  exact ⟨x, d1.bl_inv, hQ _ Hs1 H1 _ ρ1 s1 r1 (.bl _) q⟩
end
end K36
set_option Elab.async false
set_option linter.all false
set_option maxRecDepth 100000
set_option maxHeartbeats 2000000
namespace K36
open PySem PySem.Spec PyProof.Rows L2

theorem same_seqT {K : PySem.W.Frag} {H H' : Hp} {a : Addr} {xs : List V} (e : Same H H') (h : SqT K H a xs) : SqT K H' a xs := by
  rcases h with (h | ⟨o, h⟩) | h
  · exact .inl (.inl (e _ _ h))
  · exact .inl (.inr ⟨o, e _ _ h⟩)
  · exact .inr h
theorem sz1000 {n : Nat} (h : Nat.ble n 1000 = true) : n ≤ sizeLine := Nat.le_of_lt (small1000 (Nat.le_of_ble_eq_true h))
theorem szM {n : Nat} (h : n ≤ 1000000) : n ≤ sizeLine := Nat.le_trans h (by decide)
theorem szMl {n : Nat} (h : n < 1000000) : n < sizeLine := Nat.lt_of_lt_of_le h (by decide)

section
variable {X : Cx} {a b c e : Expr} {es : List Expr} {ta tb tc te : TE} {wa wb wc we : DE} {t : TA} {w : DA} {pos : Pos}

/-! ### arguments, tuples, lists -/
def wNil : DA := fun ρ k => k [] ρ
def wCons (we : DE) (wr : DA) : DA := fun ρ k => we ρ fun d ρ1 => wr ρ1 fun ds ρ2 => k (d :: ds) ρ2
theorem dnil : PAD X [] tNil wNil := by
  refine ⟨pa_nil, ?_⟩
  intro B Hs H σ ρ k Q r hw hQ
  exact hQ [] Hs H [] ρ (Same.refl _) r Rl.nil hw
theorem dcons (ha : PED X e te we) (hr : PAD X es t w) (hs : starEach (e :: es) X.env = (false, eval e X.env) :: starEach es X.env := by rfl) : PAD X (e :: es) (tCons te t) (wCons we w) := by
  refine ⟨pa_cons ha.pe hr.pe hs, ?_⟩
  intro B Hs H σ ρ k Q r hw hQ
  refine ha.ref B Hs H σ ρ _ _ r hw fun v Hs1 H1 d ρ1 s1 r1 d1 q1 => ?_
  exact hr.ref B Hs1 H1 σ ρ1 _ _ r1 q1 fun vs Hs2 H2 ds ρ2 s2 r2 d2 q2 => hQ _ Hs2 H2 _ ρ2 (s1.trans s2) r2 (Rl.cons (d1.mono s2) d2) q2
def wTup (w : DA) : DE := fun ρ k => w ρ fun ds ρ1 => Nat.ble ds.length 1000 = true ∧ k (.tup ds) ρ1
theorem dtup {x1} (h : PAD X es t w) : PED X (.Tuple es x1 pos) (tTup t) (wTup w) := by
  refine ⟨pe_tup h.pe, ?_⟩
  intro B Hs H σ ρ k Q r hw hQ
  refine h.ref B Hs H σ ρ _ _ r hw fun vs Hs1 H1 ds ρ1 s1 r1 d1 q1 => ⟨sz1000 (by rw [d1.1]; exact q1.1), fun p hp => ?_⟩
  obtain ⟨s2, r2⟩ := r1.new (o := .tup vs) hp
  exact hQ _ _ _ _ ρ1 (s1.trans s2) r2 (DR.mk_tup upd_same (d1.mono s2)) q1.2
/-- a new list, from a reading that lays one -/
theorem ref_new {K : PySem.W.Frag} {B : Bs} {Hs H : Hp} {σ : L2.St} {ρ : List Sl} {k : List D → List Sl → Prop} {Q : VK} {vs : List V} {ds : List D} (r : Rep K B Hs H σ ρ) (d : Rl K Hs vs ds) (q : k ds ρ)
    (hQ : ∀ p vs Hs' H' ds ρ', Same Hs Hs' → Rep K B Hs' H' σ ρ' → Hs' p = none → B.h p = none → H' p = some (.lst vs) → Rl K Hs' vs ds → (∀ (i : Nat) ds, ρ'[i]? = some (.own ds) → σ[i]? ≠ some (some (.ref p))) → k ds ρ' → Q (.ref p) H') :
    ∀ p, H p = none → Q (.ref p) (upd H p (.lst vs)) := fun p hp =>
  hQ p vs Hs _ ds ρ (Same.refl _) (r.laid hp) (r.same.free hp) (r.ent.free hp) upd_same d (r.notOwn hp) q
theorem dlist (h : PAD X es t w) (hl : Nat.ble es.length 1000 = true := by rfl) : PLD X (.List es pos) (tLst t) (fun ρ k => w ρ fun ds ρ1 => Nat.ble ds.length 1000 = true ∧ k ds ρ1) := by
  refine ⟨pe_lst h.pe, ?_⟩
  intro B Hs H σ ρ k Q r hw hQ
  refine h.ref B Hs H σ ρ _ _ r hw fun vs Hs1 H1 ds ρ1 s1 r1 d1 q1 => ⟨sz1000 (by rw [d1.1]; exact q1.1), ref_new r1 d1 q1.2 fun p vs Hs' H' ds ρ' s' => hQ p vs Hs' H' ds ρ' (s1.trans s')⟩
/-- a new list as data -/
def wL (w : DA) : DE := fun ρ k => w ρ fun ds ρ1 => k (.lst ds) ρ1
theorem PLD.asE {w : DA} (h : PLD X e te w) : PED X e te (wL w) := by
  refine ⟨h.pe, ?_⟩
  intro B Hs H σ ρ k Q r hw hQ
  refine h.ref B Hs H σ ρ _ _ r hw fun p vs Hs1 H1 ds ρ1 s1 r1 h1 h2 h3 h4 h5 q1 => ?_
  obtain ⟨s2, r2, d2⟩ := r1.settleNew h1 h2 h3 h4 h5
  exact hQ _ _ H1 _ ρ1 (s1.trans s2) r2 d2 q1

/-! ### items, slices -/
theorem rl_atI {K : PySem.W.Frag} {H : Hp} {vs : List V} {ds : List D} {i : Int} {d : D} (r : Rl K H vs ds) (h : atI ds i = some d) : ∃ v, atI vs i = some v ∧ DR K H v d := by
  unfold atI at h ⊢
  rw [r.1]
  obtain ⟨j, e1, e2⟩ := Option.bind_eq_some_iff.mp h
  obtain ⟨v, e3, e4⟩ := r.get e2
  exact ⟨v, Option.bind_eq_some_iff.mpr ⟨j, e1, e3⟩, e4⟩
def rdIx : RD2 := fun d e ρ k => ∃ l i x, d.seq = some l ∧ e = .int i ∧ atI l i = some x ∧ k x ρ
theorem ref_ix {K : PySem.W.Frag} : RefR K (rIx K) rdIx := by
  intro B Hs H σ ρ x y d e k Q r dx dy hw hQ
  obtain ⟨l, i, z, h1, rfl, h3, q⟩ := hw
  obtain ⟨p, vs, rfl, hs, hr⟩ := dx.seq_inv h1
  obtain ⟨v, h5, h6⟩ := rl_atI hr h3
  have fin := hQ v Hs H z ρ (Same.refl _) r h6 q
  rcases hs with hs | hs
  · exact .inl ⟨p, vs, i, v, rfl, dy.int_inv, r.same.seq hs, h5, fin⟩
  · exact .inr (.inl ⟨p, vs, i, v, rfl, dy.int_inv, same_seqT r.same hs, h5, fin⟩)
theorem dix (ha : PED X a ta wa) (hb : PED X b tb wb) (hs : PlainIx b := by exact fun _ _ => rfl) : PED X (.Subscript a b pos) (tOp (rIx X.K) ta tb) (wOp rdIx wa wb) := ⟨pe_ix ix_seq ha.pe hb.pe hs, ref_op ha.ref hb.ref ref_ix⟩
/-- an item of a list of the def's own -/
def wIxO (i : Nat) (wb : DE) : DE := fun ρ k => (∃ l, ρ[i]? = some (.own l)) ∧ wb ρ fun e ρ1 => ∃ l j x, ρ1[i]? = some (.own l) ∧ e = .int j ∧ atI l j = some x ∧ k x ρ1
theorem dixO (i : Nat) {x : PySem.Str} {px : Pos} (hb : PED X b tb wb) (hs : PlainIx b := by exact fun _ _ => rfl) (hN : X.N[i]? = some x := by rfl) (hv : Vis X.env.scope x := by first | exact Or.inl rfl | exact Or.inr (Or.inl rfl) | exact Or.inr (Or.inr rfl)) (hd : (x == ("__debug__" : PySem.Str)) = false := by decide)
    (hcd : (x == ("__classdict__" : PySem.Str)) = false := by decide) : PED X (.Subscript (.Name x px) b pos) (tOp (rIx X.K) (tVar i) tb) (wIxO i wb) := by
  refine ⟨pe_ix ix_seq (pe_var hN hv hd hcd) hb.pe hs, ?_⟩
  intro B Hs H σ ρ k Q r hw hQ
  obtain ⟨⟨l0, e0⟩, hw⟩ := hw
  obtain ⟨p, vs0, e1, _⟩ := r.own i l0 e0
  refine ⟨.ref p, e1, hb.ref B Hs H σ ρ _ _ r hw fun v Hs1 H1 d ρ1 s1 r1 d1 q1 => ?_⟩
  obtain ⟨l, j, z, g1, rfl, g3, q⟩ := q1
  obtain ⟨p', vs, f1, f2, f3, f4, f5⟩ := r1.own i l g1
  rw [e1] at f1
  cases f1
  obtain ⟨u, h5, h6⟩ := rl_atI f5 g3
  exact .inl ⟨p, vs, j, u, rfl, d1.int_inv, SqL.of f4, h5, hQ u Hs1 H1 z ρ1 s1 r1 h6 q⟩

/-! ### built-ins -/
theorem ref_cb1 {K : PySem.W.Frag} {r : List V → Hp → VK → Prop} {wr : D → List Sl → (D → List Sl → Prop) → Prop} (ha : RefE K ta wa)
    (hr : ∀ (B : Bs) (Hs H : Hp) (σ : L2.St) (ρ : List Sl) (x : V) (d : D) (k : D → List Sl → Prop) (Q : VK), Rep K B Hs H σ ρ → DR K Hs x d → wr d ρ k → (∀ v Hs' H' d ρ', Same Hs Hs' → Rep K B Hs' H' σ ρ' → DR K Hs' v d → k d ρ' → Q v H') → r [x] H Q) :
    RefE K (tCB r (tCons ta tNil)) (fun ρ k => wa ρ fun d ρ1 => wr d ρ1 k) := by
  intro B Hs H σ ρ k Q r0 hw hQ
  refine ha B Hs H σ ρ _ _ r0 hw fun v Hs1 H1 d ρ1 s1 r1 d1 q1 => ?_
  exact hr B Hs1 H1 σ ρ1 v d k Q r1 d1 q1 fun v' Hs' H' d' ρ' s' => hQ v' Hs' H' d' ρ' (s1.trans s')
abbrev rLenS (K : PySem.W.Frag) : List V → Hp → VK → Prop := fun xs H Q => ∃ p ys, xs = [.ref p] ∧ (SqL K H p ys ∨ SqT K H p ys) ∧ Q (.int ys.length) H
def wLen (wa : DE) : DE := fun ρ k => wa ρ fun d ρ1 => ∃ l, d.seq = some l ∧ k (.int l.length) ρ1
theorem dlen {p : Pos} (hm : X.mg "len" = none) (ha : PED X a ta wa) (hg : Gl X "len" := by rfl) (hs : starEach [a] X.env = (false, eval a X.env) :: starEach [] X.env := by rfl) : PED X (.Call (.Name "len" p) [a] [] pos) (tCB (rLenS X.K) (tCons ta tNil)) (wLen wa) := by
  refine ⟨pe_callB call_len_seq hg hm PySem.boot_len (pa_cons ha.pe pa_nil hs) (by decide) (by decide) hs rfl, ?_⟩
  refine ref_cb1 (wr := fun d ρ1 k => ∃ l, d.seq = some l ∧ k (.int l.length) ρ1) ha.ref ?_
  intro B Hs H σ ρ x d k Q r dx hw hQ
  obtain ⟨l, h1, q⟩ := hw
  obtain ⟨p, vs, rfl, hs, hr⟩ := dx.seq_inv h1
  refine ⟨p, vs, rfl, ?_, by rw [hr.1]; exact hQ _ Hs H _ ρ (Same.refl _) r (.int _) q⟩
  rcases hs with hs | hs
  · exact .inl (r.same.seq hs)
  · exact .inr (same_seqT r.same hs)
def wLenO (i : Nat) : DE := fun ρ k => ∃ l, ρ[i]? = some (.own l) ∧ k (.int l.length) ρ
theorem dlenO (i : Nat) {x : PySem.Str} {p px : Pos} (hm : X.mg "len" = none) (hg : Gl X "len" := by rfl) (hN : X.N[i]? = some x := by rfl) (hv : Vis X.env.scope x := by first | exact Or.inl rfl | exact Or.inr (Or.inl rfl) | exact Or.inr (Or.inr rfl))
    (hd : (x == ("__debug__" : PySem.Str)) = false := by decide) (hcd : (x == ("__classdict__" : PySem.Str)) = false := by decide) (hs : starEach [.Name x px] X.env = (false, eval (.Name x px) X.env) :: starEach [] X.env := by rfl) :
    PED X (.Call (.Name "len" p) [.Name x px] [] pos) (tCB (rLenS X.K) (tCons (tVar i) tNil)) (wLenO i) := by
  refine ⟨pe_callB call_len_seq hg hm PySem.boot_len (pa_cons (pe_var hN hv hd hcd) pa_nil hs) (by decide) (by decide) hs rfl, ?_⟩
  intro B Hs H σ ρ k Q r hw hQ
  obtain ⟨l, e, q⟩ := hw
  obtain ⟨p, vs, f1, f2, f3, f4, f5⟩ := r.own i l e
  exact ⟨.ref p, f1, p, vs, rfl, .inl (SqL.of f4), by rw [f5.1]; exact hQ _ Hs H _ ρ (Same.refl _) r (.int _) q⟩
def wMin (wa wb : DE) : DE := fun ρ k => wa ρ fun d ρ1 => wb ρ1 fun e ρ2 => ∃ i j, d = .int i ∧ e = .int j ∧ k (.int (if j < i then j else i)) ρ2
def wMax (wa wb : DE) : DE := fun ρ k => wa ρ fun d ρ1 => wb ρ1 fun e ρ2 => ∃ i j, d = .int i ∧ e = .int j ∧ k (.int (if j > i then j else i)) ρ2
theorem dmin {p : Pos} (hc : X.calm = true) (hm : X.mg "min" = none) (ha : PED X a ta wa) (hb : PED X b tb wb) (hg : Gl X "min" := by rfl) (hs : starEach [a, b] X.env = (false, eval a X.env) :: starEach [b] X.env := by rfl) (hs2 : starEach [b] X.env = (false, eval b X.env) :: starEach [] X.env := by rfl)
    (hpl : (backTo pos (starEach [b] X.env)).any (·.1) = false := by rfl) :
    PED X (.Call (.Name "min" p) [a, b] [] pos) (tCB (fun xs H Q => ∃ i j, xs = [.int i, .int j] ∧ Q (.int (if j < i then j else i)) H) (tCons ta (tCons tb tNil))) (wMin wa wb) := by
  refine ⟨pe_callB (call_min2 hc) hg hm (by decide +kernel) (pa_cons ha.pe (pa_cons hb.pe pa_nil hs2) hs) (by decide) (by decide) hs hpl, ?_⟩
  intro B Hs H σ ρ k Q r hw hQ
  refine ha.ref B Hs H σ ρ _ _ r hw fun v Hs1 H1 d ρ1 s1 r1 d1 q1 => ?_
  refine hb.ref B Hs1 H1 σ ρ1 _ _ r1 q1 fun u Hs2 H2 e ρ2 s2 r2 d2 q2 => ?_
  obtain ⟨i, j, rfl, rfl, q⟩ := q2
  have e1 := (d1.mono s2).int_inv
  have e2 := d2.int_inv
  subst e1 e2
  exact ⟨i, j, rfl, hQ _ Hs2 H2 _ ρ2 (s1.trans s2) r2 (.int _) q⟩
theorem dmax {p : Pos} (hc : X.calm = true) (hm : X.mg "max" = none) (ha : PED X a ta wa) (hb : PED X b tb wb) (hg : Gl X "max" := by rfl) (hs : starEach [a, b] X.env = (false, eval a X.env) :: starEach [b] X.env := by rfl) (hs2 : starEach [b] X.env = (false, eval b X.env) :: starEach [] X.env := by rfl)
    (hpl : (backTo pos (starEach [b] X.env)).any (·.1) = false := by rfl) :
    PED X (.Call (.Name "max" p) [a, b] [] pos) (tCB (fun xs H Q => ∃ i j, xs = [.int i, .int j] ∧ Q (.int (if j > i then j else i)) H) (tCons ta (tCons tb tNil))) (wMax wa wb) := by
  refine ⟨pe_callB (call_max2 hc) hg hm (by decide +kernel) (pa_cons ha.pe (pa_cons hb.pe pa_nil hs2) hs) (by decide) (by decide) hs hpl, ?_⟩
  intro B Hs H σ ρ k Q r hw hQ
  refine ha.ref B Hs H σ ρ _ _ r hw fun v Hs1 H1 d ρ1 s1 r1 d1 q1 => ?_
  refine hb.ref B Hs1 H1 σ ρ1 _ _ r1 q1 fun u Hs2 H2 e ρ2 s2 r2 d2 q2 => ?_
  obtain ⟨i, j, rfl, rfl, q⟩ := q2
  have e1 := (d1.mono s2).int_inv
  have e2 := d2.int_inv
  subst e1 e2
  exact ⟨i, j, rfl, hQ _ Hs2 H2 _ ρ2 (s1.trans s2) r2 (.int _) q⟩
/-- list(x): a new list -/
theorem dlistOf {p : Pos} (hm : X.mg "list" = none) (ha : PED X a ta wa) (hg : Gl X "list" := by rfl) (hs : starEach [a] X.env = (false, eval a X.env) :: starEach [] X.env := by rfl) :
    PLD X (.Call (.Name "list" p) [a] [] pos) (tCB (fun xs H Q => ∃ p ys, xs = [.ref p] ∧ (SqL X.K H p ys ∨ SqT X.K H p ys) ∧ ∀ l, H l = none → Q (.ref l) (upd H l (.lst ys))) (tCons ta tNil)) (fun ρ k => wa ρ fun d ρ1 => ∃ l, d.seq = some l ∧ k l ρ1) := by
  refine ⟨pe_callTy call_list_of hg hm (by decide +kernel) (pa_cons ha.pe pa_nil hs) (by decide) (by decide) hs rfl, ?_⟩
  intro B Hs H σ ρ k Q r hw hQ
  refine ha.ref B Hs H σ ρ _ _ r hw fun v Hs1 H1 d ρ1 s1 r1 d1 q1 => ?_
  obtain ⟨l, h1, q⟩ := q1
  obtain ⟨p, vs, rfl, h2, hr⟩ := d1.seq_inv h1
  refine ⟨p, vs, rfl, ?_, ref_new r1 hr q fun p vs Hs' H' ds ρ' s' => hQ p vs Hs' H' ds ρ' (s1.trans s')⟩
  rcases h2 with h2 | h2
  · exact .inl (r1.same.seq h2)
  · exact .inr (same_seqT r1.same h2)
/-- tuple(x) -/
def wTupOf (wa : DE) : DE := fun ρ k => wa ρ fun d ρ1 => ∃ l, (d = .lst l ∨ d = .tup l) ∧ k (.tup l) ρ1
theorem dtupOf {p : Pos} (hm : X.mg "tuple" = none) (ha : PED X a ta wa) (hg : Gl X "tuple" := by rfl) (hs : starEach [a] X.env = (false, eval a X.env) :: starEach [] X.env := by rfl) :
    PED X (.Call (.Name "tuple" p) [a] [] pos) (tCB (fun xs H Q => ∃ p ys, xs = [.ref p] ∧ ((SqL X.K H p ys ∧ ∀ l, H l = none → Q (.ref l) (upd H l (.tup ys))) ∨ (SqT X.K H p ys ∧ Q (.ref p) H))) (tCons ta tNil)) (wTupOf wa) := by
  refine ⟨pe_callTy call_tuple_of hg hm (by decide +kernel) (pa_cons ha.pe pa_nil hs) (by decide) (by decide) hs rfl, ?_⟩
  intro B Hs H σ ρ k Q r hw hQ
  refine ha.ref B Hs H σ ρ _ _ r hw fun v Hs1 H1 d ρ1 s1 r1 d1 q1 => ?_
  obtain ⟨l, h1, q⟩ := q1
  rcases h1 with rfl | rfl
  · obtain ⟨p, vs, rfl, h2, hr⟩ := d1.lst_inv
    refine ⟨p, vs, rfl, .inl ⟨SqL.of (r1.same _ _ h2), fun l hl => ?_⟩⟩
    obtain ⟨s2, r2⟩ := r1.new (o := .tup vs) hl
    exact hQ _ _ _ _ ρ1 (s1.trans s2) r2 (DR.mk_tup upd_same (hr.mono s2)) q
  · obtain ⟨p, vs, e, h2, hr⟩ := d1.tup_inv
    subst e
    exact ⟨p, vs, rfl, .inr ⟨SqT.of (r1.same _ _ h2), hQ _ Hs1 H1 _ ρ1 s1 r1 d1 q⟩⟩
/-- two lists one behind the other: a new list -/
theorem dcat (ha : PED X a ta wa) (hb : PED X b tb wb) : PLD X (.BinOp a .Add b pos) (tOp rCat ta tb) (fun ρ k => wa ρ fun d ρ1 => wb ρ1 fun e ρ2 => ∃ l m, d = .lst l ∧ e = .lst m ∧ l.length + m.length ≤ 1000000 ∧ k (l ++ m) ρ2) := by
  refine ⟨pe_op op_cat ha.pe hb.pe, ?_⟩
  intro B Hs H σ ρ k Q r hw hQ
  refine ha.ref B Hs H σ ρ _ _ r hw fun v Hs1 H1 d ρ1 s1 r1 d1 q1 => ?_
  refine hb.ref B Hs1 H1 σ ρ1 _ _ r1 q1 fun u Hs2 H2 e ρ2 s2 r2 d2 q2 => ?_
  obtain ⟨l, m, rfl, rfl, hz, q⟩ := q2
  obtain ⟨p, vs, rfl, h1, g1⟩ := (d1.mono s2).lst_inv
  obtain ⟨p', ws, rfl, h2, g2⟩ := d2.lst_inv
  exact ⟨p, p', vs, ws, rfl, rfl, r2.same _ _ h1, r2.same _ _ h2, by rw [g1.1, g2.1]; exact szM hz, ref_new r2 (g1.append g2) q fun p vs Hs' H' ds ρ' s' => hQ p vs Hs' H' ds ρ' ((s1.trans s2).trans s')⟩
/-- two tuples one behind the other -/
def wCatT (wa wb : DE) : DE := fun ρ k => wa ρ fun d ρ1 => wb ρ1 fun e ρ2 => ∃ l m, d = .tup l ∧ e = .tup m ∧ l.length + m.length ≤ 1000000 ∧ k (.tup (l ++ m)) ρ2
theorem dcatT (ha : PED X a ta wa) (hb : PED X b tb wb) : PED X (.BinOp a .Add b pos) (tOp (rCatA X.K) ta tb) (wCatT wa wb) := by
  refine ⟨pe_op op_catA ha.pe hb.pe, ?_⟩
  intro B Hs H σ ρ k Q r hw hQ
  refine ha.ref B Hs H σ ρ _ _ r hw fun v Hs1 H1 d ρ1 s1 r1 d1 q1 => ?_
  refine hb.ref B Hs1 H1 σ ρ1 _ _ r1 q1 fun u Hs2 H2 e ρ2 s2 r2 d2 q2 => ?_
  obtain ⟨l, m, rfl, rfl, hz, q⟩ := q2
  have d1' := d1.mono s2
  obtain ⟨p, vs, rfl, h1, g1⟩ := d1'.tup_inv
  obtain ⟨p', ws, rfl, h2, g2⟩ := d2.tup_inv
  refine ⟨p, p', vs, ws, rfl, rfl, SqT.of (r2.same _ _ h1), SqT.of (r2.same _ _ h2), by rw [g1.1, g2.1]; exact szM hz, fun e0 => ?_, fun _ e0 => ?_, fun _ _ p2 hp2 => ?_⟩
  · subst e0
    have el : l = [] := List.eq_nil_of_length_eq_zero g1.1.symm
    subst el
    exact hQ _ Hs2 H2 _ ρ2 (s1.trans s2) r2 d2 q
  · subst e0
    have el : m = [] := List.eq_nil_of_length_eq_zero g2.1.symm
    subst el
    refine hQ _ Hs2 H2 _ ρ2 (s1.trans s2) r2 d1' ?_
    rw [List.append_nil] at q
    exact q
  · obtain ⟨s3, r3⟩ := r2.new (o := .tup (vs ++ ws)) hp2
    exact hQ _ _ _ _ ρ2 ((s1.trans s2).trans s3) r3 (DR.mk_tup upd_same ((g1.append g2).mono s3)) q
/-! a part of a slice: written or not -/
abbrev DO := List Sl → (Option Int → List Sl → Prop) → Prop
def RefO (K : PySem.W.Frag) (t : TO) (w : DO) : Prop := ∀ (B : Bs) (Hs H : Hp) (σ : L2.St) (ρ : List Sl) (k : Option Int → List Sl → Prop) (Q : Option Int → Hp → Prop), Rep K B Hs H σ ρ → w ρ k →
  (∀ o Hs' H' ρ', Same Hs Hs' → Rep K B Hs' H' σ ρ' → k o ρ' → Q o H') → t σ H Q
structure POD (X : Cx) (e : Option Expr) (t : TO) (w : DO) : Prop where
  pe : PO X e t
  ref : RefO X.K t w
theorem dono : POD X none tNoPart (fun ρ k => k none ρ) := ⟨po_none, fun B Hs H σ ρ k Q r hw hQ => hQ none Hs H ρ (Same.refl _) r hw⟩
def wPart (wa : DE) : DO := fun ρ k => wa ρ fun d ρ1 => ∃ i, d = .int i ∧ k (some i) ρ1
theorem dosome (ha : PED X a ta wa) : POD X (some a) (tPart ta) (wPart wa) := by
  refine ⟨po_some ha.pe, ?_⟩
  intro B Hs H σ ρ k Q r hw hQ
  refine ha.ref B Hs H σ ρ _ _ r hw fun v Hs1 H1 d ρ1 s1 r1 d1 q1 => ?_
  obtain ⟨i, rfl, q⟩ := q1
  exact ⟨i, d1.int_inv, hQ _ Hs1 H1 ρ1 s1 r1 q⟩
/-- a cut of a list of data -/
def cutD {α : Type} (xs : List α) (lo hi : Option Int) : List α := (xs.drop (HT.sIx xs.length 0 lo)).take (HT.sIx xs.length xs.length hi - HT.sIx xs.length 0 lo)
theorem rl_cut {K : PySem.W.Frag} {H : Hp} {vs : List V} {ds : List D} (r : Rl K H vs ds) (lo hi : Option Int) : Rl K H (cutV vs lo hi) (cutD ds lo hi) := by
  unfold cutV cutD
  rw [r.1]
  exact (r.drop _).take _
theorem cutD_length {α : Type} (xs : List α) (lo hi : Option Int) : (cutD xs lo hi).length ≤ xs.length := by
  unfold cutD
  rw [List.length_take, List.length_drop]
  omega
variable {lo hi : Option Expr} {tl th : TO} {wl wh : DO}
/-- x[lo:hi] of a list: a new list -/
theorem dslice {p2 : Pos} (ha : PED X a ta wa) (hl : POD X lo tl wl) (hh : POD X hi th wh) : PLD X (.Subscript a (.Slice lo hi none p2) pos) (tSl (rSlL X.K) ta tl th) (fun ρ k => wa ρ fun d ρ1 => wl ρ1 fun i ρ2 => wh ρ2 fun j ρ3 => ∃ l, (d = .lst l ∨ ∃ ns, d = .scr ns ∧ l = ns.map D.int) ∧ k (cutD l i j) ρ3) := by
  refine ⟨pe_slice sl_list ha.pe hl.pe hh.pe, ?_⟩
  intro B Hs H σ ρ k Q r hw hQ
  refine ha.ref B Hs H σ ρ _ _ r hw fun v Hs1 H1 d ρ1 s1 r1 d1 q1 => ?_
  refine hl.ref B Hs1 H1 σ ρ1 _ _ r1 q1 fun i Hs2 H2 ρ2 s2 r2 q2 => ?_
  refine hh.ref B Hs2 H2 σ ρ2 _ _ r2 q2 fun j Hs3 H3 ρ3 s3 r3 q3 => ?_
  obtain ⟨l, h1, q⟩ := q3
  have d3 := d1.mono (s2.trans s3)
  have go : ∀ p vs, v = .ref p → SqL X.K Hs3 p vs → Rl X.K Hs3 vs l → rSlL X.K v i j H3 Q := fun p vs e hs g => ⟨p, vs, e, r3.same.seq hs, ref_new r3 (rl_cut g i j) q fun p vs Hs' H' ds ρ' s' => hQ p vs Hs' H' ds ρ' (((s1.trans s2).trans s3).trans s')⟩
  rcases h1 with rfl | ⟨ns, rfl, rfl⟩
  · obtain ⟨p, vs, e, h2, g⟩ := d3.lst_inv
    exact go p vs e (SqL.of h2) g
  · cases d3 with
    | scr h2 => exact go _ _ rfl h2 Rl.of_ints
/-- x[lo:hi] of a tuple -/
def wSliceT (wa : DE) (wl wh : DO) : DE := fun ρ k => wa ρ fun d ρ1 => wl ρ1 fun i ρ2 => wh ρ2 fun j ρ3 => ∃ l, d = .tup l ∧ k (.tup (cutD l i j)) ρ3
theorem dsliceT {p2 : Pos} (ha : PED X a ta wa) (hl : POD X lo tl wl) (hh : POD X hi th wh) : PED X (.Subscript a (.Slice lo hi none p2) pos) (tSl (rSlA X.K) ta tl th) (wSliceT wa wl wh) := by
  refine ⟨pe_slice sl_tupA ha.pe hl.pe hh.pe, ?_⟩
  intro B Hs H σ ρ k Q r hw hQ
  refine ha.ref B Hs H σ ρ _ _ r hw fun v Hs1 H1 d ρ1 s1 r1 d1 q1 => ?_
  refine hl.ref B Hs1 H1 σ ρ1 _ _ r1 q1 fun i Hs2 H2 ρ2 s2 r2 q2 => ?_
  refine hh.ref B Hs2 H2 σ ρ2 _ _ r2 q2 fun j Hs3 H3 ρ3 s3 r3 q3 => ?_
  obtain ⟨l, rfl, q⟩ := q3
  have d3 := d1.mono (s2.trans s3)
  obtain ⟨p, vs, rfl, h2, g⟩ := d3.tup_inv
  refine ⟨p, vs, rfl, SqT.of (r3.same _ _ h2), fun hw => ?_, fun _ p2 hp2 => ?_⟩
  · rw [g.1] at hw
    refine hQ _ Hs3 H3 _ ρ3 ((s1.trans s2).trans s3) r3 d3 ?_
    have e : cutD l i j = l := by
      unfold cutD
      rw [hw.1, hw.2, List.drop_zero, Nat.sub_zero, List.take_length]
    rw [e] at q
    exact q
  · obtain ⟨s4, r4⟩ := r3.new (o := .tup (cutV vs i j)) hp2
    exact hQ _ _ _ _ ρ3 (((s1.trans s2).trans s3).trans s4) r4 (DR.mk_tup upd_same ((rl_cut g i j).mono s4)) q
end

/-! ### what a def promises, over data -/
abbrev SpD := List D → (D → Prop) → Prop
def spOf (K : PySem.W.Frag) (sp : SpD) : Sp := fun vs H Q _ => ∃ (Hs : Hp) (ds : List D) (k0 : D → Prop), Same Hs H ∧ Rl K Hs vs ds ∧ sp ds k0 ∧
  ∀ d v Hs' H', k0 d → Same H H' → Same Hs Hs' → Same Hs' H' → (∀ a, Hs a = none → H a ≠ none → Hs' a = none) → DR K Hs' v d → Q v H'
/-- .. that hands back a list of the caller's own -/
abbrev SpN := List D → (List D → Prop) → Prop
def spOfN (K : PySem.W.Frag) (sp : SpN) : Sp := fun vs H Q _ => ∃ (Hs : Hp) (ds : List D) (k0 : List D → Prop), Same Hs H ∧ Rl K Hs vs ds ∧ sp ds k0 ∧
  ∀ l p ws Hs' H', k0 l → Same H H' → Same Hs Hs' → Same Hs' H' → (∀ a, Hs a = none → H a ≠ none → Hs' a = none) → Hs' p = none → H p = none → H' p = some (.lst ws) → Rl K Hs' ws l → Q (.ref p) H'
section
variable {K : PySem.W.Frag} {B : Bs} {Hs H : Hp} {σ : L2.St} {ρ : List Sl}
/-- a call, by its promise -/
theorem spOf_call {sp : SpD} {vs : List V} {ds : List D} {k : D → List Sl → Prop} {Q : VK} {E : XK} (r : Rep K B Hs H σ ρ) (d : Rl K Hs vs ds) (q : sp ds fun x => k x ρ)
    (hQ : ∀ v Hs' H' d ρ', Same Hs Hs' → Rep K B Hs' H' σ ρ' → DR K Hs' v d → k d ρ' → Q v H') : spOf K sp vs H Q E :=
  ⟨Hs, ds, fun x => k x ρ, r.same, d, q, fun x v Hs' H' hk s1 s2 s3 s4 dr => hQ v Hs' H' x ρ s2 (r.grow s2 s3 s1 s4) dr hk⟩
theorem spOfN_call {sp : SpN} {vs : List V} {ds : List D} {k : List D → List Sl → Prop} {Q : VK} {E : XK} (r : Rep K B Hs H σ ρ) (d : Rl K Hs vs ds) (q : sp ds fun x => k x ρ)
    (hQ : ∀ p vs Hs' H' ds ρ', Same Hs Hs' → Rep K B Hs' H' σ ρ' → Hs' p = none → B.h p = none → H' p = some (.lst vs) → Rl K Hs' vs ds → (∀ (i : Nat) ds, ρ'[i]? = some (.own ds) → σ[i]? ≠ some (some (.ref p))) → k ds ρ' → Q (.ref p) H') : spOfN K sp vs H Q E :=
  ⟨Hs, ds, fun x => k x ρ, r.same, d, q, fun l p ws Hs' H' hk s1 s2 s3 s4 n1 n2 hp g => hQ p ws Hs' H' l ρ s2 (r.grow s2 s3 s1 s4) n1 (r.ent.free n2) hp g (r.notOwn n2) hk⟩
end
structure DF (P : Program) (w : World) (K : PySem.W.Frag) (mg : PySem.Str → Option Value) (base : Heap) (k : Nat) (x : PySem.Str) (ps : List PySem.Str) (sp : Sp) : Prop where
  ex : ∃ f fd, FnOk P w K mg base CX0 k f fd ps sp ∧ mg x = some (.ref f) ∧ PySem.W.keepIn K (.ref f) = true ∧ Binds K fd ps []
theorem DF.mono {P : Program} {w : World} {K : PySem.W.Frag} {mg : PySem.Str → Option Value} {base : Heap} {j k : Nat} {x : PySem.Str} {ps : List PySem.Str} {sp : Sp} (h : DF P w K mg base j x ps sp) (hl : j ≤ k) : DF P w K mg base k x ps sp := by
  obtain ⟨f, fd, h1, h2⟩ := h.ex
  exact ⟨f, fd, h1.mono hl, h2⟩
section
variable {X : Cx} {e : Expr} {es : List Expr} {t : TA} {w : DA} {p pos : Pos} {x : PySem.Str} {k : Nat} {ps : List PySem.Str}
def wCall (sp : SpD) (w : DA) : DE := fun ρ k => w ρ fun ds ρ1 => sp ds fun d => k d ρ1
theorem dcall {sp : SpD} (F : DF X.prog X.w X.K X.mg X.base k x ps (spOf X.K sp)) (hr : Room k X.A) (ha : PAD X (e :: es) t w) (hg : Gl X x := by rfl) (hdb : (x == ("__debug__" : PySem.Str)) = false := by decide)
    (he : starEach (e :: es) X.env = (false, eval e X.env) :: starEach es X.env := by rfl) (hpl : (backTo pos (starEach es X.env)).any (·.1) = false := by rfl) :
    PED X (.Call (.Name x p) (e :: es) [] pos) (tCall (spOf X.K sp) [] E0 t) (wCall sp w) := by
  obtain ⟨f, fd, h1, h2, h3, h4⟩ := F.ex
  refine ⟨pe_call h1 hr hg h2 h3 h4 .nil pass0 ha.pe hdb he hpl, ?_⟩
  intro B Hs H σ ρ k Q r hw hQ
  refine ha.ref B Hs H σ ρ _ _ r hw fun vs Hs1 H1 ds ρ1 s1 r1 d1 q1 => ?_
  rw [List.append_nil]
  exact spOf_call r1 d1 q1 fun v Hs' H' d ρ' s' => hQ v Hs' H' d ρ' (s1.trans s')
theorem dcallN {sp : SpN} (F : DF X.prog X.w X.K X.mg X.base k x ps (spOfN X.K sp)) (hr : Room k X.A) (ha : PAD X (e :: es) t w) (hg : Gl X x := by rfl) (hdb : (x == ("__debug__" : PySem.Str)) = false := by decide)
    (he : starEach (e :: es) X.env = (false, eval e X.env) :: starEach es X.env := by rfl) (hpl : (backTo pos (starEach es X.env)).any (·.1) = false := by rfl) :
    PLD X (.Call (.Name x p) (e :: es) [] pos) (tCall (spOfN X.K sp) [] E0 t) (fun ρ k => w ρ fun ds ρ1 => sp ds fun l => k l ρ1) := by
  obtain ⟨f, fd, h1, h2, h3, h4⟩ := F.ex
  refine ⟨pe_call h1 hr hg h2 h3 h4 .nil pass0 ha.pe hdb he hpl, ?_⟩
  intro B Hs H σ ρ k Q r hw hQ
  refine ha.ref B Hs H σ ρ _ _ r hw fun vs Hs1 H1 ds ρ1 s1 r1 d1 q1 => ?_
  rw [List.append_nil]
  exact spOfN_call r1 d1 q1 fun p vs Hs' H' d ρ' s' => hQ p vs Hs' H' d ρ' (s1.trans s')
end

/-! ### statements -/
section
variable {X : Cx} {st : Stmt} {rest body : List Stmt} {t u : TS} {w w' : DS} {e c : Expr} {te : TE} {we : DE} {pos : Pos}
def wNx : DS := fun W ρ => W.nx ρ
def wSeq (w w' : DS) : DS := fun W ρ => w { W with nx := fun ρ1 => w' W ρ1 } ρ
theorem sdnil : PSsD X [] tNext wNx := ⟨pss_nil, fun B Hs H σ ρ D W r hw E => E.nx Hs H σ ρ (Same.refl _) r hw⟩
theorem ref_seq {K : PySem.W.Frag} {t u : TS} {w w' : DS} (h1 : RefS K t w) (h2 : RefS K u w') : RefS K (tSeq t u) (wSeq w w') := by
  intro B Hs H σ ρ D W r hw E
  refine h1 B Hs H σ ρ _ { W with nx := fun ρ1 => w' W ρ1 } r hw ⟨fun Hs' H' σ' ρ' s r' q => ?_, E.rt, E.bk, E.ct, E.ro⟩
  exact h2 B Hs' H' σ' ρ' D W r' q (E.mono s)
theorem sdcons (h1 : PSD X st t w) (h2 : PSsD X rest u w') : PSsD X (st :: rest) (tSeq t u) (wSeq w w') := ⟨pss_cons h1.pe h2.pe, ref_seq h1.ref h2.ref⟩
theorem sdone (h1 : PSD X st t w) : PSsD X [st] t w := ⟨pss_one h1.pe, h1.ref⟩
theorem sdpass : PSD X (.Pass pos) tNext wNx := ⟨ps_pass, fun B Hs H σ ρ D W r hw E => E.nx Hs H σ ρ (Same.refl _) r hw⟩
def wCont : DS := fun W ρ => W.ct ρ
theorem sdcont : PSD X (.Continue pos) tCont wCont := ⟨ps_continue, fun B Hs H σ ρ D W r hw E => E.ct Hs H σ ρ (Same.refl _) r hw⟩
def wDrop (we : DE) : DS := fun W ρ => we ρ fun _ ρ1 => W.nx ρ1
theorem sdexpr (he : PED X e te we) (hs : swapsWith e none pos.line X.env = pure false := by rfl) : PSD X (.Expr e pos) (tDrop te) (wDrop we) := by
  refine ⟨ps_expr he.pe hs, ?_⟩
  intro B Hs H σ ρ D W r hw E
  exact he.ref B Hs H σ ρ _ _ r hw fun v Hs' H' d ρ' s r' _ q => E.nx Hs' H' σ ρ' s r' q
def wRet (we : DE) : DS := fun W ρ => we ρ fun d _ => W.rt d
theorem sdret (he : PED X e te we) : PSD X (.Return (some e) pos) (tRet te) (wRet we) := by
  refine ⟨ps_ret he.pe, ?_⟩
  intro B Hs H σ ρ D W r hw E
  exact he.ref B Hs H σ ρ _ _ r hw fun v Hs' H' d ρ' s r' dr q => E.rt Hs' H' σ ρ' v d s r' dr q
def wRetL (wl : DA) : DS := fun W ρ => wl ρ fun l _ => W.ro l
theorem sdretL {wl : DA} (he : PLD X e te wl) : PSD X (.Return (some e) pos) (tRet te) (wRetL wl) := by
  refine ⟨ps_ret he.pe, ?_⟩
  intro B Hs H σ ρ D W r hw E
  exact he.ref B Hs H σ ρ _ _ r hw fun p vs Hs' H' ds ρ' s r' h1 h2 h3 h4 _ q => E.ro Hs' H' σ ρ' p vs ds s r' h1 h2 h3 h4 q
/-- the def's own list is handed on -/
theorem dgive (i : Nat) {x : PySem.Str} (hN : X.N[i]? = some x := by rfl) (hv : Vis X.env.scope x := by first | exact Or.inl rfl | exact Or.inr (Or.inl rfl) | exact Or.inr (Or.inr rfl)) (hd : (x == ("__debug__" : PySem.Str)) = false := by decide)
    (hcd : (x == ("__classdict__" : PySem.Str)) = false := by decide) : PLD X (.Name x pos) (tVar i) (fun ρ k => ∃ l, ρ[i]? = some (.own l) ∧ k l (ρ.set i .un)) := by
  refine ⟨pe_var hN hv hd hcd, ?_⟩
  intro B Hs H σ ρ k Q r hw hQ
  obtain ⟨l, e, q⟩ := hw
  obtain ⟨p, vs, f1, f2, f3, f4, f5⟩ := r.own i l e
  refine ⟨.ref p, f1, hQ p vs Hs H l _ (Same.refl _) (r.weak (by simp) fun j s hj => ?_) f2 f3 f4 f5 (fun j ds hj z => ?_) q⟩
  · rcases set_key hj with ⟨_, z, _⟩ | ⟨_, z⟩
    · exact .inl z
    · exact .inr z
  · rcases set_key hj with ⟨_, z', _⟩ | ⟨n, z'⟩
    · cases z'
    · exact r.sep i j l ds p n e z' f1 z
def wIf (wt : DT) (w w' : DS) : DS := fun W ρ => wt ρ fun b ρ1 => (b = true → w W ρ1) ∧ (b = false → w' W ρ1)
theorem sdif {a b : List Stmt} {tc : TT} {wt : DT} (hc : PTD X c tc wt) (ha : PSsD X a t w) (hb : PSsD X b u w') : PSD X (.If c a b pos) (tIfS tc t u) (wIf wt w w') := by
  refine ⟨ps_if hc.pe ha.pe hb.pe, ?_⟩
  intro B Hs H σ ρ D W r hw E
  refine hc.ref B Hs H σ ρ _ _ r hw fun b Hs1 H1 ρ1 s r1 q => ?_
  cases b with
  | true => exact ha.ref B Hs1 H1 σ ρ1 D W r1 (q.1 rfl) (E.mono s)
  | false => exact hb.ref B Hs1 H1 σ ρ1 D W r1 (q.2 rfl) (E.mono s)

/-! targets -/
def wgN (i : Nat) : D → List Sl → (List Sl → Prop) → Prop := fun d ρ k => k (ρ.set i (.val d))
theorem gdname {i : Nat} {x : PySem.Str} (hN : X.N.Nodup) (hi : X.N[i]? = some x := by rfl) (hx : Loc X.env.scope x := by first | exact Or.inl rfl | exact Or.inr rfl) (hf : X.fn x = true ∨ X.env.scope.names.lookup x = some .local := by first | exact .inl rfl | exact .inr rfl | assumption) : PGD X (.Name x pos) (gName i) (wgN i) := by
  refine ⟨pg_name hN hi hx hf, ?_⟩
  intro B Hs H σ ρ v d k Q r dr hw hQ
  exact hQ _ _ (r.setVal dr i) hw
abbrev DGs := List D → List Sl → (List Sl → Prop) → Prop
def RefGs (K : PySem.W.Frag) (g : TGs) (w : DGs) : Prop := ∀ (B : Bs) (Hs H : Hp) (σ : L2.St) (ρ : List Sl) (vs : List V) (ds : List D) (k : List Sl → Prop) (Q : L2.St → Hp → Prop), Rep K B Hs H σ ρ → Rl K Hs vs ds → w ds ρ k →
  (∀ σ' ρ', Rep K B Hs H σ' ρ' → k ρ' → Q σ' H) → g vs σ H Q
structure PGsD (X : Cx) (es : List Expr) (t : TGs) (w : DGs) : Prop where
  pe : PGs X es t
  ref : RefGs X.K t w
def wgNil : DGs := fun ds ρ k => ds = [] ∧ k ρ
def wgCons (g : D → List Sl → (List Sl → Prop) → Prop) (gs : DGs) : DGs := fun ds ρ k => ∃ d r, ds = d :: r ∧ g d ρ fun ρ1 => gs r ρ1 k
theorem gdnil : PGsD X [] gNil wgNil := by
  refine ⟨pgs_nil, ?_⟩
  intro B Hs H σ ρ vs ds k Q r dr hw hQ
  obtain ⟨rfl, q⟩ := hw
  exact ⟨dr.nil_inv, hQ _ _ r q⟩
theorem gdcons {es : List Expr} {g : TG} {gs : TGs} {w : D → List Sl → (List Sl → Prop) → Prop} {w' : DGs} (h1 : PGD X e g w) (h2 : PGsD X es gs w') (hs : (assignEach (e :: es) X.env).map (·.2) = assign e X.env :: (assignEach es X.env).map (·.2) := by rfl) : PGsD X (e :: es) (gCons g gs) (wgCons w w') := by
  refine ⟨pgs_cons h1.pe h2.pe hs, ?_⟩
  intro B Hs H σ ρ vs ds k Q r dr hw hQ
  obtain ⟨d, ds', rfl, q⟩ := hw
  obtain ⟨v, vs', rfl, g1, g2⟩ := dr.cons_inv
  refine ⟨v, vs', rfl, h1.ref B Hs H σ ρ v d _ _ r g1 q fun σ' ρ' r' q' => ?_⟩
  exact h2.ref B Hs H σ' ρ' vs' ds' k Q r' g2 q' hQ
def wgTup (n : Nat) (w : DGs) : D → List Sl → (List Sl → Prop) → Prop := fun d ρ k => ∃ l, d = .tup l ∧ l.length = n ∧ w l ρ k
theorem gdtup {es : List Expr} {kk : Nat} {t : TGs} {w : DGs} {n : Nat} (hc : X.calm = true) (h : PGsD X es t w) (hn : (assignEach es X.env).length = n := by rfl) (hst : (assignEach es X.env).findIdx? (·.1) = none := by rfl) :
    PGD X (.Tuple es kk pos) (gTup X.K n t) (wgTup n w) := by
  refine ⟨pg_tup hc h.pe hn hst, ?_⟩
  intro B Hs H σ ρ v d k Q r dr hw hQ
  obtain ⟨l, rfl, hl, q⟩ := hw
  obtain ⟨p, vs, rfl, h2, g⟩ := dr.tup_inv
  exact ⟨p, vs, rfl, SqT.of (r.same _ _ h2), by rw [g.1]; exact hl, h.ref B Hs H σ ρ vs l k Q r g q hQ⟩
def wAsg (we : DE) (g : D → List Sl → (List Sl → Prop) → Prop) : DS := fun W ρ => we ρ fun d ρ1 => g d ρ1 W.nx
theorem ref_asg {K : PySem.W.Frag} {g : TG} {wg : D → List Sl → (List Sl → Prop) → Prop} (he : RefE K te we) (hg : RefG K g wg) : RefS K (tAsg te g) (wAsg we wg) := by
  intro B Hs H σ ρ D W r hw E
  refine he B Hs H σ ρ _ _ r hw fun v Hs1 H1 d ρ1 s r1 dr q => ?_
  exact hg B Hs1 H1 σ ρ1 v d _ _ r1 dr q fun σ' ρ' r' q' => E.nx Hs1 H1 σ' ρ' s r' q'
theorem sdset {i : Nat} {x : PySem.Str} {pos' : Pos} (hN : X.N.Nodup) (he : PED X e te we) (hs : swapsWith e (some (.Name x pos')) pos.line X.env = pure false := by rfl)
    (hi : X.N[i]? = some x := by rfl) (hx : Loc X.env.scope x := by first | exact Or.inl rfl | exact Or.inr rfl) (hf : X.fn x = true ∨ X.env.scope.names.lookup x = some .local := by first | exact .inl rfl | exact .inr rfl | assumption) : PSD X (.Assign [.Name x pos'] e pos) (tAsg te (gName i)) (wAsg we (wgN i)) :=
  ⟨ps_set hN hi hx he.pe hs hf, ref_asg he.ref (by intro B Hs H σ ρ v d k Q r dr hw hQ; exact hQ _ _ (r.setVal dr i) hw)⟩
theorem sdasg {tg : Expr} {g : TG} {wg : D → List Sl → (List Sl → Prop) → Prop} (he : PED X e te we) (hg : PGD X tg g wg) (hs : swapsWithSole [tg] e pos.line X.env = pure false := by rfl) (hw : swappedStores [tg] e X.env = pure none := by rfl)
    (h1 : (assignEach [tg] X.env).map (·.2) = [assign tg X.env] := by rfl) : PSD X (.Assign [tg] e pos) (tAsg te g) (wAsg we wg) := ⟨ps_asg he.pe hg.pe hs hw h1, ref_asg he.ref hg.ref⟩
/-- x = a new list: of the def's own from now on -/
def wSetL (i : Nat) (wl : DA) : DS := fun W ρ => wl ρ fun l ρ1 => W.nx (ρ1.set i (.own l))
theorem sdsetL {i : Nat} {x : PySem.Str} {pos' : Pos} {wl : DA} (hN : X.N.Nodup) (he : PLD X e te wl) (hs : swapsWith e (some (.Name x pos')) pos.line X.env = pure false := by rfl)
    (hi : X.N[i]? = some x := by rfl) (hx : Loc X.env.scope x := by first | exact Or.inl rfl | exact Or.inr rfl) (hf : X.fn x = true ∨ X.env.scope.names.lookup x = some .local := by first | exact .inl rfl | exact .inr rfl | assumption) : PSD X (.Assign [.Name x pos'] e pos) (tAsg te (gName i)) (wSetL i wl) := by
  refine ⟨ps_set hN hi hx he.pe hs hf, ?_⟩
  intro B Hs H σ ρ D W r hw E
  refine he.ref B Hs H σ ρ _ _ r hw fun p vs Hs1 H1 ds ρ1 s r1 h1 h2 h3 h4 h5 q => ?_
  exact E.nx Hs1 H1 _ _ s (r1.setOwn h1 h2 h3 h4 h5 i) q
/-- x += e, whole numbers -/
def wAug (i : Nat) (we : DE) : DS := fun W ρ => ∃ n, ρ[i]? = some (.val (.int n)) ∧ we ρ fun d ρ1 => ∃ m, d = .int m ∧ W.nx (ρ1.set i (.val (.int (n + m))))
theorem sdaug {i : Nat} {x : PySem.Str} {pos' : Pos} (hN : X.N.Nodup) (he : PED X e te we)
    (hi : X.N[i]? = some x := by rfl) (hx : Loc X.env.scope x := by first | exact Or.inl rfl | exact Or.inr rfl) (hf : X.fn x = true ∨ X.env.scope.names.lookup x = some .local := by first | exact .inl rfl | exact .inr rfl | assumption) : PSD X (.AugAssign (.Name x pos') .Add e pos) (tAug i te (ipI fun i j => i + j)) (wAug i we) := by
  refine ⟨ps_aug hN hi hx he.pe ip_add hf, ?_⟩
  intro B Hs H σ ρ D W r hw E
  obtain ⟨n, e1, hw⟩ := hw
  obtain ⟨v, f1, f2⟩ := r.val i _ e1
  have f3 := f2.int_inv
  subst f3
  refine ⟨_, f1, he.ref B Hs H σ ρ _ _ r hw fun u Hs1 H1 d ρ1 s r1 dr q => ?_⟩
  obtain ⟨m, rfl, q⟩ := q
  exact ⟨n, m, rfl, dr.int_inv, E.nx Hs1 H1 _ _ s (r1.setVal (.int (n + m)) i) q⟩
end

/-! ### lists of the def's own, changed -/
section
variable {X : Cx} {e : Expr} {te : TE} {we : DE} {pos apos px : Pos} {x : PySem.Str}
theorem tyV_own {K : PySem.W.Frag} {H : Hp} {p : Addr} {vs : List V} (h : H p = some (.lst vs)) : tyV K "list" (.ref p) H := .inl ⟨rfl, vs, SqL.of h⟩
def wAppend (i : Nat) (we : DE) : DE := fun ρ k => (∃ l, ρ[i]? = some (.own l)) ∧ we ρ fun d ρ1 => ∃ l, ρ1[i]? = some (.own l) ∧ l.length < 1000000 ∧ k .non (ρ1.set i (.own (l ++ [d])))
theorem dappend (i : Nat) (he : PED X e te we) (hN : X.N[i]? = some x := by rfl) (hv : Vis X.env.scope x := by first | exact Or.inl rfl | exact Or.inr (Or.inl rfl) | exact Or.inr (Or.inr rfl)) (hd : (x == ("__debug__" : PySem.Str)) = false := by decide)
    (hcd : (x == ("__classdict__" : PySem.Str)) = false := by decide) (hbase : attributeBase (.Name x px) "append" X.env (eval (.Name x px) X.env) = eval (.Name x px) X.env := by rfl)
    (hfew : ((backTo pos (starEach [e] X.env)).all (fun x => !x.1) && (backToKw pos (keywordEach [] X.env)).all (fun x => x.1.isSome)
      && decide ([e].length + ([] : List Keyword).length + (if ([] : List Keyword).isEmpty then 0 else 1) < 30)) = true := by rfl)
    (hline : (apos.endLine == pos.line) = true := by rfl) (hs : starEach [e] X.env = (false, eval e X.env) :: starEach [] X.env := by rfl) :
    PED X (.Call (.Attribute (.Name x px) "append" apos) [e] [] pos) (tBM X.K "list" rAppend (tVar i) (tCons te tNil)) (wAppend i we) := by
  refine ⟨pe_bm PySem.F.plainAttrs_list PySem.F.slot_list_append PySem.F.type_list_append mt_append (pe_var hN hv hd hcd) (pa_cons he.pe pa_nil hs) hbase hfew hline hs rfl, ?_⟩
  intro B Hs H σ ρ k Q r hw hQ
  obtain ⟨⟨l0, e0⟩, hw⟩ := hw
  obtain ⟨p, vs0, f1, f2, f3, f4, f5⟩ := r.own i l0 e0
  refine ⟨.ref p, f1, tyV_own f4, he.ref B Hs H σ ρ _ _ r hw fun v Hs1 H1 d ρ1 s1 r1 d1 q1 => ?_⟩
  obtain ⟨l, g1, hz, q⟩ := q1
  obtain ⟨p', vs, m1, m2, m3, m4, m5⟩ := r1.own i l g1
  rw [f1] at m1
  cases m1
  refine ⟨p, vs, v, rfl, rfl, m4, by rw [m5.1]; exact szMl hz, ?_⟩
  exact hQ _ Hs1 _ _ _ s1 (r1.mutOwn g1 f1 (m5.append (Rl.cons d1 Rl.nil))) .non q
def wExtend (i : Nat) (we : DE) : DE := fun ρ k => (∃ l, ρ[i]? = some (.own l)) ∧ we ρ fun d ρ1 => ∃ l m, d = .lst m ∧ ρ1[i]? = some (.own l) ∧ l.length + m.length ≤ 1000000 ∧ k .non (ρ1.set i (.own (l ++ m)))
theorem dextend (i : Nat) (he : PED X e te we) (hN : X.N[i]? = some x := by rfl) (hv : Vis X.env.scope x := by first | exact Or.inl rfl | exact Or.inr (Or.inl rfl) | exact Or.inr (Or.inr rfl)) (hd : (x == ("__debug__" : PySem.Str)) = false := by decide)
    (hcd : (x == ("__classdict__" : PySem.Str)) = false := by decide) (hbase : attributeBase (.Name x px) "extend" X.env (eval (.Name x px) X.env) = eval (.Name x px) X.env := by rfl)
    (hfew : ((backTo pos (starEach [e] X.env)).all (fun x => !x.1) && (backToKw pos (keywordEach [] X.env)).all (fun x => x.1.isSome)
      && decide ([e].length + ([] : List Keyword).length + (if ([] : List Keyword).isEmpty then 0 else 1) < 30)) = true := by rfl)
    (hline : (apos.endLine == pos.line) = true := by rfl) (hs : starEach [e] X.env = (false, eval e X.env) :: starEach [] X.env := by rfl) :
    PED X (.Call (.Attribute (.Name x px) "extend" apos) [e] [] pos) (tBM X.K "list" rExtend (tVar i) (tCons te tNil)) (wExtend i we) := by
  refine ⟨pe_bm PySem.F.plainAttrs_list PySem.F.slot_list_extend PySem.F.type_list_extend mt_extend (pe_var hN hv hd hcd) (pa_cons he.pe pa_nil hs) hbase hfew hline hs rfl, ?_⟩
  intro B Hs H σ ρ k Q r hw hQ
  obtain ⟨⟨l0, e0⟩, hw⟩ := hw
  obtain ⟨p, vs0, f1, f2, f3, f4, f5⟩ := r.own i l0 e0
  refine ⟨.ref p, f1, tyV_own f4, he.ref B Hs H σ ρ _ _ r hw fun v Hs1 H1 d ρ1 s1 r1 d1 q1 => ?_⟩
  obtain ⟨l, m, rfl, g1, hz, q⟩ := q1
  obtain ⟨p', vs, m1, m2, m3, m4, m5⟩ := r1.own i l g1
  rw [f1] at m1
  cases m1
  obtain ⟨b, ws, rfl, n1, n2⟩ := d1.lst_inv
  refine ⟨p, b, vs, ws, rfl, rfl, m4, r1.same _ _ n1, by rw [m5.1, n2.1]; exact szM hz, ?_⟩
  exact hQ _ Hs1 _ _ _ s1 (r1.mutOwn g1 f1 (m5.append n2)) .non q
def wPop (i : Nat) : DE := fun ρ k => ∃ l d, ρ[i]? = some (.own (l ++ [d])) ∧ k d (ρ.set i (.own l))
theorem dpop (i : Nat) (hN : X.N[i]? = some x := by rfl) (hv : Vis X.env.scope x := by first | exact Or.inl rfl | exact Or.inr (Or.inl rfl) | exact Or.inr (Or.inr rfl)) (hd : (x == ("__debug__" : PySem.Str)) = false := by decide)
    (hcd : (x == ("__classdict__" : PySem.Str)) = false := by decide) (hbase : attributeBase (.Name x px) "pop" X.env (eval (.Name x px) X.env) = eval (.Name x px) X.env := by rfl) (hline : (apos.endLine == pos.line) = true := by rfl) :
    PED X (.Call (.Attribute (.Name x px) "pop" apos) [] [] pos) (tBM0 X.K "list" rPop (tVar i)) (wPop i) := by
  refine ⟨pe_bm0 PySem.F.plainAttrs_list PySem.F.slot_list_pop PySem.F.type_list_pop mt_pop (pe_var hN hv hd hcd) hbase hline, ?_⟩
  intro B Hs H σ ρ k Q r hw hQ
  obtain ⟨l, d, e0, q⟩ := hw
  obtain ⟨p, vs, f1, f2, f3, f4, f5⟩ := r.own i _ e0
  have hl : vs.length = l.length + 1 := by rw [f5.1, List.length_append, List.length_singleton]
  obtain ⟨v, g1, g2⟩ := f5.get (i := l.length) (d := d) (by simp)
  refine ⟨.ref p, f1, tyV_own f4, p, vs, v, rfl, rfl, f4, by rw [hl]; exact g1, ?_⟩
  refine hQ v Hs _ d _ (Same.refl _) (r.mutOwn e0 f1 ?_) g2 q
  have := f5.dropLast
  rw [List.dropLast_concat] at this
  exact this
/-- x[i] = v -/
def wSetIx (i : Nat) (wi wv : DE) : DS := fun W ρ => wv ρ fun d ρ1 => (∃ l, ρ1[i]? = some (.own l)) ∧ wi ρ1 fun e ρ2 => ∃ l j n, ρ2[i]? = some (.own l) ∧ e = .int j ∧ ixN l.length j = some n ∧ W.nx (ρ2.set i (.own (l.set n d)))
theorem sdsetIx (i : Nat) {ix value : Expr} {ti tv : TE} {wi wv : DE} {tpos spos : Pos} (hi : PED X ix ti wi) (hvv : PED X value tv wv) (hN : X.N[i]? = some x := by rfl) (hv : Vis X.env.scope x := by first | exact Or.inl rfl | exact Or.inr (Or.inl rfl) | exact Or.inr (Or.inr rfl)) (hd : (x == ("__debug__" : PySem.Str)) = false := by decide)
    (hcd : (x == ("__classdict__" : PySem.Str)) = false := by decide)
    (ha : ∀ v, assign (.Subscript (.Name x px) ix tpos) X.env v = (do
      let ov ← holding [v] (eval (.Name x px) X.env)
      let iv ← holding [v, ov] (eval ix X.env)
      standAt tpos
      holding [v, ov, iv] (setItem ov iv v)
      release [v, ov, iv] []) := by intro _; rfl)
    (hs : swapsWithSole [.Subscript (.Name x px) ix tpos] value spos.line X.env = pure false := by rfl) (hw : swappedStores [.Subscript (.Name x px) ix tpos] value X.env = pure none := by rfl)
    (h1 : (assignEach [.Subscript (.Name x px) ix tpos] X.env).map (·.2) = [assign (.Subscript (.Name x px) ix tpos) X.env] := by rfl) :
    PSD X (.Assign [.Subscript (.Name x px) ix tpos] value spos) (tAsg tv (gSub (tVar i) ti rSetL)) (wSetIx i wi wv) := by
  refine ⟨ps_asg hvv.pe (pg_sub (pe_var hN hv hd hcd) hi.pe set_list ha) hs hw h1, ?_⟩
  intro B Hs H σ ρ D W r hw E
  refine hvv.ref B Hs H σ ρ _ _ r hw fun v Hs1 H1 d ρ1 s1 r1 d1 q1 => ?_
  obtain ⟨⟨l0, e0⟩, q1⟩ := q1
  obtain ⟨p, vs0, f1, f2, f3, f4, f5⟩ := r1.own i l0 e0
  refine ⟨.ref p, f1, hi.ref B Hs1 H1 σ ρ1 _ _ r1 q1 fun u Hs2 H2 e ρ2 s2 r2 d2 q2 => ?_⟩
  obtain ⟨l, j, n, g1, rfl, g3, q⟩ := q2
  obtain ⟨p', vs, m1, m2, m3, m4, m5⟩ := r2.own i l g1
  rw [f1] at m1
  cases m1
  refine ⟨p, vs, j, n, rfl, d2.int_inv, m4, by rw [m5.1]; exact g3, ?_⟩
  exact E.nx Hs2 _ _ _ (s1.trans s2) (r2.mutOwn g1 f1 (m5.set (d1.mono s2) n)) q
end
end K36
set_option Elab.async false
set_option linter.all false
set_option maxRecDepth 100000
set_option maxHeartbeats 2000000
namespace K36
open PySem PySem.Spec PyProof.Rows L2

/-! ### what is walked -/
structure ItOk (K : PySem.W.Frag) (J : It) (Hs : Hp) (l : List D) : Prop where
  go : ∀ (i : Nat) H, Same Hs H → i < l.length → J.go i H
  yld : ∀ (i : Nat) H x H', Same Hs H → i < l.length → J.yld i H x H' → H' = H ∧ ∃ d, l[i]? = some d ∧ DR K Hs x d
  stop : ∀ H, Same Hs H → J.stop l.length H
def RefI (K : PySem.W.Frag) (wi : TI) (w : DA) : Prop := ∀ (B : Bs) (Hs H : Hp) (σ : L2.St) (ρ : List Sl) (k : List D → List Sl → Prop) (R : It → Hp → Prop), Rep K B Hs H σ ρ → w ρ k →
  (∀ J Hs' H' l ρ', Same Hs Hs' → Rep K B Hs' H' σ ρ' → ItOk K J Hs' l → k l ρ' → R J H') → wi σ H R
structure PID (X : Cx) (tg iter : Expr) (wi : TI) (w : DA) : Prop where
  pe : PI X tg iter wi
  ref : RefI X.K wi w
section
variable {X : Cx} {tg e a b : Expr} {te ta tb : TE} {we wa wb : DE} {p pos : Pos}
theorem itOk_list {K : PySem.W.Frag} {Hs : Hp} {a : Addr} {vs : List V} {l : List D} (h : SqL K Hs a vs) (g : Rl K Hs vs l) : ItOk K (Itl K a) Hs l := by
  refine ⟨fun i H s hi => ⟨vs, vs[i]'(by rw [g.1]; exact hi), s.seq h, List.getElem?_eq_getElem _⟩, fun i H x H' s hi y => ?_, fun H s => ⟨vs, s.seq h, by rw [g.1]; exact Nat.le_refl _⟩⟩
  obtain ⟨e, y⟩ := y
  obtain ⟨d, e1, e2⟩ := g.get' (y vs (s.seq h))
  exact ⟨e, d, e1, e2⟩
theorem itOk_tup {K : PySem.W.Frag} {Hs : Hp} {a : Addr} {vs : List V} {l : List D} (h : SqT K Hs a vs) (g : Rl K Hs vs l) : ItOk K (Itt K a) Hs l := by
  refine ⟨fun i H s hi => ⟨vs, vs[i]'(by rw [g.1]; exact hi), same_seqT s h, List.getElem?_eq_getElem _⟩, fun i H x H' s hi y => ?_, fun H s => ⟨vs, same_seqT s h, by rw [g.1]; exact Nat.le_refl _⟩⟩
  obtain ⟨e, y⟩ := y
  obtain ⟨d, e1, e2⟩ := g.get' (y vs (same_seqT s h))
  exact ⟨e, d, e1, e2⟩
/-- a list | a tuple as data -/
def wItL (we : DE) : DA := fun ρ k => we ρ fun d ρ1 => ∃ l, d = .lst l ∧ k l ρ1
def wItT (we : DE) : DA := fun ρ k => we ρ fun d ρ1 => ∃ l, d = .tup l ∧ k l ρ1
theorem dilist (he : PED X e te we) : PID X tg e (iList X.K te) (wItL we) := by
  refine ⟨pi_list he.pe, ?_⟩
  intro B Hs H σ ρ k R r hw hR
  refine he.ref B Hs H σ ρ _ _ r hw fun v Hs1 H1 d ρ1 s1 r1 d1 q1 => ?_
  obtain ⟨l, rfl, q⟩ := q1
  obtain ⟨a, vs, rfl, h, g⟩ := d1.lst_inv
  exact ⟨a, rfl, ⟨vs, SqL.of (r1.same _ _ h)⟩, hR _ Hs1 H1 l ρ1 s1 r1 (itOk_list (SqL.of h) g) q⟩
theorem dituple (he : PED X e te we) : PID X tg e (iTup X.K te) (wItT we) := by
  refine ⟨pi_tup he.pe, ?_⟩
  intro B Hs H σ ρ k R r hw hR
  refine he.ref B Hs H σ ρ _ _ r hw fun v Hs1 H1 d ρ1 s1 r1 d1 q1 => ?_
  obtain ⟨l, rfl, q⟩ := q1
  obtain ⟨a, vs, rfl, h, g⟩ := d1.tup_inv
  exact ⟨a, rfl, ⟨vs, SqT.of (r1.same _ _ h)⟩, hR _ Hs1 H1 l ρ1 s1 r1 (itOk_tup (SqT.of h) g) q⟩
theorem direv (hm : X.mg "reversed" = none) (he : PED X e te we) (hg : Gl X "reversed" := by rfl) (hs : starEach [e] X.env = (false, eval e X.env) :: starEach [] X.env := by rfl) : PID X tg (.Call (.Name "reversed" p) [e] [] pos) (RT.iRevA X.K te) (fun ρ k => wItT we ρ fun l ρ1 => k l.reverse ρ1) := by
  refine ⟨RT.pi_revA hg hm he.pe hs, ?_⟩
  intro B Hs H σ ρ k R r hw hR
  refine he.ref B Hs H σ ρ _ _ r hw fun v Hs1 H1 d ρ1 s1 r1 d1 q1 => ?_
  obtain ⟨l, rfl, q⟩ := q1
  obtain ⟨a, vs, rfl, h, g⟩ := d1.tup_inv
  refine ⟨a, vs, rfl, .inr ⟨SqT.of (r1.same _ _ h), hR _ Hs1 H1 l.reverse ρ1 s1 r1 ⟨fun i H s hi => ?_, fun i H x H' s hi y => ?_, fun H s => by rw [List.length_reverse, ← g.1]; exact Nat.le_refl _⟩ q⟩⟩
  · rw [List.length_reverse, ← g.1] at hi
    exact ⟨hi, vs, vs[vs.length - 1 - i]'(by omega), SqT.of (s _ _ h), List.getElem?_eq_getElem _⟩
  · rw [List.length_reverse, ← g.1] at hi
    obtain ⟨e, y⟩ := y
    obtain ⟨d, e1, e2⟩ := g.get' (y vs (SqT.of (s _ _ h)))
    refine ⟨e, d, ?_, e2⟩
    rw [List.getElem?_reverse (by rw [← g.1]; exact hi), ← g.1]
    exact e1
/-- the whole numbers of a range -/
def rangeD (lo : Int) (n : Nat) : List D := (List.range n).map fun (i : Nat) => D.int (lo + (i : Int))
theorem rangeD_length (lo : Int) (n : Nat) : (rangeD lo n).length = n := by simp [rangeD]
theorem rangeD_get {lo : Int} {n i : Nat} (h : i < n) : (rangeD lo n)[i]? = some (.int (lo + (i : Int))) := by simp [rangeD, h]
theorem itOk_range {K : PySem.W.Frag} {Hs : Hp} {lo : Int} {n : Nat} : ItOk K (Itr lo n) Hs (rangeD lo n) := by
  refine ⟨fun i H s hi => by rw [rangeD_length] at hi; exact hi, fun i H x H' s hi y => ?_, fun H s => by rw [rangeD_length]; exact Nat.le_refl _⟩
  rw [rangeD_length] at hi
  obtain ⟨e, rfl⟩ := y
  exact ⟨e, _, rangeD_get hi, .int _⟩
def wRng1 (wa : DE) : DA := fun ρ k => wa ρ fun d ρ1 => ∃ j, d = .int j ∧ -(2 ^ 62) ≤ j ∧ j < 2 ^ 62 ∧ k (rangeD 0 j.toNat) ρ1
def wRng2 (wa wb : DE) : DA := fun ρ k => wa ρ fun d ρ1 => wb ρ1 fun e ρ2 => ∃ i j, d = .int i ∧ e = .int j ∧ (-(2 ^ 62) ≤ i ∧ i < 2 ^ 62 ∧ -(2 ^ 62) ≤ j ∧ j < 2 ^ 62) ∧ k (rangeD i (j - i).toNat) ρ2
theorem dirange1 (hm : X.mg "range" = none) (ha : PED X a ta wa) (hg : Gl X "range" := by rfl) (hs : starEach [a] X.env = (false, eval a X.env) :: starEach [] X.env := by rfl) (hs' : starEach [a] X.env = [(false, eval a X.env)] := by rfl) : PID X tg (.Call (.Name "range" p) [a] [] pos) (iRng1 (tCons ta tNil)) (wRng1 wa) := by
  refine ⟨pi_range1 hg hm (pa_cons ha.pe pa_nil hs) hs', ?_⟩
  intro B Hs H σ ρ k R r hw hR
  refine ha.ref B Hs H σ ρ _ _ r hw fun v Hs1 H1 d ρ1 s1 r1 d1 q1 => ?_
  obtain ⟨j, rfl, h1, h2, q⟩ := q1
  have e1 := d1.int_inv
  subst e1
  exact ⟨j, rfl, h1, h2, hR _ Hs1 H1 _ ρ1 s1 r1 itOk_range q⟩
theorem dirange2 (hm : X.mg "range" = none) (ha : PED X a ta wa) (hb : PED X b tb wb) (hg : Gl X "range" := by rfl) (hs : starEach [a, b] X.env = (false, eval a X.env) :: starEach [b] X.env := by rfl) (hs2 : starEach [b] X.env = (false, eval b X.env) :: starEach [] X.env := by rfl)
    (hs' : starEach [a, b] X.env = [(false, eval a X.env), (false, eval b X.env)] := by rfl) (hs2' : starEach [b] X.env = [(false, eval b X.env)] := by rfl) : PID X tg (.Call (.Name "range" p) [a, b] [] pos) (iRng2 (tCons ta (tCons tb tNil))) (wRng2 wa wb) := by
  refine ⟨pi_range2 hg hm (pa_cons ha.pe (pa_cons hb.pe pa_nil hs2) hs) hs' hs2', ?_⟩
  intro B Hs H σ ρ k R r hw hR
  refine ha.ref B Hs H σ ρ _ _ r hw fun v Hs1 H1 d ρ1 s1 r1 d1 q1 => ?_
  refine hb.ref B Hs1 H1 σ ρ1 _ _ r1 q1 fun u Hs2 H2 e ρ2 s2 r2 d2 q2 => ?_
  obtain ⟨i, j, rfl, rfl, hb', q⟩ := q2
  have e1 := (d1.mono s2).int_inv
  have e2 := d2.int_inv
  subst e1 e2
  exact ⟨i, j, rfl, hb', hR _ Hs2 H2 _ ρ2 (s1.trans s2) r2 itOk_range q⟩
end

/-! ### loops -/
section
variable {X : Cx} {tg iter c : Expr} {body : List Stmt} {wi : TI} {g : TG} {tb : TS} {tc : TT} {pos : Pos} {w : DA} {wg : D → List Sl → (List Sl → Prop) → Prop} {wb : DS} {wt : DT}
def wFor (w : DA) (wg : D → List Sl → (List Sl → Prop) → Prop) (wb : DS) : DS := fun W ρ => w ρ fun l ρ1 => ∃ I : Nat → List Sl → Prop, I 0 ρ1 ∧
  (∀ (j : Nat) x ρ2, l[j]? = some x → I j ρ2 → wg x ρ2 fun ρ3 => wb { W with nx := I (j + 1), ct := I (j + 1), bk := W.nx } ρ3) ∧ (∀ ρ2, I l.length ρ2 → W.nx ρ2)
theorem ref_for {K : PySem.W.Frag} (hi : RefI K wi w) (hg : RefG K g wg) (hb : RefS K tb wb) : RefS K (tFor wi g tb) (wFor w wg wb) := by
  intro B Hs H σ ρ D W r hw E
  refine hi B Hs H σ ρ _ _ r hw fun J Hs1 H1 l ρ1 s1 r1 ok q => ?_
  obtain ⟨I, h0, hs, hd⟩ := q
  refine ⟨fun i m σ H => m = l.length - i ∧ i ≤ l.length ∧ ∃ Hs2 ρ2, Same Hs1 Hs2 ∧ Rep K B Hs2 H σ ρ2 ∧ I i ρ2, ⟨l.length, by simp, Nat.zero_le _, Hs1, ρ1, Same.refl _, r1, h0⟩, ?_⟩
  rintro i m σ2 H2 ⟨rfl, hi, Hs2, ρ2, s2, r2, i2⟩
  have E2 := E.mono (s1.trans s2)
  by_cases hlt : i < l.length
  · refine .inr ⟨ok.go i H2 (s2.trans r2.same) hlt, fun σ' H' => ∃ Hs3 ρ3, Same Hs1 Hs3 ∧ Rep K B Hs3 H' σ' ρ3 ∧ I (i + 1) ρ3, fun σ' H' h => ⟨l.length - (i + 1), by omega, rfl, hlt, h⟩, fun x H' y => ?_⟩
    obtain ⟨e, d, e1, e2⟩ := ok.yld i H2 x H' (s2.trans r2.same) hlt y
    subst e
    refine hg B Hs2 _ σ2 ρ2 x d _ _ r2 (e2.mono s2) (hs i d ρ2 e1 i2) fun σ3 ρ3 r3 q3 => ?_
    refine hb B Hs2 _ σ3 ρ3 _ _ r3 q3 ⟨fun a b c d e f g => ⟨a, d, s2.trans e, f, g⟩, E2.rt, fun a b c d e f g => E2.nx a b c d e f g, fun a b c d e f g => ⟨a, d, s2.trans e, f, g⟩, E2.ro⟩
  · have e : i = l.length := by omega
    subst e
    exact .inl ⟨ok.stop H2 (s2.trans r2.same), E2.nx Hs2 H2 σ2 ρ2 (Same.refl _) r2 (hd ρ2 i2)⟩
theorem sdfor (hp : PassesOwn (model X.prog X.w) X.A X.env X.xe) (hc : X.calm = true) (hi : PID X tg iter wi w) (hg : PGD X tg g wg) (hb : PSsD X body tb wb) (hs : ∀ x, foldedSetIterable iter X.env x = pure x := by intro _; rfl) :
    PSD X (.For tg iter body [] pos) (tFor wi g tb) (wFor w wg wb) := ⟨ps_for hp hc hi.pe hg.pe hb.pe hs, ref_for hi.ref hg.ref hb.ref⟩
def wWhile (wt : DT) (wb : DS) : DS := fun W ρ => ∃ (I : List Sl → Prop) (μ : List Sl → Nat), I ρ ∧ ∀ ρ1, I ρ1 → wt ρ1 fun b ρ2 => (b = true → wb { W with nx := fun ρ' => I ρ' ∧ μ ρ' < μ ρ1, ct := fun ρ' => I ρ' ∧ μ ρ' < μ ρ1, bk := W.nx } ρ2) ∧ (b = false → W.nx ρ2)
theorem ref_while {K : PySem.W.Frag} (hc : RefT K tc wt) (hb : RefS K tb wb) : RefS K (tWhile tc tb) (wWhile wt wb) := by
  intro B Hs H σ ρ D W r hw E
  obtain ⟨I, μ, h0, hs⟩ := hw
  refine ⟨fun m σ H => ∃ Hs2 ρ2, Same Hs Hs2 ∧ Rep K B Hs2 H σ ρ2 ∧ I ρ2 ∧ m = μ ρ2, ⟨μ ρ, Hs, ρ, Same.refl _, r, h0, rfl⟩, ?_⟩
  rintro m σ2 H2 ⟨Hs2, ρ2, s2, r2, i2, rfl⟩
  refine hc B Hs2 H2 σ2 ρ2 _ _ r2 (hs ρ2 i2) fun b Hs3 H3 ρ3 s3 r3 q => ?_
  have E3 := E.mono (s2.trans s3)
  cases b with
  | true =>
    rw [if_pos rfl]
    refine ⟨fun σ' H' => ∃ Hs4 ρ4, Same Hs Hs4 ∧ Rep K B Hs4 H' σ' ρ4 ∧ I ρ4 ∧ μ ρ4 < μ ρ2, fun σ' H' ⟨Hs4, ρ4, s4, r4, i4, l4⟩ => ⟨μ ρ4, l4, Hs4, ρ4, s4, r4, i4, rfl⟩, ?_⟩
    exact hb B Hs3 H3 σ2 ρ3 _ _ r3 (q.1 rfl) ⟨fun a b c d e f g => ⟨a, d, (s2.trans s3).trans e, f, g⟩, E3.rt, fun a b c d e f g => E3.nx a b c d e f g, fun a b c d e f g => ⟨a, d, (s2.trans s3).trans e, f, g⟩, E3.ro⟩
  | false =>
    rw [if_neg Bool.false_ne_true]
    exact E3.nx Hs3 H3 σ2 ρ3 (Same.refl _) r3 (q.2 rfl)
theorem sdwhile (hp : PassesOwn (model X.prog X.w) X.A X.env X.xe) (hc : PTD X c tc wt) (hb : PSsD X body tb wb) : PSD X (.While c body [] pos) (tWhile tc tb) (wWhile wt wb) := ⟨ps_while hp hc.pe hb.pe, ref_while hc.ref hb.ref⟩
end

/-! ### comprehensions -/
/-- the lists of the def's own are not to be seen from a comprehension's block -/
def hideO : Sl → Sl
  | .own _ => .un
  | s => s
theorem Rep.hide {K : PySem.W.Frag} {B : Bs} {Hs H : Hp} {σ : L2.St} {ρ : List Sl} (r : Rep K B Hs H σ ρ) : Rep K ⟨Hs, H⟩ Hs H σ (ρ.map hideO) := by
  have key : ∀ {i : Nat} {s : Sl}, (ρ.map hideO)[i]? = some s → (∀ l, s ≠ .own l) ∧ (s = .un ∨ ρ[i]? = some s) := fun {i s} h => by
    rw [List.getElem?_map] at h
    obtain ⟨x, e1, e2⟩ := Option.map_eq_some_iff.mp h
    cases x with
    | un => subst e2; exact ⟨fun l z => absurd z (by simp [hideO]), .inl rfl⟩
    | val d => subst e2; exact ⟨fun l z => absurd z (by simp [hideO]), .inr e1⟩
    | own l => subst e2; exact ⟨fun l z => absurd z (by simp [hideO]), .inl rfl⟩
  refine ⟨r.same, Same.refl _, fun a h _ => h, by rw [List.length_map]; exact r.len, fun i d e => ?_, fun i ds e => absurd rfl ((key e).1 ds), fun i j ds es a _ e => absurd rfl ((key e).1 ds)⟩
  rcases (key e).2 with z | z
  · cases z
  · exact r.val i d z
section
variable {X : Cx} {elt tg iter : Expr} {scope : Scope} {pos : Pos} {wi : TI} {g : TG} {te : TE} {w : DA} {we : DE} {wg : D → List Sl → (List Sl → Prop) → Prop}
theorem rl_len {K : PySem.W.Frag} {H : Hp} {vs : List V} {ds : List D} (r : Rl K H vs ds) : vs.length = ds.length := r.1
/-- [elt for x in iter]: a new list; f the item's function -/
def wLc (i : Nat) (w : DA) (we : DE) : DA := fun ρ k => w ρ fun l ρ1 => l.length ≤ 100000 ∧ ∃ f : D → D, (∀ x, x ∈ l → we ((ρ1.map hideO).set i (.val x)) fun y _ => y = f x) ∧ k (l.map f) ρ1
theorem ref_lc {K : PySem.W.Frag} {i : Nat} (hi : RefI K wi w) (he : RefE K te we) : RefL K (tLc wi (gName i) tYes te [i]) (wLc i w we) := by
  intro B Hs H σ ρ k Q r hw hQ
  refine hi B Hs H σ ρ _ _ r hw fun J Hs1 H1 l ρ1 s1 r1 ok q D hD => ?_
  obtain ⟨hl, f, hf, q⟩ := q
  -- the new list stands at D; what else is there stays
  have inv0 : Rep K B Hs1 (upd H1 D (.lst [])) σ ρ1 := r1.laid hD
  have hDs : Hs1 D = none := r1.same.free hD
  have hDb : B.h D = none := r1.ent.free hD
  refine ⟨fun j m H => m = l.length - j ∧ j ≤ l.length ∧ ∃ Hs2 vs, Same Hs1 Hs2 ∧ Rep K B Hs2 H σ ρ1 ∧ Hs2 D = none ∧ H D = some (.lst vs) ∧ Rl K Hs2 vs ((l.take j).map f) ∧ (∀ (i : Nat) ds, ρ1[i]? = some (.own ds) → σ[i]? ≠ some (some (.ref D))),
    ⟨l.length, by simp, Nat.zero_le _, Hs1, [], Same.refl _, inv0, hDs, upd_same, Rl.nil, r1.notOwn hD⟩, ?_⟩
  rintro j m H2 ⟨rfl, hj, Hs2, vs, s2, r2, n2, h2, g2, no⟩
  by_cases hlt : j < l.length
  · refine .inr ⟨ok.go j H2 (s2.trans r2.same) hlt, fun H => ∃ Hs2 vs, Same Hs1 Hs2 ∧ Rep K B Hs2 H σ ρ1 ∧ Hs2 D = none ∧ H D = some (.lst vs) ∧ Rl K Hs2 vs ((l.take (j + 1)).map f) ∧ (∀ (i : Nat) ds, ρ1[i]? = some (.own ds) → σ[i]? ≠ some (some (.ref D))),
      fun H' h => ⟨l.length - (j + 1), by omega, rfl, hlt, h⟩, fun x H' y => ?_⟩
    obtain ⟨e, d, e1, e2⟩ := ok.yld j H2 x H' (s2.trans r2.same) hlt y
    subst e
    refine ⟨by show ((σ.set i none).set i (some x)).set i none = σ.set i none; rw [List.set_set, List.set_set], ?_⟩
    unfold tYes
    dsimp only
    rw [if_pos rfl]
    have rb : Rep K ⟨Hs2, H'⟩ Hs2 H' ((σ.set i none).set i (some x)) (((ρ1.map hideO).set i .un).set i (.val d)) := (r2.hide.setAny none i).setVal (e2.mono s2) i
    rw [show ((ρ1.map hideO).set i .un).set i (.val d) = (ρ1.map hideO).set i (.val d) from List.set_set ..] at rb
    show te ((σ.set i none).set i (some x)) H' _
    refine he ⟨Hs2, H'⟩ Hs2 H' _ _ _ _ rb (hf d (List.mem_of_getElem? e1)) fun v Hs3 H3 d3 ρ3 s3 r3 dr3 q3 => ?_
    subst q3
    have hH : Same H' H3 := r3.ent
    have hD3 : H3 D = some (.lst vs) := hH _ _ h2
    have hfr : ∀ a, Hs2 a = none → H' a ≠ none → Hs3 a = none := fun a h1 h2 => r3.fr a h1 h2
    have n3 : Hs3 D = none := hfr D n2 (by rw [h2]; simp)
    have r3' : Rep K B Hs3 H3 σ ρ1 := r2.grow s3 r3.same hH hfr
    refine ⟨vs, hD3, by rw [g2.1, List.length_map, List.length_take]; exact Nat.lt_of_lt_of_le (by omega : min j l.length < 1000000) (by decide), ?_⟩
    refine ⟨Hs3, vs ++ [v], s2.trans s3, ?_, n3, upd_same, ?_, no⟩
    · refine ⟨same_upd_of r3'.same n3, same_upd_of r3'.ent hDb, r3'.fr, r3'.len, r3'.val, fun i ds e => ?_, r3'.sep⟩
      obtain ⟨a, ws, f1, f2, f0, f3, f4⟩ := r3'.own i ds e
      have ne : a ≠ D := fun z => no i ds e (by rw [← z]; exact f1)
      exact ⟨a, ws, f1, f2, f0, by rw [upd_ne ne]; exact f3, f4⟩
    · rw [List.take_add_one, e1, List.map_append]
      exact (g2.mono s3).append (Rl.cons dr3 Rl.nil)
  · have e : j = l.length := by omega
    subst e
    rw [List.take_length] at g2
    exact .inl ⟨ok.stop H2 (s2.trans r2.same), hQ D vs Hs2 H2 _ ρ1 (s1.trans s2) r2 n2 hDb h2 g2 no q⟩
theorem dlc {i : Nat} {x : PySem.Str} {px : Pos} (hc : X.calm = true) (hN : X.N.Nodup) (hi : PID X (.Name x px) iter wi w) (ok : BlkOk X.N X.env.scope scope [(x, i)])
    (hg : ∀ (s : Shared) (H : Hp) (C : Addr) (cl : List (PySem.Str × Addr)) (fp : List Addr), PG (X.blk s H scope (compEnvC scope cl C X.env) fp) (.Name x px) (gName i))
    (he : ∀ (s : Shared) (H : Hp) (C : Addr) (cl : List (PySem.Str × Addr)) (fp : List Addr), PED (X.blk s H scope (compEnvC scope cl C X.env) fp) elt te we) (hs : ∀ x, foldedSetIterable iter X.env x = pure x := by intro _; rfl) :
    PLD X (.ListComp elt [⟨.Name x px, iter, [], 0⟩] scope pos) (tLc wi (gName i) tYes te [i]) (wLc i w we) :=
  ⟨pe_lc (own := [(x, i)]) hc hN hi.pe ok hg (fun _ _ _ _ _ => pts_nil) (fun s H C cl fp => (he s H C cl fp).pe) hs, ref_lc hi.ref (he X.s_0 X.H_0 0 [] []).ref⟩
/-- y = [..] on one line -/
theorem sdsetLc {i iy : Nat} {x y : PySem.Str} {px py spos : Pos} (hc : X.calm = true) (hN : X.N.Nodup) (hy : X.N[iy]? = some y) (hyl : X.env.scope.names.lookup y = some .local)
    (hsw : swapsWith (.ListComp elt [⟨.Name x px, iter, [], 0⟩] scope pos) (some (.Name y py)) spos.line X.env = pure true) (hi : PID X (.Name x px) iter wi w) (ok : BlkOk X.N X.env.scope scope [(x, i)])
    (hg : ∀ (s : Shared) (H : Hp) (C : Addr) (cl : List (PySem.Str × Addr)) (fp : List Addr), PG (X.blk s H scope (compEnvC scope cl C X.env) fp) (.Name x px) (gName i))
    (he : ∀ (s : Shared) (H : Hp) (C : Addr) (cl : List (PySem.Str × Addr)) (fp : List Addr), PED (X.blk s H scope (compEnvC scope cl C X.env) fp) elt te we) (hs : ∀ x, foldedSetIterable iter X.env x = pure x := by intro _; rfl) :
    PSD X (.Assign [.Name y py] (.ListComp elt [⟨.Name x px, iter, [], 0⟩] scope pos) spos) (tAsg (tLc wi (gName i) tYes te [i]) (gName iy)) (wSetL iy (wLc i w we)) := by
  refine ⟨ps_setLc (own := [(x, i)]) hc hN hy hyl hsw hi.pe ok hg (fun _ _ _ _ _ => pts_nil) (fun s H C cl fp => (he s H C cl fp).pe) hs, ?_⟩
  intro B Hs H σ ρ D W r hw E
  exact (ref_lc hi.ref (he X.s_0 X.H_0 0 [] []).ref) B Hs H σ ρ _ _ r hw fun p vs Hs1 H1 ds ρ1 s r1 h1 h2 h3 h4 h5 q => E.nx Hs1 H1 _ _ s (r1.setOwn h1 h2 h3 h4 h5 iy) q
end
end K36
set_option Elab.async false
set_option linter.all false
set_option maxRecDepth 100000
set_option maxHeartbeats 2000000
namespace K36
open PySem PySem.Spec PyProof.Rows L2

theorem Rep.settleAny {K : PySem.W.Frag} {B : Bs} {Hs H : Hp} {σ : L2.St} {ρ : List Sl} {p : Addr} {o : HO} (r : Rep K B Hs H σ ρ) (h1 : Hs p = none) (h2 : B.h p = none) (h3 : H p = some o) (hn : ∀ (i : Nat) ds, ρ[i]? = some (.own ds) → σ[i]? ≠ some (some (.ref p))) : Rep K B (upd Hs p o) H σ ρ := by
  have s : Same Hs (upd Hs p o) := same_upd h1
  refine ⟨same_settle r.same h3, r.ent, fun b g1 g2 => ?_, r.len, fun j e q => ?_, fun j fs q => ?_, r.sep⟩
  · rw [upd_ne (fun z => g2 (by rw [z]; exact h2))]
    exact r.fr b g1 g2
  · obtain ⟨v, f1, f2⟩ := r.val j e q
    exact ⟨v, f1, f2.mono s⟩
  · obtain ⟨b, us, f1, f2, f0, f3, f4⟩ := r.own j fs q
    have ne : b ≠ p := fun z => hn j fs q (by rw [← z]; exact f1)
    exact ⟨b, us, f1, by rw [upd_ne ne]; exact f2, f0, f3, f4.mono s⟩
/-! ### instances -/
theorem lookup_keys {K : PySem.W.Frag} {H : Hp} {f : PySem.Str} : ∀ {fs : List (PySem.Str × V)} {ds : List (PySem.Str × D)}, fs.map (·.1) = ds.map (·.1) → (∀ (i : Nat) f v g d, fs[i]? = some (f, v) → ds[i]? = some (g, d) → DR K H v d) →
    (∀ x, ds.lookup f = some x → ∃ v, fs.lookup f = some v ∧ DR K H v x) ∧ (ds.lookup f = none → fs.lookup f = none)
  | [], [], _, _ => ⟨fun x h => absurd h (by simp), fun _ => rfl⟩
  | [], _ :: _, h, _ => by cases h
  | _ :: _, [], h, _ => by cases h
  | (g, v) :: fs, (g', d) :: ds, h, hr => by
    have h1 : g = g' ∧ fs.map (·.1) = ds.map (·.1) := by simpa using h
    obtain ⟨rfl, h2⟩ := h1
    obtain ⟨i1, i2⟩ := lookup_keys (f := f) h2 fun i a b c e x y => hr (i + 1) a b c e (by simpa using x) (by simpa using y)
    have h0 : DR K H v d := hr 0 g v g d rfl rfl
    simp only [List.lookup]
    cases q : (f == g) with
    | true =>
      refine ⟨fun x hx => ?_, fun hx => by cases hx⟩
      cases hx
      exact ⟨v, rfl, h0⟩
    | false => exact ⟨i1, i2⟩
theorem DR.ins_inv {K : PySem.W.Frag} {H : Hp} {v : V} {C : Addr} {ds : List (PySem.Str × D)} (h : DR K H v (.ins C ds)) : ∃ a dx fs, v = .ref a ∧ H a = some (.ins C dx fs) ∧ ∀ f, (∀ x, ds.lookup f = some x → ∃ v, fs.lookup f = some v ∧ DR K H v x) ∧ (ds.lookup f = none → fs.lookup f = none) := by
  cases h with
  | ins h1 h2 h3 => exact ⟨_, _, _, rfl, h1, fun f => lookup_keys h2 h3⟩
section
variable {X : Cx} {o e : Expr} {es : List Expr} {to : TE} {wo : DE} {t : TA} {w : DA} {f m : PySem.Str} {apos pos : Pos} {k : Nat}
def wFld (K : PySem.W.Frag) (f : PySem.Str) (wo : DE) : DE := fun ρ k => wo ρ fun d ρ1 => ∃ C fs x, d = .ins C fs ∧ Cls K C ∧ NoAttr K C f ∧ fs.lookup f = some x ∧ k x ρ1
theorem dfld (he : PED X o to wo) (hb : attributeBase o f X.env (eval o X.env) = eval o X.env := by rfl) : PED X (.Attribute o f pos) (tFld X.K to f) (wFld X.K f wo) := by
  refine ⟨pe_fld he.pe hb, ?_⟩
  intro B Hs H σ ρ k Q r hw hQ
  refine he.ref B Hs H σ ρ _ _ r hw fun v Hs1 H1 d ρ1 s1 r1 d1 q1 => ?_
  obtain ⟨C, fs, x, rfl, c, n, l, q⟩ := q1
  obtain ⟨a, dx, gs, rfl, h1, hl⟩ := d1.ins_inv
  obtain ⟨u, e1, e2⟩ := (hl f).1 x l
  exact ⟨a, C, dx, gs, u, rfl, r1.same _ _ h1, c, n, e1, hQ u Hs1 H1 x ρ1 s1 r1 e2 q⟩
/-- a method by the class that is met -/
structure MD (P : Program) (w : World) (K : PySem.W.Frag) (mg : PySem.Str → Option Value) (base : Heap) (k : Nat) (C : Addr) (m : PySem.Str) (sp : Sp) : Prop where
  ex : ∃ f fd ps, Cls K C ∧ Meth K C m f ∧ FnOk P w K mg base CX0 k f fd ps sp ∧ Binds K fd ps []
def tMethD (X : Cx) (k : Nat) (m : PySem.Str) (to : TE) (t : TA) : TE := fun σ H Q => to σ H fun x H1 => ∃ C a dx fs sp, x = .ref a ∧ H1 a = some (.ins C dx fs) ∧ fs.lookup m = none ∧ MD X.prog X.w X.K X.mg X.base k C m sp ∧ t σ H1 fun vs H2 => sp (x :: vs) H2 Q E0
theorem pe_methD {pl : Sem Bool} (he : PE X o to) (hr : Room k X.A) (ha : PA X (e :: es) t) (hst : starEach (e :: es) X.env = (false, eval e X.env) :: starEach es X.env := by rfl) (hpl : (backTo pos (starEach es X.env)).any (·.1) = false := by rfl)
    (ht : eval (.Call (.Attribute o m apos) (e :: es) [] pos) X.env = (do
      let ov ← eval o X.env
      standAt apos.atName
      let (f, first) ← holding [ov] (getMethod ov m pl)
      callWith pos f first (backTo pos (starEach (e :: es) X.env)) (backToKw pos (keywordEach [] X.env))) := by rfl) :
    PE X (.Call (.Attribute o m apos) (e :: es) [] pos) (tMethD X k m to t) := by
  refine ⟨fun pins s σ H Q I h => ?_⟩
  refine PySem.W.methodCall_KW (pl := pl) (thn (he.run pins s σ H _ I h) fun u s1 ⟨x, H1, I1, rx, C, a, dx, fs, sp, ex, ea, l, md, q⟩ => ?_) ht
  subst ex
  obtain rfl : u = Value.ref a := rx
  obtain ⟨f, fd, ps, c, hm, F, hb⟩ := md.ex
  refine getmeth_ok I1 ea c hm l ?_
  refine PySem.W.callWith_K (first := [.ref a]) (h₀ := X.base) I.ok.mod.kin hm.kp (thn (ha.run pos pins s1 σ H1 _ I1 q) fun us s2 ⟨vs, H2, I2, r, q2⟩ => ⟨I2.kIn, ?_⟩) hst hpl
  exact run_fn (us := .ref a :: us) (vs := .ref a :: vs) F hr hb .nil pass0 I2 (.cons rfl r) (by rw [List.append_nil]; exact q2)
theorem pe_methD0 {pl : Sem Bool} (he : PE X o to) (hr : Room k X.A)
    (ht : eval (.Call (.Attribute o m apos) [] [] pos) X.env = (do
      let ov ← eval o X.env
      standAt apos.atName
      let (f, first) ← holding [ov] (getMethod ov m pl)
      callWith pos f first (backTo pos (starEach [] X.env)) (backToKw pos (keywordEach [] X.env))) := by rfl) :
    PE X (.Call (.Attribute o m apos) [] [] pos) (tMethD X k m to tNil) := by
  refine ⟨fun pins s σ H Q I h => ?_⟩
  refine PySem.W.methodCall_KW (pl := pl) (thn (he.run pins s σ H _ I h) fun u s1 ⟨x, H1, I1, rx, C, a, dx, fs, sp, ex, ea, l, md, q⟩ => ?_) ht
  subst ex
  obtain rfl : u = Value.ref a := rx
  obtain ⟨f, fd, ps, c, hm, F, hb⟩ := md.ex
  refine getmeth_ok I1 ea c hm l ?_
  exact PySem.W.callWith_K0 (first := [.ref a]) I1.kIn hm.kp (run_fn (us := [.ref a]) (vs := [.ref a]) F hr hb .nil pass0 I1 (.cons rfl .nil) q)
def wMethD (X : Cx) (k : Nat) (m : PySem.Str) (wo : DE) (w : DA) : DE := fun ρ kk => wo ρ fun d ρ1 => ∃ C fs sp, d = .ins C fs ∧ fs.lookup m = none ∧ MD X.prog X.w X.K X.mg X.base k C m (spOf X.K sp) ∧ w ρ1 fun ds ρ2 => sp (d :: ds) fun r => kk r ρ2
theorem ref_methD (he : RefE X.K to wo) (ha : RefA X.K t w) : RefE X.K (tMethD X k m to t) (wMethD X k m wo w) := by
  intro B Hs H σ ρ k' Q r hw hQ
  refine he B Hs H σ ρ _ _ r hw fun v Hs1 H1 d ρ1 s1 r1 d1 q1 => ?_
  obtain ⟨C, fs, sp, rfl, l, md, q⟩ := q1
  obtain ⟨a, dx, gs, rfl, h1, hl⟩ := d1.ins_inv
  refine ⟨C, a, dx, gs, _, rfl, r1.same _ _ h1, (hl m).2 l, md, ha B Hs1 H1 σ ρ1 _ _ r1 q fun vs Hs2 H2 ds ρ2 s2 r2 d2 q2 => ?_⟩
  exact spOf_call r2 (Rl.cons (d1.mono s2) d2) q2 fun v Hs' H' d ρ' s' => hQ v Hs' H' d ρ' ((s1.trans s2).trans s')
theorem dmeth {pl : Sem Bool} (he : PED X o to wo) (hr : Room k X.A) (ha : PAD X (e :: es) t w) (hst : starEach (e :: es) X.env = (false, eval e X.env) :: starEach es X.env := by rfl) (hpl : (backTo pos (starEach es X.env)).any (·.1) = false := by rfl)
    (ht : eval (.Call (.Attribute o m apos) (e :: es) [] pos) X.env = (do
      let ov ← eval o X.env
      standAt apos.atName
      let (f, first) ← holding [ov] (getMethod ov m pl)
      callWith pos f first (backTo pos (starEach (e :: es) X.env)) (backToKw pos (keywordEach [] X.env))) := by rfl) :
    PED X (.Call (.Attribute o m apos) (e :: es) [] pos) (tMethD X k m to t) (wMethD X k m wo w) := ⟨pe_methD he.pe hr ha.pe hst hpl ht, ref_methD he.ref ha.ref⟩
theorem dmeth0 {pl : Sem Bool} (he : PED X o to wo) (hr : Room k X.A)
    (ht : eval (.Call (.Attribute o m apos) [] [] pos) X.env = (do
      let ov ← eval o X.env
      standAt apos.atName
      let (f, first) ← holding [ov] (getMethod ov m pl)
      callWith pos f first (backTo pos (starEach [] X.env)) (backToKw pos (keywordEach [] X.env))) := by rfl) :
    PED X (.Call (.Attribute o m apos) [] [] pos) (tMethD X k m to tNil) (wMethD X k m wo wNil) := ⟨pe_methD0 he.pe hr ht, ref_methD he.ref dnil.ref⟩
/-- what __init__ promises: the fields -/
def spI (K : PySem.W.Frag) (C : Addr) (F : List D → List (PySem.Str × D) → Prop) : Sp := fun vs H Q _ => ∃ (Hs : Hp) (x dx : Addr) (ws : List V) (ds : List D) (fs : List (PySem.Str × D)), vs = .ref x :: ws ∧ Same Hs H ∧ Hs x = none ∧ H x = some (.ins C dx []) ∧ Rl K Hs ws ds ∧ F ds fs ∧
  ∀ Hs' H' gs, Same Hs Hs' → Same Hs' H' → (∀ b o, H b = some o → b ≠ x → H' b = some o) → (∀ a, Hs a = none → H a ≠ none → Hs' a = none) → H' x = some (.ins C dx gs) → gs.map (·.1) = fs.map (·.1) → (∀ (i : Nat) f v g d, gs[i]? = some (f, v) → fs[i]? = some (g, d) → DR K Hs' v d) → Q .non H'
structure MkD (P : Program) (w : World) (K : PySem.W.Frag) (mg : PySem.Str → Option Value) (base : Heap) (k : Nat) (x : PySem.Str) (C : Addr) (F : List D → List (PySem.Str × D) → Prop) : Prop where
  ex : ∃ f fd ps, Mk K C f ∧ FnOk P w K mg base CX0 k f fd ps (spI K C F) ∧ mg x = some (.ref C) ∧ Binds K fd ps []
def wMake (C : Addr) (F : List D → List (PySem.Str × D) → Prop) (w : DA) : DE := fun ρ k => w ρ fun ds ρ1 => ∃ fs, F ds fs ∧ k (.ins C fs) ρ1
theorem dmake {x : PySem.Str} {p : Pos} {C : Addr} {F : List D → List (PySem.Str × D) → Prop} (M : MkD X.prog X.w X.K X.mg X.base k x C F) (hr : Room (k + 1) X.A) (ha : PAD X (e :: es) t w) (hg : Gl X x := by rfl) (hdb : (x == ("__debug__" : PySem.Str)) = false := by decide)
    (he : starEach (e :: es) X.env = (false, eval e X.env) :: starEach es X.env := by rfl) (hpl : (backTo pos (starEach es X.env)).any (·.1) = false := by rfl) :
    PED X (.Call (.Name x p) (e :: es) [] pos) (tMake C (spI X.K C F) [] E0 t) (wMake C F w) := by
  obtain ⟨f, fd, ps, h1, h2, h3, h4⟩ := M.ex
  refine ⟨pe_make h1 h2 hr hg h3 h4 .nil pass0 ha.pe hdb he hpl, ?_⟩
  intro B Hs H σ ρ k Q r hw hQ
  refine ha.ref B Hs H σ ρ _ _ r hw fun vs Hs1 H1 ds ρ1 s1 r1 d1 q1 => ?_
  obtain ⟨fs, hF, q⟩ := q1
  intro x dx nx ndx nex
  have nxs : Hs1 x = none := r1.same.free nx
  have sH : Same H1 (upd (upd H1 dx (.own x)) x (.ins C dx [])) := (same_upd ndx).trans (same_upd (by rw [upd_ne (Ne.symm nex)]; exact nx))
  refine ⟨Hs1, x, dx, vs, ds, fs, by rw [List.append_nil], r1.same.trans sH, nxs, upd_same, d1, hF, fun Hs' H' gs t1 t2 t3 t4 t5 t6 t7 => ⟨rfl, ?_⟩⟩
  have t3' : Same H1 H' := fun b o e => t3 b o (sH b o e) (ne_of_none e nx)
  have fr' : ∀ a, Hs1 a = none → H1 a ≠ none → Hs' a = none := fun a e1 e2 => t4 a e1 (by
    cases hq : H1 a with
    | none => exact absurd hq e2
    | some o => rw [sH a o hq]; simp)
  have nxs' : Hs' x = none := t4 x nxs (by rw [upd_same]; simp)
  have r2 : Rep X.K B Hs' H' σ ρ1 := r1.grow t1 t2 t3' fr'
  have s2 : Same Hs' (upd Hs' x (.ins C dx gs)) := same_upd nxs'
  have r3 : Rep X.K B (upd Hs' x (.ins C dx gs)) H' σ ρ1 := r2.settleAny nxs' (r1.ent.free nx) t5 (r1.notOwn nx)
  exact hQ _ _ H' _ ρ1 ((s1.trans t1).trans s2) r3 (.ins upd_same t6 fun i f v g d a b => (t7 i f v g d a b).mono s2) q
end

/-! ### a def's promise, from its body -/
def startD (N : List PySem.Str) (ds : List D) : List Sl := ds.map Sl.val ++ List.replicate (N.length - ds.length) .un
theorem start_rep {K : PySem.W.Frag} {Hs H : Hp} {N ps : List PySem.Str} {sc : Scope} {vs : List V} {ds : List D} (S : FnScope N ps sc) (hl : ds.length = ps.length) (s : Same Hs H) (g : Rl K Hs vs ds) : Rep K ⟨Hs, H⟩ Hs H (L2.start N vs) (startD N ds) := by
  have key : ∀ {i : Nat} {x : Sl}, (startD N ds)[i]? = some x → (∃ d, x = .val d ∧ ds[i]? = some d) ∨ x = .un := fun {i x} h => by
    unfold startD at h
    by_cases hi : i < ds.length
    · rw [List.getElem?_append_left (by simpa using hi), List.getElem?_map] at h
      obtain ⟨d, e1, e2⟩ := Option.map_eq_some_iff.mp h
      exact .inl ⟨d, e2.symm, e1⟩
    · rw [List.getElem?_append_right (by simpa using hi), List.getElem?_replicate] at h
      split at h
      · exact .inr (Option.some.inj h).symm
      · cases h
  refine ⟨s, Same.refl _, fun a h _ => h, ?_, fun i d e => ?_, fun i l e => ?_, fun i j l m a _ e => ?_⟩
  · show (vs.map some ++ List.replicate (N.length - vs.length) none).length = (ds.map Sl.val ++ List.replicate (N.length - ds.length) Sl.un).length
    simp only [List.length_append, List.length_map, List.length_replicate, g.1]
  · rcases key e with ⟨d', e1, e2⟩ | z
    · cases e1
      obtain ⟨v, f1, f2⟩ := g.get e2
      refine ⟨v, ?_, f2⟩
      have hi := (List.getElem?_eq_some_iff.mp f1).1
      unfold L2.start
      rw [List.getElem?_append_left (by simpa using hi), List.getElem?_map, f1]
      rfl
    · cases z
  · rcases key e with ⟨d', e1, _⟩ | z
    · cases e1
    · cases z
  · rcases key e with ⟨d', e1, _⟩ | z
    · cases e1
    · cases z
section
variable {P : Program} {w0 : World} {K : PySem.W.Frag} {mg : PySem.Str → Option Value} {base : Heap} {x qual : PySem.Str} {params : Arguments} {body : List Stmt} {scope : Scope} {f : Addr} {fd : FuncData} {N ps : List PySem.Str} {k : Nat}
theorem mkFn {sp : SpD} (F : FunD K x qual params body scope [] [] f fd) (S : FnScope N ps scope) (len : ∀ ds k, sp ds k → ds.length = ps.length)
    (hb : ∀ (cdv : Value) (A : Around) (outer : List Env) (s : Shared) (H : Hp) (E : XK), Room k (A.deeper (envOfC qual scope s.heap.objs.size f cdv)) →
      ∃ t w, PSsD (cxOf CX0 P w0 K mg base N qual scope f cdv A outer s H E).nox body t w ∧ ∀ ds k0, sp ds k0 → w { nx := fun _ => k0 .non, rt := k0 } (startD N ds)) :
    FnOk P w0 K mg base CX0 (k + 1) f fd ps (spOf K sp) := by
  refine F.ok S (fun vs H Q E h => ?_) (fun cdv A outer s H vs Q E hr h => ?_)
  · obtain ⟨Hs, ds, k0, _, g, hsp, _⟩ := h
    rw [g.1]
    exact len ds k0 hsp
  · obtain ⟨Hs, ds, k0, hs, g, hsp, hQ⟩ := h
    obtain ⟨t, w, pd, hw⟩ := hb cdv A outer s H E hr
    refine ⟨t, pd.pe.nox, ?_⟩
    refine pd.ref ⟨Hs, H⟩ Hs H (L2.start N vs) (startD N ds) _ { nx := fun _ => k0 .non, rt := k0 } (start_rep S (len ds k0 hsp) hs g) (hw ds k0 hsp) ⟨?_, ?_, fun _ _ _ _ _ _ z => z.elim, fun _ _ _ _ _ _ z => z.elim, fun _ _ _ _ _ _ _ _ _ _ _ _ _ z => z.elim⟩
    · intro Hs' H' σ' ρ' s1 r q
      exact hQ .non .non Hs' H' q r.ent s1 r.same (fun a h1 h2 => r.fr a h1 h2) .non
    · intro Hs' H' σ' ρ' v d s1 r dr q
      exact hQ d v Hs' H' q r.ent s1 r.same (fun a h1 h2 => r.fr a h1 h2) dr
theorem mkFnN {sp : SpN} (F : FunD K x qual params body scope [] [] f fd) (S : FnScope N ps scope) (len : ∀ ds k, sp ds k → ds.length = ps.length)
    (hb : ∀ (cdv : Value) (A : Around) (outer : List Env) (s : Shared) (H : Hp) (E : XK), Room k (A.deeper (envOfC qual scope s.heap.objs.size f cdv)) →
      ∃ t w, PSsD (cxOf CX0 P w0 K mg base N qual scope f cdv A outer s H E).nox body t w ∧ ∀ ds k0, sp ds k0 → w { nx := fun _ => False, rt := fun _ => False, ro := k0 } (startD N ds)) :
    FnOk P w0 K mg base CX0 (k + 1) f fd ps (spOfN K sp) := by
  refine F.ok S (fun vs H Q E h => ?_) (fun cdv A outer s H vs Q E hr h => ?_)
  · obtain ⟨Hs, ds, k0, _, g, hsp, _⟩ := h
    rw [g.1]
    exact len ds k0 hsp
  · obtain ⟨Hs, ds, k0, hs, g, hsp, hQ⟩ := h
    obtain ⟨t, w, pd, hw⟩ := hb cdv A outer s H E hr
    refine ⟨t, pd.pe.nox, ?_⟩
    refine pd.ref ⟨Hs, H⟩ Hs H (L2.start N vs) (startD N ds) _ { nx := fun _ => False, rt := fun _ => False, ro := k0 } (start_rep S (len ds k0 hsp) hs g) (hw ds k0 hsp) ⟨fun _ _ _ _ _ _ z => z.elim, fun _ _ _ _ _ _ _ _ _ z => z.elim, fun _ _ _ _ _ _ z => z.elim, fun _ _ _ _ _ _ z => z.elim, ?_⟩
    intro Hs' H' σ' ρ' p ws l s1 r n1 n2 h3 g4 q
    exact hQ l p ws Hs' H' q r.ent s1 r.same (fun a h1 h2 => r.fr a h1 h2) n1 n2 h3 g4
end
end K36
set_option Elab.async false
set_option linter.all false
set_option maxRecDepth 100000
set_option maxHeartbeats 2000000
/-! An exception out of a call in a list comprehension's element. -/
namespace K36R
open PySem PySem.Spec PyProof.Rows L2
open HandSPX (FlyingZ HeldZ TracedZ)
theorem traced_sub {h B B' : Heap} {e : Addr} {Z : Obj → Prop} {fl : Value} (hs : ∀ b o, B'.get? b = some o → B.get? b = some o) (t : TracedZ h B e Z fl) : TracedZ h B' e Z fl := by
  obtain ⟨oe, vs, T, oT, ts, he, hz, hd, h1, hn, r⟩ := t
  refine ⟨oe, vs, T, oT, ts, he, hz, hd, h1, ?_, r⟩
  cases q : B'.get? T with
  | none => rfl
  | some o => rw [hs T o q] at hn; cases hn
theorem frames_sub {h B B' : Heap} {l : List Env} (hs : ∀ b o, B'.get? b = some o → B.get? b = some o) (f : h.FunFrames B l) : h.FunFrames B' l := by
  refine funFrames_none f fun b hb => ?_
  obtain ⟨e, he, q⟩ := List.mem_filterMap.mp hb
  have z := (f.mem (List.mem_filterMap.mpr ⟨e, he, q⟩)).1
  cases q2 : B'.get? b with
  | none => rfl
  | some o => rw [hs b o q2] at z; cases z
theorem flying_sub {h B B' : Heap} {l : List Env} {e : Addr} {Z : Obj → Prop} (hs : ∀ b o, B'.get? b = some o → B.get? b = some o) (f : FlyingZ B l e Z h) : FlyingZ B' l e Z h := by
  obtain ⟨f1, f2, f3, f4⟩ := f
  refine ⟨fun b o e => f1 b o (hs b o e), ?_, frames_sub hs f3, traced_sub hs f4⟩
  cases q : B'.get? e with
  | none => rfl
  | some o => rw [hs e o q] at f2; cases f2
theorem traced_but {h h' B : Heap} {e C : Addr} {Z : Obj → Prop} {fl : Value} {m : Str → Option Value} (hn : h.Ns C m) (hs : Heap.SameBut C h h') (t : TracedZ h B e Z fl) : TracedZ h' B e Z fl := by
  obtain ⟨oe, vs, T, oT, ts, he, hz, hd, h1, hb, hTe, hT, hdT, h3⟩ := t
  obtain ⟨oC, es, ep, hoC, hdC, _⟩ := hn
  have ne : ∀ {a : Addr} {o : Obj} {vs : Array Value}, h.get? a = some o → o.data = .fields vs → a ≠ C := fun {a o vs} e1 e2 z => by
    rw [z, hoC] at e1; cases e1
    rw [hdC] at e2; cases e2
  exact ⟨oe, vs, T, oT, ts, (hs.2 e (ne he hd)).trans he, hz, hd, h1, hb, hTe, (hs.2 T (ne hT hdT)).trans hT, hdT, h3⟩
theorem held_but {h h' B : Heap} {l : List Env} {e C L : Addr} {Z : Obj → Prop} {m m' : Str → Option Value} (hB : B.get? C = none) (hn : h.Ns C m) (hn' : h'.Ns C m') (hs : Heap.SameBut C h h') (f : HeldZ B l e Z L h) : HeldZ B l e Z L h' := by
  obtain ⟨f1, f2, f3, f4⟩ := f
  exact ⟨fun b o q => (hs.2 b fun z => by rw [z, hB] at q; cases q).trans (f1 b o q), f2, Heap.FunFrames.sameBut hs hn' f3, traced_but hn hs f4⟩
section
variable {X : Cx} {pins pins' : List (Addr × Obj)} {σ σ' : L2.St} {H3 H8 : Hp} {s3 s8 s' : Shared} {scope : Scope} {ce : Env} {fp : List Addr} {EX : XK} {u : Value}
/-- a call in the block's element lets an exception out: it goes on in the def's own frame -/
theorem comp_raise (I3 : L2.Inv X pins σ H3 s3) (I8 : L2.Inv (X.blk s3 H3 scope ce fp) pins' σ' H8 s8) (hC : ce.locals = s3.heap.objs.size) (hcf : ce.frame = X.env.frame) (hs : X.stack = X.env :: X.outer) (hf : X.env.frame = some X.env.locals)
    (hch : ∀ b ∈ fp, (b ∈ X.ex ∨ X.s_0.heap.objs.size ≤ b) ∧ b ≠ X.env.locals ∧ (∀ x c, X.env.cells.lookup x = some c → c ≠ b) ∧ ∀ p ∈ X.pn ++ pins, p.1 ≠ b)
    (tk : Takes X (fun cls d _ H => EX cls d H)) (c : CX X.prog X.w X.stack H8 s8 EX u s') : notedBy (model X.prog X.w) X.A ce (CompFails (model X.prog X.w) X.A X.xe ce) u s' := by
  obtain ⟨a, B, H', cls, d, rfl, fl, hok, ub, na, os, ag, hE⟩ := c
  have hfr : X.A.frames = some (X.env :: X.outer) := by rw [I3.ok.frames, hs]
  -- the block's names are hidden
  obtain ⟨G8, g8, g8'⟩ := restrict s8.heap fun b => decide (b ≠ ce.locals)
  obtain ⟨B', b1, b2⟩ := restrict B fun b => decide (b ≠ ce.locals)
  have g8n : ∀ b, b ≠ ce.locals → G8.get? b = s8.heap.get? b := fun b hb => g8 b (by simp [hb])
  have b1n : ∀ b, b ≠ ce.locals → B'.get? b = B.get? b := fun b hb => b1 b (by simp [hb])
  have hBC : B'.get? ce.locals = none := b2 _ (by simp)
  have hsub : ∀ b o, B'.get? b = some o → B.get? b = some o := fun b o e => by
    rw [← b1n b fun z => by rw [z, hBC] at e; cases e]; exact e
  have n8 : H8 ce.locals = none := I8.free
  have ne3 : ∀ b o, s3.heap.get? b = some o → b ≠ ce.locals := fun b o e z => by
    rw [z, hC] at e
    exact Nat.lt_irrefl _ (Heap.lt_size e)
  have base8 : Un (frs X.stack) fp H3 H8 s3.heap s8.heap := I8.base
  have J : L2.Inv X pins σ H8 { s8 with heap := G8 } := I3.call' (ch := fp) (by first | exact I8.os | rfl)
    ⟨fun b o e n hb hx => (g8n b (ne3 b o e)).trans (base8.keep b o e n hb hx), fun b o e n hb hx => by
      obtain ⟨sl, q⟩ := base8.slot b o e n hb hx
      exact ⟨sl, (g8n b (ne3 b o e)).trans q⟩, base8.free, fun b o e hx => by
      obtain ⟨o', q⟩ := base8.there b o e hx
      exact ⟨o', (g8n b (ne3 b o e)).trans q⟩, base8.tups, base8.frzs, base8.tbls⟩
    (fun b o q => (I8.hok b o q).stay (fun c u hc r => (g8n c fun z => by
      subst z
      rcases hc with hc | hc
      · rw [hc, q] at n8; cases n8
      · rw [hc] at n8; cases n8).trans r) (fun _ r => r) fun _ _ r => r) I8.bare hch
  have ic : ∃ o, s8.heap.get? ce.locals = some o := by
    obtain ⟨m, hn, _⟩ := I8.loc
    obtain ⟨o, _, _, e, _⟩ := hn
    exact ⟨o, e⟩
  obtain ⟨oC, eC⟩ := ic
  have n' : H' ce.locals = none := ub.free _ _ eC n8
  have hok' : HOk X.prog X.w H' B' := fun b o q => (hok b o q).stay (fun c u hc r => (b1n c fun z => by
      subst z
      rcases hc with hc | hc
      · rw [hc, q] at n'; cases n'
      · rw [hc] at n'; cases n').trans r) (fun _ r => r) fun _ _ r => r
  have gne : ∀ b o, G8.get? b = some o → b ≠ ce.locals ∧ s8.heap.get? b = some o := fun b o e => by
    have hb : b ≠ ce.locals := fun z => by rw [z, g8' _ (by simp)] at e; cases e
    exact ⟨hb, by rw [← g8n b hb]; exact e⟩
  have ub' : UB (frs X.stack) H8 H' G8 B' s'.heap := ⟨fun b o e n hb => (b1n b (gne b o e).1).trans (ub.keep b o (gne b o e).2 n hb), fun b o e hb => ub.slot b o (gne b o e).2 hb, fun b o e n => ub.free b o (gne b o e).2 n,
    fun b o e hb => by
      obtain ⟨o', q⟩ := ub.there b o (gne b o e).2 hb
      exact ⟨o', (b1n b (gne b o e).1).trans q⟩, ub.tups, ub.frzs, ub.tbls⟩
  have fl' : FlyingZ B' X.stack a (Zc cls d) s'.heap := flying_sub hsub fl
  -- in the def's air
  have st : B'.StaysIn s'.heap := fl'.1
  obtain ⟨G, g1, g2⟩ := restrict s'.heap fun b => (B'.get? b).isSome || decide (b ∈ frs X.stack)
  have gB : ∀ b o, B'.get? b = some o → G.get? b = some o := fun b o e => by
    rw [g1 b (by simp [e])]
    exact st b o e
  have gF : ∀ b, b ∈ frs X.stack → G.get? b = s'.heap.get? b := fun b hb => g1 b (by simp [hb])
  have og : ∀ b o, G.get? b = some o → s'.heap.get? b = some o ∧ ((B'.get? b).isSome = true ∨ b ∈ frs X.stack) := fun b o e => by
    cases q : ((B'.get? b).isSome || decide (b ∈ frs X.stack)) with
    | false => rw [g2 b q] at e; cases e
    | true =>
      rw [g1 b q] at e
      exact ⟨e, by simpa [Bool.or_eq_true] using q⟩
  have hCst : ce.locals ∉ frs X.stack := fun hm => by
    obtain ⟨_, o, e, _⟩ := I3.stack.mem hm
    exact ne3 _ o e rfl
  have GC : G.get? ce.locals = none := g2 _ (by simp [hBC, hCst])
  have JI : L2.Inv X pins σ H' { s8 with heap := G, gens := s'.gens, drawn := s'.drawn, toks := s'.toks } := by
    refine L2.Inv.call (s := { s8 with heap := G8 }) (h' := G) (g' := s'.gens) (t' := s'.toks) (d' := s'.drawn) (ch := []) J ⟨fun b o e n hb _ => gB b o (ub'.keep b o e n hb), fun b o e n hb _ => ?_, fun b o e n _ => ub'.free b o e n, fun b o e _ => ?_, ub'.tups, ub'.frzs, ub'.tbls⟩ (hok'.kept gB) ag (fun _ z => nomatch z)
    · obtain ⟨sl, q⟩ := ub'.slot b o e hb
      exact ⟨sl, by rw [gF b hb]; exact q⟩
    · by_cases hb : b ∈ frs X.stack
      · obtain ⟨sl, q⟩ := ub'.slot b o e hb
        exact ⟨_, by rw [gF b hb]; exact q⟩
      · obtain ⟨o', q⟩ := ub'.there b o e hb
        exact ⟨o', gB b o' q⟩
  have nb : ∀ b o, G.get? b = some o → b ∉ frs X.stack → B'.get? b = some o := fun b o e hb => by
    obtain ⟨e', h⟩ := og b o e
    rcases h with h | h
    · obtain ⟨o', q⟩ := Option.isSome_iff_exists.mp h
      have z := st b o' q
      rw [e'] at z; cases z
      exact q
    · exact absurd h hb
  -- the block's names stand in the ground
  have nsC : ∃ m, s'.heap.Ns ce.locals m := by
    obtain ⟨m, hn, _⟩ := I8.loc
    have hn : s8.heap.Ns ce.locals m := hn
    exact ⟨m, hn.at fun o e => fl.1 _ _ (ub.keep _ _ e n8 hCst)⟩
  obtain ⟨m, hn⟩ := nsC
  show wpAny _ _ (noteFrame (.ref a) ce) _ _ s'
  rw [noteFrame_env _ hcf]
  refine HandSPX.looks_onZ Zc.steady hfr hf (by rw [← hs]; exact fl') fun h1 hH hk => ?_
  have hn1 : h1.Ns ce.locals m := hn.upToSlots hk
  refine ⟨m, hn1, fun h2 m2 hn2 sb2 => ?_⟩
  have hH2 := held_but hBC hn1 hn2 sb2 hH
  obtain ⟨k1, k2, k3, oe, vs, T, oT, ts', he, hz, hd, hh1, hr⟩ := id hH2
  unfold PySem.passOn
  refine wpAny_bind (wpAny_field he hd hh1 ?_)
  rw [if_neg (show ¬ ((Value.ref T == Value.none) = true) from by simp)]
  have fin : wpAny (model X.prog X.w) X.A (setFlight (.ref a) ce.frame) (fun _ s4 => wpAny (model X.prog X.w) X.A (throw (.ref a) : Sem Value) (fun _ _ => False) X.xe s4) X.xe { s' with heap := h2 } := by
    rw [hcf, hf]
    refine HandSPX.setFlight_onZ hH2 fun h4 hh4 up4 => wpAny_throw (tk _ _ ?_)
    refine ⟨a, B', { s8 with heap := G, gens := s'.gens, drawn := s'.drawn, toks := s'.toks }, pins, σ, H', cls, d, rfl, JI, nb, ?_, .inr (.inr (by rw [hs]; exact hh4)), na, os, ag, hE⟩
    intro b o e hnf
    have e' := (og b o e).1
    obtain ⟨sl1, q1⟩ := hk b o e' hnf
    have q2 : h2.get? b = some { o with slots := sl1 } := (sb2.2 b fun z => by
      have e2 : G.get? b = some o := e
      rw [z, GC] at e2; cases e2).trans q1
    obtain ⟨sl3, q3⟩ := up4 b _ q2 hnf
    exact ⟨sl3, q3⟩
  first
    | exact wpAny_bind (wpAny_pure (wpAny_bind fin))
    | exact wpAny_bind fin
end
/-- the block's context, its element's calls may let out what EX takes -/
abbrev blkX (X : Cx) (s : Shared) (H : Hp) (scope : Scope) (cenv : Env) (fp : List Addr) (EX : XK) : Cx :=
  (X.blk s H scope cenv fp).wish fun u s' => ∃ pins σ H8 s8, L2.Inv (X.blk s H scope cenv fp) pins σ H8 s8 ∧ CX X.prog X.w X.stack H8 s8 EX u s'
theorem lc_coreX {X : Cx} {EX : XK} {pins : List (Addr × Obj)} {s : Shared} {σ : L2.St} {H : Hp} {Q : VK} {elt tg iter : Expr} {ifs : List Expr} {scope : Scope} {own : List (Str × Nat)} {pos pos' : Pos} {wi : TI} {g : TG} {tt : TT} {te : TE} {Qf : Value → Shared → Prop}
    (hc : X.calm = true) (hN : X.N.Nodup) (hst : X.stack = X.env :: X.outer) (hfl : X.env.frame = some X.env.locals) (tk : Takes X (fun cls d _ H => EX cls d H)) (I : L2.Inv X pins σ H s) (hi : PI X tg iter wi) (ok : BlkOk X.N X.env.scope scope own)
    (hg : ∀ (s : Shared) (H : Hp) (C : Addr) (cl : List (Str × Addr)) (fp : List Addr), PG (X.blk s H scope (compEnvC scope cl C X.env) fp) tg g) (ht : ∀ (s : Shared) (H : Hp) (C : Addr) (cl : List (Str × Addr)) (fp : List Addr), PTs (X.blk s H scope (compEnvC scope cl C X.env) fp) ifs tt)
    (he : ∀ (s : Shared) (H : Hp) (C : Addr) (cl : List (Str × Addr)) (fp : List Addr), PE (blkX X s H scope (compEnvC scope cl C X.env) fp EX) elt te) (hs : ∀ x, foldedSetIterable iter X.env x = pure x)
    (h : tLc wi g tt te (own.map (·.2)) σ H Q)
    (hRR : ∀ D C s' m H', L2.Inv X pins σ H' s' → Q (.ref D) H' → s'.heap.Ns C m → FpOk X pins H' C → ∃ m, s'.heap.Ns C m ∧ ∀ h', Heap.SameBut C s'.heap h' → Qf (.ref D) { s' with heap := h' }) :
    wpAny (model X.prog X.w) X.A (comprehension (.ListComp elt [⟨tg, iter, ifs, 0⟩] scope pos) scope X.env pos' (newList []) false (eval iter X.env) none) Qf X.xe s := by
  have hfree : ∀ y ∈ scope.names, y.2 = .free → ∃ c, X.env.cells.lookup y.1 = some c := fun y hy e => by
    rcases ok.free y hy e with k | k
    · exact I.ok.has _ (.inl k)
    · exact I.ok.has _ (.inr k)
  refine comprehension_at (use := none) rfl hs (closure_ok hfree) ok.kind (fun y hy e => by rw [ok.uniq y hy, e])
    (thn (hi.run pins s σ H _ I h) fun xv s1 hx => thn hx fun itv s2 h2 => ?_)
  obtain ⟨it, fp, tn, J, H2, e, I2, T, st2, f2, q⟩ := h2
  subst e
  refine wpAny_newObj_type (newEnv_comp ?_) (by show 0 ≤ sizeLine; decide)
  generalize hD : s2.heap.objs.size = D
  have hDn : H2 D = none := I2.hok.fresh (Nat.le_of_eq hD)
  obtain ⟨W, ⟨m0, w0⟩, turn⟩ := q D hDn
  generalize hs3 : ({ s2 with heap := s2.heap.push { cls := .type "list", data := .seq ([] : List Value).toArray } } : Shared) = s3
  have I3 : L2.Inv X pins σ (upd H2 D (.lst [])) s3 := by
    rw [← hs3]
    refine I2.laid (t' := s2.toks) (fun b o e => Heap.get?_push_of_some _ e) (Nat.le_of_eq hD) ⟨Nat.zero_le _, [], 0, .nil, ?_⟩
    rw [← hD]
    exact Heap.get?_push_size _ rfl
  have h3 : s3.heap = s2.heap.push { cls := .type "list", data := .seq ([] : List Value).toArray } := by rw [← hs3]
  have sz : ∀ b ∈ fp, b < s2.heap.objs.size := fun b hb => by
    obtain ⟨o, e, _⟩ := T.obj _ _ st2 b hb
    exact Heap.lt_size e
  have f3 : ∀ b ∈ fp, FpOk X pins (upd H2 D (.lst [])) b ∧ b < s3.heap.objs.size := fun b hb => by
    have hlt := sz b hb
    refine ⟨⟨?_, (f2 b hb).2⟩, by rw [h3, Heap.size_push]; exact Nat.lt_succ_of_lt hlt⟩
    rw [upd_ne (by rw [← hD]; exact Nat.ne_of_lt hlt)]
    exact (f2 b hb).1
  have st3 : tn 0 s3.heap := T.keep _ _ _ st2 fun b _ o e => by rw [h3]; exact Heap.get?_push_of_some _ e
  have I4 := block_start I3 ok hN f3
  have pg := hg s3 (upd H2 D (.lst [])) s3.heap.objs.size (cellsFrom (s3.heap.objs.size + 1) scope.names (cloFrom X.env.cells scope.names [])) fp
  have pt := ht s3 (upd H2 D (.lst [])) s3.heap.objs.size (cellsFrom (s3.heap.objs.size + 1) scope.names (cloFrom X.env.cells scope.names [])) fp
  have pe := he s3 (upd H2 D (.lst [])) s3.heap.objs.size (cellsFrom (s3.heap.objs.size + 1) scope.names (cloFrom X.env.cells scope.names [])) fp
  show codeAny _ _ (.compStart (.ListComp elt [⟨tg, iter, ifs, 0⟩] scope pos) 0 (.ref it) (.ref D) (compEnvC scope (cellsFrom (s3.heap.objs.size + 1) scope.names (cloFrom X.env.cells scope.names [])) s3.heap.objs.size X.env)) (compEnds (model X.prog X.w) X.A X.xe none Qf (.ref D) (compEnvC scope (cellsFrom (s3.heap.objs.size + 1) scope.names (cloFrom X.env.cells scope.names [])) s3.heap.objs.size X.env)) { s3 with heap := pushCells (s3.heap.push { cls := .type "dict", data := .dict #[] }) scope.names }
  have nfp : ∀ b ∈ fp, (upd H2 D (.lst [])) b = none := fun b hb => (f3 b hb).1.1
  generalize hce : compEnvC scope (cellsFrom (s3.heap.objs.size + 1) scope.names (cloFrom X.env.cells scope.names [])) s3.heap.objs.size X.env = ce at I4 pg pt pe ⊢
  have cL : ce.locals = s3.heap.objs.size := by subst hce; rfl
  have cF : ce.frame = X.env.frame := by subst hce; rfl
  generalize hH3 : upd H2 D (.lst []) = H3 at I3 I4 pg pt pe w0 nfp f3
  generalize hs4 : ({ s3 with heap := pushCells (s3.heap.push { cls := .type "dict", data := .dict #[] }) scope.names } : Shared) = s4 at I4 ⊢
  have st4 : tn 0 s4.heap := T.keep _ _ _ st3 fun b _ o e => by rw [← hs4]; exact pushCells_keeps _ _ _ _ (Heap.get?_push_of_some _ e)
  have hch : ∀ b ∈ fp, (b ∈ X.ex ∨ X.s_0.heap.objs.size ≤ b) ∧ b ≠ X.env.locals ∧ (∀ x c, X.env.cells.lookup x = some c → c ≠ b) ∧ ∀ p ∈ X.pn ++ pins, p.1 ≠ b := fun b hb => ⟨(f3 b hb).1.2.2.2.1, (f3 b hb).1.2.1, (f3 b hb).1.2.2.2.2.1, (f3 b hb).1.2.2.2.2.2⟩
  have stat : ∀ {σ' : L2.St} {H' : Hp} {s' : Shared}, L2.Inv (X.blk s3 H3 scope ce fp) [] σ' H' s' → (∀ b ∈ fp, H' b = none) → ∀ b ∈ fp, FpOk (X.blk s3 H3 scope ce fp) [] H' b := fun {σ' H' s'} I' hn b hb =>
    ⟨hn b hb, (I'.ok.exf b hb).1, I'.ok.exfs b hb, .inl hb, fun x c e => (I'.ok.exf b hb).2 x c e, fun p hp => absurd (show p ∈ ([] : List (Addr × Obj)) ++ [] from hp) (by simp)⟩
  have loop : codeAny (model X.prog X.w) X.A (.compLoop (.ListComp elt [⟨tg, iter, ifs, 0⟩] scope pos) 0 (.ref it) (.ref D) ce) (compEnds (model X.prog X.w) X.A X.xe none Qf (.ref D) ce) s4 := by
    refine compLoop_any (fun n s' => ∃ i H', L2.Inv (X.blk s3 H3 scope ce fp) [] (wipe σ (own.map (·.2))) H' s' ∧ tn i s'.heap ∧ (∀ b ∈ fp, H' b = none) ∧ W i n H') ?_ m0 ⟨0, H3, I4, st4, nfp, w0⟩
    rintro n s5 ⟨i, H5, I5, st5, n5, w5⟩
    rcases turn i n H5 w5 with ⟨stop, qq⟩ | ⟨go, Nx, hNx, step⟩
    · have td := T.done (X.blk s3 H3 scope ce fp) rfl rfl rfl hc i [] s5 _ H5 (fun _ _ => False) I5 (stat I5 n5) st5 stop
      refine thnF td fun r s6 ⟨hr, I6⟩ => ?_
      subst hr
      have I7 : L2.Inv X pins σ H5 s6 := I3.call' (ch := fp) I6.os I6.base I6.hok I6.bare hch
      have nC : H5 s3.heap.objs.size = none := by
        have z : H5 ce.locals = none := I6.free
        rw [cL] at z
        exact z
      obtain ⟨m, hn, _⟩ := I6.loc
      have hn : s6.heap.Ns ce.locals m := hn
      rw [cL] at hn
      show ∃ m, s6.heap.Ns ce.locals m ∧ ∀ h', Heap.SameBut ce.locals s6.heap h' → Qf (.ref D) { s6 with heap := h' }
      rw [cL]
      exact hRR D s3.heap.objs.size s6 m H5 I7 qq hn (I3.fpOk (Nat.le_refl _) nC)
    · have ti := T.item (X.blk s3 H3 scope ce fp) rfl rfl rfl hc i [] s5 _ H5 (fun _ _ => False) I5 (stat I5 n5) st5 go
      refine thnF ti fun r s6 ⟨u, hr, h6⟩ => ?_
      subst hr
      refine thnF h6 fun _ s7 ⟨x, H7, I7, r7, y7, st7, n7⟩ => ?_
      have I7' := I7.pinned (stat I7 n7) (T.obj _ _ st7)
      refine thnF (pg.run _ s7 _ H7 x u _ I7' r7 (step x H7 y7)) fun _ s8 ⟨σ8, H8, I8, hw8, q8⟩ => ?_
      refine thnF (pt.run _ s8 σ8 H8 _ I8 q8) fun b s9 ⟨H9, I9, q9⟩ => ?_
      have fin : ∀ {s' : Shared} {H' : Hp}, L2.Inv (X.blk s3 H3 scope ce fp) ([] ++ pinsAt fp s7.heap) σ8 H' s' → Nx H' → ∃ m, m < n ∧ ∃ i H', L2.Inv (X.blk s3 H3 scope ce fp) [] (wipe σ (own.map (·.2))) H' s' ∧ tn i s'.heap ∧ (∀ b ∈ fp, H' b = none) ∧ W i m H' := fun {s' H'} I' nx => by
        obtain ⟨m', hm, w'⟩ := hNx H' nx
        have pin' : ∀ b ∈ fp, ∀ o, s7.heap.get? b = some o → s'.heap.get? b = some o ∧ H' b = none := fun b hb o e =>
          let z := I'.pin (b, o) (List.mem_append_right _ (List.mem_append_right _ (mem_pinsAt hb e)))
          ⟨z.1, z.2.1⟩
        have hl : (wipe σ (own.map (·.2))).length = σ8.length := by rw [← hw8, wipe_length]
        refine ⟨m', hm, i + 1, H', (I'.unpinned (pins := [])).weak hl (fun j v e => ?_), T.keep _ _ _ st7 fun b hb o e => (pin' b hb o e).1, fun b hb => ?_, w'⟩
        · rw [← hw8] at e
          exact (wipe_some e).1
        · obtain ⟨o, e, _⟩ := T.obj _ _ st7 b hb
          exact (pin' b hb o e).2
      cases b with
      | false =>
        simp only [Bool.false_eq_true, if_false] at q9 ⊢
        exact fin I9 q9
      | true =>
        simp only [if_true] at q9 ⊢
        refine wpAny_mono (pe.run _ s9 σ8 H9 _ (I9.wish _) q9) (fun z s10 ⟨yv, H10, I10, r10, acc, hD10, hz10, nx⟩ => ?_) fun u s' ⟨pins', σ', H', s8', I8', c⟩ => ?_
        · exact app_ok (X := X.blk s3 H3 scope ce fp) I10.unwish hD10 hz10 r10 fun s11 I11 => fin I11 nx
        · exact comp_raise I3 I8' cL cF hst hfl hch tk c
  exact codeAny_compStart_list loop (T.self X.A 0 _ _ _ st4 loop)
theorem pe_lcX {X : Cx} {EX : XK} {elt tg iter : Expr} {ifs : List Expr} {scope : Scope} {own : List (Str × Nat)} {pos : Pos} {wi : TI} {g : TG} {tt : TT} {te : TE} (hc : X.calm = true) (hN : X.N.Nodup) (hst : X.stack = X.env :: X.outer) (hfl : X.env.frame = some X.env.locals) (tk : Takes X (fun cls d _ H => EX cls d H)) (hi : PI X tg iter wi) (ok : BlkOk X.N X.env.scope scope own)
    (hg : ∀ (s : Shared) (H : Hp) (C : Addr) (cl : List (Str × Addr)) (fp : List Addr), PG (X.blk s H scope (compEnvC scope cl C X.env) fp) tg g) (ht : ∀ (s : Shared) (H : Hp) (C : Addr) (cl : List (Str × Addr)) (fp : List Addr), PTs (X.blk s H scope (compEnvC scope cl C X.env) fp) ifs tt)
    (he : ∀ (s : Shared) (H : Hp) (C : Addr) (cl : List (Str × Addr)) (fp : List Addr), PE (blkX X s H scope (compEnvC scope cl C X.env) fp EX) elt te) (hs : ∀ x, foldedSetIterable iter X.env x = pure x := by intro _; rfl) :
    PE X (.ListComp elt [⟨tg, iter, ifs, 0⟩] scope pos) (tLc wi g tt te (own.map (·.2))) := by
  refine ⟨fun pins s σ H Q I h => ?_⟩
  rw [eval_ListComp]
  refine lc_coreX hc hN hst hfl tk I hi ok hg ht he hs h fun D C s' m H' I' q hn f => ⟨m, hn, fun h'' sb => ?_⟩
  obtain ⟨f0, f1, f2, f3, f4, f5⟩ := f
  exact ⟨.ref D, H', I'.turned (t' := s'.toks) (fun b o hb e => (sb.2 b hb).trans e) f0 f1 f3 f4 f5, rfl, q⟩
end K36R
set_option Elab.async false
set_option linter.all false
set_option maxRecDepth 100000
set_option maxHeartbeats 2000000
namespace K36
open PySem PySem.Spec PyProof.Rows L2

section
variable {X : Cx} {a b c : Expr} {ta tb tc : TE} {wa wb wc : DE} {pos : Pos}
theorem tchain2 (ha : PED X a ta wa) (hb : PED X b tb wb) (hc : PED X c tc wc) (hm : lastMarks [.LtE, .LtE] [b, c] = false := by with_unfolding_all rfl) :
    PTD X (.Compare a [.LtE, .LtE] [b, c] pos) (tTest (tChain (rI0 fun i j => .bl (decide (i ≤ j))) (rI0 fun i j => .bl (decide (i ≤ j))) ta tb tc)) (wChain wa wb wc) := tchain ha hb hc (pt_chain op_le op_le ha.pe hb.pe hc.pe hm) rfl
end
/-- a def of the module, as the top has left it -/
structure FnAt (K : PySem.W.Frag) (mg : PySem.Str → Option Value) (x : PySem.Str) (st : Stmt) : Prop where
  ex : ∃ f fd, FunD K x x (defArgs st) (defBody st) (defScope st) [] [] f fd ∧ mg x = some (.ref f)
def sp1 (f : D → (D → Prop) → Prop) : SpD := fun ds k => ∃ a, ds = [a] ∧ f a k
def sp2 (f : D → D → (D → Prop) → Prop) : SpD := fun ds k => ∃ a b, ds = [a, b] ∧ f a b k
def sp3 (f : D → D → D → (D → Prop) → Prop) : SpD := fun ds k => ∃ a b c, ds = [a, b, c] ∧ f a b c k
def sp4 (f : D → D → D → D → (D → Prop) → Prop) : SpD := fun ds k => ∃ a b c d, ds = [a, b, c, d] ∧ f a b c d k
section
variable {P : Program} {w0 : World} {K : PySem.W.Frag} {mg : PySem.Str → Option Value} {base : Heap} {x : PySem.Str} {st : Stmt} {N : List PySem.Str} {k : Nat} {p1 p2 p3 p4 : PySem.Str}
/-- the body of a def, in its own context -/
def BodyOk (P : Program) (w0 : World) (K : PySem.W.Frag) (mg : PySem.Str → Option Value) (base : Heap) (N : List PySem.Str) (x : PySem.Str) (st : Stmt) (k : Nat) (hw : DS → Prop) : Prop :=
  ∀ (f : Addr) (cdv : Value) (A : Around) (outer : List Env) (s : Shared) (H : Hp) (E : XK), Room k (A.deeper (envOfC x (defScope st) s.heap.objs.size f cdv)) →
    ∃ t w, PSsD (cxOf CX0 P w0 K mg base N x (defScope st) f cdv A outer s H E).nox (defBody st) t w ∧ hw w
theorem FnAt.df {sp : SpD} {ps : List PySem.Str} (h : FnAt K mg x st) (hb : ∀ (kV doc pm : Value) (an : Option Addr) (cdv ct : Value) (us : List Value), us.length = ps.length → bindArgs (PySem.W.fnOf x x (defArgs st) (defBody st) (defScope st) .none kV doc pm an cdv ct) ⟨us, []⟩ = pure (ps.zip us))
    (S : FnScope N ps (defScope st)) (len : ∀ ds k, sp ds k → ds.length = ps.length) (body : BodyOk P w0 K mg base N x st k fun w => ∀ ds k0, sp ds k0 → w { nx := fun _ => k0 .non, rt := k0 } (startD N ds)) : DF P w0 K mg base (k + 1) x ps (spOf K sp) := by
  obtain ⟨f, fd, F, hm⟩ := h.ex
  exact ⟨f, fd, mkFn F S len (fun cdv A outer s H E hr => body f cdv A outer s H E hr), hm, F.kp, F.bindsN hb⟩
theorem FnAt.dfN {sp : SpN} {ps : List PySem.Str} (h : FnAt K mg x st) (hb : ∀ (kV doc pm : Value) (an : Option Addr) (cdv ct : Value) (us : List Value), us.length = ps.length → bindArgs (PySem.W.fnOf x x (defArgs st) (defBody st) (defScope st) .none kV doc pm an cdv ct) ⟨us, []⟩ = pure (ps.zip us))
    (S : FnScope N ps (defScope st)) (len : ∀ ds k, sp ds k → ds.length = ps.length) (body : BodyOk P w0 K mg base N x st k fun w => ∀ ds k0, sp ds k0 → w { nx := fun _ => False, rt := fun _ => False, ro := k0 } (startD N ds)) : DF P w0 K mg base (k + 1) x ps (spOfN K sp) := by
  obtain ⟨f, fd, F, hm⟩ := h.ex
  exact ⟨f, fd, mkFnN F S len (fun cdv A outer s H E hr => body f cdv A outer s H E hr), hm, F.kp, F.bindsN hb⟩
theorem FnAt.df1 {g : D → (D → Prop) → Prop} (h : FnAt K mg x st) (hb : ∀ (kV doc pm : Value) (an : Option Addr) (cdv ct : Value) (u1 : Value), bindArgs (PySem.W.fnOf x x (defArgs st) (defBody st) (defScope st) .none kV doc pm an cdv ct) ⟨[u1], []⟩ = pure [(p1, u1)])
    (S : FnScope N [p1] (defScope st)) (body : BodyOk P w0 K mg base N x st k fun w => ∀ a k0, g a k0 → w { nx := fun _ => k0 .non, rt := k0 } (startD N [a])) : DF P w0 K mg base (k + 1) x [p1] (spOf K (sp1 g)) :=
  h.df (fun kV doc pm an cdv ct us hl => match us, hl with | [u1], _ => hb kV doc pm an cdv ct u1) S (fun ds k ⟨_, e, _⟩ => by rw [e]; rfl) fun f cdv A outer s H E hr => by
    obtain ⟨t, w, h1, h2⟩ := body f cdv A outer s H E hr
    refine ⟨t, w, h1, fun ds k0 hs => ?_⟩
    obtain ⟨a, rfl, q⟩ := hs
    exact h2 a k0 q
theorem FnAt.df2 {g : D → D → (D → Prop) → Prop} (h : FnAt K mg x st) (hb : ∀ (kV doc pm : Value) (an : Option Addr) (cdv ct : Value) (u1 u2 : Value), bindArgs (PySem.W.fnOf x x (defArgs st) (defBody st) (defScope st) .none kV doc pm an cdv ct) ⟨[u1, u2], []⟩ = pure [(p1, u1), (p2, u2)])
    (S : FnScope N [p1, p2] (defScope st)) (body : BodyOk P w0 K mg base N x st k fun w => ∀ a b k0, g a b k0 → w { nx := fun _ => k0 .non, rt := k0 } (startD N [a, b])) : DF P w0 K mg base (k + 1) x [p1, p2] (spOf K (sp2 g)) :=
  h.df (fun kV doc pm an cdv ct us hl => match us, hl with | [u1, u2], _ => hb kV doc pm an cdv ct u1 u2) S (fun ds k ⟨_, _, e, _⟩ => by rw [e]; rfl) fun f cdv A outer s H E hr => by
    obtain ⟨t, w, h1, h2⟩ := body f cdv A outer s H E hr
    refine ⟨t, w, h1, fun ds k0 hs => ?_⟩
    obtain ⟨a, b, rfl, q⟩ := hs
    exact h2 a b k0 q
theorem FnAt.df3 {g : D → D → D → (D → Prop) → Prop} (h : FnAt K mg x st) (hb : ∀ (kV doc pm : Value) (an : Option Addr) (cdv ct : Value) (u1 u2 u3 : Value), bindArgs (PySem.W.fnOf x x (defArgs st) (defBody st) (defScope st) .none kV doc pm an cdv ct) ⟨[u1, u2, u3], []⟩ = pure [(p1, u1), (p2, u2), (p3, u3)])
    (S : FnScope N [p1, p2, p3] (defScope st)) (body : BodyOk P w0 K mg base N x st k fun w => ∀ a b c k0, g a b c k0 → w { nx := fun _ => k0 .non, rt := k0 } (startD N [a, b, c])) : DF P w0 K mg base (k + 1) x [p1, p2, p3] (spOf K (sp3 g)) :=
  h.df (fun kV doc pm an cdv ct us hl => match us, hl with | [u1, u2, u3], _ => hb kV doc pm an cdv ct u1 u2 u3) S (fun ds k ⟨_, _, _, e, _⟩ => by rw [e]; rfl) fun f cdv A outer s H E hr => by
    obtain ⟨t, w, h1, h2⟩ := body f cdv A outer s H E hr
    refine ⟨t, w, h1, fun ds k0 hs => ?_⟩
    obtain ⟨a, b, c, rfl, q⟩ := hs
    exact h2 a b c k0 q
theorem FnAt.df4 {g : D → D → D → D → (D → Prop) → Prop} (h : FnAt K mg x st) (hb : ∀ (kV doc pm : Value) (an : Option Addr) (cdv ct : Value) (u1 u2 u3 u4 : Value), bindArgs (PySem.W.fnOf x x (defArgs st) (defBody st) (defScope st) .none kV doc pm an cdv ct) ⟨[u1, u2, u3, u4], []⟩ = pure [(p1, u1), (p2, u2), (p3, u3), (p4, u4)])
    (S : FnScope N [p1, p2, p3, p4] (defScope st)) (body : BodyOk P w0 K mg base N x st k fun w => ∀ a b c d k0, g a b c d k0 → w { nx := fun _ => k0 .non, rt := k0 } (startD N [a, b, c, d])) : DF P w0 K mg base (k + 1) x [p1, p2, p3, p4] (spOf K (sp4 g)) :=
  h.df (fun kV doc pm an cdv ct us hl => match us, hl with | [u1, u2, u3, u4], _ => hb kV doc pm an cdv ct u1 u2 u3 u4) S (fun ds k ⟨_, _, _, _, e, _⟩ => by rw [e]; rfl) fun f cdv A outer s H E hr => by
    obtain ⟨t, w, h1, h2⟩ := body f cdv A outer s H E hr
    refine ⟨t, w, h1, fun ds k0 hs => ?_⟩
    obtain ⟨a, b, c, d, rfl, q⟩ := hs
    exact h2 a b c d k0 q
end
end K36
set_option Elab.async false
set_option linter.all false
set_option maxRecDepth 100000
set_option maxHeartbeats 2000000
/-! list(zip(a, b, c, d)) of four lists of one length. -/
namespace K36Z
open PySem PySem.Spec PySem.Calls PyProof.Rows
abbrev Tup4 (h : Heap) (T : Addr) (a b c d : Value) : Prop := h.get? T = some { cls := .type "tuple", data := .seq #[a, b, c, d] }
/-- four list iterators at N .. N + 3, at c; what else stood at h0 stands -/
structure Bn (h0 h : Heap) (N : Nat) (l : Nat → Addr) (xs : Nat → Array Value) (c : Nat → Nat) : Prop where
  it : ∀ j : Nat, j < 4 → h.IsListIter (N + j) (l j) (c j)
  ls : ∀ j : Nat, j < 4 → h.IsList (l j) (xs j)
  lt : ∀ j : Nat, j < 4 → l j < N
  sz : h.objs.size = h0.objs.size
  kp : ∀ (a : Nat) o, a ≠ N → a ≠ N + 1 → a ≠ N + 2 → a ≠ N + 3 → a ≠ N + 5 → a ≠ N + 6 → h0.get? a = some o → h.get? a = some o
theorem nen {a b : Nat} (h : a = b → False) : a ≠ b := h
section
variable {N : Nat} {l : Nat → Addr} {xs : Nat → Array Value} {c : Nat → Nat} {h0 h h' : Heap} {j : Nat} {a : Nat}
theorem Bn.next (b : Bn h0 h N l xs c) (hj : j < 4) (hi : h'.IsListIter (N + j) (l j) (c j + 1)) (hs : Heap.SameBut (N + j) h h') : Bn h0 h' N l xs (fun i => if i = j then c i + 1 else c i) := by
  refine ⟨fun (i : Nat) hi4 => ?_, fun (i : Nat) hi4 => (b.ls i hi4).extBut hs.extBut ?_, b.lt, by rw [hs.1, b.sz], fun (a : Nat) o a0 a1 a2 a3 a5 a6 e => hs.extBut a o ?_ (b.kp a o a0 a1 a2 a3 a5 a6 e)⟩
  · by_cases e : i = j
    · subst e
      simpa using hi
    · simp only [if_neg e]
      exact (b.it i hi4).extBut hs.extBut (nen fun z => by omega)
  · have h2 : @LT.lt Nat _ (l i) N := b.lt i hi4
    exact nen fun z => by omega
  · show (a : Nat) ≠ N + j
    have : j = 0 ∨ j = 1 ∨ j = 2 ∨ j = 3 := by omega
    rcases this with rfl | rfl | rfl | rfl <;> assumption
theorem Bn.off (b : Bn h0 h N l xs c) (ha : a = N + 5 ∨ a = N + 6) (hs : Heap.SameBut a h h') : Bn h0 h' N l xs c := by
  refine ⟨fun (i : Nat) hi4 => (b.it i hi4).extBut hs.extBut (nen fun z => by omega), fun (i : Nat) hi4 => (b.ls i hi4).extBut hs.extBut ?_, b.lt, by rw [hs.1, b.sz], fun (a : Nat) o a0 a1 a2 a3 a5 a6 e => hs.extBut a o ?_ (b.kp a o a0 a1 a2 a3 a5 a6 e)⟩
  · have h2 : @LT.lt Nat _ (l i) N := b.lt i hi4
    exact nen fun z => by omega
  · rcases ha with rfl | rfl <;> assumption
/-- from the heap's state -/
structure Zs (h : Heap) (N : Nat) (l : Nat → Addr) (xs : Nat → Array Value) (k : Nat) : Prop where
  it : ∀ j : Nat, j < 4 → h.IsListIter (N + j) (l j) k
  ls : ∀ j : Nat, j < 4 → h.IsList (l j) (xs j)
  lt : ∀ j : Nat, j < 4 → l j < N
  ti : Tup4 h (N + 4) (.ref (N + 0 : Nat)) (.ref (N + 1 : Nat)) (.ref (N + 2 : Nat)) (.ref (N + 3 : Nat))
theorem Zs.bn {k : Nat} (z : Zs h N l xs k) : Bn h h N l xs (fun _ => k) := ⟨z.it, z.ls, z.lt, rfl, fun _ _ _ _ _ _ _ _ e => e⟩
end
section
variable {prog : Program} {w : World} {A : Around} {E : Value → Shared → Prop} {s : Shared} {N : Nat} {l : Nat → Addr} {xs : Nat → Array Value} {k : Nat} {y0 y1 y2 y3 : Value}
/-- what an item leaves -/
def Kp (N : Nat) (h h' : Heap) : Prop := ∀ (a : Nat) o, a ≠ N → a ≠ N + 1 → a ≠ N + 2 → a ≠ N + 3 → a ≠ N + 5 → a ≠ N + 6 → h.get? a = some o → h'.get? a = some o
theorem Bn.zs {h0 h : Heap} {c : Nat → Nat} (b : Bn h0 h N l xs c) (hc : ∀ j : Nat, j < 4 → c j = k) (ti : Tup4 h0 (N + 4) (.ref (N + 0 : Nat)) (.ref (N + 1 : Nat)) (.ref (N + 2 : Nat)) (.ref (N + 3 : Nat))) : Zs h N l xs k :=
  ⟨fun (j : Nat) hj => by rw [← hc j hj]; exact b.it j hj, b.ls, b.lt, b.kp (N + 4) _ (by omega) (by omega) (by omega) (by omega) (by omega) (by omega) ti⟩
theorem Zs.up {h h' : Heap} (z : Zs h N l xs k) (hk : ∀ (a : Nat) o, a ≠ N + 6 → h.get? a = some o → h'.get? a = some o) : Zs h' N l xs k :=
  ⟨fun (j : Nat) hj => (z.it j hj).at fun o e => hk _ o (nen fun z => by omega) e, fun (j : Nat) hj => (z.ls j hj).at fun o e => hk _ o (nen fun q => by have h2 : @LT.lt Nat _ (l j) N := z.lt j hj; omega) e, z.lt, hk (N + 4) _ (by omega) z.ti⟩
theorem item_first {Q : Value → Shared → Prop} {a b c d : Value} (Z : Zs s.heap N l xs k) (hz : IsZip s.heap (N + 6) (N + 4) (N + 5) .none) (hTO : Tup4 s.heap (N + 5) a b c d)
    (e0 : (xs 0)[k]? = some y0) (e1 : (xs 1)[k]? = some y1) (e2 : (xs 2)[k]? = some y2) (e3 : (xs 3)[k]? = some y3)
    (hQ : ∀ h', IsZipHeld h' (N + 6) (N + 4) (N + 5) s.heap.objs.size false → Zs h' N l xs (k + 1) → Tup4 h' s.heap.objs.size y0 y1 y2 y3 → h'.objs.size = s.heap.objs.size + 1 → Kp N s.heap h' → Q (.ref s.heap.objs.size) { s with heap := h' }) :
    wpAny (model prog w) A (Builtin.«zip.__next__» ⟨[.ref (N + 6 : Nat)], []⟩) (fun fin s' => ∃ v, fin = .done (.ret v) ∧ Q v s') E s := by
  have B := Z.bn
  have ti := Z.ti
  have zlt : (N + 6 : Nat) < s.heap.objs.size := Heap.lt_size hz
  show wpAny _ _ (field (.ref (N + 6 : Nat)) 2 >>= _) _ _ _
  refine wpAny_bind (wpAny_field hz rfl (x := .bool false) rfl ?_)
  show wpAny _ _ (field (.ref (N + 6 : Nat)) 3 >>= _) _ _ _
  refine wpAny_bind (wpAny_field hz rfl (x := .ref (N + 4 : Nat)) rfl ?_)
  refine wpAny_bind (wpAny_seqItems ti rfl ?_)
  show wpAny _ _ (Builtin.SmallTypes.ownedTupleIsFree (.ref (N + 6 : Nat)) >>= _) _ _ _
  refine wpAny_bind ?_
  unfold Builtin.SmallTypes.ownedTupleIsFree
  refine wpAny_bind (wpAny_field hz rfl (x := .none) rfl (wpAny_pure ?_))
  simp only [if_true]
  refine wpAny_bind (wpAny_rule ?_)
  refine wpAny_bind (wpAny_field hz rfl (x := .ref (N + 5 : Nat)) rfl ?_)
  refine wpAny_bind (wpAny_setField_rec hz (by simp) fun h₁ hz₁ hs₁ => ?_)
  replace hz₁ : IsZip h₁ (N + 6) (N + 4) (N + 5) .ellipsis := hz₁
  have B1 := B.off (.inr rfl) hs₁
  have T1 : Tup4 h₁ (N + 5) a b c d := hs₁.extBut _ _ (by show (N + 5 : Nat) ≠ N + 6; omega) hTO
  refine wpAny_bind ?_
  simp only [List.zipIdx_cons, List.zipIdx_nil, List.forIn_cons, List.forIn_nil]
  -- the first
  refine wpAny_bind (wpAny_bind (wpAny_onRaise ?_))
  show wpAny _ _ (Builtin.SmallTypes.nextOf (.ref (N + 0 : Nat)) >>= _) _ _ _
  refine wpAny_bind (wpAny_nextOf_list_item (s := { s with heap := h₁ }) (B1.it 0 (by decide)) (B1.ls 0 (by decide)) e0 fun h₂ g₂ hs₂ => wpAny_pure ?_)
  have B2 := B1.next (j := 0) (by decide) g₂ hs₂
  have T2 : Tup4 h₂ (N + 5) a b c d := hs₂.extBut _ _ (by show (N + 5 : Nat) ≠ N + 0; omega) T1
  refine wpAny_bind (wpAny_seqItems (s := { s with heap := h₂ }) T2 rfl ?_)
  refine wpAny_bind (wpAny_updateSeq (s := { s with heap := h₂ }) T2 rfl ?_)
  have hs₃ : Heap.SameBut (N + 5) h₂ (h₂.update (N + 5) (Obj.mapSeq (·.setIfInBounds 0 y0))) := Heap.SameBut.update ..
  have T3 : Tup4 (h₂.update (N + 5) (Obj.mapSeq (·.setIfInBounds 0 y0))) (N + 5) y0 b c d := Heap.get?_update_self _ T2 rfl
  generalize h₂.update (N + 5) (Obj.mapSeq (·.setIfInBounds 0 y0)) = h₃ at hs₃ T3
  have B3 := B2.off (.inl rfl) hs₃
  refine wpAny_bind (wpAny_letGo (wpAny_pure ?_))
  -- the second
  refine wpAny_bind (wpAny_bind (wpAny_onRaise ?_))
  show wpAny _ _ (Builtin.SmallTypes.nextOf (.ref (N + 1 : Nat)) >>= _) _ _ _
  refine wpAny_bind (wpAny_nextOf_list_item (s := { s with heap := h₃ }) (B3.it 1 (by decide)) (B3.ls 1 (by decide)) e1 fun h₄ g₄ hs₄ => wpAny_pure ?_)
  have B4 := B3.next (j := 1) (by decide) g₄ hs₄
  have T4 : Tup4 h₄ (N + 5) y0 b c d := hs₄.extBut _ _ (by show (N + 5 : Nat) ≠ N + 1; omega) T3
  refine wpAny_bind (wpAny_seqItems (s := { s with heap := h₄ }) T4 rfl ?_)
  refine wpAny_bind (wpAny_updateSeq (s := { s with heap := h₄ }) T4 rfl ?_)
  have hs₅ : Heap.SameBut (N + 5) h₄ (h₄.update (N + 5) (Obj.mapSeq (·.setIfInBounds 1 y1))) := Heap.SameBut.update ..
  have T5 : Tup4 (h₄.update (N + 5) (Obj.mapSeq (·.setIfInBounds 1 y1))) (N + 5) y0 y1 c d := Heap.get?_update_self _ T4 rfl
  generalize h₄.update (N + 5) (Obj.mapSeq (·.setIfInBounds 1 y1)) = h₅ at hs₅ T5
  have B5 := B4.off (.inl rfl) hs₅
  refine wpAny_bind (wpAny_letGo (wpAny_pure ?_))
  -- the third
  refine wpAny_bind (wpAny_bind (wpAny_onRaise ?_))
  show wpAny _ _ (Builtin.SmallTypes.nextOf (.ref (N + 2 : Nat)) >>= _) _ _ _
  refine wpAny_bind (wpAny_nextOf_list_item (s := { s with heap := h₅ }) (B5.it 2 (by decide)) (B5.ls 2 (by decide)) e2 fun h₆ g₆ hs₆ => wpAny_pure ?_)
  have B6 := B5.next (j := 2) (by decide) g₆ hs₆
  have T6 : Tup4 h₆ (N + 5) y0 y1 c d := hs₆.extBut _ _ (by show (N + 5 : Nat) ≠ N + 2; omega) T5
  refine wpAny_bind (wpAny_seqItems (s := { s with heap := h₆ }) T6 rfl ?_)
  refine wpAny_bind (wpAny_updateSeq (s := { s with heap := h₆ }) T6 rfl ?_)
  have hs₇ : Heap.SameBut (N + 5) h₆ (h₆.update (N + 5) (Obj.mapSeq (·.setIfInBounds 2 y2))) := Heap.SameBut.update ..
  have T7 : Tup4 (h₆.update (N + 5) (Obj.mapSeq (·.setIfInBounds 2 y2))) (N + 5) y0 y1 y2 d := Heap.get?_update_self _ T6 rfl
  generalize h₆.update (N + 5) (Obj.mapSeq (·.setIfInBounds 2 y2)) = h₇ at hs₇ T7
  have B7 := B6.off (.inl rfl) hs₇
  refine wpAny_bind (wpAny_letGo (wpAny_pure ?_))
  -- the fourth
  refine wpAny_bind (wpAny_bind (wpAny_onRaise ?_))
  show wpAny _ _ (Builtin.SmallTypes.nextOf (.ref (N + 3 : Nat)) >>= _) _ _ _
  refine wpAny_bind (wpAny_nextOf_list_item (s := { s with heap := h₇ }) (B7.it 3 (by decide)) (B7.ls 3 (by decide)) e3 fun h₈ g₈ hs₈ => wpAny_pure ?_)
  have B8 := B7.next (j := 3) (by decide) g₈ hs₈
  have T8 : Tup4 h₈ (N + 5) y0 y1 y2 d := hs₈.extBut _ _ (by show (N + 5 : Nat) ≠ N + 3; omega) T7
  refine wpAny_bind (wpAny_seqItems (s := { s with heap := h₈ }) T8 rfl ?_)
  refine wpAny_bind (wpAny_updateSeq (s := { s with heap := h₈ }) T8 rfl ?_)
  have hs₉ : Heap.SameBut (N + 5) h₈ (h₈.update (N + 5) (Obj.mapSeq (·.setIfInBounds 3 y3))) := Heap.SameBut.update ..
  have T9 : Tup4 (h₈.update (N + 5) (Obj.mapSeq (·.setIfInBounds 3 y3))) (N + 5) y0 y1 y2 y3 := Heap.get?_update_self _ T8 rfl
  generalize h₈.update (N + 5) (Obj.mapSeq (·.setIfInBounds 3 y3)) = h₉ at hs₉ T9
  have B9 := B8.off (.inl rfl) hs₉
  refine wpAny_bind (wpAny_letGo (wpAny_pure (wpAny_pure ?_)))
  -- the tuple
  refine wpAny_bind (wpAny_seqItems (s := { s with heap := h₉ }) T9 rfl ?_)
  refine wpAny_bind (wpAny_newTuple ?_)
  have hsz : h₉.objs.size = s.heap.objs.size := B9.sz
  have n5 : ∀ i : Nat, i < 4 → (N + 6 : Nat) ≠ N + i := fun i hi => by omega
  have n56 : (N + 6 : Nat) ≠ N + 5 := by omega
  have hz₉ : IsZip h₉ (N + 6) (N + 4) (N + 5) .ellipsis := hs₉.extBut _ _ n56 (hs₈.extBut _ _ (n5 3 (by decide)) (hs₇.extBut _ _ n56 (hs₆.extBut _ _ (n5 2 (by decide)) (hs₅.extBut _ _ n56 (hs₄.extBut _ _ (n5 1 (by decide)) (hs₃.extBut _ _ n56 (hs₂.extBut _ _ (n5 0 (by decide)) hz₁)))))))
  have Z9 : Zs h₉ N l xs (k + 1) := B9.zs (fun (j : Nat) hj => by
    have : j = 0 ∨ j = 1 ∨ j = 2 ∨ j = 3 := by omega
    rcases this with rfl | rfl | rfl | rfl <;> rfl) ti
  have hzlt : (N + 6 : Nat) < h₉.objs.size := Heap.lt_size hz₉
  show wpAny _ _ (Builtin.SmallTypes.ownedTupleHandOut (.ref (N + 6 : Nat)) (.ref h₉.objs.size) >>= _) _ _ _
  refine wpAny_bind ?_
  unfold Builtin.SmallTypes.ownedTupleHandOut
  have hz10 : IsZip (h₉.push { cls := .type "tuple", data := .seq #[y0, y1, y2, y3] }) (N + 6) (N + 4) (N + 5) .ellipsis := Heap.get?_push_of_some _ hz₉
  refine wpAny_bind (wpAny_setField_rec hz10 (by simp) fun h11 hz11 hs11 => ?_)
  replace hz11 : IsZip h11 (N + 6) (N + 4) (N + 5) (rawInt h₉.objs.size) := hz11
  refine wpAny_setField_rec hz11 (by simp) fun h12 hz12 hs12 => ?_
  replace hz12 : IsZip h12 (N + 6) (N + 4) (N + 5) (rawInt h₉.objs.size) := hz12
  have up : ∀ (c : Nat) o, c ≠ N + 6 → h₉.get? c = some o → h12.get? c = some o := fun c o c1 e => hs12.extBut _ _ c1 (hs11.extBut _ _ c1 (Heap.get?_push_of_some _ e))
  have hT : Tup4 h12 h₉.objs.size y0 y1 y2 y3 := hs12.extBut _ _ (Nat.ne_of_gt hzlt) (hs11.extBut _ _ (Nat.ne_of_gt hzlt) (Heap.get?_push_size _ rfl))
  have hz8 : h12.objs.size = h₉.objs.size + 1 := by rw [hs12.1, hs11.1, Heap.size_push]
  rw [hsz] at hz12 hT hz8
  refine wpAny_pure ⟨_, rfl, ?_⟩
  show Q (.ref h₉.objs.size) _
  rw [hsz]
  exact hQ h12 hz12 (Z9.up up) hT hz8 fun (a : Nat) o a0 a1 a2 a3 a5 a6 e => up a o a6 (B9.kp a o a0 a1 a2 a3 a5 a6 e)
theorem item_held {Q : Value → Shared → Prop} {T : Nat} {f : Bool} {oT : Obj} (Z : Zs s.heap N l xs k) (hz : IsZipHeld s.heap (N + 6) (N + 4) (N + 5) T f) (hT : s.heap.get? T = some oT)
    (e0 : (xs 0)[k]? = some y0) (e1 : (xs 1)[k]? = some y1) (e2 : (xs 2)[k]? = some y2) (e3 : (xs 3)[k]? = some y3)
    (hQ : ∀ h', IsZipHeld h' (N + 6) (N + 4) (N + 5) T true → Zs h' N l xs (k + 1) → Tup4 h' s.heap.objs.size y0 y1 y2 y3 → h'.objs.size = s.heap.objs.size + 1 → Kp N s.heap h' → Q (.ref s.heap.objs.size) { s with heap := h' }) :
    wpAny (model prog w) A (Builtin.«zip.__next__» ⟨[.ref (N + 6 : Nat)], []⟩) (fun fin s' => ∃ v, fin = .done (.ret v) ∧ Q v s') E s := by
  have B := Z.bn
  have ti := Z.ti
  show wpAny _ _ (field (.ref (N + 6 : Nat)) 2 >>= _) _ _ _
  refine wpAny_bind (wpAny_field hz rfl (x := .bool false) rfl ?_)
  show wpAny _ _ (field (.ref (N + 6 : Nat)) 3 >>= _) _ _ _
  refine wpAny_bind (wpAny_field hz rfl (x := .ref (N + 4 : Nat)) rfl ?_)
  refine wpAny_bind (wpAny_seqItems ti rfl ?_)
  show wpAny _ _ (Builtin.SmallTypes.ownedTupleIsFree (.ref (N + 6 : Nat)) >>= _) _ _ _
  refine wpAny_bind (wpAny_tupleHeld_zip hz hT fun h₁ hz₁ hs₁ => ?_)
  simp only [Bool.false_eq_true, if_false]
  have B1 := B.off (.inr rfl) hs₁
  refine wpAny_bind ?_
  rw [← Array.forIn_toList]
  simp only [List.forIn_cons, List.forIn_nil]
  refine wpAny_bind (wpAny_bind (wpAny_holding ?_))
  show wpAny _ _ (Builtin.SmallTypes.nextOf (.ref (N + 0 : Nat)) >>= _) _ _ _
  refine wpAny_bind (wpAny_nextOf_list_item (s := { s with heap := h₁ }) (B1.it 0 (by decide)) (B1.ls 0 (by decide)) e0 fun h₂ g₂ hs₂ => wpAny_pure ?_)
  have B2 := B1.next (j := 0) (by decide) g₂ hs₂
  refine wpAny_pure ?_
  refine wpAny_bind (wpAny_bind (wpAny_holding ?_))
  show wpAny _ _ (Builtin.SmallTypes.nextOf (.ref (N + 1 : Nat)) >>= _) _ _ _
  refine wpAny_bind (wpAny_nextOf_list_item (s := { s with heap := h₂ }) (B2.it 1 (by decide)) (B2.ls 1 (by decide)) e1 fun h₃ g₃ hs₃ => wpAny_pure ?_)
  have B3 := B2.next (j := 1) (by decide) g₃ hs₃
  refine wpAny_pure ?_
  refine wpAny_bind (wpAny_bind (wpAny_holding ?_))
  show wpAny _ _ (Builtin.SmallTypes.nextOf (.ref (N + 2 : Nat)) >>= _) _ _ _
  refine wpAny_bind (wpAny_nextOf_list_item (s := { s with heap := h₃ }) (B3.it 2 (by decide)) (B3.ls 2 (by decide)) e2 fun h₄ g₄ hs₄ => wpAny_pure ?_)
  have B4 := B3.next (j := 2) (by decide) g₄ hs₄
  refine wpAny_pure ?_
  refine wpAny_bind (wpAny_bind (wpAny_holding ?_))
  show wpAny _ _ (Builtin.SmallTypes.nextOf (.ref (N + 3 : Nat)) >>= _) _ _ _
  refine wpAny_bind (wpAny_nextOf_list_item (s := { s with heap := h₄ }) (B4.it 3 (by decide)) (B4.ls 3 (by decide)) e3 fun h₅ g₅ hs₅ => wpAny_pure ?_)
  have B5 := B4.next (j := 3) (by decide) g₅ hs₅
  refine wpAny_pure (wpAny_pure ?_)
  show wpAny _ _ (newTuple [y0, y1, y2, y3] >>= _) _ _ _
  refine wpAny_bind (wpAny_newTuple ?_)
  have hsz : h₅.objs.size = s.heap.objs.size := B5.sz
  have n5 : ∀ i : Nat, i < 4 → (N + 6 : Nat) ≠ N + i := fun i hi => by omega
  have hz₅ : IsZipHeld h₅ (N + 6) (N + 4) (N + 5) T true := hs₅.extBut _ _ (n5 3 (by decide)) (hs₄.extBut _ _ (n5 2 (by decide)) (hs₃.extBut _ _ (n5 1 (by decide)) (hs₂.extBut _ _ (n5 0 (by decide)) hz₁)))
  have Z5 : Zs h₅ N l xs (k + 1) := B5.zs (fun (j : Nat) hj => by
    have : j = 0 ∨ j = 1 ∨ j = 2 ∨ j = 3 := by omega
    rcases this with rfl | rfl | rfl | rfl <;> rfl) ti
  refine wpAny_pure ⟨_, rfl, ?_⟩
  show Q (.ref h₅.objs.size) _
  have hp : Tup4 (h₅.push { cls := .type "tuple", data := .seq #[y0, y1, y2, y3] }) h₅.objs.size y0 y1 y2 y3 := Heap.get?_push_size _ rfl
  have hz4 : (h₅.push { cls := .type "tuple", data := .seq #[y0, y1, y2, y3] }).objs.size = h₅.objs.size + 1 := Heap.size_push ..
  rw [hsz] at hp hz4 ⊢
  exact hQ _ (Heap.get?_push_of_some _ hz₅) (Z5.up fun a o _ e => Heap.get?_push_of_some _ e) hp hz4 fun (a : Nat) o a0 a1 a2 a3 a5 a6 e => Heap.get?_push_of_some _ (B5.kp a o a0 a1 a2 a3 a5 a6 e)
end
end K36Z
set_option Elab.async false
set_option linter.all false
set_option maxRecDepth 100000
set_option maxHeartbeats 2000000
namespace K36Z
open PySem PySem.Spec PySem.Calls PyProof.Rows
section
variable {prog : Program} {w : World} {A : Around} {E : Value → Shared → Prop} {s : Shared} {N : Nat} {l : Nat → Addr} {xs : Nat → Array Value} {k : Nat} {y0 y1 y2 y3 : Value}
theorem end_first {Q : Fin → Shared → Prop} {a b c d : Value} (hh : A.handled = none) (Z : Zs s.heap N l xs k) (hz : IsZip s.heap (N + 6) (N + 4) (N + 5) .none) (e0 : (xs 0)[k]? = none)
    (hE : ∀ h' e, Kp N s.heap h' → (∃ o, h'.get? e = some o ∧ o.cls = .type "StopIteration") → E (.ref e) { s with heap := h' }) :
    wpAny (model prog w) A (Builtin.«zip.__next__» ⟨[.ref (N + 6 : Nat)], []⟩) Q E s := by
  have B := Z.bn
  have ti := Z.ti
  show wpAny _ _ (field (.ref (N + 6 : Nat)) 2 >>= _) _ _ _
  refine wpAny_bind (wpAny_field hz rfl (x := .bool false) rfl ?_)
  show wpAny _ _ (field (.ref (N + 6 : Nat)) 3 >>= _) _ _ _
  refine wpAny_bind (wpAny_field hz rfl (x := .ref (N + 4 : Nat)) rfl ?_)
  refine wpAny_bind (wpAny_seqItems ti rfl ?_)
  show wpAny _ _ (Builtin.SmallTypes.ownedTupleIsFree (.ref (N + 6 : Nat)) >>= _) _ _ _
  refine wpAny_bind ?_
  unfold Builtin.SmallTypes.ownedTupleIsFree
  refine wpAny_bind (wpAny_field hz rfl (x := .none) rfl (wpAny_pure ?_))
  simp only [if_true]
  refine wpAny_bind (wpAny_rule ?_)
  refine wpAny_bind (wpAny_field hz rfl (x := .ref (N + 5 : Nat)) rfl ?_)
  refine wpAny_bind (wpAny_setField_rec hz (by simp) fun h₁ hz₁ hs₁ => ?_)
  replace hz₁ : IsZip h₁ (N + 6) (N + 4) (N + 5) .ellipsis := hz₁
  have B1 := B.off (.inr rfl) hs₁
  refine wpAny_bind ?_
  simp only [List.zipIdx_cons, List.zipIdx_nil, List.forIn_cons, List.forIn_nil]
  refine wpAny_bind (wpAny_bind (wpAny_onRaise ?_))
  show wpAny _ _ (Builtin.SmallTypes.nextOf (.ref (N + 0 : Nat)) >>= _) _ _ _
  refine wpAny_bind (wpAny_nextOf_list_end (s := { s with heap := h₁ }) hh (B1.it 0 (by decide)) (B1.ls 0 (by decide)) e0 fun h₂ e hs₂ he => ?_)
  obtain ⟨oe, hoe, hce⟩ := he
  have hz₂ : IsZip h₂ (N + 6) (N + 4) (N + 5) .ellipsis := hs₂ _ _ (nen fun z => by omega) hz₁
  have hez : e ≠ (N + 6 : Nat) := fun x => by subst x; rw [hz₂] at hoe; cases hoe; simp at hce
  refine wpAny_setField_rec hz₂ (by simp) fun h₃ _ hs₃ => hE h₃ e (fun (a : Nat) o a0 a1 a2 a3 a5 a6 x => hs₃.extBut _ _ a6 (hs₂ _ _ a0 (hs₁.extBut _ _ a6 x))) ⟨oe, hs₃.extBut _ _ hez hoe, hce⟩
theorem end_held {Q : Fin → Shared → Prop} {T : Nat} {f : Bool} {oT : Obj} (hh : A.handled = none) (Z : Zs s.heap N l xs k) (hz : IsZipHeld s.heap (N + 6) (N + 4) (N + 5) T f) (hT : s.heap.get? T = some oT) (e0 : (xs 0)[k]? = none)
    (hE : ∀ h' e, Kp N s.heap h' → (∃ o, h'.get? e = some o ∧ o.cls = .type "StopIteration") → E (.ref e) { s with heap := h' }) :
    wpAny (model prog w) A (Builtin.«zip.__next__» ⟨[.ref (N + 6 : Nat)], []⟩) Q E s := by
  have B := Z.bn
  have ti := Z.ti
  show wpAny _ _ (field (.ref (N + 6 : Nat)) 2 >>= _) _ _ _
  refine wpAny_bind (wpAny_field hz rfl (x := .bool false) rfl ?_)
  show wpAny _ _ (field (.ref (N + 6 : Nat)) 3 >>= _) _ _ _
  refine wpAny_bind (wpAny_field hz rfl (x := .ref (N + 4 : Nat)) rfl ?_)
  refine wpAny_bind (wpAny_seqItems ti rfl ?_)
  show wpAny _ _ (Builtin.SmallTypes.ownedTupleIsFree (.ref (N + 6 : Nat)) >>= _) _ _ _
  refine wpAny_bind (wpAny_tupleHeld_zip hz hT fun h₁ hz₁ hs₁ => ?_)
  simp only [Bool.false_eq_true, if_false]
  have B1 := B.off (.inr rfl) hs₁
  refine wpAny_bind ?_
  rw [← Array.forIn_toList]
  simp only [List.forIn_cons, List.forIn_nil]
  refine wpAny_bind (wpAny_bind (wpAny_holding ?_))
  show wpAny _ _ (Builtin.SmallTypes.nextOf (.ref (N + 0 : Nat)) >>= _) _ _ _
  refine wpAny_bind (wpAny_nextOf_list_end (s := { s with heap := h₁ }) hh (B1.it 0 (by decide)) (B1.ls 0 (by decide)) e0 fun h₂ e hs₂ he => ?_)
  exact hE h₂ e (fun (a : Nat) o a0 a1 a2 a3 a5 a6 x => hs₂ _ _ a0 (hs₁.extBut _ _ a6 x)) he
/-- the zip at the turn k -/
def Zt (h : Heap) (N : Nat) (l : Nat → Addr) (xs : Nat → Array Value) (k : Nat) : Prop :=
  Zs h N l xs k ∧ ((IsZip h (N + 6) (N + 4) (N + 5) .none ∧ Tup4 h (N + 5) .none .none .none .none) ∨ ∃ (T : Nat) (f : Bool) (oT : Obj), IsZipHeld h (N + 6) (N + 4) (N + 5) T f ∧ h.get? T = some oT ∧ N + 6 < T)
theorem Zt.ty {h : Heap} (z : Zt h N l xs k) : ∃ fs, h.get? (N + 6) = some { cls := .type "zip", dict := none, data := .fields fs, slots := #[] } := by
  rcases z.2 with ⟨hz, _⟩ | ⟨T, f, oT, hz, _⟩
  · exact ⟨_, hz⟩
  · exact ⟨_, hz⟩
theorem Zt.typeIs (z : Zt s.heap N l xs k) : s.TypeIs (.ref (N + 6 : Nat)) "zip" := by
  obtain ⟨fs, e⟩ := z.ty
  exact ⟨_, e, rfl⟩
theorem Zt.upd {h h' : Heap} (z : Zt h N l xs k) {S : Nat} (hS : N + 6 < S) (hk : ∀ (a : Nat) o, a ≠ S → h.get? a = some o → h'.get? a = some o) (hS' : ∀ o, h.get? S = some o → ∃ o', h'.get? S = some o') : Zt h' N l xs k := by
  obtain ⟨Z, z⟩ := z
  refine ⟨⟨fun (j : Nat) hj => (Z.it j hj).at fun o e => hk _ o (nen fun z => by omega) e, fun (j : Nat) hj => (Z.ls j hj).at fun o e => hk _ o (nen fun z => by have h2 : @LT.lt Nat _ (l j) N := Z.lt j hj; omega) e, Z.lt, hk _ _ (nen fun z => by omega) Z.ti⟩, ?_⟩
  rcases z with ⟨hz, hTO⟩ | ⟨T, f, oT, hz, e, g⟩
  · exact .inl ⟨hk _ _ (nen fun z => by omega) hz, hk _ _ (nen fun z => by omega) hTO⟩
  · by_cases c : T = S
    · subst c
      obtain ⟨o, e'⟩ := hS' _ e
      exact .inr ⟨T, f, o, hk _ _ (nen fun z => by omega) hz, e', g⟩
    · exact .inr ⟨T, f, oT, hk _ _ (nen fun z => by omega) hz, hk _ _ c e, g⟩
theorem pyNext_item {Q : Option Value → Shared → Prop} (Z : Zt s.heap N l xs k)
    (e0 : (xs 0)[k]? = some y0) (e1 : (xs 1)[k]? = some y1) (e2 : (xs 2)[k]? = some y2) (e3 : (xs 3)[k]? = some y3)
    (hQ : ∀ h', Zt h' N l xs (k + 1) → Tup4 h' s.heap.objs.size y0 y1 y2 y3 → h'.objs.size = s.heap.objs.size + 1 → Kp N s.heap h' → Q (some (.ref s.heap.objs.size)) { s with heap := h' }) :
    wpAny (model prog w) A (pyNext (.ref (N + 6 : Nat))) Q E s := by
  have hTy := Z.typeIs
  obtain ⟨fs, e⟩ := Z.ty
  have zlt : (N + 6 : Nat) < s.heap.objs.size := Heap.lt_size e
  obtain ⟨Z, z⟩ := Z
  unfold pyNext
  refine wpAny_bind (wpAny_attempt (wpAny_callSpecial?_slot (name := Str.ofString "__next__") hTy F.slot_zip_next (wpAny_call_entry F.slot_zip_next hTy F.entry_zip_next ?_ (F.args_zip_next_1 _))))
  rcases z with ⟨hz, hTO⟩ | ⟨T, f, oT, hz, e, g⟩
  · exact item_first Z hz hTO e0 e1 e2 e3 fun h' a1 a2 a3 a4 a5 => wpAny_pure (hQ h' ⟨a2, .inr ⟨_, _, _, a1, a3, zlt⟩⟩ a3 a4 a5)
  · exact item_held Z hz e e0 e1 e2 e3 fun h' a1 a2 a3 a4 a5 => wpAny_pure (hQ h' ⟨a2, .inr ⟨_, _, _, a1, a5 T oT (by omega) (by omega) (by omega) (by omega) (by omega) (by omega) e, g⟩⟩ a3 a4 a5)
theorem pyNext_end {Q : Option Value → Shared → Prop} (hh : A.handled = none) (Z : Zt s.heap N l xs k) (e0 : (xs 0)[k]? = none)
    (hQ : ∀ h', Kp N s.heap h' → Q none { s with heap := h' }) : wpAny (model prog w) A (pyNext (.ref (N + 6 : Nat))) Q E s := by
  have hTy := Z.typeIs
  obtain ⟨Z, z⟩ := Z
  unfold pyNext
  refine wpAny_bind (wpAny_attempt (wpAny_callSpecial?_slot (name := Str.ofString "__next__") hTy F.slot_zip_next (wpAny_call_entry F.slot_zip_next hTy F.entry_zip_next ?_ (F.args_zip_next_1 _))))
  rcases z with ⟨hz, hTO⟩ | ⟨T, f, oT, hz, e, g⟩
  · refine end_first (a := .none) (b := .none) (c := .none) (d := .none) hh Z hz e0 fun h' e hk he => ?_
    obtain ⟨o, ho, hc⟩ := he
    refine wpAny_bind (wpAny_isInstance (T := "StopIteration") (b := true) ⟨o, ho, hc⟩ isSubtype_stop ?_)
    exact wpAny_pure (hQ _ hk)
  · refine end_held hh Z hz e e0 fun h' e hk he => ?_
    obtain ⟨o, ho, hc⟩ := he
    refine wpAny_bind (wpAny_isInstance (T := "StopIteration") (b := true) ⟨o, ho, hc⟩ isSubtype_stop ?_)
    exact wpAny_pure (hQ _ hk)
theorem pyIter_zt {Q : Value → Shared → Prop} (Z : Zt s.heap N l xs k) (h : Q (.ref (N + 6 : Nat)) s) : wpAny (model prog w) A (pyIter (.ref (N + 6 : Nat))) Q E s := by
  have hT := Z.typeIs
  refine wpAny_pyIter_slot hT F.slot_zip_iter (wpAny_call_entry F.slot_zip_iter hT F.entry_zip_iter ?_ (F.args_zip_iter_1 _))
  show wpAny _ _ (ret (.ref (N + 6 : Nat))) _ _ s
  exact wpAny_pure ⟨_, rfl, "zip", _, hT, F.slot_zip_next.lookup, h⟩
end
end K36Z
set_option Elab.async false
set_option linter.all false
set_option maxRecDepth 100000
set_option maxHeartbeats 2000000
namespace K36Z
open PySem PySem.Spec PySem.Calls PyProof.Rows
abbrev itO (l : Addr) : Obj := { cls := .type "list_iterator", data := .fields #[.ref l, .int 0 0] }
abbrev zH4 (h : Heap) (a b c d : Addr) : Heap := (((h.push (itO a)).push (itO b)).push (itO c)).push (itO d)
abbrev zTI (h : Heap) (a b c d : Addr) : Heap := (zH4 h a b c d).push { cls := .type "tuple", data := .seq #[.ref h.objs.size, .ref (h.push (itO a)).objs.size, .ref ((h.push (itO a)).push (itO b)).objs.size, .ref (((h.push (itO a)).push (itO b)).push (itO c)).objs.size] }
abbrev zTO (h : Heap) (a b c d : Addr) : Heap := (zTI h a b c d).push { cls := .type "tuple", data := .seq #[.none, .none, .none, .none] }
abbrev zZ (h : Heap) (a b c d : Addr) : Heap := (zTO h a b c d).push { cls := .type "zip", data := .fields #[.none, .bool false, .bool false, .ref (zH4 h a b c d).objs.size, .ref (zTI h a b c d).objs.size] }
theorem typeCall_zip_4 (a b c d : Value) : checkTypeCall "zip" ⟨[a, b, c, d], []⟩ = pure () := by kernel_rfl
theorem newCall_zip_4 (a b c d : Value) : checkBuiltinCall "zip.__new__" ⟨[.type "zip", a, b, c, d], []⟩ = pure () := by kernel_rfl
theorem args_object_init_5 (obj a b c d : Value) : argsOk "object.__init__" ⟨[obj, a, b, c, d], []⟩ := by unfold argsOk; kernel_rfl
theorem meets_zip_new4 (a b c d : Addr) (x1 x2 x3 x4 : Array Value) :
    Meets (Builtin.«zip.__new__» ⟨[.type "zip", .ref a, .ref b, .ref c, .ref d], []⟩) (fun _ R s => (s.heap.IsList a x1 ∧ s.heap.IsList b x2 ∧ s.heap.IsList c x3 ∧ s.heap.IsList d x4) ∧
      R (.ok (.ret (.ref (zTO s.heap a b c d).objs.size))) { s with heap := zZ s.heap a b c d }) :=
  .of_wp fun prog w A R s h => by
    obtain ⟨hp, g, dr, tk, os⟩ := s; obtain ⟨⟨h1, h2, h3, h4⟩, h⟩ := h
    have hsub := sub_zip
    have q1 : Heap.IsList (Shared.heap ⟨hp, g, dr, tk, os⟩) a x1 := h1
    have q2 : Heap.IsList (Shared.heap ⟨hp.push (itO a), g, dr, tk, os⟩) b x2 := Heap.IsList.push h2 _
    have q3 : Heap.IsList (Shared.heap ⟨(hp.push (itO a)).push (itO b), g, dr, tk, os⟩) c x3 := Heap.IsList.push (Heap.IsList.push h3 _) _
    have q4 : Heap.IsList (Shared.heap ⟨((hp.push (itO a)).push (itO b)).push (itO c), g, dr, tk, os⟩) d x4 := Heap.IsList.push (Heap.IsList.push (Heap.IsList.push h4 _) _) _
    wp_walk using wpAny_pyIter_list q1, wpAny_pyIter_list q2, wpAny_pyIter_list q3, wpAny_pyIter_list q4
    exact ⟨_, rfl, h⟩
def l4 (a b c d : Addr) : Nat → Addr
  | 0 => a
  | 1 => b
  | 2 => c
  | _ => d
def x4 (a b c d : Array Value) : Nat → Array Value
  | 0 => a
  | 1 => b
  | 2 => c
  | _ => d
section
variable {prog : Program} {w : World} {A : Around} {E : Value → Shared → Prop} {s : Shared}
theorem call_zip4 {a b c d : Addr} {x1 x2 x3 y4 : Array Value} {Q : Value → Shared → Prop} (h1 : s.heap.IsList a x1) (h2 : s.heap.IsList b x2) (h3 : s.heap.IsList c x3) (h4 : s.heap.IsList d y4)
    (h : ∀ h', Zt h' s.heap.objs.size (l4 a b c d) (x4 x1 x2 x3 y4) 0 → h'.objs.size = s.heap.objs.size + 7 → (∀ c o, s.heap.get? c = some o → h'.get? c = some o) → Q (.ref (s.heap.objs.size + 6)) { s with heap := h' }) :
    wpAny (model prog w) A (call (.type "zip") [.ref a, .ref b, .ref c, .ref d]) Q E s := by
  refine callType_new F.called_zip (by decide) (typeCall_zip_4 _ _ _ _) (newCall_zip_4 _ _ _ _) (fun obj => args_object_init_5 obj _ _ _ _) F.entry_zip_new
    (meets_zip_new4 a b c d x1 x2 x3 y4) ⟨⟨h1, h2, h3, h4⟩, ?_⟩
  have z1 : (s.heap.push (itO a)).objs.size = s.heap.objs.size + 1 := Heap.size_push ..
  have z2 : ((s.heap.push (itO a)).push (itO b)).objs.size = s.heap.objs.size + 2 := by rw [Heap.size_push, z1]
  have z3 : (((s.heap.push (itO a)).push (itO b)).push (itO c)).objs.size = s.heap.objs.size + 3 := by rw [Heap.size_push, z2]
  have z4 : (zH4 s.heap a b c d).objs.size = s.heap.objs.size + 4 := by rw [Heap.size_push, z3]
  have z5 : (zTI s.heap a b c d).objs.size = s.heap.objs.size + 5 := by rw [Heap.size_push, z4]
  have z6 : (zTO s.heap a b c d).objs.size = s.heap.objs.size + 6 := by rw [Heap.size_push, z5]
  have z7 : (zZ s.heap a b c d).objs.size = s.heap.objs.size + 7 := by rw [Heap.size_push, z6]
  have g6 : (zZ s.heap a b c d).get? (zTO s.heap a b c d).objs.size = some _ := Heap.get?_push_size _ rfl
  have g5 : (zZ s.heap a b c d).get? (zTI s.heap a b c d).objs.size = some _ := Heap.get?_push_of_some _ (Heap.get?_push_size _ rfl)
  have g4 : (zZ s.heap a b c d).get? (zH4 s.heap a b c d).objs.size = some _ := Heap.get?_push_of_some _ (Heap.get?_push_of_some _ (Heap.get?_push_size _ rfl))
  have g3 : (zZ s.heap a b c d).get? (((s.heap.push (itO a)).push (itO b)).push (itO c)).objs.size = some _ := Heap.get?_push_of_some _ (Heap.get?_push_of_some _ (Heap.get?_push_of_some _ (Heap.get?_push_size _ rfl)))
  have g2 : (zZ s.heap a b c d).get? ((s.heap.push (itO a)).push (itO b)).objs.size = some _ := Heap.get?_push_of_some _ (Heap.get?_push_of_some _ (Heap.get?_push_of_some _ (Heap.get?_push_of_some _ (Heap.get?_push_size _ rfl))))
  have g1 : (zZ s.heap a b c d).get? (s.heap.push (itO a)).objs.size = some _ := Heap.get?_push_of_some _ (Heap.get?_push_of_some _ (Heap.get?_push_of_some _ (Heap.get?_push_of_some _ (Heap.get?_push_of_some _ (Heap.get?_push_size _ rfl)))))
  have g0 : (zZ s.heap a b c d).get? s.heap.objs.size = some _ := Heap.get?_push_of_some _ (Heap.get?_push_of_some _ (Heap.get?_push_of_some _ (Heap.get?_push_of_some _ (Heap.get?_push_of_some _ (Heap.get?_push_of_some _ (Heap.get?_push_size _ rfl))))))
  have up : ∀ c' o, s.heap.get? c' = some o → (zZ s.heap a b c d).get? c' = some o := fun c' o x => Heap.get?_push_of_some _ (Heap.get?_push_of_some _ (Heap.get?_push_of_some _ (Heap.get?_push_of_some _ (Heap.get?_push_of_some _ (Heap.get?_push_of_some _ (Heap.get?_push_of_some _ x))))))
  show _ ∧ _
  rw [z4, z5, z6] at g6
  rw [z5] at g5
  rw [z4, z1, z2, z3] at g4
  rw [z3] at g3
  rw [z2] at g2
  rw [z1] at g1
  rw [z6]
  have lt : ∀ {p : Addr} {x : Array Value}, s.heap.IsList p x → p < s.heap.objs.size := fun ⟨_, e, _⟩ => Heap.lt_size e
  refine ⟨⟨_, g6, rfl⟩, h _ ⟨⟨fun (j : Nat) hj => ?_, fun (j : Nat) hj => ?_, fun (j : Nat) hj => ?_, g4⟩, .inl ⟨g6, g5⟩⟩ z7 up⟩
  · have : j = 0 ∨ j = 1 ∨ j = 2 ∨ j = 3 := by omega
    rcases this with rfl | rfl | rfl | rfl
    · exact ⟨_, g0, rfl, rfl⟩
    · exact ⟨_, g1, rfl, rfl⟩
    · exact ⟨_, g2, rfl, rfl⟩
    · exact ⟨_, g3, rfl, rfl⟩
  · have : j = 0 ∨ j = 1 ∨ j = 2 ∨ j = 3 := by omega
    rcases this with rfl | rfl | rfl | rfl
    · exact h1.at fun o e => up _ o e
    · exact h2.at fun o e => up _ o e
    · exact h3.at fun o e => up _ o e
    · exact h4.at fun o e => up _ o e
  · have : j = 0 ∨ j = 1 ∨ j = 2 ∨ j = 3 := by omega
    rcases this with rfl | rfl | rfl | rfl
    · exact lt h1
    · exact lt h2
    · exact lt h3
    · exact lt h4
end

/-- the tuples gathered -/
structure ZG (xs : Nat → Array Value) (lo : Nat) (h : Heap) (as : List Addr) : Prop where
  rise : as.Pairwise (· < ·)
  above : ∀ a ∈ as, @LT.lt Nat _ lo a
  pairs : ∀ (j : Nat) (a : Addr), as[j]? = some a → ∃ u0 u1 u2 u3, (xs 0)[j]? = some u0 ∧ (xs 1)[j]? = some u1 ∧ (xs 2)[j]? = some u2 ∧ (xs 3)[j]? = some u3 ∧ Tup4 h a u0 u1 u2 u3
section
variable {prog : Program} {w : World} {A : Around} {s : Shared} {R : Result → Shared → Prop} {N n : Nat} {l : Nat → Addr} {xs : Nat → Array Value}
theorem ZG.there {lo : Nat} {h : Heap} {as : List Addr} (g : ZG xs lo h as) {a : Addr} (ha : a ∈ as) : a < h.objs.size := by
  obtain ⟨j, hj⟩ := List.mem_iff_getElem?.mp ha
  obtain ⟨_, _, _, _, _, _, _, _, e⟩ := g.pairs j a hj
  exact Heap.lt_size e
theorem zloop {S : Nat} (hh : A.handled = none) (hS6 : N + 6 < S) (hn : n ≤ sizeLine) (hx : ∀ j : Nat, j < 4 → (xs j).size = n) (res : Value) {h₁ : Heap}
    (hR : ∀ h' tk acc c as, (∀ (b : Nat) o, b ≠ S → b ≠ N → b ≠ N + 1 → b ≠ N + 2 → b ≠ N + 3 → b ≠ N + 5 → b ≠ N + 6 → h₁.get? b = some o → h'.get? b = some o) → h'.get? S = some { cls := .type "list", dict := none, data := .seq acc c, slots := #[] } → as.length = n → ZG xs S h' as →
      acc.toList = as.map Value.ref → R (.ok (.ret res)) { s with heap := h', toks := tk }) :
    ∀ (k i : Nat) (h : Heap) (tk c : Nat) (acc : Array Value) (as : List Addr), n - i = k → i ≤ n → Zt h N l xs i → (∀ (b : Nat) o, b ≠ S → b ≠ N → b ≠ N + 1 → b ≠ N + 2 → b ≠ N + 3 → b ≠ N + 5 → b ≠ N + 6 → h₁.get? b = some o → h.get? b = some o) →
      h.get? S = some { cls := .type "list", dict := none, data := .seq acc c, slots := #[] } → acc.toList = as.map Value.ref → as.length = i → ZG xs S h as →
      codeAny (model prog w) A (.builtin "list.extend.loop" ⟨[.ref S, .ref (N + 6 : Nat), res], []⟩) R { s with heap := h, toks := tk } := by
  intro k
  induction k with
  | zero =>
    intro i h tk c acc as hk hi hst hkeep hS hacc hal hG
    have hin : i = n := by omega
    refine codeAny_builtin PySem.F.entry_extend_loop ?_
    rw [Around.under_plainId PySem.F.plain_extend_loop _]
    show wpAny _ A.in1 (pyNext (.ref (N + 6 : Nat)) >>= _) _ _ _
    refine wpAny_bind (pyNext_end (s := { s with heap := h, toks := tk }) (A := A.in1) hh hst (by rw [Array.getElem?_eq_none]; have := hx 0 (by decide); omega) fun h' he => ?_)
    refine wpAny_pure (hR h' tk acc c as (fun b o bS b0 b1 b2 b3 b5 b6 e => he b o b0 b1 b2 b3 b5 b6 (hkeep b o bS b0 b1 b2 b3 b5 b6 e)) (he S _ (by omega) (by omega) (by omega) (by omega) (by omega) (by omega) hS) (by omega) ⟨hG.rise, hG.above, fun j a hj => ?_⟩ hacc)
    obtain ⟨u0, u1, u2, u3, p0, p1, p2, p3, e3⟩ := hG.pairs j a hj
    have ha : @LT.lt Nat _ S a := hG.above a (List.mem_of_getElem? hj)
    exact ⟨u0, u1, u2, u3, p0, p1, p2, p3, he a _ (nen fun z => by omega) (nen fun z => by omega) (nen fun z => by omega) (nen fun z => by omega) (nen fun z => by omega) (nen fun z => by omega) e3⟩
  | succ k ih =>
    intro i h tk c acc as hk hi hst hkeep hS hacc hal hG
    have hlt : i < n := by omega
    have hsz : acc.size = i := by rw [← Array.length_toList, hacc, List.length_map, hal]
    have at_ : ∀ j : Nat, j < 4 → ∃ u, (xs j)[i]? = some u := fun j hj => ⟨_, Array.getElem?_eq_getElem (by rw [hx j hj]; exact hlt)⟩
    obtain ⟨u0, p0⟩ := at_ 0 (by decide)
    obtain ⟨u1, p1⟩ := at_ 1 (by decide)
    obtain ⟨u2, p2⟩ := at_ 2 (by decide)
    obtain ⟨u3, p3⟩ := at_ 3 (by decide)
    refine codeAny_builtin PySem.F.entry_extend_loop ?_
    rw [Around.under_plainId PySem.F.plain_extend_loop _]
    show wpAny _ A.in1 (pyNext (.ref (N + 6 : Nat)) >>= _) _ _ _
    refine wpAny_bind (pyNext_item (s := { s with heap := h, toks := tk }) hst p0 p1 p2 p3 fun h' hst' ht hz hkp => ?_)
    dsimp only at ht hz hkp ⊢
    have hS' := hkp S _ (by omega) (by omega) (by omega) (by omega) (by omega) (by omega) hS
    have up : ∀ (b : Nat) o, b ≠ S → h'.get? b = some o → (h'.update S (Obj.mapSeq (·.push (Value.ref h.objs.size)))).get? b = some o := fun b o hb e => (Heap.get?_update_other _ _ (Ne.symm hb)).trans e
    have hSl : S < h.objs.size := Heap.lt_size hS
    have hself : (h'.update S (Obj.mapSeq (·.push (Value.ref h.objs.size)))).get? S = _ := Heap.get?_update_self _ hS' rfl
    show wpAny _ A.in1 (updateSeq S (·.push (Value.ref h.objs.size)) >>= _) _ _ _
    refine wpAny_bind ?_
    refine wpAny_updateSeq hS' rfl (wpAny_pure ⟨plainId_quiet PySem.F.plain_extend_loop _, ih (i + 1) _ tk _ (acc.push (Value.ref h.objs.size)) (as ++ [h.objs.size]) (by omega) hlt (hst'.upd hS6 up fun o _ => ⟨_, hself⟩)
      (fun b o bS b0 b1 b2 b3 b5 b6 e => up b o bS (hkp b o b0 b1 b2 b3 b5 b6 (hkeep b o bS b0 b1 b2 b3 b5 b6 e))) hself (by rw [Array.toList_push, hacc, List.map_append]; rfl) (by rw [List.length_append, hal]; rfl) ⟨?_, ?_, ?_⟩⟩) (by rw [hsz]; omega) (by show (acc.push (Value.ref h.objs.size)).size ≤ sizeLine + 1; rw [Array.size_push, hsz]; omega)
    · refine List.pairwise_append.mpr ⟨hG.rise, List.pairwise_singleton _ _, fun a ha b hb => ?_⟩
      rw [List.mem_singleton.mp hb]
      exact hG.there ha
    · intro a ha
      rcases List.mem_append.mp ha with ha | ha
      · exact hG.above a ha
      · rw [List.mem_singleton.mp ha]; exact hSl
    · intro j b hj
      rcases Nat.lt_trichotomy j as.length with h1 | h1 | h1
      · rw [List.getElem?_append_left h1] at hj
        obtain ⟨v0, v1, v2, v3, q0, q1, q2, q3, e3⟩ := hG.pairs j b hj
        have ha : @LT.lt Nat _ S b := hG.above b (List.mem_of_getElem? hj)
        exact ⟨v0, v1, v2, v3, q0, q1, q2, q3, up b _ (nen fun z => by omega) (hkp b _ (nen fun z => by omega) (nen fun z => by omega) (nen fun z => by omega) (nen fun z => by omega) (nen fun z => by omega) (nen fun z => by omega) e3)⟩
      · subst h1
        have hb : h.objs.size = b := by simpa using hj
        subst hb
        subst hal
        exact ⟨u0, u1, u2, u3, p0, p1, p2, p3, up _ _ (Nat.ne_of_gt hSl) ht⟩
      · have hnone : (as ++ [h.objs.size])[j]? = none := List.getElem?_eq_none (by rw [List.length_append, List.length_singleton]; omega)
        rw [hnone] at hj; cases hj
end
theorem nolen_zip : typeLookup (.type "zip") "__len__" = pure none := by rw [typeLookup_type, builtinLookup_eq_fast]; kernel_rfl
theorem nohint_zip : typeLookup (.type "zip") "__length_hint__" = pure none := by rw [typeLookup_type, builtinLookup_eq_fast]; kernel_rfl
section
variable {prog : Program} {w : World} {A : Around} {E : Value → Shared → Prop} {s : Shared} {N n : Nat} {l : Nat → Addr} {xs : Nat → Array Value}
/-- list(z), z the zip -/
theorem zlist {Q : Value → Shared → Prop} (hh : A.handled = none) (hz : Zt s.heap N l xs 0) (hx : ∀ j : Nat, j < 4 → (xs j).size = n) (hn : n ≤ sizeLine)
    (hQ : ∀ h' tk acc c as, (∀ (b : Nat) o, b ≠ N → b ≠ N + 1 → b ≠ N + 2 → b ≠ N + 3 → b ≠ N + 5 → b ≠ N + 6 → s.heap.get? b = some o → h'.get? b = some o) → h'.get? s.heap.objs.size = some { cls := .type "list", dict := none, data := .seq acc c, slots := #[] } → as.length = n → ZG xs s.heap.objs.size h' as →
      acc.toList = as.map Value.ref → Q (.ref s.heap.objs.size) { s with heap := h', toks := tk }) :
    wpAny (model prog w) A (call (.type "list") [.ref (N + 6 : Nat)]) Q E s := by
  obtain ⟨fs, ez⟩ := hz.ty
  have zlt : @LT.lt Nat _ (N + 6) s.heap.objs.size := Heap.lt_size ez
  refine callType_codes (Q₁ := fun obj s₁ => obj = .ref s.heap.objs.size ∧ s₁ = { s with heap := s.heap.push { cls := .type "list", data := .seq #[] } }) PySem.F.called_list (PySem.F.typeCall_list_1 _) PySem.F.entry_list_init
    (code_list_new _ ⟨rfl, rfl⟩) fun obj s₁ h₁ => ?_
  obtain ⟨rfl, rfl⟩ := h₁
  have hS : (s.heap.push { cls := .type "list", data := .seq #[] }).get? s.heap.objs.size = some { cls := .type "list", data := .seq #[] } := Heap.get?_push_size _ rfl
  refine ⟨⟨_, hS, rfl⟩, PySem.F.args_list_init_2 _ _, ?_⟩
  show wpAny _ A.in1.in1 (do let old ← Builtin.List.listItems (.ref s.heap.objs.size); Builtin.List.listUpdate (.ref s.heap.objs.size) (fun _ => #[]); letGo old.toList.reverse; Builtin.List.listExtendWith (.ref s.heap.objs.size) (.ref (N + 6 : Nat)) .none) _ _ _
  refine wpAny_bind ?_
  unfold Builtin.List.listItems
  refine wpAny_bind (wpAny_seqItems hS rfl (wpAny_pure ?_))
  show wpAny _ A.in1.in1 (updateSeq s.heap.objs.size (fun _ => #[]) >>= fun _ => letGo (#[] : Array Value).toList.reverse >>= fun _ => Builtin.List.listExtendWith (.ref s.heap.objs.size) (.ref (N + 6 : Nat)) .none) _ _ _
  refine wpAny_bind (wpAny_updateSeq hS rfl ?_)
  have hS2 := Heap.get?_update_self (Obj.mapSeq (fun _ => (#[] : Array Value))) hS rfl
  refine wpAny_bind (wpAny_letGo ?_)
  have k1 : ∀ b o, s.heap.get? b = some o → (s.heap.push { cls := .type "list", data := .seq #[] }).get? b = some o := fun b o e => Heap.get?_push_of_some _ e
  have up : ∀ (h : Heap) (f : Obj → Obj), (∀ b o, s.heap.get? b = some o → h.get? b = some o) → ∀ b o, s.heap.get? b = some o → (h.update s.heap.objs.size f).get? b = some o := fun h f q b o e =>
    (Heap.get?_update_other _ _ (Ne.symm (Nat.ne_of_lt (Heap.lt_size e)))).trans (q b o e)
  have k2 := up _ (Obj.mapSeq (fun _ => (#[] : Array Value))) k1
  have zt : ∀ {h : Heap}, (∀ b o, s.heap.get? b = some o → h.get? b = some o) → Zt h N l xs 0 := fun {h} q => hz.upd (S := s.heap.objs.size) zlt (fun b o _ e => q b o e) fun o e => absurd (Heap.lt_size e) (Nat.lt_irrefl _)
  unfold Builtin.List.listExtendWith
  refine wpAny_bind (wpAny_typeOf (Zt.typeIs (s := { s with heap := _ }) (zt k2)) ?_)
  have h1 : Builtin.List.listSameRef (.ref s.heap.objs.size) (.ref (N + 6 : Nat)) = false := by
    have : s.heap.objs.size ≠ N + 6 := Nat.ne_of_gt zlt
    simp [Builtin.List.listSameRef, this]
  have h2 : (Value.type "zip" == Value.type "list") = false := by decide
  have h3 : (Value.type "zip" == Value.type "tuple") = false := by decide
  simp only [h1, h2, h3, Bool.or_false, Bool.false_eq_true, if_false]
  refine wpAny_bind (pyIter_zt (s := { s with heap := _ }) (zt k2) ?_)
  refine wpAny_bind (wpAny_holding ?_)
  unfold Builtin.List.listLengthHint
  refine wpAny_bind (wpAny_specialOf (Zt.typeIs (s := { s with heap := _ }) (zt k2)) nolen_zip ?_)
  show wpAny _ A.in1.in1 (specialOf (Value.ref (N + 6 : Nat)) (Str.ofString "__length_hint__") >>= _) _ _ _
  refine wpAny_bind (wpAny_specialOf (Zt.typeIs (s := { s with heap := _ }) (zt k2)) nohint_zip ?_)
  refine wpAny_pure ?_
  show wpAny _ A.in1.in1 (rule "list.extend.makes-room" >>= fun _ => Builtin.List.listTouch (.ref s.heap.objs.size) >>= fun _ =>
    again (.builtin "list.extend.loop" ⟨[.ref s.heap.objs.size, .ref (N + 6 : Nat), .none], []⟩)) _ _ _
  refine wpAny_bind (wpAny_rule ?_)
  refine wpAny_bind ?_
  show wpAny _ A.in1.in1 (updateSeq s.heap.objs.size (·.push .none) >>= fun _ => updateSeq s.heap.objs.size (·.pop)) _ _ _
  refine wpAny_bind (wpAny_updateSeq hS2 rfl ?_)
  have hS3 := Heap.get?_update_self (Obj.mapSeq (·.push Value.none)) hS2 rfl
  refine wpAny_updateSeq (hz := by seq_fits) hS3 rfl ?_
  have hS4 := Heap.get?_update_self (Obj.mapSeq (·.pop)) hS3 rfl
  have k4 := up _ (Obj.mapSeq (·.pop)) (up _ (Obj.mapSeq (·.push Value.none)) k2)
  refine wpAny_pure ⟨plainId_quiet PySem.F.plain_extend_loop _, ?_⟩
  refine zloop (N := N) (n := n) (l := l) (xs := xs) (s := s) (S := s.heap.objs.size) (h₁ := s.heap) (A := A.in1) hh zlt hn hx .none (fun h' tk acc c as kk hS' hl hG hacc => ⟨rfl, hQ h' tk acc c as (fun b o b0 b1 b2 b3 b5 b6 e => kk b o (Nat.ne_of_lt (Heap.lt_size e)) b0 b1 b2 b3 b5 b6 e) hS' hl hG hacc⟩)
    n 0 _ _ _ #[] [] (Nat.sub_zero _) (Nat.zero_le _) (zt k4) (fun b o _ _ _ _ _ _ _ e => k4 b o e) hS4 rfl rfl ⟨List.Pairwise.nil, (fun _ ha => nomatch ha), (fun j a hj => by simp at hj)⟩
end
end K36Z
set_option Elab.async false
set_option linter.all false
set_option maxRecDepth 100000
set_option maxHeartbeats 2000000
namespace K36Z
open PySem PySem.Spec PyProof.Rows L2 K36
/-- the tuples tracked at their addresses -/
def putT : Hp → List Addr → List (List V) → Hp
  | H, a :: as, p :: ps => putT (upd H a (.tup p)) as ps
  | H, _, _ => H
theorem putT_off {b : Addr} : ∀ (as : List Addr) (ps : List (List V)) (H : Hp), b ∉ as → putT H as ps b = H b
  | [], _, _, _ => rfl
  | _ :: _, [], _, _ => rfl
  | a :: as, p :: ps, H, h => by
    show putT (upd H a (.tup p)) as ps b = H b
    rw [putT_off as ps _ (fun z => h (List.mem_cons_of_mem _ z)), upd_ne (fun z => h (by rw [z]; exact List.mem_cons_self))]
theorem putT_at : ∀ (as : List Addr) (ps : List (List V)) (H : Hp), as.length = ps.length → as.Nodup → ∀ (i : Nat) a p, as[i]? = some a → ps[i]? = some p → putT H as ps a = some (.tup p)
  | [], _, _, _, _, i, a, p, h, _ => by simp at h
  | _ :: _, [], _, h, _, _, _, _, _, _ => by cases h
  | a :: as, q :: ps, H, h, hn, 0, b, p, h1, h2 => by
    simp at h1 h2
    subst h1; subst h2
    show putT (upd H a (.tup q)) as ps a = some (.tup q)
    rw [putT_off as ps _ (List.nodup_cons.mp hn).1, upd_same]
  | a :: as, q :: ps, H, h, hn, i + 1, b, p, h1, h2 => by
    exact putT_at as ps (upd H a (.tup q)) (Nat.succ.inj h) (List.nodup_cons.mp hn).2 i b p (by simpa using h1) (by simpa using h2)
section
variable {X : Cx} {pins : List (Addr × Obj)} {σ : L2.St} {H : Hp} {s : Shared}
theorem tuples_laid {h' : Heap} {tk : Nat} {ps : List (List V)} {acc : Array Value} {c : Nat} {as : List Addr} {S : Addr} (I : Inv X pins σ H s) (hz : as.length ≤ sizeLine) (hSz : s.heap.objs.size ≤ S)
    (hk : ∀ b o, s.heap.get? b = some o → h'.get? b = some o) (hS : h'.get? S = some { cls := .type "list", dict := none, data := .seq acc c, slots := #[] }) (hl : as.length = ps.length)
    (rise : as.Pairwise (· < ·)) (above : ∀ a ∈ as, S < a) (hp : ∀ (i : Nat) a p, as[i]? = some a → ps[i]? = some p → p.length ≤ 1000 ∧ ∃ us : Array Value, Vals p us.toList ∧ h'.get? a = some { cls := .type "tuple", data := .seq us }) (hacc : acc.toList = as.map Value.ref) :
    ∃ H' : Hp, (∀ b o, H b = some o → H' b = some o) ∧ H S = none ∧ (∀ t ∈ as, H t = none) ∧ S ∉ as ∧ H' S = some (.lst (as.map V.ref)) ∧ (∀ (i : Nat) a p, as[i]? = some a → ps[i]? = some p → H' a = some (.tup p)) ∧ Inv X pins σ H' { s with heap := h', toks := tk } := by
  have hSn : S ∉ as := fun z => Nat.lt_irrefl _ (above _ z)
  have nd : as.Nodup := List.Pairwise.imp (fun {a b} (h : a < b) => Nat.ne_of_lt h) rise
  have new : ∀ t ∈ as, H t = none := fun t ht => I.hok.fresh (Nat.le_trans hSz (Nat.le_of_lt (above t ht)))
  have newS : H S = none := I.hok.fresh hSz
  have atP := putT_at as ps (upd H S (.lst (as.map V.ref))) hl nd
  have off : ∀ b, b ∉ as → b ≠ S → putT (upd H S (.lst (as.map V.ref))) as ps b = H b := fun b h1 h2 => by rw [putT_off as ps _ h1, upd_ne h2]
  have low : ∀ b o, s.heap.get? b = some o → b ∉ as ∧ b ≠ S := fun b o e => ⟨fun z => absurd (Heap.lt_size e) (Nat.not_lt.mpr (Nat.le_trans hSz (Nat.le_of_lt (above b z)))), Nat.ne_of_lt (Nat.lt_of_lt_of_le (Heap.lt_size e) hSz)⟩
  have kp : ∀ b u, H b = some u → (putT (upd H S (.lst (as.map V.ref))) as ps) b = some u := fun b u e => by
    rw [off b (fun z => by rw [new b z] at e; cases e) (fun z => by rw [z, newS] at e; cases e)]
    exact e
  have eS : putT (upd H S (.lst (as.map V.ref))) as ps S = some (.lst (as.map V.ref)) := by rw [putT_off as ps _ hSn, upd_same]
  refine ⟨putT (upd H S (.lst (as.map V.ref))) as ps, kp, newS, new, hSn, eS, atP, ?_⟩
  refine I.call' (ch := []) rfl ⟨fun b o q _ _ _ => hk b o q, fun b o q _ _ _ => ⟨o.slots, hk b o q⟩, fun b o q n _ => ?_, fun b o q _ => ⟨o, hk b o q⟩, fun b xs q => kp b _ q, fun b o u q => kp b _ q, fun b ps q => ⟨#[], by rw [kp b _ q]; simp⟩⟩ (fun b u q => ?_) I.bare fun b z => by simp at z
  · obtain ⟨z1, z2⟩ := low b o q
    rw [off b z1 z2]
    exact n
  · by_cases hb : b ∈ as
    · obtain ⟨j, hj⟩ := List.mem_iff_getElem?.mp hb
      have hjl : j < ps.length := by rw [← hl]; exact (List.getElem?_eq_some_iff.mp hj).1
      have ep := List.getElem?_eq_getElem hjl
      rw [atP j b _ hj ep] at q
      cases q
      obtain ⟨len, us, f1, f3⟩ := hp j b _ hj ep
      exact ⟨Nat.le_trans len (Nat.le_of_lt (small1000 (Nat.le_refl _))), us.toList, f1, ⟨_, f3, rfl, _, rfl⟩⟩
    · by_cases hb2 : b = S
      · rw [hb2] at q ⊢
        rw [eS] at q
        cases q
        refine ⟨by rw [List.length_map]; omega, acc.toList, c, by rw [hacc]; exact LiI.vals_refs as, ?_⟩
        rw [Array.toArray_toList]
        exact hS
      · rw [off b hb hb2] at q
        exact (I.hok b u q).stay (fun d v _ y => hk d v y) (fun d y => kp d _ y) fun d xs y => kp d _ y
def rows4 (x1 x2 x3 x4 : List V) : List (List V) := (List.range x1.length).map fun i => [x1.getD i .non, x2.getD i .non, x3.getD i .non, x4.getD i .non]
theorem rows4_len {x1 x2 x3 x4 : List V} : (rows4 x1 x2 x3 x4).length = x1.length := by simp [rows4]
theorem rows4_get {x1 x2 x3 x4 p : List V} {i : Nat} (h : (rows4 x1 x2 x3 x4)[i]? = some p) : p = [x1.getD i .non, x2.getD i .non, x3.getD i .non, x4.getD i .non] := by
  unfold rows4 at h
  rw [List.getElem?_map] at h
  obtain ⟨j, e1, e2⟩ := Option.map_eq_some_iff.mp h
  obtain ⟨hj, rfl⟩ := List.getElem?_eq_some_iff.mp e1
  rw [← e2, List.getElem_range]
def rZipL (K : PySem.W.Frag) : List V → Hp → VK → Prop := fun vs H1 Q => ∃ a b c d x1 x2 x3 x4, vs = [.ref a, .ref b, .ref c, .ref d] ∧ SqL K H1 a x1 ∧ SqL K H1 b x2 ∧ SqL K H1 c x3 ∧ SqL K H1 d x4 ∧ (x2.length = x1.length ∧ x3.length = x1.length ∧ x4.length = x1.length) ∧
  ∀ (H' : Hp) (p : Addr) (ts : List Addr), (∀ b o, H1 b = some o → H' b = some o) → H1 p = none → (∀ t ∈ ts, H1 t = none) → p ∉ ts → ts.Nodup → H' p = some (.lst (ts.map V.ref)) → ts.length = x1.length → (∀ (i : Nat) a p, ts[i]? = some a → (rows4 x1 x2 x3 x4)[i]? = some p → H' a = some (.tup p)) → Q (.ref p) H'
theorem vals_getD {xs : List V} {us : List Value} (r : Vals xs us) {i : Nat} {u : Value} (h : us.toArray[i]? = some u) : RelV (xs.getD i .non) u := by
  have h' : us[i]? = some u := by simpa using h
  have hi : i < xs.length := by rw [r.length]; exact (List.getElem?_eq_some_iff.mp h').1
  obtain ⟨u', e1, e2⟩ := r.get (List.getElem?_eq_getElem hi)
  rw [h'] at e1
  cases e1
  rw [List.getD_eq_getElem?_getD, List.getElem?_eq_getElem hi]
  exact e2
def tZipL (K : PySem.W.Frag) (t : TA) : TE := fun σ H Q => t σ H fun vs H1 => rZipL K vs H1 Q
variable {e1 e2 e3 e4 : Expr} {t : TA} {p p2 pos pos2 : Pos}
theorem pe_zipL (hc : X.calm = true) (hgl : Gl X "list") (hml : X.mg "list" = none) (hgz : Gl X "zip") (hmz : X.mg "zip" = none) (ha : PA X [e1, e2, e3, e4] t)
    (hs : starEach [e1, e2, e3, e4] X.env = (false, eval e1 X.env) :: starEach [e2, e3, e4] X.env := by rfl) (hpl : (backTo pos2 (starEach [e2, e3, e4] X.env)).any (·.1) = false := by rfl)
    (hs1 : starEach [.Call (.Name "zip" p2) [e1, e2, e3, e4] [] pos2] X.env = (false, eval (.Call (.Name "zip" p2) [e1, e2, e3, e4] [] pos2) X.env) :: starEach [] X.env := by rfl) :
    PE X (.Call (.Name "list" p) [.Call (.Name "zip" p2) [e1, e2, e3, e4] [] pos2] [] pos) (tZipL X.K t) := by
  refine ⟨fun pins s σ H Q I hq => ?_⟩
  refine wpAny_Call_Name_kw (ld_blt I hgl hml (show bootBuiltins "list" = some (.type "list") by decide +kernel) ?_)
  refine PyProof.Rows.callWith_type1 ?_ hs1 rfl
  rw [hs1]
  show wpAny _ _ (spliced ((false, eval (.Call (.Name "zip" p2) [e1, e2, e3, e4] [] pos2) X.env) :: backTo pos (starEach [] X.env))) _ _ s
  refine Calls.spliced_cons ?_
  refine Call_ (ld_blt I hgz hmz PyProof.Rows.boot_zip (PyProof.Rows.callWith_type1 (thn (ha.run pos2 pins s σ H _ I hq) fun us s1 ⟨vs, H1, I1, r1, q1⟩ => ?_) hs hpl))
  obtain ⟨a, b, c, d, x1, x2, x3, x4, ex, k1, k2, k3, k4, ⟨n2, n3, n4⟩, q⟩ := q1
  subst ex
  obtain ⟨i1, v1, pl1, z1⟩ := I1.list k1
  obtain ⟨i2, v2, pl2, z2⟩ := I1.list k2
  obtain ⟨i3, v3, pl3, z3⟩ := I1.list k3
  obtain ⟨i4, v4, pl4, z4⟩ := I1.list k4
  cases r1 with
  | cons ra rr =>
  cases rr with
  | cons rb rr =>
  cases rr with
  | cons rc rr =>
  cases rr with
  | cons rd rr =>
  cases rr
  cases ra; cases rb; cases rc; cases rd
  have l1 := v1.length
  have l2 := v2.length
  have l3 := v3.length
  have l4' := v4.length
  refine call_zip4 pl1.isList pl2.isList pl3.isList pl4.isList fun h' hz hsz hk => ?_
  refine Calls.spliced_nil ?_
  have hS : @Eq Nat h'.objs.size (s1.heap.objs.size + 7) := hsz
  refine zlist (s := { s1 with heap := h' }) (n := x1.length) (I1.ok.hd hc) hz (fun (j : Nat) hj => ?_) (by first | exact z1 | (rw [l1]; exact z1)) fun h2 tk acc cc as kk hS2 hl hG hacc => ?_
  · have : j = 0 ∨ j = 1 ∨ j = 2 ∨ j = 3 := by omega
    rcases this with rfl | rfl | rfl | rfl
    · show i1.toArray.size = _; rw [List.size_toArray]; omega
    · show i2.toArray.size = _; rw [List.size_toArray]; omega
    · show i3.toArray.size = _; rw [List.size_toArray]; omega
    · show i4.toArray.size = _; rw [List.size_toArray]; omega
  · have hle : s1.heap.objs.size ≤ h'.objs.size := by rw [hsz]; exact Nat.le_add_right _ _
    have hkp : ∀ b o, s1.heap.get? b = some o → h2.get? b = some o := fun b o e => by
      have hb : @LT.lt Nat _ b s1.heap.objs.size := Heap.lt_size e
      exact kk b o (nen fun z => by omega) (nen fun z => by omega) (nen fun z => by omega) (nen fun z => by omega) (nen fun z => by omega) (nen fun z => by omega) (hk b o e)
    obtain ⟨H', f1, f2, f3, f4, f5, f6, J⟩ := tuples_laid (tk := tk) (ps := rows4 x1 x2 x3 x4) I1 (by rw [hl]; first | exact z1 | (rw [l1]; exact z1)) hle hkp hS2 (by rw [hl, rows4_len]) hG.rise hG.above (fun i a p ea ep => by
      have e := rows4_get ep
      subst e
      obtain ⟨u0, u1, u2, u3, g0, g1, g2, g3, gt⟩ := hG.pairs i a ea
      exact ⟨by simp, _, .cons (vals_getD v1 g0) (.cons (vals_getD v2 g1) (.cons (vals_getD v3 g2) (.cons (vals_getD v4 g3) .nil))), gt⟩) hacc
    exact ⟨.ref _, H', J, rfl, q H' _ as f1 f2 f3 f4 (List.Pairwise.imp (fun {a b} (h : a < b) => Nat.ne_of_lt h) hG.rise) f5 hl f6⟩
end
end K36Z
namespace K36
open PySem PySem.Spec PyProof.Rows L2
section
variable {X : Cx} {e1 e2 e3 e4 : Expr} {t : TA} {w : DA} {p p2 pos pos2 : Pos}
/-- the rows of four lists of one length -/
def zip4 : List D → List D → List D → List D → List D
  | a :: as, b :: bs, c :: cs, d :: ds => .tup [a, b, c, d] :: zip4 as bs cs ds
  | _, _, _, _ => []
theorem zip4_length : ∀ {a b c d : List D}, b.length = a.length → c.length = a.length → d.length = a.length → (zip4 a b c d).length = a.length
  | [], _, _, _, _, _, _ => by simp [zip4]
  | _ :: a, _ :: b, _ :: c, _ :: d, h1, h2, h3 => by simp only [zip4, List.length_cons]; rw [zip4_length (by simpa using h1) (by simpa using h2) (by simpa using h3)]
  | _ :: _, [], _, _, h, _, _ => by cases h
  | _ :: _, _ :: _, [], _, _, h, _ => by cases h
  | _ :: _, _ :: _, _ :: _, [], _, _, h => by cases h
theorem zip4_get : ∀ {a b c d : List D} {i : Nat} {e : D}, (zip4 a b c d)[i]? = some e → ∃ x y z u, e = .tup [x, y, z, u] ∧ a[i]? = some x ∧ b[i]? = some y ∧ c[i]? = some z ∧ d[i]? = some u
  | _ :: a, _ :: b, _ :: c, _ :: d, 0, e, h => by
    simp [zip4] at h
    exact ⟨_, _, _, _, h.symm, rfl, rfl, rfl, rfl⟩
  | _ :: a, _ :: b, _ :: c, _ :: d, i + 1, e, h => by
    simp only [zip4, List.getElem?_cons_succ] at h ⊢
    exact zip4_get h
  | [], _, _, _, _, _, h => by simp [zip4] at h
  | _ :: _, [], _, _, _, _, h => by simp [zip4] at h
  | _ :: _, _ :: _, [], _, _, _, h => by simp [zip4] at h
  | _ :: _, _ :: _, _ :: _, [], _, _, h => by simp [zip4] at h
theorem rl_getD {K : PySem.W.Frag} {H : Hp} {vs : List V} {ds : List D} (r : Rl K H vs ds) {i : Nat} {d : D} (h : ds[i]? = some d) : DR K H (vs.getD i .non) d := by
  obtain ⟨v, e1, e2⟩ := r.get h
  rw [List.getD_eq_getElem?_getD, e1]
  exact e2
def wZip4 (w : DA) : DA := fun ρ k => w ρ fun ds ρ1 => ∃ a b c d, ds = [.lst a, .lst b, .lst c, .lst d] ∧ (b.length = a.length ∧ c.length = a.length ∧ d.length = a.length) ∧ k (zip4 a b c d) ρ1
theorem dzip4 (hc : X.calm = true) (hml : X.mg "list" = none) (hmz : X.mg "zip" = none) (ha : PAD X [e1, e2, e3, e4] t w) (hgl : Gl X "list" := by rfl) (hgz : Gl X "zip" := by rfl)
    (hs : starEach [e1, e2, e3, e4] X.env = (false, eval e1 X.env) :: starEach [e2, e3, e4] X.env := by rfl) (hpl : (backTo pos2 (starEach [e2, e3, e4] X.env)).any (·.1) = false := by rfl)
    (hs1 : starEach [.Call (.Name "zip" p2) [e1, e2, e3, e4] [] pos2] X.env = (false, eval (.Call (.Name "zip" p2) [e1, e2, e3, e4] [] pos2) X.env) :: starEach [] X.env := by rfl) :
    PLD X (.Call (.Name "list" p) [.Call (.Name "zip" p2) [e1, e2, e3, e4] [] pos2] [] pos) (K36Z.tZipL X.K t) (wZip4 w) := by
  refine ⟨K36Z.pe_zipL hc hgl hml hgz hmz ha.pe hs hpl hs1, ?_⟩
  intro B Hs H σ ρ k Q r hw hQ
  refine ha.ref B Hs H σ ρ _ _ r hw fun vs Hs1 H1 ds ρ1 s1 r1 d1 q1 => ?_
  obtain ⟨a, b, c, d, rfl, ⟨n2, n3, n4⟩, q⟩ := q1
  obtain ⟨va, ws, rfl, da, d1⟩ := d1.cons_inv
  obtain ⟨vb, ws, rfl, db, d1⟩ := d1.cons_inv
  obtain ⟨vc, ws, rfl, dc, d1⟩ := d1.cons_inv
  obtain ⟨vd, ws, rfl, dd, d1⟩ := d1.cons_inv
  have := d1.nil_inv
  subst this
  obtain ⟨pa, xa, rfl, ha, ga⟩ := da.lst_inv
  obtain ⟨pb, xb, rfl, hb, gb⟩ := db.lst_inv
  obtain ⟨pc, xc, rfl, hc', gc⟩ := dc.lst_inv
  obtain ⟨pd, xd, rfl, hd, gd⟩ := dd.lst_inv
  refine ⟨pa, pb, pc, pd, xa, xb, xc, xd, rfl, SqL.of (r1.same _ _ ha), SqL.of (r1.same _ _ hb), SqL.of (r1.same _ _ hc'), SqL.of (r1.same _ _ hd), ⟨by rw [gb.1, ga.1, n2], by rw [gc.1, ga.1, n3], by rw [gd.1, ga.1, n4]⟩, fun H' p ts f1 f2 f3 f4 f5 f6 f7 f8 => ?_⟩
  -- the settled part: what was, and the tuples
  have sH : Same H1 H' := f1
  have e8 : ∀ (i : Nat) t, ts[i]? = some t → H' t = some (.tup [xa.getD i .non, xb.getD i .non, xc.getD i .non, xd.getD i .non]) := fun i t ht => by
    have hi : i < (K36Z.rows4 xa xb xc xd).length := by rw [K36Z.rows4_len, ← f7]; exact (List.getElem?_eq_some_iff.mp ht).1
    have e := List.getElem?_eq_getElem hi
    rw [← K36Z.rows4_get e]
    exact f8 i t _ ht e
  let Hs2 : Hp := fun b => if b ∈ ts then H' b else Hs1 b
  have in2 : ∀ t ∈ ts, Hs2 t = H' t := fun t ht => if_pos ht
  have off2 : ∀ t, t ∉ ts → Hs2 t = Hs1 t := fun t ht => if_neg ht
  have s2 : Same Hs1 Hs2 := fun b u e => by
    by_cases hb : b ∈ ts
    · have := r1.same _ _ e
      rw [f3 b hb] at this
      cases this
    · rw [off2 b hb]; exact e
  have s3 : Same Hs2 H' := fun b u e => by
    by_cases hb : b ∈ ts
    · rw [in2 b hb] at e; exact e
    · rw [off2 b hb] at e; exact f1 b u (r1.same _ _ e)
  have r2 : Rep X.K B Hs2 H' σ ρ1 := r1.grow s2 s3 sH fun a h1 h2 => by
    have : a ∉ ts := fun z => h2 (f3 a z)
    rw [off2 a this]; exact h1
  have hp2 : Hs2 p = none := by rw [off2 p f4]; exact r1.same.free f2
  refine hQ p (ts.map V.ref) Hs2 H' (zip4 a b c d) ρ1 (s1.trans s2) r2 hp2 (r1.ent.free f2) f6 ⟨?_, fun i v e hv he => ?_⟩ (r1.notOwn f2) q
  · rw [List.length_map, f7, zip4_length n2 n3 n4, ga.1]
  · rw [List.getElem?_map] at hv
    obtain ⟨t, ht, rfl⟩ := Option.map_eq_some_iff.mp hv
    obtain ⟨x, y, z, u, rfl, ex, ey, ez, eu⟩ := zip4_get he
    have h := e8 i t ht
    rw [← in2 t (List.mem_of_getElem? ht)] at h
    exact DR.mk_tup h (Rl.cons (rl_getD (ga.mono s2) ex) (Rl.cons (rl_getD (gb.mono s2) ey) (Rl.cons (rl_getD (gc.mono s2) ez) (Rl.cons (rl_getD (gd.mono s2) eu) Rl.nil))))
end
end K36
set_option Elab.async false
set_option linter.all false
set_option maxRecDepth 100000
set_option maxHeartbeats 4000000
/-! sorted(set(xs)), xs a list of whole numbers or of texts, of any number. -/
namespace K36S
open PySem PySem.Spec PyProof.Rows L2
section
variable {P : Program} {w : World} {A : Around} {E : Value → Shared → Prop} {s : Shared}
theorem update_any {I : Addr} {fp wr : List Addr} {G : Array GenState → Array GenState → Prop} {n : Nat} {Pv : Nat → Value → Prop} {St : Nat → Shared → Prop} {R : Result → Shared → Prop}
    (W : WalksS P w A.in1 I fp wr G n Pv St) (S : Addr) (hSf : S ∉ fp) (T : Heap → Nat → Prop) (keep : ∀ h h' i, T h i → (∀ o, h.get? S = some o → h'.get? S = some o) → T h' i)
    (step : ∀ (A : Around) (s' : Shared) (i : Nat) (v : Value) (Q : Bool → Shared → Prop) (E : Value → Shared → Prop), i < n → Pv i v → T s'.heap i → (∀ h' tk b, s'.toks ≤ tk → Heap.SameBut S s'.heap h' → T h' (i + 1) → Q b { s' with heap := h', toks := tk }) → wpAny (model P w) A (setAdd S v) Q E s') :
    ∀ (k i : Nat) (s : Shared), n - i = k → i ≤ n → St i s → T s.heap i →
      (∀ s', Moved (S :: wr) G s s' → T s'.heap n → R (.ok (.ret .none)) s') →
      codeAny (model P w) A (.builtin "set.update.loop" ⟨[.ref S, .ref I], []⟩) R s := by
  have hSw : S ∉ wr := fun h => hSf (W.sub _ h)
  have hsub : ∀ b ∈ wr, b ∈ S :: wr := fun b hb => List.mem_cons_of_mem _ hb
  intro k
  induction k with
  | zero =>
    intro i s hk' hi hst hS hR
    have hin : i = n := by omega
    subst hin
    refine codeAny_builtin PyProof.Rows.F.entry_set_update_loop ?_
    rw [Around.under_plainId PyProof.Rows.F.plain_set_update_loop _]
    show wpAny _ A.in1 (pyNext (.ref I) >>= _) _ _ s
    refine wpAny_bind (W.done s _ _ hst fun s' hm => ?_)
    show wpAny _ A.in1 (ret Value.none) _ _ s'
    exact wpAny_pure (hR s' (hm.mono hsub) (keep _ _ _ hS fun o e => hm.heap S o hSw e))
  | succ k ih =>
    intro i s hk' hi hst hS hR
    have hlt : i < n := by omega
    refine codeAny_builtin PyProof.Rows.F.entry_set_update_loop ?_
    rw [Around.under_plainId PyProof.Rows.F.plain_set_update_loop _]
    show wpAny _ A.in1 (pyNext (.ref I) >>= _) _ _ s
    refine wpAny_bind (W.item i s _ _ hlt hst fun v s' hP hst' hm => ?_)
    have hS' : T s'.heap i := keep _ _ _ hS fun o e => hm.heap S o hSw e
    show wpAny _ A.in1 (holding [v] (setAdd S v) >>= _) _ _ s'
    refine wpAny_bind (wpAny_holding ?_)
    refine step _ s' i v _ _ hlt hP hS' fun h' tk b htk hsb hS2 => ?_
    refine wpAny_pure ⟨plainId_quiet PyProof.Rows.F.plain_set_update_loop _, ih (i + 1) _ (by omega) hlt (W.frame _ s' _ _ hst' htk fun b hb o e => ?_) hS2 fun s'' hm'' hS'' => ?_⟩
    · rw [hsb.2 b (fun h : b = S => hSf (by rw [← h]; exact hb))]; exact e
    · refine hR s'' (Moved.trans W.gtrans ((hm.mono hsub).then_heap htk fun b o hb e => ?_) hm'') hS''
      rw [hsb.2 b (fun h : b = S => hb (by rw [h]; exact List.mem_cons_self))]; exact e
set_option maxHeartbeats 3200000 in
/-- set(xs), xs a list -/
theorem call_set_any {l : Addr} {items : Array Value} {Q : Value → Shared → Prop} (hh : A.handled = none) (hl : s.heap.IsList l items) (T : Heap → Nat → Prop)
    (h0 : ∀ h : Heap, h.get? s.heap.objs.size = some { cls := .type "set", dict := none, data := .set #[] 0 (.fresh 0 0 (!w.params.followText "set-order")) } → T h 0)
    (keep : ∀ h h' i, T h i → (∀ o, h.get? s.heap.objs.size = some o → h'.get? s.heap.objs.size = some o) → T h' i)
    (step : ∀ (A : Around) (s' : Shared) (i : Nat) (v : Value) (Q : Bool → Shared → Prop) (E : Value → Shared → Prop), i < items.size → items[i]? = some v → T s'.heap i → (∀ h' tk b, s'.toks ≤ tk → Heap.SameBut s.heap.objs.size s'.heap h' → T h' (i + 1) → Q b { s' with heap := h', toks := tk }) → wpAny (model P w) A (setAdd s.heap.objs.size v) Q E s')
    (h : ∀ (h' : Heap) (tk : Nat), T h' items.size → (∀ b o, s.heap.get? b = some o → h'.get? b = some o) → Q (.ref s.heap.objs.size) { s with heap := h', toks := tk }) :
    wpAny (model P w) A (call (.type "set") [.ref l]) Q E s := by
  obtain ⟨c, tl, hmro⟩ := PySem.F.called_set.mro
  have hmade := PySem.F.called_set.made
  have hsub := PySem.F.called_set.sub
  refine wpAny_call (codeAny_of_tree ?_)
  show wpAny _ _ (callAny (.type "set") _) _ _ _
  refine wpAny_pure ⟨Code.quiet_builtin _ (by decide +kernel), codeAny_builtin PySem.F.entry_type_call ?_⟩
  rw [Around.under_plain (weight_type_call_type "set" [.ref l] []) rfl]
  have h1 := PySem.F.called_set.notType
  have h2 := PySem.F.called_set.canCreate
  have hct := PySem.F.typeCall_set_1 (.ref l)
  repeat (any_goals (first | assumption | wp_step))
  refine codeAny_mono (code_set_led1 (.ref l) (E := E) (Q₁ := fun obj s₁ => obj = .ref s.heap.objs.size ∧ s₁ = { s with heap := s.heap.push { cls := .type "set", dict := none, data := .set #[] 0 (.fresh 0 0 (!w.params.followText "set-order")) } }) ⟨rfl, rfl⟩) fun r s₁ hr => ?_
  cases r with
  | error e => exact hr
  | ok fl =>
    cases fl with
    | ret obj =>
      obtain ⟨rfl, rfl⟩ := hr
      have hS : (s.heap.push { cls := .type "set", dict := none, data := .set #[] 0 (.fresh 0 0 (!w.params.followText "set-order")) }).get? s.heap.objs.size = some { cls := .type "set", dict := none, data := .set #[] 0 (.fresh 0 0 (!w.params.followText "set-order")) } := Heap.get?_push_size _ rfl
      have hT : Shared.TypeIs { s with heap := s.heap.push { cls := .type "set", dict := none, data := .set #[] 0 (.fresh 0 0 (!w.params.followText "set-order")) } } (.ref s.heap.objs.size) "set" := ⟨_, hS, rfl⟩
      have hli := PySem.F.called_set.init.lookup
      have hbi := PySem.F.called_set.init.bind (.ref s.heap.objs.size)
      repeat (any_goals (first | assumption | wp_step))
      refine codeAny_mono (codeAny_call_builtin (R := wants (fun r s₂ => r = .none ∧ ∃ h' tk, s₂ = { s with heap := h', toks := tk } ∧ T h' items.size ∧
          (∀ b o, s.heap.get? b = some o → h'.get? b = some o)) E) PySem.F.called_set.init.plain PySem.F.entry_set_init (check_set_init_1 hT ?_)) fun r₂ s₂ hr₂ => ?_
      · obtain ⟨ol, hol, hcl, nl, hdl⟩ := hl
        obtain ⟨ocls, odict, odata, oslots⟩ := ol
        simp only at hcl hdl
        subst hcl; subst hdl
        have hol' : (s.heap.push { cls := .type "set", dict := none, data := .set #[] 0 (.fresh 0 0 (!w.params.followText "set-order")) }).get? l = some { cls := .type "list", dict := odict, data := .seq items nl, slots := oslots } := Heap.get?_push_of_some _ hol
        have hsls := PySem.F.sub_list_set
        have hslf := PySem.F.sub_list_frozenset
        have hne : (Value.type "list" == Value.type "dict") = false := by decide
        have hl1 : (s.heap.push { cls := .type "set", dict := none, data := .set #[] 0 (.fresh 0 0 (!w.params.followText "set-order")) }).IsList l items := ⟨_, hol', rfl, nl, rfl⟩
        unfold Builtin.«set.__init__» noKeywords Builtin.Frozenset.updateFrom
        generalize hPI : pyIter = PI
        wp_walk
        subst hPI
        refine wpAny_pyIter_list hl1 ?_
        refine wpAny_bind (wpAny_runValue ?_)
        have hlS : l < s.heap.objs.size := Heap.lt_size hol
        have hh3 : A.in1.in1.in1.handled = none := by simp [hh]
        have hneI : l ≠ (s.heap.push { cls := .type "set", dict := none, data := .set #[] 0 (.fresh 0 0 (!w.params.followText "set-order")) }).objs.size := by
          rw [Heap.size_push]; exact Nat.ne_of_lt (Nat.lt_succ_of_lt hlS)
        have hSf : s.heap.objs.size ∉ [(s.heap.push { cls := .type "set", dict := none, data := .set #[] 0 (.fresh 0 0 (!w.params.followText "set-order")) }).objs.size, l] := by
          rw [Heap.size_push]; simp only [List.mem_cons, List.mem_singleton, List.not_mem_nil, or_false, not_or]
          exact ⟨Nat.ne_of_lt (Nat.lt_succ_self _), Nat.ne_of_gt hlS⟩
        refine update_any ((Walks.list hh3 _ l hneI items).toS) s.heap.objs.size hSf T keep step (items.size - 0) 0 _ (by omega) (Nat.zero_le _)
          ⟨⟨_, Heap.get?_push_size _ rfl, rfl, rfl⟩, (hl1.push _)⟩ ?hS0 ?hR
        case hS0 => exact h0 _ (Heap.get?_push_of_some _ hS)
        case hR =>
          intro s' hm hS'
          obtain ⟨h', g2, d', tk', os'⟩ := s'
          have eg : g2 = s.gens := hm.gens
          have ed : d' = s.drawn := hm.drawn
          have eo : os' = s.os := hm.os
          subst eg; subst ed; subst eo
          show wpAny _ _ _ _ _ _
          refine wpAny_pure ?_
          show wpAny _ _ (ret Value.none) _ _ _
          refine wpAny_pure ⟨rfl, h', tk', rfl, hS', fun b o e => ?_⟩
          have hb0 : b < s.heap.objs.size := Heap.lt_size e
          have hb1 : b ≠ s.heap.objs.size := Nat.ne_of_lt hb0
          have hb2 : b ≠ (s.heap.push { cls := .type "set", dict := none, data := .set #[] 0 (.fresh 0 0 (!w.params.followText "set-order")) }).objs.size := by
            rw [Heap.size_push]; exact Nat.ne_of_lt (Nat.lt_succ_of_lt hb0)
          exact hm.heap b o (by simp only [List.mem_cons, List.mem_singleton, List.not_mem_nil, or_false, not_or]; exact ⟨hb1, hb2⟩) (Heap.get?_push_of_some _ (Heap.get?_push_of_some _ e))
      · cases r₂ with
        | error e => exact hr₂
        | ok fl₂ =>
          cases fl₂ with
          | ret r =>
            obtain ⟨rfl, h', tk, rfl, hS', hk'⟩ := hr₂
            repeat (any_goals (first | assumption | wp_step))
            exact h _ _ hS' hk'
          | _ => exact hr₂.elim
    | _ => exact hr.elim
/-- .. of whole numbers -/
theorem call_set_listI {l : Addr} {items : Array Value} (ns : List Int) {Q : Value → Shared → Prop} (hh : A.handled = none) (hl : s.heap.IsList l items) (hit : IntsAre items.toList ns) (hb : ns.length + 1 < scanBound)
    (h : ∀ (h' : Heap) (tk c : Nat), SetR w h' s.heap.objs.size (fun j => decide (j ∈ ns)) c → c ≤ ns.length → (∀ b o, s.heap.get? b = some o → h'.get? b = some o) → Q (.ref s.heap.objs.size) { s with heap := h', toks := tk }) :
    wpAny (model P w) A (call (.type "set") [.ref l]) Q E s := by
  have hisz : items.size = ns.length := by
    have q := IntsAre.length hit
    rw [Array.length_toList] at q
    exact q
  refine call_set_any hh hl (fun h i => ∃ c, c ≤ i ∧ SetR w h s.heap.objs.size (fun j => decide (j ∈ ns.take i)) c) (fun h ho => ⟨0, Nat.le_refl 0, setR_new_at ho⟩) (fun h h' i ⟨c, hc, R⟩ k => ⟨c, hc, R.at k⟩)
    (fun A s' i v Q E hi hv ⟨c, hc, R⟩ hQ => ?_) fun h' tk ⟨c, hc, R⟩ hk => ?_
  · have hi' : i < ns.length := by omega
    obtain ⟨t, e⟩ := PyProof.Rows.IntsAre.int_at hit i v (by rw [Array.getElem?_toList]; exact hv)
    rw [List.getD_eq_getElem?_getD, List.getElem?_eq_getElem hi'] at e
    simp only [Option.getD_some] at e
    subst e
    unfold setAdd
    refine wpAny_holding ?_
    refine wpAny_bind ((intKind P w).pyHash (k := ns[i]) (intKind_is _ _ _ _) ?_)
    refine setR_add_hashed (s := { s' with toks := s'.toks + 1 }) R (by omega) fun h' hsb hS2 => ?_
    refine hQ h' _ _ (Nat.le_succ _) hsb ⟨_, ?_, hS2.congr fun j => ?_⟩
    · split <;> omega
    · rw [List.take_add_one, List.getElem?_eq_getElem hi']
      generalize ns[i] = z
      by_cases h1 : j ∈ List.take i ns <;> by_cases h2 : j = z <;> simp only [List.mem_append, Option.toList_some, List.mem_singleton, h1, h2] <;> simp
  · rw [hisz] at hc R
    rw [List.take_length] at R
    exact h h' tk c R hc hk
/-- sorted(s), s a set of whole numbers, any number of them -/
theorem sorted_setI {a : Addr} {S : Int → Bool} {n : Nat} {Q : Value → Shared → Prop} (R : SetR w s.heap a S n) (hh : A.handled = none)
    (hQ : ∀ s' p (out : Array Value) (c : Nat) (ns : List Int), (∀ b o, s.heap.get? b = some o → s'.heap.get? b = some o) → s'.gens = s.gens → s'.os = s.os → s.heap.objs.size ≤ p →
      s'.heap.get? p = some (seqObj "list" out c) → IntsAre out.toList ns → ns.Pairwise (· < ·) → (∀ k, k ∈ ns ↔ S k = true) → ns.length = n → Q (.ref p) s') :
    wpAny (model P w) A (call (.builtin "sorted") [.ref a]) Q E s := by
  obtain ⟨o, es, ep, t, ho, hex, hd, g, nd, hm, hb, hf, hn, hr, hl⟩ := R
  have hb' : n ≤ sizeLine := by rw [← hn]; exact Nat.le_of_lt (Nat.lt_of_lt_of_le hb (by rw [sizeLine_eq]; decide))
  refine Calls.call_function_entry kind_sorted plain_sorted entry_sorted (args_sorted1 _) ?_
  unfold Builtin.«sorted»
  refine wpAny_bind (m := checkCount "sorted" 1 1 _) (wpAny_pure ?_)
  refine wpAny_bind (collect_set (A := A.in1) hh ⟨o, ho, hex.1, hd⟩ hf hb hr hl fun s1 vs k1 hz g1 o1 pm => ?_)
  have hvl : vs.length = n := by rw [pm.length_eq, List.length_map, Array.length_toList]; exact hn
  have hI : IntsAre vs (vs.map Builtin.Re.reRawOf) := ints_of vs fun v hv => by
    obtain ⟨e, he, q⟩ := List.mem_map.mp (pm.mem_iff.mp hv)
    obtain ⟨k, tk, h1, _⟩ := g e he
    exact ⟨k, tk, by rw [← q]; exact h1⟩
  have pk : (vs.map Builtin.Re.reRawOf).Perm (es.toList.map keyOf) := by
    have q := pm.map Builtin.Re.reRawOf
    rw [List.map_map] at q
    exact q
  refine wpAny_bind (wpAny_newList ?_ (by rw [hvl]; exact hb'))
  have hoL : (s1.heap.push (seqObj "list" vs.toArray 0)).get? s1.heap.objs.size = some (seqObj "list" vs.toArray 0) := Heap.get?_push_size _ rfl
  refine wpAny_bind (wpAny_holding (wpAny_call_entry slot_list_sort ⟨_, hoL, rfl⟩ entry_list_sort (list_sort_treeAny hoL hI (by rw [hvl]; exact hb') fun out ns' a1 a2 a3 => ⟨_, rfl, ?_⟩) (args_list_sort _)))
  obtain ⟨c, hc⟩ := sortedHeap_at (vs := vs) (out := out) hoL
  have pn : ns'.Perm (es.toList.map keyOf) := a2.trans pk
  refine wpAny_pure ⟨_, rfl, hQ _ s1.heap.objs.size out c ns' (fun b u e => ?_) g1 o1 hz hc a1 (lt_of_le_nodup ns' a3 (pn.nodup_iff.mpr nd)) (fun k => by rw [pn.mem_iff, ← hm k]) ?_⟩
  · have q := k1 b u e
    have hlt := Heap.lt_size q
    show (sortedHeap (s1.heap.push (seqObj "list" vs.toArray 0)) s1.heap.objs.size vs out).get? b = some u
    rw [sortedHeap_old (Nat.ne_of_lt hlt) (by rw [size_push']; exact Nat.lt_succ_of_lt hlt)]
    exact Heap.get?_push_of_some _ q
  · rw [pn.length_eq, List.length_map, Array.length_toList]; exact hn

/-! ### texts: what is in the set is of L; no more is told -/
def SetW (P : Program) (w : World) (h : Heap) (a : Addr) (L : List Str) (c : Nat) : Prop :=
  ∃ o es ep t, h.get? a = some o ∧ o.ExactSet ∧ o.data = .set es ep t ∧ ElemsOf (PySem.strKind P w) es.toList ∧ (∀ e ∈ es.toList, ∃ k tk, e.2 = Value.str k tk ∧ k ∈ L) ∧
    es.size ≤ c ∧ es.size < scanBound ∧ t.fits es.size = true ∧ Ris t.place.toList ∧ (w.params.followText "set-order" = true ∨ t.led = true)
theorem SetW.at {h h' : Heap} {a : Addr} {L : List Str} {c : Nat} (R : SetW P w h a L c) (k : ∀ o, h.get? a = some o → h'.get? a = some o) : SetW P w h' a L c := by
  obtain ⟨o, es, ep, t, ho, r⟩ := R
  exact ⟨o, es, ep, t, k o ho, r⟩
theorem setW_add_tail {a : Addr} {L : List Str} {g : Bool → Sem Unit} (hg : ∀ (b : Bool) (s₁ : Shared) (Q' : Unit → Shared → Prop), Q' () s₁ → wpAny (model P w) A (g b) Q' E s₁)
    {o : Obj} {es : Array (Int × Value)} {ep : Nat} {t : SetTable} (ho : s.heap.get? a = some o) (hex : o.ExactSet) (hd : o.data = .set es ep t)
    {es1 : Array (Int × Value)} {t2 : SetTable} (el1 : ElemsOf (PySem.strKind P w) es1.toList) (g1 : ∀ e ∈ es1.toList, ∃ k tk, e.2 = Value.str k tk ∧ k ∈ L)
    (hb1 : es1.size < scanBound) (hf2 : t2.fits es1.size = true) (hr : Ris t2.place.toList) (hl : w.params.followText "set-order" = true ∨ t2.led = true) {wasDummy : Bool} {R : Option Bool → Shared → Prop}
    (hR : ∀ h', Heap.SameBut a s.heap h' → SetW P w h' a L es1.size → R (some true) { s with heap := h' }) :
    wpAny (model P w) A (do
        storeSet a es1 t2
        if (!wasDummy && t2.tooFull) = true then do
            g (relayAll t2 es1 (SetTable.grown es1.size)).2.2
            storeSet a (relayAll t2 es1 (SetTable.grown es1.size)).1 (relayAll t2 es1 (SetTable.grown es1.size)).2.1
            pure (some true)
          else pure (some true)) R E s := by
  refine wpAny_bind (wpAny_storeSet_of ho hd ?_ (fits_of_scanBound hb1))
  have ho1 := store_at (es' := es1) (t' := t2) ho hd
  have sb1 := Heap.SameBut.update s.heap a (Obj.putSet es1 t2)
  split
  · have pm := relayAll_perm t2 es1 (SetTable.grown es1.size)
    have hf3 := relayAll_fits t2 es1 (SetTable.grown es1.size)
    have hr3 := relayAll_ris t2 es1 (SetTable.grown es1.size)
    have hl3 := relayAll_led t2 es1 (SetTable.grown es1.size)
    generalize relayAll t2 es1 (SetTable.grown es1.size) = Z at pm hf3 hr3 hl3 ⊢
    obtain ⟨es2, t3, gave⟩ := Z
    dsimp only at pm hf3 hr3 hl3 ⊢
    have hsz : es2.size = es1.size := by rw [← Array.length_toList, pm.length_eq, Array.length_toList]
    have hb2 : es2.size < scanBound := by rw [hsz]; exact hb1
    refine wpAny_bind (hg _ _ _ ?_)
    refine wpAny_bind (wpAny_storeSet_of ho1 rfl ?_ (fits_of_scanBound hb2))
    have ho2 := store_at (es' := es2) (t' := t3) ho1 rfl
    refine wpAny_pure (hR _ (sb1.trans (Heap.SameBut.update _ a _)) ?_)
    exact ⟨_, es2, _, t3, ho2, hex, rfl, fun e he => el1 e (pm.mem_iff.mp he), fun e he => g1 e (pm.mem_iff.mp he), Nat.le_of_eq hsz, hb2, hf3, hr3,
      hl.imp id fun z => by rw [hl3]; exact z⟩
  · exact wpAny_pure (hR _ sb1 ⟨_, es1, _, t2, ho1, hex, rfl, el1, g1, Nat.le_refl _, hb1, hf2, hr, hl⟩)
theorem SetW.le {h : Heap} {a : Addr} {L : List Str} {c c' : Nat} (R : SetW P w h a L c) (hc : c ≤ c') : SetW P w h a L c' := by
  obtain ⟨o, es, ep, t, ho, hx, hd, el, g, n, r⟩ := R
  exact ⟨o, es, ep, t, ho, hx, hd, el, g, Nat.le_trans n hc, r⟩
theorem setW_add {a : Addr} {L : List Str} {c : Nat} {k : Str} {tk : Tok} {Q : Bool → Shared → Prop} (R : SetW P w s.heap a L c) (hk : k ∈ L) (room : c + 1 < scanBound)
    (hQ : ∀ h' b, Heap.SameBut a s.heap h' → SetW P w h' a L (c + 1) → Q b { s with heap := h' }) :
    wpAny (model P w) A (setAddHashed a (.str k tk) ((PySem.strKind P w).hash k)) Q E s := by
  obtain ⟨o, es, ep, t, ho, hex, hd, hel, g, hn, hb, hf, hr, hl⟩ := R
  have hkey : (PySem.strKind P w).is k (.str k tk) = true := strKind_is P w k tk
  have hsc : (Value.str k tk).scannable = true := rfl
  unfold setAddHashed setAddHashedIn
  refine wpAny_holding (wpAny_bind (wpAny_setState_of ho hd hf ?_))
  dsimp only
  rw [byScan_of hsc hb hel]
  simp only [↓reduceIte]
  unfold setAddByScan
  refine wpAny_bind ?_
  refine wpAny_bind (wpAny_rule ?_)
  refine wpAny_bind (wpAny_setScan_of hkey ho hd hf hel ?_)
  cases hfi : List.findIdx? (fun e => (PySem.strKind P w).is k e.2) es.toList with
  | some j =>
    dsimp only
    refine wpAny_pure (wpAny_pure ?_)
    exact hQ s.heap _ (Heap.SameBut.refl a s.heap) ⟨o, es, ep, t, ho, hex, hd, hel, g, by omega, hb, hf, hr, hl⟩
  | none =>
    dsimp only
    have hgw : ∀ (b : Bool) {s₁ : Shared} {Q' : Unit → Shared → Prop}, Q' () s₁ → wpAny (model P w) A (match b with | true => rule "set.scan.the-table-gave-way" | false => pure ()) Q' E s₁ :=
      fun b s₁ Q' q => by cases b <;> first | exact wpAny_pure q | exact wpAny_rule q
    have pm := layNew_perm t es ((PySem.strKind P w).hash k) (.str k tk)
    have hf1 := layNew_fits t es ((PySem.strKind P w).hash k) (.str k tk)
    have hr1 := layNew_ris t es ((PySem.strKind P w).hash k) (.str k tk) hr
    have hl1 := layNew_led t es ((PySem.strKind P w).hash k) (.str k tk)
    generalize layNew t es ((PySem.strKind P w).hash k) (.str k tk) = Z at pm hf1 hr1 hl1 ⊢
    obtain ⟨es1, t1, wasDummy, gave⟩ := Z
    dsimp only at pm hf1 hr1 hl1 ⊢
    rw [Array.toList_push] at pm
    have pc : es1.toList.Perm (((PySem.strKind P w).hash k, Value.str k tk) :: es.toList) := pm.trans (List.perm_append_singleton _ _)
    have el1 : ElemsOf (PySem.strKind P w) es1.toList := fun e he => by
      rcases List.mem_cons.mp (pc.mem_iff.mp he) with z | z
      · rw [z]; exact ⟨⟨k, hkey, rfl⟩, hsc⟩
      · exact hel e z
    have g1 : ∀ e ∈ es1.toList, ∃ k tk, e.2 = Value.str k tk ∧ k ∈ L := fun e he => by
      rcases List.mem_cons.mp (pc.mem_iff.mp he) with z | z
      · rw [z]; exact ⟨k, tk, rfl, hk⟩
      · exact g e z
    have hsz : es1.size = es.size + 1 := by rw [← Array.length_toList, pc.length_eq, List.length_cons, Array.length_toList]
    have hb1 : es1.size < scanBound := by rw [hsz]; omega
    have hled : w.params.followText "set-order" = true ∨ t1.led = true := hl.imp id fun z => by rw [hl1]; exact z
    have fin : ∀ h', Heap.SameBut a s.heap h' → SetW P w h' a L es1.size → Q true { s with heap := h' } := fun h' sb r => hQ h' _ sb (r.le (by omega))
    refine wpAny_bind (hgw _ ?_)
    split
    · refine wpAny_bind ?_
      rw [hashByValue_scannable 8 hsc]
      refine wpAny_pure ?_
      refine setW_add_tail ?_ ho hex hd el1 g1 hb1 ?_ ?_ ?_ ?_
      · intro b s₁ Q' q; cases b <;> first | exact wpAny_pure q | exact wpAny_rule q
      · first | (split <;> first | exact hf1 | exact SetTable.fits_plain_off hf1) | exact hf1
      · first | (split <;> exact hr1) | exact hr1
      · first | (split <;> exact hled) | exact hled
      · intro h' sb r; dsimp only; exact wpAny_pure (fin h' sb r)
    · refine wpAny_bind (wpAny_pure ?_)
      simp only [↓reduceIte]
      refine setW_add_tail ?_ ho hex hd el1 g1 hb1 hf1 hr1 hled ?_
      · intro b s₁ Q' q; cases b <;> first | exact wpAny_pure q | exact wpAny_rule q
      · intro h' sb r; dsimp only; exact wpAny_pure (fin h' sb r)
/-- set(xs), xs a list of texts -/
theorem call_set_listW {l : Addr} {items : Array Value} (ss : List Str) {Q : Value → Shared → Prop} (hh : A.handled = none) (hl : s.heap.IsList l items) (hit : StrsAre items.toList ss) (hb : ss.length + 1 < scanBound)
    (h : ∀ (h' : Heap) (tk : Nat), SetW P w h' s.heap.objs.size ss ss.length → (∀ b o, s.heap.get? b = some o → h'.get? b = some o) → Q (.ref s.heap.objs.size) { s with heap := h', toks := tk }) :
    wpAny (model P w) A (call (.type "set") [.ref l]) Q E s := by
  have hisz : items.size = ss.length := by
    have q := StrsAre.length hit
    rw [Array.length_toList] at q
    exact q
  refine call_set_any hh hl (fun h i => SetW P w h s.heap.objs.size ss i) (fun h ho => ?_) (fun h h' i R k => R.at k)
    (fun A s' i v Q E hi hv R hQ => ?_) fun h' tk R hk => ?_
  · refine ⟨_, #[], 0, _, ho, ⟨rfl, rfl, rfl⟩, rfl, (fun e he => by simp at he), (fun e he => by simp at he), (by simp), (by decide), (by rfl), List.Pairwise.nil, ?_⟩
    show _ ∨ (!w.params.followText "set-order") = true
    cases w.params.followText "set-order"
    · exact .inr rfl
    · exact .inl rfl
  · have hi' : i < ss.length := by omega
    have hv' : items.toList[i]? = some v := by rw [Array.getElem?_toList]; exact hv
    obtain ⟨t, e⟩ : ∃ t, v = Value.str ss[i] t := by
      obtain ⟨t, ht⟩ := hit.get i _ (List.getElem?_eq_getElem hi')
      rw [hv'] at ht
      exact ⟨t, Option.some.inj ht⟩
    subst e
    unfold setAdd
    refine wpAny_holding ?_
    refine wpAny_bind ((PySem.strKind P w).pyHash (k := ss[i]) (strKind_is _ _ _ _) ?_)
    exact setW_add (s := { s' with toks := s'.toks + 1 }) R (List.getElem_mem hi') (by omega) fun h' b hsb hS2 => hQ h' _ _ (Nat.le_succ _) hsb hS2
  · rw [hisz] at R
    exact h h' tk R hk
theorem strs_of {L : List Str} : ∀ (l : List Value), (∀ v ∈ l, ∃ k tk, v = Value.str k tk ∧ k ∈ L) → ∃ ss : List Str, StrsAre l ss ∧ ∀ x ∈ ss, x ∈ L
  | [], _ => ⟨[], .nil, fun x hx => by simp at hx⟩
  | v :: l, h => by
    obtain ⟨k, tk, rfl, hk⟩ := h v List.mem_cons_self
    obtain ⟨ss, h1, h2⟩ := strs_of l fun u hu => h u (List.mem_cons_of_mem _ hu)
    refine ⟨k :: ss, .cons k tk h1, fun x hx => ?_⟩
    rcases List.mem_cons.mp hx with e | e
    · rw [e]; exact hk
    · exact h2 x e
/-- sorted(s), s a set of texts -/
theorem sorted_setW {a : Addr} {L : List Str} {n : Nat} {Q : Value → Shared → Prop} (R : SetW P w s.heap a L n) (hh : A.handled = none)
    (hQ : ∀ s' p (out : Array Value) (c : Nat) (ss : List Str), (∀ b o, s.heap.get? b = some o → s'.heap.get? b = some o) → s'.gens = s.gens → s'.os = s.os → s.heap.objs.size ≤ p →
      s'.heap.get? p = some (seqObj "list" out c) → StrsAre out.toList ss → (∀ k ∈ ss, k ∈ L) → ss.length ≤ n → ss.length ≤ sizeLine → Q (.ref p) s') :
    wpAny (model P w) A (call (.builtin "sorted") [.ref a]) Q E s := by
  obtain ⟨o, es, ep, t, ho, hex, hd, el, g, hn, hb, hf, hr, hl⟩ := R
  have hb' : es.size ≤ sizeLine := Nat.le_of_lt (Nat.lt_of_lt_of_le hb (by rw [sizeLine_eq]; decide))
  refine Calls.call_function_entry kind_sorted plain_sorted entry_sorted (args_sorted1 _) ?_
  unfold Builtin.«sorted»
  refine wpAny_bind (m := checkCount "sorted" 1 1 _) (wpAny_pure ?_)
  refine wpAny_bind (collect_set (A := A.in1) hh ⟨o, ho, hex.1, hd⟩ hf hb hr hl fun s1 vs k1 hz g1 o1 pm => ?_)
  have hvl : vs.length = es.size := by rw [pm.length_eq, List.length_map, Array.length_toList]
  obtain ⟨ss, hI, hL⟩ := strs_of (L := L) vs fun v hv => by
    obtain ⟨e, he, q⟩ := List.mem_map.mp (pm.mem_iff.mp hv)
    obtain ⟨k, tk, h1, h2⟩ := g e he
    exact ⟨k, tk, by rw [← q]; exact h1, h2⟩
  refine wpAny_bind (wpAny_newList ?_ (by rw [hvl]; exact hb'))
  have hoL : (s1.heap.push (seqObj "list" vs.toArray 0)).get? s1.heap.objs.size = some (seqObj "list" vs.toArray 0) := Heap.get?_push_size _ rfl
  refine wpAny_bind (wpAny_holding (wpAny_call_entry slot_list_sort ⟨_, hoL, rfl⟩ entry_list_sort (list_sort_treeKAny strKind_oneLt hoL hI.keysOf (fun v₁ v₂ rest e => keyKind_strs (by rw [← e]; exact hI)) (by rw [hvl]; exact hb') fun st' hp hs => ⟨_, rfl, ?_⟩) (args_list_sort _)))
  obtain ⟨ss', a1, a2, a3⟩ := sorted_out_str hI hp hs
  obtain ⟨c, hc⟩ := sortedHeap_at (vs := vs) (out := (arrOf st').map (·.2)) hoL
  refine wpAny_pure ⟨_, rfl, hQ _ s1.heap.objs.size _ c ss' (fun b u e => ?_) g1 o1 hz hc a1 (fun k hk => hL k (a2.mem_iff.mp hk)) ?_ ?_⟩
  · have q := k1 b u e
    have hlt := Heap.lt_size q
    show (sortedHeap (s1.heap.push (seqObj "list" vs.toArray 0)) s1.heap.objs.size vs _).get? b = some u
    rw [sortedHeap_old (Nat.ne_of_lt hlt) (by rw [size_push']; exact Nat.lt_succ_of_lt hlt)]
    exact Heap.get?_push_of_some _ q
  · have := StrsAre.length hI
    rw [a2.length_eq]
    omega
  · have := StrsAre.length hI
    rw [a2.length_eq]
    omega
end
end K36S
set_option Elab.async false
set_option linter.all false
set_option maxRecDepth 100000
set_option maxHeartbeats 4000000
namespace K36
open PySem PySem.Spec PyProof.Rows L2 K36S
def SetWO (P : Program) (w : World) (a : Addr) (L : List PySem.Str) (n : Nat) : HO := .ext fun h => SetW P w h a L n
theorem setWO_new {w : World} {P : Program} {H : Hp} {h : Heap} {a : Addr} {L : List PySem.Str} {n : Nat} (R : SetW P w h a L n) : ObjOk P w H h a (SetWO P w a L n) := by
  have ⟨o, _, _, _, ho, _⟩ := R
  exact ⟨R, ⟨o, ho⟩, fun h1 h2 p k => SetW.at p k⟩
section
variable {X : Cx}
def rSetI (K : PySem.W.Frag) (w : World) : List V → Hp → VK → Prop := fun vs H Q => ∃ (a : Addr) (ns : List Int), vs = [V.ref a] ∧ SqL K H a (ns.map V.int) ∧ ns.length < 4000 ∧
  ∀ p c, c ≤ ns.length → H p = none → Q (.ref p) (upd H p (SetO w p (fun j => decide (j ∈ ns)) c))
theorem cr_setI (hc : X.calm = true) : CallR X (.type "set") (rSetI X.K X.w) := by
  intro pins s σ H vs us Q I r h
  obtain ⟨a, ns, rfl, hs, hl, q⟩ := h
  obtain ⟨its, rv, pl, hz⟩ := I.list hs
  rw [Vals.ref1 r]
  refine call_set_listI ns (I.ok.hd hc) pl.isList (by simpa using rv.ints) (by unfold scanBound; omega) fun h' tk c R hcl hk => ?_
  exact ⟨.ref _, upd H s.heap.objs.size (SetO X.w s.heap.objs.size _ c), I.laid (t' := tk) hk (Nat.le_refl _) (setO_new R), rfl, q _ c hcl (I.hok.fresh (Nat.le_refl _))⟩
def rSortedI (w : World) : List V → Hp → VK → Prop := fun vs H Q => ∃ (a : Addr) (S : Int → Bool) (n : Nat), vs = [V.ref a] ∧ H a = some (SetO w a S n) ∧
  ∀ (ns : List Int) (p : Addr), ns.Pairwise (· < ·) → (∀ k : Int, k ∈ ns ↔ S k = true) → ns.length = n → H p = none → Q (.ref p) (upd H p (.lst (ns.map V.int)))
theorem cr_sortedI (hc : X.calm = true) : CallR X (.builtin "sorted") (rSortedI X.w) := by
  intro pins s σ H vs us Q I r h
  obtain ⟨a, S, n, rfl, ha, q⟩ := h
  have R := setO_get I ha
  have hn : n ≤ sizeLine := by
    obtain ⟨o, es, ep, t, ho, hx, hd, g, nd, hm, hb, hf, hn, _⟩ := R
    rw [← hn]; exact Nat.le_of_lt (Nat.lt_of_lt_of_le hb (by rw [sizeLine_eq]; decide))
  rw [Vals.ref1 r]
  refine sorted_setI R (I.ok.hd hc) fun s' p out c ns k g o hp hg hi hs hm hl => ?_
  have hlen : (ns.map V.int).length ≤ sizeLine := by rw [List.length_map, hl]; exact hn
  have hn : H p = none := I.hok.fresh hp
  have J : Inv X pins σ (upd H p (.lst (ns.map V.int))) { s with heap := s'.heap, gens := s'.gens, drawn := s'.drawn, toks := s'.toks } :=
    I.call (ch := []) (Un.laid k hp hn) (I.hok.laid k hp ⟨hlen, out.toList, c, vals_of_ints hi, hg⟩) (by rw [g]; exact I.bare) (fun _ z => nomatch z)
  have e : s' = { s with heap := s'.heap, gens := s'.gens, drawn := s'.drawn, toks := s'.toks } := by
    cases s'
    cases s
    cases o
    rfl
  rw [e]
  exact ⟨.ref p, _, J, rfl, q ns p hs hm hl hn⟩
theorem vals_of_strs : ∀ {us : List Value} {ss : List PySem.Str}, StrsAre us ss → Vals (ss.map V.str) us
  | _, _, .nil => .nil
  | _, _, .cons x t r => .cons ⟨t, rfl⟩ (vals_of_strs r)
theorem strs_of_vals : ∀ {us : List Value} {ss : List PySem.Str}, Vals (ss.map V.str) us → StrsAre us ss
  | us, [], h => by cases h; exact .nil
  | us, x :: ss, h => by
    cases h with
    | cons r rr =>
      obtain ⟨t, rfl⟩ := r
      exact .cons x t (strs_of_vals rr)
def rSetS (K : PySem.W.Frag) (P : Program) (w : World) : List V → Hp → VK → Prop := fun vs H Q => ∃ (a : Addr) (ss : List PySem.Str), vs = [V.ref a] ∧ SqL K H a (ss.map V.str) ∧ ss.length < 4000 ∧
  ∀ p, H p = none → Q (.ref p) (upd H p (SetWO P w p ss ss.length))
theorem cr_setS (hc : X.calm = true) : CallR X (.type "set") (rSetS X.K X.prog X.w) := by
  intro pins s σ H vs us Q I r h
  obtain ⟨a, ss, rfl, hs, hl, q⟩ := h
  obtain ⟨its, rv, pl, hz⟩ := I.list hs
  rw [Vals.ref1 r]
  refine call_set_listW ss (I.ok.hd hc) pl.isList (by simpa using strs_of_vals rv) (by unfold scanBound; omega) fun h' tk R hk => ?_
  exact ⟨.ref _, upd H s.heap.objs.size (SetWO X.prog X.w s.heap.objs.size ss ss.length), I.laid (t' := tk) hk (Nat.le_refl _) (setWO_new R), rfl, q _ (I.hok.fresh (Nat.le_refl _))⟩
def rSortedW (P : Program) (w : World) : List V → Hp → VK → Prop := fun vs H Q => ∃ (a : Addr) (L : List PySem.Str) (n : Nat), vs = [V.ref a] ∧ H a = some (SetWO P w a L n) ∧
  ∀ (ss : List PySem.Str) (p : Addr), (∀ k ∈ ss, k ∈ L) → ss.length ≤ n → H p = none → Q (.ref p) (upd H p (.lst (ss.map V.str)))
theorem cr_sortedW (hc : X.calm = true) : CallR X (.builtin "sorted") (rSortedW X.prog X.w) := by
  intro pins s σ H vs us Q I r h
  obtain ⟨a, L, n, rfl, ha, q⟩ := h
  have R : SetW X.prog X.w s.heap a L n := (I.hok a _ ha).1
  rw [Vals.ref1 r]
  refine sorted_setW R (I.ok.hd hc) fun s' p out c ss k g o hp hg hi hm hl hn => ?_
  have hlen : (ss.map V.str).length ≤ sizeLine := by rw [List.length_map]; exact hn
  have hn : H p = none := I.hok.fresh hp
  have J : Inv X pins σ (upd H p (.lst (ss.map V.str))) { s with heap := s'.heap, gens := s'.gens, drawn := s'.drawn, toks := s'.toks } :=
    I.call (ch := []) (Un.laid k hp hn) (I.hok.laid k hp ⟨hlen, out.toList, c, vals_of_strs hi, hg⟩) (by rw [g]; exact I.bare) (fun _ z => nomatch z)
  have e : s' = { s with heap := s'.heap, gens := s'.gens, drawn := s'.drawn, toks := s'.toks } := by
    cases s'
    cases s
    cases o
    rfl
  rw [e]
  exact ⟨.ref p, _, J, rfl, q ss p hm hl hn⟩
end
section
variable {X : Cx} {a : Expr} {ta : TE} {wa : DE} {p p2 pos pos2 : Pos}
/-- sorted(set(a)), a a list of whole numbers: the new list -/
def tSortedSet (w : World) (K : PySem.W.Frag) (ta : TE) : TE := tCB (rSortedI w) (tCons (tCB (rSetI K w) (tCons ta tNil)) tNil)
def wSortedSet (wa : DE) : DA := fun ρ k => wa ρ fun d ρ1 => ∃ ns : List Int, d = .lst (ns.map D.int) ∧ ns.length < 4000 ∧ ∀ ms : List Int, ms.Pairwise (· < ·) → (∀ z, z ∈ ms ↔ z ∈ ns) → ms.length ≤ ns.length → k (ms.map D.int) ρ1
theorem dsortedSet (hc : X.calm = true) (hms : X.mg "sorted" = none) (hmt : X.mg "set" = none) (ha : PED X a ta wa) (hgs : Gl X "sorted" := by rfl) (hgt : Gl X "set" := by rfl) (hs : starEach [a] X.env = (false, eval a X.env) :: starEach [] X.env := by rfl)
    (hs2 : starEach [.Call (.Name "set" p2) [a] [] pos2] X.env = (false, eval (.Call (.Name "set" p2) [a] [] pos2) X.env) :: starEach [] X.env := by rfl) :
    PLD X (.Call (.Name "sorted" p) [.Call (.Name "set" p2) [a] [] pos2] [] pos) (tSortedSet X.w X.K ta) (wSortedSet wa) := by
  refine ⟨pe_callB (cr_sortedI hc) hgs hms (by decide +kernel) (pa_cons (pe_callTy (cr_setI hc) hgt hmt (by decide +kernel) (pa_cons ha.pe pa_nil hs) (by decide) (by decide) hs rfl) pa_nil hs2) (by decide) (by decide) hs2 rfl, ?_⟩
  intro B Hs H σ ρ k Q r hw hQ
  refine ha.ref B Hs H σ ρ _ _ r hw fun v Hs1 H1 d ρ1 s1 r1 d1 q1 => ?_
  obtain ⟨ns, rfl, hl, q⟩ := q1
  obtain ⟨b, vs, rfl, hb, g⟩ := d1.lst_inv
  have e := g.ints
  subst e
  refine ⟨b, ns, rfl, SqL.of (r1.same _ _ hb), hl, fun S c hc' hS => ⟨S, _, c, rfl, upd_same, fun ms p h1 h2 h3 hp => ?_⟩⟩
  obtain ⟨s2, r2⟩ := r1.new (o := SetO X.w S (fun j => decide (j ∈ ns)) c) hS
  exact ref_new r2 (Rl.of_ints (ns := ms)) (q ms h1 (fun z => by rw [h2 z]; simp) (by omega)) (fun p vs Hs' H' ds ρ' s' => hQ p vs Hs' H' ds ρ' ((s1.trans s2).trans s')) p hp
/-- .. of texts -/
def tSortedSetW (P : Program) (w : World) (K : PySem.W.Frag) (ta : TE) : TE := tCB (rSortedW P w) (tCons (tCB (rSetS K P w) (tCons ta tNil)) tNil)
def wSortedSetW (wa : DE) : DA := fun ρ k => wa ρ fun d ρ1 => ∃ ns : List PySem.Str, d = .lst (ns.map D.str) ∧ ns.length < 4000 ∧ ∀ ms : List PySem.Str, (∀ z ∈ ms, z ∈ ns) → ms.length ≤ ns.length → k (ms.map D.str) ρ1
theorem dsortedSetW (hc : X.calm = true) (hms : X.mg "sorted" = none) (hmt : X.mg "set" = none) (ha : PED X a ta wa) (hgs : Gl X "sorted" := by rfl) (hgt : Gl X "set" := by rfl) (hs : starEach [a] X.env = (false, eval a X.env) :: starEach [] X.env := by rfl)
    (hs2 : starEach [.Call (.Name "set" p2) [a] [] pos2] X.env = (false, eval (.Call (.Name "set" p2) [a] [] pos2) X.env) :: starEach [] X.env := by rfl) :
    PLD X (.Call (.Name "sorted" p) [.Call (.Name "set" p2) [a] [] pos2] [] pos) (tSortedSetW X.prog X.w X.K ta) (wSortedSetW wa) := by
  refine ⟨pe_callB (cr_sortedW hc) hgs hms (by decide +kernel) (pa_cons (pe_callTy (cr_setS hc) hgt hmt (by decide +kernel) (pa_cons ha.pe pa_nil hs) (by decide) (by decide) hs rfl) pa_nil hs2) (by decide) (by decide) hs2 rfl, ?_⟩
  intro B Hs H σ ρ k Q r hw hQ
  refine ha.ref B Hs H σ ρ _ _ r hw fun v Hs1 H1 d ρ1 s1 r1 d1 q1 => ?_
  obtain ⟨ns, rfl, hl, q⟩ := q1
  obtain ⟨b, vs, rfl, hb, g⟩ := d1.lst_inv
  have e := g.strs
  subst e
  refine ⟨b, ns, rfl, SqL.of (r1.same _ _ hb), hl, fun S hS => ⟨S, _, _, rfl, upd_same, fun ms p h1 h2 hp => ?_⟩⟩
  obtain ⟨s2, r2⟩ := r1.new (o := SetWO X.prog X.w S ns ns.length) hS
  exact ref_new r2 (Rl.of_strs (ns := ms)) (q ms h1 h2) (fun p vs Hs' H' ds ρ' s' => hQ p vs Hs' H' ds ρ' ((s1.trans s2).trans s')) p hp
end
end K36
set_option Elab.async false
set_option linter.all false
set_option maxRecDepth 100000
set_option maxHeartbeats 4000000
namespace K36
open PySem PySem.Spec PyProof.Rows L2
def top (i : Nat) : Stmt := PySem.Challenge.pw_offerhouse_k36_whole_cost_and_form.main.body.getD i (.Pass ⟨0, 0, 0, 0⟩)
abbrev sDown : Stmt := top 6
abbrev sUp : Stmt := top 7
abbrev sLineAt : Stmt := top 8
abbrev sNoDearer : Stmt := top 9
abbrev sLowerLine : Stmt := top 10
abbrev sDrawnOn : Stmt := top 12
abbrev sJoins : Stmt := top 13
abbrev sBegun : Stmt := top 14
abbrev sLaid : Stmt := top 15
abbrev sCostAt : Stmt := top 16
abbrev sClipped : Stmt := top 18
abbrev sPlus : Stmt := top 19
abbrev sRaised : Stmt := top 20
abbrev sWithin : Stmt := top 21
abbrev sWithout : Stmt := top 22
abbrev sFreed : Stmt := top 23
abbrev sLinesOver : Stmt := top 25
abbrev sSideBySide : Stmt := top 26
abbrev sLeast : Stmt := top 27
abbrev sGreatest : Stmt := top 28
abbrev sAtLeast : Stmt := top 29
abbrev sLawAt : Stmt := top 49
abbrev sLawMix : Stmt := top 50
abbrev sLawPrice : Stmt := top 51
abbrev sLawRows : Stmt := top 52
abbrev sLawLeaf : Stmt := top 53
abbrev sLawForm : Stmt := top 54
abbrev sLawForms : Stmt := top 55
abbrev sLawFolded : Stmt := top 56
abbrev sLawTurned : Stmt := top 57
abbrev sLawTree : Stmt := top 58
abbrev sLawRule : Stmt := top 59
abbrev sLawEnds : Stmt := top 60
abbrev sLawAmounts : Stmt := top 61
abbrev sLawSame : Stmt := top 62
abbrev sLawIsForm : Stmt := top 63
abbrev sLawApart : Stmt := top 64
abbrev sLawCostIn : Stmt := top 65
abbrev sLawFormOrNone : Stmt := top 66
abbrev sLawHasRoomy : Stmt := top 67
abbrev sLawAgree : Stmt := top 68
abbrev sLaw : Stmt := top 69
abbrev sRule_inner : Stmt := inClass (top 32) 0
abbrev sRule_ownnames : Stmt := inClass (top 32) 1
abbrev sRule_names : Stmt := inClass (top 32) 2
abbrev sRule_lookat : Stmt := inClass (top 32) 3
abbrev sEach_priced : Stmt := inClass (top 33) 1
abbrev sEach_drawn : Stmt := inClass (top 33) 2
abbrev sRule_made : Stmt := inClass (top 32) 6
abbrev sRule_cost : Stmt := inClass (top 32) 7
abbrev sRule_form : Stmt := inClass (top 32) 8
abbrev sEach_init : Stmt := inClass (top 33) 0
abbrev sFlat_priced : Stmt := inClass (top 34) 1
abbrev sFlat_drawn : Stmt := inClass (top 34) 2
abbrev sFlat_init : Stmt := inClass (top 34) 0
abbrev sBands_priced : Stmt := inClass (top 35) 1
abbrev sBands_drawn : Stmt := inClass (top 35) 2
abbrev sBands_init : Stmt := inClass (top 35) 0
abbrev sSteps_priced : Stmt := inClass (top 36) 1
abbrev sSteps_drawn : Stmt := inClass (top 36) 2
abbrev sSteps_init : Stmt := inClass (top 36) 0
abbrev sBlocks_priced : Stmt := inClass (top 37) 1
abbrev sBlocks_drawn : Stmt := inClass (top 37) 2
abbrev sBlocks_init : Stmt := inClass (top 37) 0
abbrev sNamed_ownnames : Stmt := inClass (top 38) 1
abbrev sNamed_priced : Stmt := inClass (top 38) 2
abbrev sNamed_drawn : Stmt := inClass (top 38) 3
abbrev sNamed_init : Stmt := inClass (top 38) 0
abbrev sPair_inner : Stmt := inClass (top 39) 1
abbrev sSum_priced : Stmt := inClass (top 40) 1
abbrev sSum_drawn : Stmt := inClass (top 40) 2
abbrev sPair_init : Stmt := inClass (top 39) 0
abbrev sCheaper_priced : Stmt := inClass (top 41) 1
abbrev sCheaper_drawn : Stmt := inClass (top 41) 2
abbrev sDearer_priced : Stmt := inClass (top 42) 1
abbrev sDearer_drawn : Stmt := inClass (top 42) 2
abbrev sTurned_inner : Stmt := inClass (top 43) 0
abbrev sOnly_priced : Stmt := inClass (top 44) 2
abbrev sOnly_drawn : Stmt := inClass (top 44) 3
abbrev sOnly_init : Stmt := inClass (top 44) 0
abbrev sAfter_priced : Stmt := inClass (top 45) 2
abbrev sAfter_drawn : Stmt := inClass (top 45) 3
abbrev sAfter_init : Stmt := inClass (top 45) 0
abbrev sRoomy_priced : Stmt := inClass (top 46) 2
abbrev sRoomy_drawn : Stmt := inClass (top 46) 3
abbrev sRoomy_init : Stmt := inClass (top 46) 0
abbrev sFee_priced : Stmt := inClass (top 47) 2
abbrev sFee_drawn : Stmt := inClass (top 47) 3
abbrev sFee_init : Stmt := inClass (top 47) 0
inductive Kd where
  | each
  | flat
  | bands
  | steps
  | blocks
  | named
  | sum
  | cheaper
  | dearer
  | only
  | after
  | roomy
  | fee
  deriving DecidableEq
inductive Mt where
  | inner
  | own_names
  | names
  | look_at
  | priced
  | drawn
  | made
  | cost
  | form
  deriving DecidableEq
def mnm : Mt → PySem.Str
  | .inner => "inner"
  | .own_names => "own_names"
  | .names => "names"
  | .look_at => "look_at"
  | .priced => "priced"
  | .drawn => "drawn"
  | .made => "made"
  | .cost => "cost"
  | .form => "form"
def stm : Kd → Mt → Stmt
  | .each, .inner => sRule_inner
  | .each, .own_names => sRule_ownnames
  | .each, .names => sRule_names
  | .each, .look_at => sRule_lookat
  | .each, .priced => sEach_priced
  | .each, .drawn => sEach_drawn
  | .each, .made => sRule_made
  | .each, .cost => sRule_cost
  | .each, .form => sRule_form
  | .flat, .inner => sRule_inner
  | .flat, .own_names => sRule_ownnames
  | .flat, .names => sRule_names
  | .flat, .look_at => sRule_lookat
  | .flat, .priced => sFlat_priced
  | .flat, .drawn => sFlat_drawn
  | .flat, .made => sRule_made
  | .flat, .cost => sRule_cost
  | .flat, .form => sRule_form
  | .bands, .inner => sRule_inner
  | .bands, .own_names => sRule_ownnames
  | .bands, .names => sRule_names
  | .bands, .look_at => sRule_lookat
  | .bands, .priced => sBands_priced
  | .bands, .drawn => sBands_drawn
  | .bands, .made => sRule_made
  | .bands, .cost => sRule_cost
  | .bands, .form => sRule_form
  | .steps, .inner => sRule_inner
  | .steps, .own_names => sRule_ownnames
  | .steps, .names => sRule_names
  | .steps, .look_at => sRule_lookat
  | .steps, .priced => sSteps_priced
  | .steps, .drawn => sSteps_drawn
  | .steps, .made => sRule_made
  | .steps, .cost => sRule_cost
  | .steps, .form => sRule_form
  | .blocks, .inner => sRule_inner
  | .blocks, .own_names => sRule_ownnames
  | .blocks, .names => sRule_names
  | .blocks, .look_at => sRule_lookat
  | .blocks, .priced => sBlocks_priced
  | .blocks, .drawn => sBlocks_drawn
  | .blocks, .made => sRule_made
  | .blocks, .cost => sRule_cost
  | .blocks, .form => sRule_form
  | .named, .inner => sRule_inner
  | .named, .own_names => sNamed_ownnames
  | .named, .names => sRule_names
  | .named, .look_at => sRule_lookat
  | .named, .priced => sNamed_priced
  | .named, .drawn => sNamed_drawn
  | .named, .made => sRule_made
  | .named, .cost => sRule_cost
  | .named, .form => sRule_form
  | .sum, .inner => sPair_inner
  | .sum, .own_names => sRule_ownnames
  | .sum, .names => sRule_names
  | .sum, .look_at => sRule_lookat
  | .sum, .priced => sSum_priced
  | .sum, .drawn => sSum_drawn
  | .sum, .made => sRule_made
  | .sum, .cost => sRule_cost
  | .sum, .form => sRule_form
  | .cheaper, .inner => sPair_inner
  | .cheaper, .own_names => sRule_ownnames
  | .cheaper, .names => sRule_names
  | .cheaper, .look_at => sRule_lookat
  | .cheaper, .priced => sCheaper_priced
  | .cheaper, .drawn => sCheaper_drawn
  | .cheaper, .made => sRule_made
  | .cheaper, .cost => sRule_cost
  | .cheaper, .form => sRule_form
  | .dearer, .inner => sPair_inner
  | .dearer, .own_names => sRule_ownnames
  | .dearer, .names => sRule_names
  | .dearer, .look_at => sRule_lookat
  | .dearer, .priced => sDearer_priced
  | .dearer, .drawn => sDearer_drawn
  | .dearer, .made => sRule_made
  | .dearer, .cost => sRule_cost
  | .dearer, .form => sRule_form
  | .only, .inner => sTurned_inner
  | .only, .own_names => sRule_ownnames
  | .only, .names => sRule_names
  | .only, .look_at => sRule_lookat
  | .only, .priced => sOnly_priced
  | .only, .drawn => sOnly_drawn
  | .only, .made => sRule_made
  | .only, .cost => sRule_cost
  | .only, .form => sRule_form
  | .after, .inner => sTurned_inner
  | .after, .own_names => sRule_ownnames
  | .after, .names => sRule_names
  | .after, .look_at => sRule_lookat
  | .after, .priced => sAfter_priced
  | .after, .drawn => sAfter_drawn
  | .after, .made => sRule_made
  | .after, .cost => sRule_cost
  | .after, .form => sRule_form
  | .roomy, .inner => sTurned_inner
  | .roomy, .own_names => sRule_ownnames
  | .roomy, .names => sRule_names
  | .roomy, .look_at => sRule_lookat
  | .roomy, .priced => sRoomy_priced
  | .roomy, .drawn => sRoomy_drawn
  | .roomy, .made => sRule_made
  | .roomy, .cost => sRule_cost
  | .roomy, .form => sRule_form
  | .fee, .inner => sTurned_inner
  | .fee, .own_names => sRule_ownnames
  | .fee, .names => sRule_names
  | .fee, .look_at => sRule_lookat
  | .fee, .priced => sFee_priced
  | .fee, .drawn => sFee_drawn
  | .fee, .made => sRule_made
  | .fee, .cost => sRule_cost
  | .fee, .form => sRule_form
def qnm : Kd → Mt → PySem.Str
  | .each, .inner => "Rule.inner"
  | .each, .own_names => "Rule.own_names"
  | .each, .names => "Rule.names"
  | .each, .look_at => "Rule.look_at"
  | .each, .priced => "Each.priced"
  | .each, .drawn => "Each.drawn"
  | .each, .made => "Rule.made"
  | .each, .cost => "Rule.cost"
  | .each, .form => "Rule.form"
  | .flat, .inner => "Rule.inner"
  | .flat, .own_names => "Rule.own_names"
  | .flat, .names => "Rule.names"
  | .flat, .look_at => "Rule.look_at"
  | .flat, .priced => "Flat.priced"
  | .flat, .drawn => "Flat.drawn"
  | .flat, .made => "Rule.made"
  | .flat, .cost => "Rule.cost"
  | .flat, .form => "Rule.form"
  | .bands, .inner => "Rule.inner"
  | .bands, .own_names => "Rule.own_names"
  | .bands, .names => "Rule.names"
  | .bands, .look_at => "Rule.look_at"
  | .bands, .priced => "Bands.priced"
  | .bands, .drawn => "Bands.drawn"
  | .bands, .made => "Rule.made"
  | .bands, .cost => "Rule.cost"
  | .bands, .form => "Rule.form"
  | .steps, .inner => "Rule.inner"
  | .steps, .own_names => "Rule.own_names"
  | .steps, .names => "Rule.names"
  | .steps, .look_at => "Rule.look_at"
  | .steps, .priced => "Steps.priced"
  | .steps, .drawn => "Steps.drawn"
  | .steps, .made => "Rule.made"
  | .steps, .cost => "Rule.cost"
  | .steps, .form => "Rule.form"
  | .blocks, .inner => "Rule.inner"
  | .blocks, .own_names => "Rule.own_names"
  | .blocks, .names => "Rule.names"
  | .blocks, .look_at => "Rule.look_at"
  | .blocks, .priced => "Blocks.priced"
  | .blocks, .drawn => "Blocks.drawn"
  | .blocks, .made => "Rule.made"
  | .blocks, .cost => "Rule.cost"
  | .blocks, .form => "Rule.form"
  | .named, .inner => "Rule.inner"
  | .named, .own_names => "Named.own_names"
  | .named, .names => "Rule.names"
  | .named, .look_at => "Rule.look_at"
  | .named, .priced => "Named.priced"
  | .named, .drawn => "Named.drawn"
  | .named, .made => "Rule.made"
  | .named, .cost => "Rule.cost"
  | .named, .form => "Rule.form"
  | .sum, .inner => "Pair.inner"
  | .sum, .own_names => "Rule.own_names"
  | .sum, .names => "Rule.names"
  | .sum, .look_at => "Rule.look_at"
  | .sum, .priced => "Sum.priced"
  | .sum, .drawn => "Sum.drawn"
  | .sum, .made => "Rule.made"
  | .sum, .cost => "Rule.cost"
  | .sum, .form => "Rule.form"
  | .cheaper, .inner => "Pair.inner"
  | .cheaper, .own_names => "Rule.own_names"
  | .cheaper, .names => "Rule.names"
  | .cheaper, .look_at => "Rule.look_at"
  | .cheaper, .priced => "Cheaper.priced"
  | .cheaper, .drawn => "Cheaper.drawn"
  | .cheaper, .made => "Rule.made"
  | .cheaper, .cost => "Rule.cost"
  | .cheaper, .form => "Rule.form"
  | .dearer, .inner => "Pair.inner"
  | .dearer, .own_names => "Rule.own_names"
  | .dearer, .names => "Rule.names"
  | .dearer, .look_at => "Rule.look_at"
  | .dearer, .priced => "Dearer.priced"
  | .dearer, .drawn => "Dearer.drawn"
  | .dearer, .made => "Rule.made"
  | .dearer, .cost => "Rule.cost"
  | .dearer, .form => "Rule.form"
  | .only, .inner => "Turned.inner"
  | .only, .own_names => "Rule.own_names"
  | .only, .names => "Rule.names"
  | .only, .look_at => "Rule.look_at"
  | .only, .priced => "Only.priced"
  | .only, .drawn => "Only.drawn"
  | .only, .made => "Rule.made"
  | .only, .cost => "Rule.cost"
  | .only, .form => "Rule.form"
  | .after, .inner => "Turned.inner"
  | .after, .own_names => "Rule.own_names"
  | .after, .names => "Rule.names"
  | .after, .look_at => "Rule.look_at"
  | .after, .priced => "After.priced"
  | .after, .drawn => "After.drawn"
  | .after, .made => "Rule.made"
  | .after, .cost => "Rule.cost"
  | .after, .form => "Rule.form"
  | .roomy, .inner => "Turned.inner"
  | .roomy, .own_names => "Rule.own_names"
  | .roomy, .names => "Rule.names"
  | .roomy, .look_at => "Rule.look_at"
  | .roomy, .priced => "Roomy.priced"
  | .roomy, .drawn => "Roomy.drawn"
  | .roomy, .made => "Rule.made"
  | .roomy, .cost => "Rule.cost"
  | .roomy, .form => "Rule.form"
  | .fee, .inner => "Turned.inner"
  | .fee, .own_names => "Rule.own_names"
  | .fee, .names => "Rule.names"
  | .fee, .look_at => "Rule.look_at"
  | .fee, .priced => "Fee.priced"
  | .fee, .drawn => "Fee.drawn"
  | .fee, .made => "Rule.made"
  | .fee, .cost => "Rule.cost"
  | .fee, .form => "Rule.form"
def cnm : Kd → PySem.Str
  | .each => "Each"
  | .flat => "Flat"
  | .bands => "Bands"
  | .steps => "Steps"
  | .blocks => "Blocks"
  | .named => "Named"
  | .sum => "Sum"
  | .cheaper => "Cheaper"
  | .dearer => "Dearer"
  | .only => "Only"
  | .after => "After"
  | .roomy => "Roomy"
  | .fee => "Fee"
def sti : Kd → Stmt
  | .each => sEach_init
  | .flat => sFlat_init
  | .bands => sBands_init
  | .steps => sSteps_init
  | .blocks => sBlocks_init
  | .named => sNamed_init
  | .sum => sPair_init
  | .cheaper => sPair_init
  | .dearer => sPair_init
  | .only => sOnly_init
  | .after => sAfter_init
  | .roomy => sRoomy_init
  | .fee => sFee_init
def qni : Kd → PySem.Str
  | .each => "Each.__init__"
  | .flat => "Flat.__init__"
  | .bands => "Bands.__init__"
  | .steps => "Steps.__init__"
  | .blocks => "Blocks.__init__"
  | .named => "Named.__init__"
  | .sum => "Pair.__init__"
  | .cheaper => "Pair.__init__"
  | .dearer => "Pair.__init__"
  | .only => "Only.__init__"
  | .after => "After.__init__"
  | .roomy => "Roomy.__init__"
  | .fee => "Fee.__init__"
def flds : Kd → List PySem.Str
  | .each => ["unit", "low", "high"]
  | .flat => ["price", "low", "high"]
  | .bands => ["rows"]
  | .steps => ["rows"]
  | .blocks => ["size", "price", "many"]
  | .named => ["name"]
  | .sum => ["one", "other"]
  | .cheaper => ["one", "other"]
  | .dearer => ["one", "other"]
  | .only => ["one", "low", "high"]
  | .after => ["one", "count"]
  | .roomy => ["one"]
  | .fee => ["one", "price"]
/-- a method, as the top has left it -/
structure MdAt (K : PySem.W.Frag) (C : Addr) (m qual : PySem.Str) (st : Stmt) : Prop where
  ex : ∃ f fd, Meth K C m f ∧ FunD K m qual (defArgs st) (defBody st) (defScope st) [] [] f fd
structure InAt (K : PySem.W.Frag) (mg : PySem.Str → Option Value) (x qual : PySem.Str) (C : Addr) (st : Stmt) : Prop where
  ex : ∃ f fd, Mk K C f ∧ FunD K "__init__" qual (defArgs st) (defBody st) (defScope st) [] [] f fd ∧ mg x = some (.ref C)
/-- what the top has left of the program's names -/
structure Txt (K : PySem.W.Frag) (mg : PySem.Str → Option Value) (ad : Kd → Addr) : Prop where
  f_down : FnAt K mg "down" sDown
  f_up : FnAt K mg "up" sUp
  f_line_at : FnAt K mg "line_at" sLineAt
  f_no_dearer : FnAt K mg "no_dearer" sNoDearer
  f_lower_line : FnAt K mg "lower_line" sLowerLine
  f_drawn_on : FnAt K mg "drawn_on" sDrawnOn
  f_joins : FnAt K mg "joins" sJoins
  f_begun : FnAt K mg "begun" sBegun
  f_laid : FnAt K mg "laid" sLaid
  f_cost_at : FnAt K mg "cost_at" sCostAt
  f_clipped : FnAt K mg "clipped" sClipped
  f_plus : FnAt K mg "plus" sPlus
  f_raised : FnAt K mg "raised" sRaised
  f_within : FnAt K mg "within" sWithin
  f_without : FnAt K mg "without" sWithout
  f_freed : FnAt K mg "freed" sFreed
  f_lines_over : FnAt K mg "lines_over" sLinesOver
  f_side_by_side : FnAt K mg "side_by_side" sSideBySide
  f_least : FnAt K mg "least" sLeast
  f_greatest : FnAt K mg "greatest" sGreatest
  f_at_least : FnAt K mg "at_least" sAtLeast
  f__law_at : FnAt K mg "_law_at" sLawAt
  f__law_mix : FnAt K mg "_law_mix" sLawMix
  f__law_price : FnAt K mg "_law_price" sLawPrice
  f__law_rows : FnAt K mg "_law_rows" sLawRows
  f__law_leaf : FnAt K mg "_law_leaf" sLawLeaf
  f__law_form : FnAt K mg "_law_form" sLawForm
  f__law_forms : FnAt K mg "_law_forms" sLawForms
  f__law_folded : FnAt K mg "_law_folded" sLawFolded
  f__law_turned : FnAt K mg "_law_turned" sLawTurned
  f__law_tree : FnAt K mg "_law_tree" sLawTree
  f__law_rule : FnAt K mg "_law_rule" sLawRule
  f__law_ends : FnAt K mg "_law_ends" sLawEnds
  f__law_amounts : FnAt K mg "_law_amounts" sLawAmounts
  f__law_same : FnAt K mg "_law_same" sLawSame
  f__law_is_form : FnAt K mg "_law_is_form" sLawIsForm
  f__law_apart : FnAt K mg "_law_apart" sLawApart
  f__law_cost_in : FnAt K mg "_law_cost_in" sLawCostIn
  f__law_form_or_none : FnAt K mg "_law_form_or_none" sLawFormOrNone
  f__law_has_roomy : FnAt K mg "_law_has_roomy" sLawHasRoomy
  f__law_agree : FnAt K mg "_law_agree" sLawAgree
  f_law : FnAt K mg "law" sLaw
  len : mg "len" = none
  min : mg "min" = none
  max : mg "max" = none
  list : mg "list" = none
  tuple : mg "tuple" = none
  set_ : mg "set" = none
  sorted : mg "sorted" = none
  range : mg "range" = none
  reversed : mg "reversed" = none
  zip : mg "zip" = none
  isinstance : mg "isinstance" = none
  int_ : mg "int" = none
  bool_ : mg "bool" = none
  c_MOST_STRETCHES : ∃ t, mg "MOST_STRETCHES" = some (.int 60 t)
  meth : ∀ c m, MdAt K (ad c) (mnm m) (qnm c m) (stm c m)
  init : ∀ c, InAt K mg (cnm c) (qni c) (ad c) (sti c)
  cls : ∀ c, Cls K (ad c)
  noat : ∀ c f, f ∈ flds c → NoAttr K (ad c) f
section
variable {P : Program} {w0 : World} {K : PySem.W.Frag} {mg : PySem.Str → Option Value} {base : Heap} {C : Addr} {m qual : PySem.Str} {st : Stmt} {N : List PySem.Str} {k : Nat} {p1 p2 p3 p4 : PySem.Str}
theorem MdAt.md {sp : SpD} {ps : List PySem.Str} (h : MdAt K C m qual st) (c : Cls K C) (hb : ∀ (kV doc pm : Value) (an : Option Addr) (cdv ct : Value) (us : List Value), us.length = ps.length → bindArgs (PySem.W.fnOf m qual (defArgs st) (defBody st) (defScope st) .none kV doc pm an cdv ct) ⟨us, []⟩ = pure (ps.zip us))
    (S : FnScope N ps (defScope st)) (len : ∀ ds k, sp ds k → ds.length = ps.length) (body : BodyOk P w0 K mg base N qual st k fun w => ∀ ds k0, sp ds k0 → w { nx := fun _ => k0 .non, rt := k0 } (startD N ds)) : MD P w0 K mg base (k + 1) C m (spOf K sp) := by
  obtain ⟨f, fd, hm, F⟩ := h.ex
  exact ⟨f, fd, ps, c, hm, mkFn F S len (fun cdv A outer s H E hr => body f cdv A outer s H E hr), F.bindsN hb⟩
theorem MdAt.md1 {g : D → (D → Prop) → Prop} (h : MdAt K C m qual st) (c : Cls K C) (hb : ∀ (kV doc pm : Value) (an : Option Addr) (cdv ct : Value) (u1 : Value), bindArgs (PySem.W.fnOf m qual (defArgs st) (defBody st) (defScope st) .none kV doc pm an cdv ct) ⟨[u1], []⟩ = pure [(p1, u1)])
    (S : FnScope N [p1] (defScope st)) (body : BodyOk P w0 K mg base N qual st k fun w => ∀ a k0, g a k0 → w { nx := fun _ => k0 .non, rt := k0 } (startD N [a])) : MD P w0 K mg base (k + 1) C m (spOf K (sp1 g)) :=
  h.md c (fun kV doc pm an cdv ct us hl => match us, hl with | [u1], _ => hb kV doc pm an cdv ct u1) S (fun ds k ⟨_, e, _⟩ => by rw [e]; rfl) fun f cdv A outer s H E hr => by
    obtain ⟨t, w, h1, h2⟩ := body f cdv A outer s H E hr
    refine ⟨t, w, h1, fun ds k0 hs => ?_⟩
    obtain ⟨a, rfl, q⟩ := hs
    exact h2 a k0 q
theorem MdAt.md2 {g : D → D → (D → Prop) → Prop} (h : MdAt K C m qual st) (c : Cls K C) (hb : ∀ (kV doc pm : Value) (an : Option Addr) (cdv ct : Value) (u1 u2 : Value), bindArgs (PySem.W.fnOf m qual (defArgs st) (defBody st) (defScope st) .none kV doc pm an cdv ct) ⟨[u1, u2], []⟩ = pure [(p1, u1), (p2, u2)])
    (S : FnScope N [p1, p2] (defScope st)) (body : BodyOk P w0 K mg base N qual st k fun w => ∀ a b k0, g a b k0 → w { nx := fun _ => k0 .non, rt := k0 } (startD N [a, b])) : MD P w0 K mg base (k + 1) C m (spOf K (sp2 g)) :=
  h.md c (fun kV doc pm an cdv ct us hl => match us, hl with | [u1, u2], _ => hb kV doc pm an cdv ct u1 u2) S (fun ds k ⟨_, _, e, _⟩ => by rw [e]; rfl) fun f cdv A outer s H E hr => by
    obtain ⟨t, w, h1, h2⟩ := body f cdv A outer s H E hr
    refine ⟨t, w, h1, fun ds k0 hs => ?_⟩
    obtain ⟨a, b, rfl, q⟩ := hs
    exact h2 a b k0 q
theorem MdAt.md3 {g : D → D → D → (D → Prop) → Prop} (h : MdAt K C m qual st) (c : Cls K C) (hb : ∀ (kV doc pm : Value) (an : Option Addr) (cdv ct : Value) (u1 u2 u3 : Value), bindArgs (PySem.W.fnOf m qual (defArgs st) (defBody st) (defScope st) .none kV doc pm an cdv ct) ⟨[u1, u2, u3], []⟩ = pure [(p1, u1), (p2, u2), (p3, u3)])
    (S : FnScope N [p1, p2, p3] (defScope st)) (body : BodyOk P w0 K mg base N qual st k fun w => ∀ a b c k0, g a b c k0 → w { nx := fun _ => k0 .non, rt := k0 } (startD N [a, b, c])) : MD P w0 K mg base (k + 1) C m (spOf K (sp3 g)) :=
  h.md c (fun kV doc pm an cdv ct us hl => match us, hl with | [u1, u2, u3], _ => hb kV doc pm an cdv ct u1 u2 u3) S (fun ds k ⟨_, _, _, e, _⟩ => by rw [e]; rfl) fun f cdv A outer s H E hr => by
    obtain ⟨t, w, h1, h2⟩ := body f cdv A outer s H E hr
    refine ⟨t, w, h1, fun ds k0 hs => ?_⟩
    obtain ⟨a, b, c, rfl, q⟩ := hs
    exact h2 a b c k0 q
end

/-! ### numbers of a bounded size -/
def Yb : Int := 2 ^ 1000
theorem yb1 : 1 ≤ Yb := by unfold Yb; decide +kernel
theorem big2 : (2000 : Nat) * 2 ^ 1000 < 2 ^ 1020 := by decide +kernel
theorem nat_of {i : Int} (h : -(2000 * Yb) ≤ i ∧ i ≤ 2000 * Yb) : i.natAbs < 2 ^ 1020 := by
  have e : Yb.natAbs = 2 ^ 1000 := by unfold Yb; decide +kernel
  have y := yb1
  have h2 : i.natAbs ≤ 2000 * Yb.natAbs := by omega
  rw [e] at h2
  exact Nat.lt_of_le_of_lt h2 big2
theorem mulW {i j : Int} (h1 : -(2000 * Yb) ≤ i ∧ i ≤ 2000 * Yb) (h2 : -(2000 * Yb) ≤ j ∧ j ≤ 2000 * Yb) : CMulW i j := wide_mul (nat_of h1) (nat_of h2) (by decide) (by decide) (by decide)
theorem divW {i j : Int} (h1 : 0 < j) (h2 : j ≤ 2000 * Yb) : CDivW i j := by
  refine ⟨h1, ?_⟩
  have y := yb1
  have h : j.natAbs < 2 ^ 1020 := nat_of ⟨by omega, h2⟩
  have := (Nat.log2_lt (by omega)).mpr h
  omega

/-! ### encodings -/
def lnD (l : Int × Int) : D := .tup [.int l.1, .int l.2]
def rowD (r : Row) : D := .tup [.int r.lo, .int r.hi, .int r.pr, .int r.st]
def formD (f : List Row) : D := .tup (f.map rowD)
def rowsD (f : List Row) : D := .lst (f.map rowD)
def optD : Option Int → D
  | none => .non
  | some i => .int i
def lnO : Option (Int × Int) → D
  | none => .non
  | some l => lnD l

/-! ### the readings' steps -/
theorem t_go {A B : Prop} (h : A) : (true = true → A) ∧ (true = false → B) := ⟨fun _ => h, fun z => (Bool.noConfusion z)⟩
theorem f_go {A B : Prop} (h : B) : (false = true → A) ∧ (false = false → B) := ⟨fun z => (Bool.noConfusion z), fun _ => h⟩
theorem d_go {P : Prop} [Decidable P] {A B : Prop} (h1 : P → A) (h2 : ¬P → B) : (decide P = true → A) ∧ (decide P = false → B) := ⟨fun z => h1 (of_decide_eq_true z), fun z => h2 (of_decide_eq_false z)⟩
theorem n_go {P : Prop} [Decidable P] {A B : Prop} (h1 : ¬P → A) (h2 : P → B) : ((!decide P) = true → A) ∧ ((!decide P) = false → B) := ⟨fun z => h1 (by simpa using z), fun z => h2 (by simpa using z)⟩
theorem b_go {b : Bool} {A B : Prop} (h1 : b = true → A) (h2 : b = false → B) : (b = true → A) ∧ (b = false → B) := ⟨h1, h2⟩
theorem nb_go {b : Bool} {A B : Prop} (h1 : b = false → A) (h2 : b = true → B) : ((!b) = true → A) ∧ ((!b) = false → B) := ⟨fun z => h1 (by simpa using z), fun z => h2 (by simpa using z)⟩
end K36
namespace K36
open PySem PySem.Spec PyProof.Rows L2
theorem c_go {P A B : Prop} (h1 : P → A) (h2 : ¬P → B) : (P → A) ∧ (¬P → B) := ⟨h1, h2⟩
theorem map_get {α β : Type} {g : α → β} {l : List α} {j : Nat} {x : β} (h : (l.map g)[j]? = some x) : ∃ r, l[j]? = some r ∧ x = g r := by
  rw [List.getElem?_map] at h
  obtain ⟨r, e1, e2⟩ := Option.map_eq_some_iff.mp h
  exact ⟨r, e1, e2.symm⟩
theorem atI_last {α : Type} {l : List α} {x : α} : atI (l ++ [x]) (-1) = some x := by
  have e : ixN (l ++ [x]).length (-1) = some l.length := by
    unfold ixN
    rw [List.length_append, List.length_singleton]
    rw [if_neg (by decide), if_pos (by omega)]
    congr 1
    omega
  unfold atI
  rw [e]
  simp
theorem cost_take_succ {f : List Row} {j : Nat} {r : Row} {y : Int} (h : f[j]? = some r) : cost (f.take (j + 1)) y = (cost (f.take j) y).or (if r.lo ≤ y ∧ y ≤ r.hi then some (r.at_ y) else none) := by
  rw [List.take_add_one, h, cost_append]
  rfl
theorem cost_of_take {f : List Row} {j : Nat} {y c : Int} (h : cost (f.take j) y = some c) : cost f y = some c := by
  have e := cost_append (f.take j) (f.drop j) y
  rw [List.take_append_drop, h] at e
  exact e
/-- costs and amounts of a bounded size -/
def BdY (R : List Row) : Prop := ∀ x c, cost R x = some c → (-(100 * Yb) ≤ x ∧ x ≤ 100 * Yb) ∧ (-(100 * Yb) ≤ c ∧ c ≤ 100 * Yb)
theorem bdY_row {f : List Row} (hf : IsForm f) (hb : BdY f) {r : Row} (hr : r ∈ f) : r.lo ≤ r.hi ∧ (-(100 * Yb) ≤ r.lo ∧ r.hi ≤ 100 * Yb) ∧ (-(100 * Yb) ≤ r.pr ∧ r.pr ≤ 100 * Yb) ∧ (-(200 * Yb) ≤ r.st ∧ r.st ≤ 200 * Yb) := by
  have ok := hf.ok_at r hr
  have at_ : ∀ x, r.lo ≤ x → x ≤ r.hi → (-(100 * Yb) ≤ x ∧ x ≤ 100 * Yb) ∧ (-(100 * Yb) ≤ r.at_ x ∧ r.at_ x ≤ 100 * Yb) := fun x h1 h2 => hb x _ (cost_in hf.asc hr h1 h2)
  have h1 := at_ r.lo (Int.le_refl _) ok.1
  have h2 := at_ r.hi ok.1 (Int.le_refl _)
  have e0 : r.at_ r.lo = r.pr := by simp [Row.at_]
  rw [e0] at h1
  refine ⟨ok.1, ⟨h1.1.1, h2.1.2⟩, h1.2, ?_⟩
  by_cases c : r.lo = r.hi
  · rw [ok.2 c]
    have := yb1
    omega
  · have h3 := at_ (r.lo + 1) (by omega) (by have := ok.1; omega)
    have e1 : r.at_ (r.lo + 1) = r.pr + r.st := by
      unfold Row.at_
      rw [show r.lo + 1 - r.lo = 1 by omega, Int.mul_one]
    rw [e1] at h3
    omega
theorem asc_take {R : List Row} (h : Asc R) (j : Nat) : Asc (R.take j) := by
  have e := List.take_append_drop j R
  rw [← e] at h
  exact h.left
theorem bdY_take {R : List Row} (h : BdY R) (j : Nat) : BdY (R.take j) := fun x c e => h x c (cost_of_take e)
/-- the stretch that is told last, as the next row comes -/
theorem laid_head {R : List Row} (ha : Asc R) (hb : BdY R) {j : Nat} {r f : Row} {t : List Row} (hr : R[j]? = some r) (hf : (R.take j).foldl laidStep [] = f :: t) : CMulW f.st (r.lo - f.lo) := by
  have y := yb1
  obtain ⟨h1, h2⟩ := laid_foldl (R.take j) [] (asc_take ha j) trivial (by simp)
  have form : IsForm (laid (R.take j)) := laid_form (asc_take ha j)
  have hb' : BdY (laid (R.take j)) := fun x c e => bdY_take hb j x c (by rw [← laid_cost (asc_take ha j)]; exact e)
  have hm : f ∈ laid (R.take j) := by unfold laid; rw [hf]; simp
  have b := bdY_row form hb' hm
  have hrm : r ∈ R := List.mem_of_getElem? hr
  have br := hb r.lo _ (cost_in ha hrm (Int.le_refl _) (ha.le r hrm))
  exact mulW (by omega) (by omega)
end K36
namespace K36
open PySem PySem.Spec PyProof.Rows L2
theorem for_nil {wg : D → List Sl → (List Sl → Prop) → Prop} {wb : DS} {W : DEnds} {ρ1 : List Sl} (h : W.nx ρ1) : ∃ I : Nat → List Sl → Prop, I 0 ρ1 ∧
  (∀ (j : Nat) y ρ2, ([] : List D)[j]? = some y → I j ρ2 → wg y ρ2 fun ρ3 => wb { W with nx := I (j + 1), ct := I (j + 1), bk := W.nx } ρ3) ∧ (∀ ρ2, I ([] : List D).length ρ2 → W.nx ρ2) :=
  ⟨fun _ => W.nx, h, fun j y ρ2 hy => by simp at hy, fun ρ2 h => h⟩
theorem for_one {wg : D → List Sl → (List Sl → Prop) → Prop} {wb : DS} {W : DEnds} {ρ1 : List Sl} {x : D} (h : wg x ρ1 fun ρ3 => wb { W with nx := W.nx, ct := W.nx, bk := W.nx } ρ3) : ∃ I : Nat → List Sl → Prop, I 0 ρ1 ∧
  (∀ (j : Nat) y ρ2, [x][j]? = some y → I j ρ2 → wg y ρ2 fun ρ3 => wb { W with nx := I (j + 1), ct := I (j + 1), bk := W.nx } ρ3) ∧ (∀ ρ2, I [x].length ρ2 → W.nx ρ2) := by
  refine ⟨fun j => match j with | 0 => fun ρ => ρ = ρ1 | _ + 1 => W.nx, rfl, fun j y ρ2 hy hI => ?_, fun ρ2 h => h⟩
  cases j with
  | zero =>
    have e : y = x := by simpa using hy.symm
    subst e
    have e2 : ρ2 = ρ1 := hI
    subst e2
    exact h
  | succ j => simp at hy
theorem atI_nat {α : Type} {l : List α} {i : Nat} {x : α} (h : l[i]? = some x) : atI l (i : Int) = some x := by
  have hi := (List.getElem?_eq_some_iff.mp h).1
  have e : ixN l.length (i : Int) = some i := by
    unfold ixN
    rw [if_pos (by omega), if_pos (by omega)]
    simp
  unfold atI
  rw [e]
  exact h
theorem atI_row {f : List Row} {i : Nat} {r : Row} (h : f[i]? = some r) : atI (f.map rowD) (i : Int) = some (rowD r) := atI_nat (by rw [List.getElem?_map, h]; rfl)
theorem len1 {α : Type} {l : List α} (h : l.length ≤ 1) : l = [] ∨ ∃ x, l = [x] := by
  cases l with
  | nil => exact .inl rfl
  | cons x t =>
    cases t with
    | nil => exact .inr ⟨x, rfl⟩
    | cons y t => simp at h
theorem drop_at {α : Type} {l : List α} {i : Nat} {x : α} (h : l[i]? = some x) : l.drop i = x :: l.drop (i + 1) := by
  obtain ⟨hi, e⟩ := List.getElem?_eq_some_iff.mp h
  rw [List.drop_eq_getElem_cons hi, e]
end K36
namespace K36
/-- held back from the readings' steps -/
inductive Hd (p : Prop) : Prop where
  | mk (h : p) : Hd p
  | mk2 (h : p) : Hd p
theorem Hd.of {p : Prop} (h : Hd p) : p := by
  cases h <;> assumption
end K36
set_option Elab.async false
set_option linter.all false
set_option maxRecDepth 100000
set_option maxHeartbeats 4000000
namespace K36
open PySem PySem.Spec PyProof.Rows L2
local macro_rules | `(tactic| walk_at "dsd") => `(tactic| first | omega | exact mulW (by omega) (by omega) | exact divW (by omega) (by omega) | assumption | ((try simp only [List.length_append, List.length_cons, List.length_nil, List.length_map, List.length_reverse]); omega))
local macro_rules | `(tactic| walk_at "dgo") => `(tactic| (repeat' (first | refine ⟨_, rfl, ?_⟩ | refine ⟨_, _, rfl, ?_⟩ | refine ⟨_, _, rfl, rfl, ?_⟩ | refine ⟨_, _, _, rfl, ?_⟩ | refine ⟨_, _, _, rfl, rfl, rfl, ?_⟩ | refine ⟨_, _, _, rfl, rfl, atI_last, ?_⟩ | refine ⟨_, _, _, rfl, rfl, by assumption, ?_⟩ | refine ⟨_, _, _, _, rfl, ?_⟩ | refine And.intro rfl ?_ | refine And.intro ⟨_, rfl⟩ ?_ | refine ⟨_, .inl rfl, ?_⟩ | refine ⟨_, .inr rfl, ?_⟩ | refine t_go ?_ | refine f_go ?_ | refine d_go (fun _ => ?_) (fun _ => ?_) | refine n_go (fun _ => ?_) (fun _ => ?_) | refine c_go (fun _ => ?_) (fun _ => ?_) | refine And.intro (by walk_at "dsd") ?_ | fail)))
local macro_rules | `(tactic| walk_at "dgb") => `(tactic| (repeat' (first | refine ⟨_, rfl, ?_⟩ | refine ⟨_, _, rfl, ?_⟩ | refine ⟨_, _, rfl, rfl, ?_⟩ | refine ⟨_, _, _, rfl, ?_⟩ | refine ⟨_, _, _, rfl, rfl, rfl, ?_⟩ | refine ⟨_, _, _, rfl, rfl, atI_last, ?_⟩ | refine ⟨_, _, _, rfl, rfl, by assumption, ?_⟩ | refine ⟨_, _, _, _, rfl, ?_⟩ | refine And.intro rfl ?_ | refine And.intro ⟨_, rfl⟩ ?_ | refine ⟨_, .inl rfl, ?_⟩ | refine ⟨_, .inr rfl, ?_⟩ | refine t_go ?_ | refine f_go ?_ | refine d_go (fun _ => ?_) (fun _ => ?_) | refine n_go (fun _ => ?_) (fun _ => ?_) | refine c_go (fun _ => ?_) (fun _ => ?_) | refine nb_go (fun _ => ?_) (fun _ => ?_) | refine b_go (fun _ => ?_) (fun _ => ?_) | refine And.intro (by walk_at "dsd") ?_ | fail)))
local macro_rules | `(tactic| walk_at "dif") => `(tactic| ((repeat' split) <;> first | rfl | (exfalso; omega)))
section
variable {P : Program} {w0 : World} {K : PySem.W.Frag} {mg : PySem.Str → Option Value} {base : Heap} {ad : Kd → Addr}
theorem sc_down : FnScope ["a", "b"] ["a", "b"] (defScope sDown) := ⟨rfl, rfl, rfl, by decide +kernel, rfl, by decide +kernel, by decide +kernel⟩
theorem sc_up : FnScope ["a", "b"] ["a", "b"] (defScope sUp) := ⟨rfl, rfl, rfl, by decide +kernel, rfl, by decide +kernel, by decide +kernel⟩
theorem sc_line_at : FnScope ["line", "low", "x"] ["line", "low", "x"] (defScope sLineAt) := ⟨rfl, rfl, rfl, by decide +kernel, rfl, by decide +kernel, by decide +kernel⟩
theorem sc_no_dearer : FnScope ["one", "other", "low", "high", "price", "step", "first", "last"] ["one", "other", "low", "high"] (defScope sNoDearer) := ⟨rfl, rfl, rfl, by decide +kernel, rfl, by decide +kernel, by decide +kernel⟩
def gDown (a b : D) (k : D → Prop) : Prop := ∃ i j, a = .int i ∧ b = .int j ∧ CDivW i j ∧ k (.int (down i j))
def gUp (a b : D) (k : D → Prop) : Prop := ∃ i j, a = .int i ∧ b = .int j ∧ CDivW (-i) j ∧ k (.int (up i j))
def gLineAt (line low x : D) (k : D → Prop) : Prop := ∃ p s, line = .tup [.int p, .int s] ∧ ∃ lo y, low = .int lo ∧ x = .int y ∧ CMulW s (y - lo) ∧ k (.int (lineAt (p, s) lo y))
theorem D_down (T : Txt K mg ad) : DF P w0 K mg base 1 "down" ["a", "b"] (spOf K (sp2 gDown)) :=
  T.f_down.df2 (N := ["a", "b"]) (fun _ _ _ _ _ _ _ _ => rfl) sc_down fun f cdv A outer s H E hr => ⟨_, _, (sdone (sdret (ddiv (dv 0) (dv 1)))), fun a b k0 h => by
    obtain ⟨i, j, rfl, rfl, hc, hk⟩ := h
    walk_at "dgo"
    exact hk⟩
theorem D_up (T : Txt K mg ad) : DF P w0 K mg base 1 "up" ["a", "b"] (spOf K (sp2 gUp)) :=
  T.f_up.df2 (N := ["a", "b"]) (fun _ _ _ _ _ _ _ _ => rfl) sc_up fun f cdv A outer s H E hr => ⟨_, _, (sdone (sdret (dneg (ddiv (dneg (dv 0)) (dv 1))))), fun a b k0 h => by
    obtain ⟨i, j, rfl, rfl, hc, hk⟩ := h
    walk_at "dgo"
    exact hk⟩
theorem D_line_at (T : Txt K mg ad) : DF P w0 K mg base 1 "line_at" ["line", "low", "x"] (spOf K (sp3 gLineAt)) :=
  T.f_line_at.df3 (N := ["line", "low", "x"]) (fun _ _ _ _ _ _ _ _ _ => rfl) sc_line_at fun f cdv A outer s H E hr => ⟨_, _, (sdone (sdret (dadd (dix (dv 0) dint) (dmul (dix (dv 0) dint) (dsub (dv 2) (dv 1)))))), fun a b c k0 h => by
    obtain ⟨p, s, rfl, lo, y, rfl, rfl, hc, hk⟩ := h
    walk_at "dgo"
    exact hk⟩
def pairO : Option (Int × Int) → D
  | none => .non
  | some p => .tup [.int p.1, .int p.2]
def gNoDearer (one other low high : D) (k : D → Prop) : Prop := ∃ l1 l2, one = .tup [.int l1, .int l2] ∧ ∃ m1 m2, other = .tup [.int m1, .int m2] ∧ ∃ lo hi, low = .int lo ∧ high = .int hi ∧ (-(1000 * Yb) ≤ l2 - m2 ∧ l2 - m2 ≤ 1000 * Yb) ∧ k (pairO (noDearer (l1, l2) (m1, m2) lo hi))
theorem D_no_dearer (T : Txt K mg ad) : DF P w0 K mg base 2 "no_dearer" ["one", "other", "low", "high"] (spOf K (sp4 gNoDearer)) :=
  T.f_no_dearer.df4 (N := ["one", "other", "low", "high", "price", "step", "first", "last"]) (fun _ _ _ _ _ _ _ _ _ _ => rfl) sc_no_dearer fun f cdv A outer s H E hr => ⟨_, _, (sdcons (sdset (i := 4) sc_no_dearer.nd (dsub (dix (dv 0) dint) (dix (dv 1) dint)))
      (sdcons (sdset (i := 5) sc_no_dearer.nd (dsub (dix (dv 0) dint) (dix (dv 1) dint)))
      (sdcons (sdset (i := 6) sc_no_dearer.nd dint)
      (sdcons (sdset (i := 7) sc_no_dearer.nd (dsub (dv 3) (dv 2)))
      (sdcons (sdif (tgt (dv 5) dint) (sdone (sdset (i := 7) sc_no_dearer.nd (dmin rfl T.min (dv 7) (dcall (D_down T) (hr.mono (by decide)) (dcons (dneg (dv 4)) (dcons (dv 5) dnil)))))) (sdone (sdif (tlt (dv 5) dint) (sdone (sdset (i := 6) sc_no_dearer.nd (dmax rfl T.max (dv 6) (dcall (D_up T) (hr.mono (by decide)) (dcons (dv 4) (dcons (dneg (dv 5)) dnil)))))) (sdone (sdif (tgt (dv 4) dint) (sdone (sdret dnon)) sdnil)))))
      (sdcons (sdif (tgt (dv 6) (dv 7)) (sdone (sdret dnon)) sdnil)
      (sdone (sdret (dtup (dcons (dadd (dv 2) (dv 6)) (dcons (dadd (dv 2) (dv 7)) dnil))))))))))), fun a b c d k0 h => by
    obtain ⟨l1, l2, rfl, m1, m2, rfl, lo, hi, rfl, rfl, hc, hk⟩ := h
    have y := yb1
    walk_at "dgo"
    all_goals (refine Eq.mp (congrArg k0 ?_) hk; unfold noDearer pyMin pyMax; dsimp only; (repeat' split) <;> first | rfl | (exfalso; omega))⟩
end
end K36
set_option Elab.async false
set_option linter.all false
set_option maxRecDepth 100000
set_option maxHeartbeats 4000000
namespace K36
open PySem PySem.Spec PyProof.Rows L2
local macro_rules | `(tactic| walk_at "dsd") => `(tactic| first | omega | exact mulW (by omega) (by omega) | exact divW (by omega) (by omega) | assumption | ((try simp only [List.length_append, List.length_cons, List.length_nil, List.length_map, List.length_reverse]); omega))
local macro_rules | `(tactic| walk_at "dgo") => `(tactic| (repeat' (first | refine ⟨_, rfl, ?_⟩ | refine ⟨_, _, rfl, ?_⟩ | refine ⟨_, _, rfl, rfl, ?_⟩ | refine ⟨_, _, _, rfl, ?_⟩ | refine ⟨_, _, _, rfl, rfl, rfl, ?_⟩ | refine ⟨_, _, _, rfl, rfl, atI_last, ?_⟩ | refine ⟨_, _, _, rfl, rfl, by assumption, ?_⟩ | refine ⟨_, _, _, _, rfl, ?_⟩ | refine And.intro rfl ?_ | refine And.intro ⟨_, rfl⟩ ?_ | refine ⟨_, .inl rfl, ?_⟩ | refine ⟨_, .inr rfl, ?_⟩ | refine t_go ?_ | refine f_go ?_ | refine d_go (fun _ => ?_) (fun _ => ?_) | refine n_go (fun _ => ?_) (fun _ => ?_) | refine c_go (fun _ => ?_) (fun _ => ?_) | refine And.intro (by walk_at "dsd") ?_ | fail)))
local macro_rules | `(tactic| walk_at "dgb") => `(tactic| (repeat' (first | refine ⟨_, rfl, ?_⟩ | refine ⟨_, _, rfl, ?_⟩ | refine ⟨_, _, rfl, rfl, ?_⟩ | refine ⟨_, _, _, rfl, ?_⟩ | refine ⟨_, _, _, rfl, rfl, rfl, ?_⟩ | refine ⟨_, _, _, rfl, rfl, atI_last, ?_⟩ | refine ⟨_, _, _, rfl, rfl, by assumption, ?_⟩ | refine ⟨_, _, _, _, rfl, ?_⟩ | refine And.intro rfl ?_ | refine And.intro ⟨_, rfl⟩ ?_ | refine ⟨_, .inl rfl, ?_⟩ | refine ⟨_, .inr rfl, ?_⟩ | refine t_go ?_ | refine f_go ?_ | refine d_go (fun _ => ?_) (fun _ => ?_) | refine n_go (fun _ => ?_) (fun _ => ?_) | refine c_go (fun _ => ?_) (fun _ => ?_) | refine nb_go (fun _ => ?_) (fun _ => ?_) | refine b_go (fun _ => ?_) (fun _ => ?_) | refine And.intro (by walk_at "dsd") ?_ | fail)))
local macro_rules | `(tactic| walk_at "dif") => `(tactic| ((repeat' split) <;> first | rfl | (exfalso; omega)))
section
variable {P : Program} {w0 : World} {K : PySem.W.Frag} {mg : PySem.Str → Option Value} {base : Heap} {ad : Kd → Addr}
theorem sc_lower_line : FnScope ["one", "other", "low", "high", "found", "first", "last", "told"] ["one", "other", "low", "high"] (defScope sLowerLine) := ⟨rfl, rfl, rfl, by decide +kernel, rfl, by decide +kernel, by decide +kernel⟩
def gLowerLine (one other low high : D) (k : D → Prop) : Prop := ∃ l1 l2, one = .tup [.int l1, .int l2] ∧ ∃ m1 m2, other = .tup [.int m1, .int m2] ∧ ∃ lo hi, low = .int lo ∧ high = .int hi ∧ lo ≤ hi ∧ (-(500 * Yb) ≤ l2 ∧ l2 ≤ 500 * Yb ∧ -(500 * Yb) ≤ m2 ∧ m2 ≤ 500 * Yb) ∧ (-(500 * Yb) ≤ lo ∧ hi ≤ 500 * Yb) ∧ k (rowsD (lowerLine (l1, l2) (m1, m2) lo hi))
theorem D_lower_line (T : Txt K mg ad) : DF P w0 K mg base 3 "lower_line" ["one", "other", "low", "high"] (spOf K (sp4 gLowerLine)) :=
  T.f_lower_line.df4 (N := ["one", "other", "low", "high", "found", "first", "last", "told"]) (fun _ _ _ _ _ _ _ _ _ _ => rfl) sc_lower_line fun f cdv A outer s H E hr => ⟨_, _, (sdcons (sdset (i := 4) sc_lower_line.nd (dcall (D_no_dearer T) (hr.mono (by decide)) (dcons (dv 0) (dcons (dv 1) (dcons (dv 2) (dcons (dv 3) dnil))))))
      (sdcons (sdif (tisN (dv 4) dnon) (sdone (sdret (PLD.asE (dlist (dcons (dtup (dcons (dv 2) (dcons (dv 3) (dcons (dix (dv 1) dint) (dcons (dix (dv 1) dint) dnil))))) dnil))))) sdnil)
      (sdcons (sdasg (dv 4) (gdtup rfl (gdcons (gdname (i := 5) sc_lower_line.nd) (gdcons (gdname (i := 6) sc_lower_line.nd) gdnil))))
      (sdcons (sdsetL (i := 7) sc_lower_line.nd (dlist dnil))
      (sdcons (sdif (tlt (dv 2) (dv 5)) (sdone (sdexpr (dappend 7 (dtup (dcons (dv 2) (dcons (dsub (dv 5) dint) (dcons (dix (dv 1) dint) (dcons (dix (dv 1) dint) dnil)))))))) sdnil)
      (sdcons (sdexpr (dappend 7 (dtup (dcons (dv 5) (dcons (dv 6) (dcons (dcall (D_line_at T) (hr.mono (by decide)) (dcons (dv 0) (dcons (dv 2) (dcons (dv 5) dnil)))) (dcons (dix (dv 0) dint) dnil)))))))
      (sdcons (sdif (tlt (dv 6) (dv 3)) (sdone (sdexpr (dappend 7 (dtup (dcons (dadd (dv 6) dint) (dcons (dv 3) (dcons (dcall (D_line_at T) (hr.mono (by decide)) (dcons (dv 1) (dcons (dv 2) (dcons (dadd (dv 6) dint) dnil)))) (dcons (dix (dv 1) dint) dnil)))))))) sdnil)
      (sdone (sdret (dvo 7)))))))))), fun a b c d k0 h => by
    obtain ⟨l1, l2, rfl, m1, m2, rfl, lo, hi, rfl, rfl, hlh, hc, hd, hk⟩ := h
    have y := yb1
    walk_at "dgo"
    rcases hn : noDearer (l1, l2) (m1, m2) lo hi with _ | ⟨a, b⟩
    · walk_at "dgo"
      refine Eq.mp (congrArg k0 ?_) hk
      unfold lowerLine
      rw [hn]
      rfl
    · obtain ⟨e1, e2, e3, _⟩ := noDearer_some hlh hn
      walk_at "dgo"
      all_goals (refine Eq.mp (congrArg k0 ?_) hk; unfold lowerLine; rw [hn]; dsimp only; (repeat' split) <;> first | rfl | (exfalso; omega))⟩
theorem sc_drawn_on : FnScope ["stretch", "x"] ["stretch", "x"] (defScope sDrawnOn) := ⟨rfl, rfl, rfl, by decide +kernel, rfl, by decide +kernel, by decide +kernel⟩
def gDrawnOn (part x : D) (k : D → Prop) : Prop := ∃ a b c d, part = .tup [.int a, .int b, .int c, .int d] ∧ ∃ y, x = .int y ∧ CMulW d (y - a) ∧ k (.int (Row.at_ ⟨a, b, c, d⟩ y))
theorem D_drawn_on (T : Txt K mg ad) : DF P w0 K mg base 2 "drawn_on" ["stretch", "x"] (spOf K (sp2 gDrawnOn)) :=
  T.f_drawn_on.df2 (N := ["stretch", "x"]) (fun _ _ _ _ _ _ _ _ => rfl) sc_drawn_on fun f cdv A outer s H E hr => ⟨_, _, (sdone (sdret (dcall (D_line_at T) (hr.mono (by decide)) (dcons (dtup (dcons (dix (dv 0) dint) (dcons (dix (dv 0) dint) dnil))) (dcons (dix (dv 0) dint) (dcons (dv 1) dnil)))))), fun a b k0 h => by
    obtain ⟨a, b, c, d, rfl, y, rfl, hc, hk⟩ := h
    walk_at "dgo"
    exact hk⟩
theorem sc_joins : FnScope ["stretch", "low", "price"] ["stretch", "low", "price"] (defScope sJoins) := ⟨rfl, rfl, rfl, by decide +kernel, rfl, by decide +kernel, by decide +kernel⟩
def gJoins (part low price : D) (k : D → Prop) : Prop := ∃ a b c d, part = .tup [.int a, .int b, .int c, .int d] ∧ ∃ lo p, low = .int lo ∧ price = .int p ∧ CMulW d (lo - a) ∧ k (.bl (joins ⟨a, b, c, d⟩ lo p))
theorem D_joins (T : Txt K mg ad) : DF P w0 K mg base 3 "joins" ["stretch", "low", "price"] (spOf K (sp3 gJoins)) :=
  T.f_joins.df3 (N := ["stretch", "low", "price"]) (fun _ _ _ _ _ _ _ _ _ => rfl) sc_joins fun f cdv A outer s H E hr => ⟨_, _, (sdcons (sdif (tne (dix (dv 0) dint) (dsub (dv 1) dint)) (sdone (sdret dbl)) sdnil)
      (sdone (sdret (dor (deq (dix (dv 0) dint) (dix (dv 0) dint)) (done1 (deq (dcall (D_drawn_on T) (hr.mono (by decide)) (dcons (dv 0) (dcons (dv 1) dnil))) (dv 2))))))), fun s l p k0 h => by
    obtain ⟨a, b, c, d, rfl, lo, p, rfl, rfl, hc, hk⟩ := h
    walk_at "dgo"
    all_goals (refine Eq.mp (congrArg (fun z => k0 (.bl z)) ?_) hk; simp_all [joins])⟩
theorem sc_begun : FnScope ["low", "high", "price", "step"] ["low", "high", "price", "step"] (defScope sBegun) := ⟨rfl, rfl, rfl, by decide +kernel, rfl, by decide +kernel, by decide +kernel⟩
def gBegun (low high price step : D) (k : D → Prop) : Prop := ∃ a b, low = .int a ∧ high = .int b ∧ ∃ c d, price = .int c ∧ step = .int d ∧ k (rowD (begun a b c d))
theorem D_begun (T : Txt K mg ad) : DF P w0 K mg base 1 "begun" ["low", "high", "price", "step"] (spOf K (sp4 gBegun)) :=
  T.f_begun.df4 (N := ["low", "high", "price", "step"]) (fun _ _ _ _ _ _ _ _ _ _ => rfl) sc_begun fun f cdv A outer s H E hr => ⟨_, _, (sdcons (sdif (teq (dv 0) (dv 1)) (sdone (sdret (dtup (dcons (dv 0) (dcons (dv 1) (dcons (dv 2) (dcons dint dnil))))))) sdnil)
      (sdone (sdret (dtup (dcons (dv 0) (dcons (dv 1) (dcons (dv 2) (dcons (dv 3) dnil)))))))), fun l h p s k0 hh => by
    obtain ⟨a, b, rfl, rfl, c, d, rfl, rfl, hk⟩ := hh
    walk_at "dgo"
    all_goals (refine Eq.mp (congrArg k0 ?_) hk; unfold begun; (repeat' split) <;> first | rfl | (exfalso; omega))⟩
theorem sc_cost_at : FnScope ["form", "x", "part"] ["form", "x"] (defScope sCostAt) := ⟨rfl, rfl, rfl, by decide +kernel, rfl, by decide +kernel, by decide +kernel⟩
def gCostAt (form x : D) (k : D → Prop) : Prop := ∃ f : List Row, form = formD f ∧ ∃ y, x = .int y ∧ (∀ r ∈ f, CMulW r.st (y - r.lo)) ∧ k (optD (cost f y))
theorem D_cost_at (T : Txt K mg ad) : DF P w0 K mg base 3 "cost_at" ["form", "x"] (spOf K (sp2 gCostAt)) :=
  T.f_cost_at.df2 (N := ["form", "x", "part"]) (fun _ _ _ _ _ _ _ _ => rfl) sc_cost_at fun f cdv A outer s H E hr => ⟨_, _, (sdcons (sdfor PassesOwn.never rfl (dituple (dv 0)) (gdname (i := 2) sc_cost_at.nd) (sdone (sdif (tchain2 (dix (dv 2) dint) (dv 1) (dix (dv 2) dint)) (sdone (sdret (dcall (D_drawn_on T) (hr.mono (by decide)) (dcons (dv 2) (dcons (dv 1) dnil))))) sdnil)))
      (sdone (sdret dnon))), fun a b k0 h => by
    obtain ⟨f, rfl, y, rfl, hc, hk⟩ := h
    walk_at "dgo"
    refine ⟨fun j ρ => (∃ s, ρ = [.val (formD f), .val (.int y), s]) ∧ cost (f.take j) y = none, ⟨⟨_, rfl⟩, rfl⟩, fun j x ρ2 hx hI => ?_, fun ρ2 hI => ?_⟩
    · obtain ⟨r, hr, rfl⟩ := map_get hx
      obtain ⟨⟨s, rfl⟩, hn⟩ := hI
      have hm := hc _ (List.mem_of_getElem? hr)
      have hs := cost_take_succ (y := y) hr
      rw [hn] at hs
      walk_at "dgo"
      · rw [if_pos ⟨by assumption, by assumption⟩] at hs
        have e := cost_of_take hs
        rw [e] at hk
        exact hk
      all_goals (rw [hs, if_neg (by omega)]; rfl)
    · obtain ⟨⟨s, rfl⟩, hn⟩ := hI
      rw [List.length_map, List.take_length] at hn
      rw [hn] at hk
      exact hk⟩
theorem sc_laid : FnScope ["rows", "told", "low", "high", "price", "step", "first", "own"] ["rows"] (defScope sLaid) := ⟨rfl, rfl, rfl, by decide +kernel, rfl, by decide +kernel, by decide +kernel⟩
def gLaid (rows : D) (k : D → Prop) : Prop := ∃ R : List Row, rows = rowsD R ∧ R.length ≤ 100000 ∧ Asc R ∧ BdY R ∧ k (formD (laid R))
theorem D_laid (T : Txt K mg ad) : DF P w0 K mg base 4 "laid" ["rows"] (spOf K (sp1 gLaid)) :=
  T.f_laid.df1 (N := ["rows", "told", "low", "high", "price", "step", "first", "own"]) (fun _ _ _ _ _ _ _ => rfl) sc_laid fun f cdv A outer s H E hr => ⟨_, _, (sdcons (sdsetL (i := 1) sc_laid.nd (dlist dnil))
      (sdcons (sdfor PassesOwn.never rfl (dilist (dv 0)) (gdtup rfl (gdcons (gdname (i := 2) sc_laid.nd) (gdcons (gdname (i := 3) sc_laid.nd) (gdcons (gdname (i := 4) sc_laid.nd) (gdcons (gdname (i := 5) sc_laid.nd) gdnil))))) (sdcons (sdif (PWD.pt (tor (teq (dlenO 1 T.len) dint) (tor1 (tnot (tval (dcall (D_joins T) (hr.mono (by decide)) (dcons (dixO 1 (dneg dint)) (dcons (dv 2) (dcons (dv 4) dnil))))))))) (sdcons (sdexpr (dappend 1 (dcall (D_begun T) (hr.mono (by decide)) (dcons (dv 2) (dcons (dv 3) (dcons (dv 4) (dcons (dv 5) dnil)))))))
      (sdone sdcont)) sdnil)
      (sdcons (sdset (i := 6) sc_laid.nd (dpop 1))
      (sdcons (sdset (i := 7) sc_laid.nd (dix (dv 6) dint))
      (sdcons (sdif (teq (dix (dv 6) dint) (dix (dv 6) dint)) (sdone (sdset (i := 7) sc_laid.nd (dsub (dv 4) (dix (dv 6) dint)))) sdnil)
      (sdone (sdif (PWD.pt (tor (teq (dv 2) (dv 3)) (tor1 (teq (dv 5) (dv 7))))) (sdone (sdexpr (dappend 1 (dtup (dcons (dix (dv 6) dint) (dcons (dv 3) (dcons (dix (dv 6) dint) (dcons (dv 7) dnil)))))))) (sdcons (sdexpr (dappend 1 (dtup (dcons (dix (dv 6) dint) (dcons (dv 2) (dcons (dix (dv 6) dint) (dcons (dv 7) dnil)))))))
      (sdone (sdexpr (dappend 1 (dcall (D_begun T) (hr.mono (by decide)) (dcons (dadd (dv 2) dint) (dcons (dv 3) (dcons (dadd (dv 4) (dv 5)) (dcons (dv 5) dnil))))))))))))))))
      (sdone (sdret (dtupOf T.tuple (dvo 1)))))), fun a k0 h => by
    obtain ⟨R, rfl, hl, ha, hb, hk⟩ := h
    walk_at "dgo"
    refine ⟨fun j ρ => ∃ l s2 s3 s4 s5 s6 s7, ρ = [.val (rowsD R), .own l, s2, s3, s4, s5, s6, s7] ∧ l = ((R.take j).foldl laidStep []).reverse.map rowD, ⟨_, _, _, _, _, _, _, rfl, rfl⟩, fun j x ρ2 hx hI => ?_, fun ρ2 hI => ?_⟩
    · obtain ⟨r, hr, rfl⟩ := map_get hx
      obtain ⟨l, s2, s3, s4, s5, s6, s7, rfl, rfl⟩ := hI
      have hlen : ((R.take j).foldl laidStep []).length ≤ 100000 := by
        have h1 := laid_foldl_length (R.take j) []
        rw [List.length_take] at h1
        simp at h1
        omega
      have hs : (R.take (j + 1)).foldl laidStep [] = laidStep ((R.take j).foldl laidStep []) r := by
        rw [List.take_add_one, hr, List.foldl_append]; rfl
      rcases ha2 : (R.take j).foldl laidStep [] with _ | ⟨f, t⟩
      · rw [ha2] at hs
        clear hlen
        walk_at "dgo"
        all_goals first | (refine ⟨_, _, _, _, _, _, _, rfl, ?_⟩; rw [hs]; rfl)
      · rw [ha2] at hs hlen
        have hm := laid_head ha hb hr ha2
        rw [List.length_cons] at hlen
        simp only [List.reverse_cons, List.map_append, List.map_cons, List.map_nil]
        walk_at "dgb"
        all_goals first
          | (exfalso; simp only [List.length_append, List.length_singleton] at *; omega)
          | (refine ⟨_, _, _, _, _, _, _, rfl, ?_⟩; rw [hs]; dsimp only [laidStep]; rw [if_pos (by assumption)]; unfold ownStep; (repeat' split) <;> first | (simp [rowD]; done) | (exfalso; omega))
          | (refine ⟨_, _, _, _, _, _, _, rfl, ?_⟩; rw [hs]; dsimp only [laidStep]; rw [if_neg (by rw [Bool.not_eq_true]; assumption)]; simp [rowD]; done)
    · obtain ⟨l, s2, s3, s4, s5, s6, s7, rfl, rfl⟩ := hI
      rw [List.length_map, List.take_length]
      walk_at "dgo"
      exact hk⟩
end
end K36
set_option Elab.async false
set_option linter.all false
set_option maxRecDepth 100000
set_option maxHeartbeats 4000000
namespace K36
open PySem PySem.Spec PyProof.Rows L2
local macro_rules | `(tactic| walk_at "dsd") => `(tactic| first | omega | exact mulW (by omega) (by omega) | exact divW (by omega) (by omega) | assumption | ((try simp only [List.length_append, List.length_cons, List.length_nil, List.length_map, List.length_reverse]); omega))
local macro_rules | `(tactic| walk_at "dgo") => `(tactic| (repeat' (first | refine ⟨_, rfl, ?_⟩ | refine ⟨_, _, rfl, ?_⟩ | refine ⟨_, _, rfl, rfl, ?_⟩ | refine ⟨_, _, _, rfl, ?_⟩ | refine ⟨_, _, _, rfl, rfl, rfl, ?_⟩ | refine ⟨_, _, _, rfl, rfl, atI_last, ?_⟩ | refine ⟨_, _, _, rfl, rfl, by assumption, ?_⟩ | refine ⟨_, _, _, _, rfl, ?_⟩ | refine And.intro rfl ?_ | refine And.intro ⟨_, rfl⟩ ?_ | refine ⟨_, .inl rfl, ?_⟩ | refine ⟨_, .inr rfl, ?_⟩ | refine t_go ?_ | refine f_go ?_ | refine d_go (fun _ => ?_) (fun _ => ?_) | refine n_go (fun _ => ?_) (fun _ => ?_) | refine c_go (fun _ => ?_) (fun _ => ?_) | refine And.intro (by walk_at "dsd") ?_ | fail)))
local macro_rules | `(tactic| walk_at "dgb") => `(tactic| (repeat' (first | refine ⟨_, rfl, ?_⟩ | refine ⟨_, _, rfl, ?_⟩ | refine ⟨_, _, rfl, rfl, ?_⟩ | refine ⟨_, _, _, rfl, ?_⟩ | refine ⟨_, _, _, rfl, rfl, rfl, ?_⟩ | refine ⟨_, _, _, rfl, rfl, atI_last, ?_⟩ | refine ⟨_, _, _, rfl, rfl, by assumption, ?_⟩ | refine ⟨_, _, _, _, rfl, ?_⟩ | refine And.intro rfl ?_ | refine And.intro ⟨_, rfl⟩ ?_ | refine ⟨_, .inl rfl, ?_⟩ | refine ⟨_, .inr rfl, ?_⟩ | refine t_go ?_ | refine f_go ?_ | refine d_go (fun _ => ?_) (fun _ => ?_) | refine n_go (fun _ => ?_) (fun _ => ?_) | refine c_go (fun _ => ?_) (fun _ => ?_) | refine nb_go (fun _ => ?_) (fun _ => ?_) | refine b_go (fun _ => ?_) (fun _ => ?_) | refine And.intro (by walk_at "dsd") ?_ | fail)))
local macro_rules | `(tactic| walk_at "dif") => `(tactic| ((repeat' split) <;> first | rfl | (exfalso; omega)))
section
variable {P : Program} {w0 : World} {K : PySem.W.Frag} {mg : PySem.Str → Option Value} {base : Heap} {ad : Kd → Addr}
theorem sc_clipped : FnScope ["part", "low", "high", "first", "last"] ["part", "low", "high"] (defScope sClipped) := ⟨rfl, rfl, rfl, by decide +kernel, rfl, by decide +kernel, by decide +kernel⟩
def gClipped (part low high : D) (k : D → Prop) : Prop := ∃ a b c d, part = .tup [.int a, .int b, .int c, .int d] ∧ ∃ lo hi, low = .int lo ∧ high = .int hi ∧ (-(900 * Yb) ≤ a ∧ a ≤ 900 * Yb ∧ -(900 * Yb) ≤ lo ∧ lo ≤ 900 * Yb ∧ -(900 * Yb) ≤ d ∧ d ≤ 900 * Yb) ∧ k (rowsD (clip ⟨a, b, c, d⟩ lo hi))
theorem D_clipped (T : Txt K mg ad) : DF P w0 K mg base 3 "clipped" ["part", "low", "high"] (spOf K (sp3 gClipped)) :=
  T.f_clipped.df3 (N := ["part", "low", "high", "first", "last"]) (fun _ _ _ _ _ _ _ _ _ => rfl) sc_clipped fun f cdv A outer s H E hr => ⟨_, _, (sdcons (sdset (i := 3) sc_clipped.nd (dmax rfl T.max (dv 1) (dix (dv 0) dint)))
      (sdcons (sdset (i := 4) sc_clipped.nd (dmin rfl T.min (dv 2) (dix (dv 0) dint)))
      (sdcons (sdif (tgt (dv 3) (dv 4)) (sdone (sdret (PLD.asE (dlist dnil)))) sdnil)
      (sdone (sdret (PLD.asE (dlist (dcons (dtup (dcons (dv 3) (dcons (dv 4) (dcons (dcall (D_line_at T) (hr.mono (by decide)) (dcons (dtup (dcons (dix (dv 0) dint) (dcons (dix (dv 0) dint) dnil))) (dcons (dix (dv 0) dint) (dcons (dv 3) dnil)))) (dcons (dix (dv 0) dint) dnil))))) dnil)))))))), fun p l h k0 hh => by
    obtain ⟨a, b, c, d, rfl, lo, hi, rfl, rfl, hc, hk⟩ := hh
    have y := yb1
    walk_at "dgo"
    all_goals (refine Eq.mp (congrArg k0 ?_) hk; unfold clip pyMin pyMax; dsimp only; (repeat' split) <;> first | rfl | (exfalso; omega))⟩
theorem bdY_rows {f : List Row} {i : Nat} {r : Row} (hf : IsForm f) (hb : BdY f) (hr : f[i]? = some r) : r.lo ≤ r.hi ∧ (-(100 * Yb) ≤ r.lo ∧ r.hi ≤ 100 * Yb) ∧ (-(100 * Yb) ≤ r.pr ∧ r.pr ≤ 100 * Yb) ∧ (-(200 * Yb) ≤ r.st ∧ r.st ≤ 200 * Yb) := bdY_row hf hb (List.mem_of_getElem? hr)
theorem flatMap_take {f : List Row} {g : Row → List Row} {j : Nat} {r : Row} (h : f[j]? = some r) : (f.take (j + 1)).flatMap g = (f.take j).flatMap g ++ g r := by
  rw [List.take_add_one, h, List.flatMap_append]
  simp
theorem flatMap_le {g : Row → List Row} {n : Nat} (hg : ∀ r, (g r).length ≤ n) : ∀ f : List Row, (f.flatMap g).length ≤ n * f.length
  | [] => by simp
  | r :: f => by
    have := flatMap_le hg f
    have := hg r
    simp only [List.flatMap_cons, List.length_append, List.length_cons, Nat.mul_add, Nat.mul_one]
    omega
theorem sc_within : FnScope ["form", "low", "high", "rows", "part"] ["form", "low", "high"] (defScope sWithin) := ⟨rfl, rfl, rfl, by decide +kernel, rfl, by decide +kernel, by decide +kernel⟩
def gWithin (form low high : D) (k : D → Prop) : Prop := ∃ f : List Row, form = formD f ∧ ∃ lo hi, low = .int lo ∧ high = .int hi ∧ (-(100 * Yb) ≤ lo ∧ lo ≤ 100 * Yb) ∧ IsForm f ∧ BdY f ∧ f.length ≤ 10000 ∧ k (formD (fWithin f lo hi))
theorem D_within (T : Txt K mg ad) : DF P w0 K mg base 5 "within" ["form", "low", "high"] (spOf K (sp3 gWithin)) :=
  T.f_within.df3 (N := ["form", "low", "high", "rows", "part"]) (fun _ _ _ _ _ _ _ _ _ => rfl) sc_within fun f cdv A outer s H E hr => ⟨_, _, (sdcons (sdsetL (i := 3) sc_within.nd (dlist dnil))
      (sdcons (sdfor PassesOwn.never rfl (dituple (dv 0)) (gdname (i := 4) sc_within.nd) (sdone (sdexpr (dextend 3 (dcall (D_clipped T) (hr.mono (by decide)) (dcons (dv 4) (dcons (dv 1) (dcons (dv 2) dnil))))))))
      (sdone (sdret (dcall (D_laid T) (hr.mono (by decide)) (dcons (dvo 3) dnil)))))), fun a b c k0 h => by
    obtain ⟨f, rfl, lo, hi, rfl, rfl, hlo, hf, hb, hl, hk⟩ := h
    have y := yb1
    obtain ⟨sp1, sp2⟩ := within_spec hf.asc lo hi
    walk_at "dgo"
    refine ⟨fun j ρ => ∃ l s4, ρ = [.val (formD f), .val (.int lo), .val (.int hi), .own l, s4] ∧ l = (withinRows (f.take j) lo hi).map rowD, ⟨_, _, rfl, rfl⟩, fun j x ρ2 hx hI => ?_, fun ρ2 hI => ?_⟩
    · obtain ⟨r, hr, rfl⟩ := map_get hx
      obtain ⟨l, s4, rfl, rfl⟩ := hI
      have hm := bdY_rows hf hb hr
      have hs : withinRows (f.take (j + 1)) lo hi = withinRows (f.take j) lo hi ++ clip r lo hi := flatMap_take hr
      have hlen := flatMap_le (fun r => clip_length r lo hi) (f.take j)
      have hlen2 := clip_length ⟨r.lo, r.hi, r.pr, r.st⟩ lo hi
      rw [List.length_take] at hlen
      have hlen3 : (withinRows (f.take j) lo hi).length ≤ 10000 := by unfold withinRows; omega
      walk_at "dgo"
      try refine ⟨_, _, rfl, ?_⟩
      rw [hs, List.map_append]
    · obtain ⟨l, s4, rfl, rfl⟩ := hI
      rw [List.length_map, List.take_length]
      have hlen := flatMap_le (fun r => clip_length r lo hi) f
      have h1 : (withinRows f lo hi).length ≤ 100000 := by unfold withinRows; omega
      have h2 : BdY (withinRows f lo hi) := fun x c e => by
        rw [sp2] at e
        split at e
        · exact hb x c e
        · cases e
      walk_at "dgo"
      exact hk⟩
theorem sc_without : FnScope ["form", "low", "high", "rows", "part"] ["form", "low", "high"] (defScope sWithout) := ⟨rfl, rfl, rfl, by decide +kernel, rfl, by decide +kernel, by decide +kernel⟩
def gWithout (form low high : D) (k : D → Prop) : Prop := ∃ f : List Row, form = formD f ∧ ∃ lo hi, low = .int lo ∧ high = .int hi ∧ lo ≤ hi ∧ (-(100 * Yb) ≤ lo ∧ hi ≤ 100 * Yb) ∧ IsForm f ∧ BdY f ∧ f.length ≤ 10000 ∧ k (formD (fWithout f lo hi))
theorem D_without (T : Txt K mg ad) : DF P w0 K mg base 5 "without" ["form", "low", "high"] (spOf K (sp3 gWithout)) :=
  T.f_without.df3 (N := ["form", "low", "high", "rows", "part"]) (fun _ _ _ _ _ _ _ _ _ => rfl) sc_without fun f cdv A outer s H E hr => ⟨_, _, (sdcons (sdif (tgt (dv 1) (dv 2)) (sdone (sdret (dcall (D_laid T) (hr.mono (by decide)) (dcons (PLD.asE (dlistOf T.list (dv 0))) dnil)))) sdnil)
      (sdcons (sdsetL (i := 3) sc_without.nd (dlist dnil))
      (sdcons (sdfor PassesOwn.never rfl (dituple (dv 0)) (gdname (i := 4) sc_without.nd) (sdcons (sdexpr (dextend 3 (dcall (D_clipped T) (hr.mono (by decide)) (dcons (dv 4) (dcons (dix (dv 4) dint) (dcons (dsub (dv 1) dint) dnil))))))
      (sdone (sdexpr (dextend 3 (dcall (D_clipped T) (hr.mono (by decide)) (dcons (dv 4) (dcons (dadd (dv 2) dint) (dcons (dix (dv 4) dint) dnil)))))))))
      (sdone (sdret (dcall (D_laid T) (hr.mono (by decide)) (dcons (dvo 3) dnil))))))), fun a b c k0 h => by
    obtain ⟨f, rfl, lo, hi, rfl, rfl, hlh, hlo, hf, hb, hl, hk⟩ := h
    have y := yb1
    obtain ⟨sp1, sp2⟩ := without_spec hf.asc hlh
    walk_at "dgo"
    · exfalso; omega
    have len2 : ∀ r : Row, (clip r r.lo (lo - 1) ++ clip r (hi + 1) r.hi).length ≤ 2 := fun r => by
      have h1 := clip_length r r.lo (lo - 1)
      have h2 := clip_length r (hi + 1) r.hi
      rw [List.length_append]; omega
    refine ⟨fun j ρ => ∃ l s4, ρ = [.val (formD f), .val (.int lo), .val (.int hi), .own l, s4] ∧ l = (withoutRows (f.take j) lo hi).map rowD, ⟨_, _, rfl, rfl⟩, fun j x ρ2 hx hI => ?_, fun ρ2 hI => ?_⟩
    · obtain ⟨r, hr, rfl⟩ := map_get hx
      obtain ⟨l, s4, rfl, rfl⟩ := hI
      have hm := bdY_rows hf hb hr
      have hs : withoutRows (f.take (j + 1)) lo hi = withoutRows (f.take j) lo hi ++ (clip r r.lo (lo - 1) ++ clip r (hi + 1) r.hi) := flatMap_take hr
      have hlen := flatMap_le len2 (f.take j)
      have hlen2 := clip_length ⟨r.lo, r.hi, r.pr, r.st⟩ r.lo (lo - 1)
      have hlen4 := clip_length ⟨r.lo, r.hi, r.pr, r.st⟩ (hi + 1) r.hi
      rw [List.length_take] at hlen
      have hlen3 : (withoutRows (f.take j) lo hi).length ≤ 20000 := by unfold withoutRows; omega
      walk_at "dgo"
      try refine ⟨_, _, rfl, ?_⟩
      rw [hs, List.map_append, List.map_append, List.append_assoc]
    · obtain ⟨l, s4, rfl, rfl⟩ := hI
      rw [List.length_map, List.take_length]
      have hlen := flatMap_le len2 f
      have h1 : (withoutRows f lo hi).length ≤ 100000 := by unfold withoutRows; omega
      have h2 : BdY (withoutRows f lo hi) := fun x c e => by
        rw [sp2] at e
        split at e
        · cases e
        · exact hb x c e
      walk_at "dgo"
      exact hk⟩
theorem sc_raised : FnScope ["form", "price", "part"] ["form", "price"] (defScope sRaised) := ⟨rfl, rfl, rfl, by decide +kernel, rfl, by decide +kernel, by decide +kernel⟩
def raiseD (p : Int) : D → D
  | .tup [.int a, .int b, .int c, .int d] => .tup [.int a, .int b, .int (c + p), .int d]
  | d => d
def gRaised (form price : D) (k : D → Prop) : Prop := ∃ f : List Row, form = formD f ∧ ∃ p, price = .int p ∧ IsForm f ∧ BdY (raisedRows f p) ∧ f.length ≤ 10000 ∧ k (formD (fRaised f p))
theorem D_raised (T : Txt K mg ad) : DF P w0 K mg base 5 "raised" ["form", "price"] (spOf K (sp2 gRaised)) :=
  T.f_raised.df2 (N := ["form", "price", "part"]) (fun _ _ _ _ _ _ _ _ => rfl) sc_raised fun f cdv A outer s H E hr => ⟨_, _, (sdone (sdret (dcall (D_laid T) (hr.mono (by decide)) (dcons (PLD.asE (dlc (i := 2) (te := tTup (tCons (tOp (rIx K) (tVar 2) (tC (.int 0))) (tCons (tOp (rIx K) (tVar 2) (tC (.int 1))) (tCons (tOp (rI0 fun i j => .int (i + j)) (tOp (rIx K) (tVar 2) (tC (.int 2))) (tVar 1)) (tCons (tOp (rIx K) (tVar 2) (tC (.int 3))) tNil))))) (we := wTup (wCons (wOp rdIx (wVar 2) (wC (.int 0))) (wCons (wOp rdIx (wVar 2) (wC (.int 1))) (wCons (wOp (rdI fun i j => .int (i + j)) (wOp rdIx (wVar 2) (wC (.int 2))) (wVar 1)) (wCons (wOp rdIx (wVar 2) (wC (.int 3))) wNil))))) rfl sc_raised.nd (dituple (dv 0)) (blkOk_by (by rfl)) (fun _ _ _ _ _ => pg_name (i := 2) sc_raised.nd rfl (by first | exact Or.inl rfl | exact Or.inr rfl)) (fun _ _ _ _ _ => (dtup (dcons (dix (dv 2) dint) (dcons (dix (dv 2) dint) (dcons (dadd (dix (dv 2) dint) (dv 1)) (dcons (dix (dv 2) dint) dnil)))))))) dnil)))), fun a b k0 h => by
    obtain ⟨f, rfl, p, rfl, hf, hb, hl, hk⟩ := h
    have y := yb1
    obtain ⟨sp1, sp2⟩ := raised_spec hf.asc p
    have e : (f.map rowD).map (raiseD p) = (raisedRows f p).map rowD := by
      unfold raisedRows
      rw [List.map_map, List.map_map]
      rfl
    have h1 : (raisedRows f p).length ≤ 100000 := by unfold raisedRows; rw [List.length_map]; omega
    walk_at "dgo"
    refine ⟨raiseD p, fun x hx => ?_, ?_⟩
    · obtain ⟨r, _, rfl⟩ := List.mem_map.mp hx
      walk_at "dgo"
      rfl
    · rw [e]
      walk_at "dgo"
      exact hk⟩
end
end K36
set_option Elab.async false
set_option linter.all false
set_option maxRecDepth 100000
set_option maxHeartbeats 4000000
namespace K36
open PySem PySem.Spec PyProof.Rows L2
local macro_rules | `(tactic| walk_at "dsd") => `(tactic| first | omega | exact mulW (by omega) (by omega) | exact divW (by omega) (by omega) | assumption | ((try simp only [List.length_append, List.length_cons, List.length_nil, List.length_map, List.length_reverse]); omega))
local macro_rules | `(tactic| walk_at "dgo") => `(tactic| (repeat' (first | refine ⟨_, rfl, ?_⟩ | refine ⟨_, _, rfl, ?_⟩ | refine ⟨_, _, rfl, rfl, ?_⟩ | refine ⟨_, _, _, rfl, ?_⟩ | refine ⟨_, _, _, rfl, rfl, rfl, ?_⟩ | refine ⟨_, _, _, rfl, rfl, atI_last, ?_⟩ | refine ⟨_, _, _, rfl, rfl, by assumption, ?_⟩ | refine ⟨_, _, _, _, rfl, ?_⟩ | refine And.intro rfl ?_ | refine And.intro ⟨_, rfl⟩ ?_ | refine ⟨_, .inl rfl, ?_⟩ | refine ⟨_, .inr rfl, ?_⟩ | refine t_go ?_ | refine f_go ?_ | refine d_go (fun _ => ?_) (fun _ => ?_) | refine n_go (fun _ => ?_) (fun _ => ?_) | refine c_go (fun _ => ?_) (fun _ => ?_) | refine And.intro (by walk_at "dsd") ?_ | fail)))
local macro_rules | `(tactic| walk_at "dgb") => `(tactic| (repeat' (first | refine ⟨_, rfl, ?_⟩ | refine ⟨_, _, rfl, ?_⟩ | refine ⟨_, _, rfl, rfl, ?_⟩ | refine ⟨_, _, _, rfl, ?_⟩ | refine ⟨_, _, _, rfl, rfl, rfl, ?_⟩ | refine ⟨_, _, _, rfl, rfl, atI_last, ?_⟩ | refine ⟨_, _, _, rfl, rfl, by assumption, ?_⟩ | refine ⟨_, _, _, _, rfl, ?_⟩ | refine And.intro rfl ?_ | refine And.intro ⟨_, rfl⟩ ?_ | refine ⟨_, .inl rfl, ?_⟩ | refine ⟨_, .inr rfl, ?_⟩ | refine t_go ?_ | refine f_go ?_ | refine d_go (fun _ => ?_) (fun _ => ?_) | refine n_go (fun _ => ?_) (fun _ => ?_) | refine c_go (fun _ => ?_) (fun _ => ?_) | refine nb_go (fun _ => ?_) (fun _ => ?_) | refine b_go (fun _ => ?_) (fun _ => ?_) | refine And.intro (by walk_at "dsd") ?_ | fail)))
local macro_rules | `(tactic| walk_at "dif") => `(tactic| ((repeat' split) <;> first | rfl | (exfalso; omega)))
section
variable {P : Program} {w0 : World} {K : PySem.W.Frag} {mg : PySem.Str → Option Value} {base : Heap} {ad : Kd → Addr}
theorem sc_plus : FnScope ["one", "other", "rows", "at", "to", "first", "second"] ["one", "other"] (defScope sPlus) := ⟨rfl, rfl, rfl, by decide +kernel, rfl, by decide +kernel, by decide +kernel⟩
def gPlus (one other : D) (k : D → Prop) : Prop := ∃ f g : List Row, one = formD f ∧ other = formD g ∧ IsForm f ∧ BdY f ∧ IsForm g ∧ BdY g ∧ BdY (plusRows f g) ∧ f.length ≤ 10000 ∧ g.length ≤ 10000 ∧ k (formD (fPlus f g))
def mPlus (f g : List Row) (ρ : List Sl) : Nat := match ρ[3]?, ρ[4]? with
  | some (Sl.val (D.int i)), some (Sl.val (D.int j)) => (f.length - i.toNat) + (g.length - j.toNat)
  | _, _ => 0
theorem D_plus (T : Txt K mg ad) : DF P w0 K mg base 5 "plus" ["one", "other"] (spOf K (sp2 gPlus)) :=
  T.f_plus.df2 (N := ["one", "other", "rows", "at", "to", "first", "second"]) (fun _ _ _ _ _ _ _ _ => rfl) sc_plus fun f cdv A outer s H E hr => ⟨_, _, (sdcons (sdsetL (i := 2) sc_plus.nd (dlist dnil))
      (sdcons (sdset (i := 3) sc_plus.nd dint)
      (sdcons (sdset (i := 4) sc_plus.nd dint)
      (sdcons (sdwhile PassesOwn.never (PWD.pt (tand (tlt (dv 3) (dlen T.len (dv 0))) (tand1 (tlt (dv 4) (dlen T.len (dv 1)))))) (sdcons (sdfor PassesOwn.never rfl (dilist (dcall (D_clipped T) (hr.mono (by decide)) (dcons (dix (dv 0) (dv 3)) (dcons (dix (dix (dv 1) (dv 4)) dint) (dcons (dix (dix (dv 1) (dv 4)) dint) dnil))))) (gdname (i := 5) sc_plus.nd) (sdcons (sdset (i := 6) sc_plus.nd (dix (dcall (D_clipped T) (hr.mono (by decide)) (dcons (dix (dv 1) (dv 4)) (dcons (dix (dv 5) dint) (dcons (dix (dv 5) dint) dnil)))) dint))
      (sdone (sdexpr (dappend 2 (dtup (dcons (dix (dv 5) dint) (dcons (dix (dv 5) dint) (dcons (dadd (dix (dv 5) dint) (dix (dv 6) dint)) (dcons (dadd (dix (dv 5) dint) (dix (dv 6) dint)) dnil))))))))))
      (sdone (sdif (tlt (dix (dix (dv 0) (dv 3)) dint) (dix (dix (dv 1) (dv 4)) dint)) (sdone (sdaug (i := 3) sc_plus.nd dint)) (sdone (sdaug (i := 4) sc_plus.nd dint))))))
      (sdone (sdret (dcall (D_laid T) (hr.mono (by decide)) (dcons (dvo 2) dnil)))))))), fun a b k0 h => by
    obtain ⟨f, g, rfl, rfl, hf, hbf, hg, hbg, hb, hlf, hlg, hk⟩ := h
    have y := yb1
    obtain ⟨sp1, _, sp3, sp4⟩ := plus_spec f g hf.asc hg.asc
    walk_at "dgo"
    refine ⟨fun ρ => ∃ (l : List D) (i j : Nat) (done : List Row) (s5 s6 : Sl), ρ = [.val (formD f), .val (formD g), .own l, .val (.int i), .val (.int j), s5, s6] ∧ l = done.map rowD ∧ done ++ plusRows (f.drop i) (g.drop j) = plusRows f g ∧ i ≤ f.length ∧ j ≤ g.length ∧ done.length ≤ i + j, mPlus f g,
      ⟨_, 0, 0, [], _, _, rfl, rfl, rfl, Nat.zero_le _, Nat.zero_le _, Nat.le_refl _⟩, fun ρ1 hI => ?_⟩
    obtain ⟨l, i, j, done, s5, s6, rfl, rfl, hd, hi, hj, hl⟩ := hI
    have fin : ¬ (i < f.length ∧ j < g.length) → done = plusRows f g := fun h => by
      rw [← hd]
      by_cases h1 : i < f.length
      · have e : g.drop j = [] := List.drop_eq_nil_of_le (by omega)
        rw [e]
        cases f.drop i <;> simp [plusRows]
      · have e : f.drop i = [] := List.drop_eq_nil_of_le (by omega)
        rw [e]
        simp [plusRows]
    by_cases hlt : i < f.length ∧ j < g.length
    · obtain ⟨a, ha⟩ : ∃ a, f[i]? = some a := ⟨_, List.getElem?_eq_getElem hlt.1⟩
      obtain ⟨b, hb'⟩ : ∃ b, g[j]? = some b := ⟨_, List.getElem?_eq_getElem hlt.2⟩
      have ia := atI_row ha
      have ib := atI_row hb'
      have ba := bdY_rows hf hbf ha
      have bb := bdY_rows hg hbg hb'
      rw [drop_at ha, drop_at hb'] at hd
      rw [plusRows] at hd
      have step : ∀ {done' : List Row}, done' = done ++ plusSeg a b → (a.hi < b.hi → done' ++ plusRows (f.drop (i + 1)) (g.drop j) = plusRows f g) ∧ (¬ a.hi < b.hi → done' ++ plusRows (f.drop i) (g.drop (j + 1)) = plusRows f g) := fun {done'} e => by
        subst e
        refine ⟨fun c => ?_, fun c => ?_⟩
        · rw [if_pos c, ← drop_at hb'] at hd
          rw [List.append_assoc]; exact hd
        · rw [if_neg c, ← drop_at ha] at hd
          rw [List.append_assoc]; exact hd
      rcases len1 (clip_length ⟨a.lo, a.hi, a.pr, a.st⟩ b.lo b.hi) with hcl | ⟨q, hcl⟩
      · have e0 : plusSeg a b = [] := by
          show (clip ⟨a.lo, a.hi, a.pr, a.st⟩ b.lo b.hi).flatMap _ = []
          rw [hcl]; rfl
        obtain ⟨st1, st2⟩ := step (done' := done) (by rw [e0, List.append_nil])
        have e1 : done.map rowD = done.map rowD := rfl
        walk_at "dgo"
        all_goals try (exfalso; simp only [List.length_map] at *; omega)
        rw [hcl]
        refine for_nil ?_
        walk_at "dgo"
        · refine ⟨⟨_, i + 1, j, done, _, _, rfl, rfl, st1 (by assumption), by omega, by omega, by omega⟩, ?_⟩
          simp [mPlus]; omega
        · refine ⟨⟨_, i, j + 1, done, _, _, rfl, rfl, st2 (by assumption), by omega, by omega, by omega⟩, ?_⟩
          simp [mPlus]; omega
      · have cw := clip_within q (by rw [hcl]; exact List.mem_singleton.mpr rfl)
        have hcl2 : clip ⟨b.lo, b.hi, b.pr, b.st⟩ q.lo q.hi = [⟨q.lo, q.hi, b.at_ q.lo, b.st⟩] := clip_self (by omega) (by show b.lo ≤ _; omega) (by show _ ≤ b.hi; omega)
        have e0 : plusSeg a b = [⟨q.lo, q.hi, q.pr + b.at_ q.lo, q.st + b.st⟩] := by
          show (clip ⟨a.lo, a.hi, a.pr, a.st⟩ b.lo b.hi).flatMap _ = _
          rw [hcl]
          show (clip ⟨b.lo, b.hi, b.pr, b.st⟩ q.lo q.hi).map _ ++ [] = _
          rw [hcl2]; rfl
        obtain ⟨st1, st2⟩ := step (done' := done ++ plusSeg a b) rfl
        have hq : atI ((clip ⟨b.lo, b.hi, b.pr, b.st⟩ q.lo q.hi).map rowD) 0 = some (rowD ⟨q.lo, q.hi, b.at_ q.lo, b.st⟩) := by rw [hcl2]; rfl
        walk_at "dgo"
        all_goals try (exfalso; simp only [List.length_map] at *; omega)
        rw [hcl]
        refine for_one ?_
        walk_at "dgo"
        · refine ⟨⟨_, i + 1, j, done ++ plusSeg a b, _, _, rfl, ?_, st1 (by assumption), by omega, by omega, ?_⟩, ?_⟩
          · rw [e0, List.map_append]; rfl
          · rw [e0, List.length_append, List.length_singleton]; omega
          · simp [mPlus]; omega
        · refine ⟨⟨_, i, j + 1, done ++ plusSeg a b, _, _, rfl, ?_, st2 (by assumption), by omega, by omega, ?_⟩, ?_⟩
          · rw [e0, List.map_append]; rfl
          · rw [e0, List.length_append, List.length_singleton]; omega
          · simp [mPlus]; omega
    · have e := fin hlt
      subst e
      walk_at "dgo"
      all_goals first | (exfalso; simp only [List.length_map] at *; omega) | exact hk⟩
theorem sc_freed : FnScope ["form", "count", "rows", "price", "part", "low", "high", "cost", "step"] ["form", "count"] (defScope sFreed) := ⟨rfl, rfl, rfl, by decide +kernel, rfl, by decide +kernel, by decide +kernel⟩
def gFreed (form count : D) (k : D → Prop) : Prop := ∃ f : List Row, form = formD f ∧ ∃ c, count = .int c ∧ 0 ≤ c ∧ IsForm f ∧ BdY f ∧ BdY (freedRows f c) ∧ f.length ≤ 10000 ∧ k (formD (fFreed f c))
theorem D_freed (T : Txt K mg ad) : DF P w0 K mg base 5 "freed" ["form", "count"] (spOf K (sp2 gFreed)) :=
  T.f_freed.df2 (N := ["form", "count", "rows", "price", "part", "low", "high", "cost", "step"]) (fun _ _ _ _ _ _ _ _ => rfl) sc_freed fun f cdv A outer s H E hr => ⟨_, _, (sdcons (sdsetL (i := 2) sc_freed.nd (dlist dnil))
      (sdcons (sdset (i := 3) sc_freed.nd (dcall (D_cost_at T) (hr.mono (by decide)) (dcons (dv 0) (dcons dint dnil))))
      (sdcons (sdif (tnotN (dv 3) dnon) (sdone (sdexpr (dappend 2 (dtup (dcons dint (dcons (dv 1) (dcons (dv 3) (dcons dint dnil)))))))) sdnil)
      (sdcons (sdfor PassesOwn.never rfl (dituple (dv 0)) (gdname (i := 4) sc_freed.nd) (sdone (sdfor PassesOwn.never rfl (dilist (dcall (D_clipped T) (hr.mono (by decide)) (dcons (dv 4) (dcons dint (dcons (dix (dv 4) dint) dnil))))) (gdtup rfl (gdcons (gdname (i := 5) sc_freed.nd) (gdcons (gdname (i := 6) sc_freed.nd) (gdcons (gdname (i := 7) sc_freed.nd) (gdcons (gdname (i := 8) sc_freed.nd) gdnil))))) (sdone (sdexpr (dappend 2 (dtup (dcons (dadd (dv 5) (dv 1)) (dcons (dadd (dv 6) (dv 1)) (dcons (dv 7) (dcons (dv 8) dnil)))))))))))
      (sdone (sdret (dcall (D_laid T) (hr.mono (by decide)) (dcons (dvo 2) dnil)))))))), fun a b k0 h => by
    obtain ⟨f, rfl, c, rfl, hc, hf, hb, hbf, hl, hk⟩ := h
    have y := yb1
    obtain ⟨spa, spb⟩ := freed_spec hf.asc hc
    have hcm : ∀ r ∈ f, CMulW r.st (0 - r.lo) := fun r hr => by
      have := bdY_row hf hb hr
      exact mulW (by omega) (by omega)
    have tail_len : ∀ f : List Row, (freedTail f c).length ≤ f.length := fun f => by
      have := flatMap_le (g := fun r => (clip r 1 r.hi).map (shiftRow c)) (n := 1) (fun r => by rw [List.length_map]; exact clip_length _ _ _) f
      unfold freedTail; omega
    have hhl : (freedHead f c).length ≤ 1 := by unfold freedHead; split <;> simp
    have e2 : (freedHead f c ++ freedTail f c) = freedRows f c := rfl
    have h1 : (freedHead f c ++ freedTail f c).length ≤ 100000 := by
      have := tail_len f
      rw [List.length_append]; omega
    rw [← e2] at hbf spa
    have hk' : k0 (formD (laid (freedHead f c ++ freedTail f c))) := hk
    walk_at "dgo"
    have hd : (freedHead f c).map rowD = match cost f 0 with | none => [] | some p => [D.tup [.int 0, .int c, .int p, .int 0]] := by
      unfold freedHead
      cases cost f 0 <;> rfl
    cases hc0 : cost f 0
    all_goals
      rw [hc0] at hd
      walk_at "dgo"
      refine ⟨fun j ρ => ∃ l s3 s4 s5 s6 s7 s8, ρ = [.val (formD f), .val (.int c), .own l, s3, s4, s5, s6, s7, s8] ∧ l = (freedHead f c ++ freedTail (f.take j) c).map rowD, ⟨_, _, _, _, _, _, _, rfl, by rw [List.map_append, hd]; rfl⟩, fun j x ρ2 hx hI => ?_, fun ρ2 hI => ?_⟩
      · obtain ⟨r, hr, rfl⟩ := map_get hx
        obtain ⟨l, s3, s4, s5, s6, s7, s8, rfl, rfl⟩ := hI
        have hm := bdY_rows hf hb hr
        have hs : freedTail (f.take (j + 1)) c = freedTail (f.take j) c ++ (clip r 1 r.hi).map (shiftRow c) := flatMap_take hr
        have hlen := tail_len (f.take j)
        rw [List.length_take] at hlen
        walk_at "dgo"
        rcases len1 (clip_length ⟨r.lo, r.hi, r.pr, r.st⟩ 1 r.hi) with hcl | ⟨q, hcl⟩
        · rw [hcl]
          refine for_nil ?_
          refine ⟨_, _, _, _, _, _, _, rfl, ?_⟩
          rw [hs]
          show _ = (_ ++ (_ ++ (clip ⟨r.lo, r.hi, r.pr, r.st⟩ 1 r.hi).map (shiftRow c))).map rowD
          rw [hcl]; simp
        · rw [hcl]
          refine for_one ?_
          walk_at "dgo"
          refine ⟨_, _, _, _, _, _, _, rfl, ?_⟩
          rw [hs]
          show _ = (_ ++ (_ ++ (clip ⟨r.lo, r.hi, r.pr, r.st⟩ 1 r.hi).map (shiftRow c))).map rowD
          rw [hcl]; simp [rowD, shiftRow]
      · obtain ⟨l, s3, s4, s5, s6, s7, s8, rfl, rfl⟩ := hI
        rw [List.length_map, List.take_length]
        walk_at "dgo"
        exact hk'⟩
end
end K36
set_option Elab.async false
set_option linter.all false
set_option maxRecDepth 100000
set_option maxHeartbeats 4000000
namespace K36
open PySem PySem.Spec PyProof.Rows L2
local macro_rules | `(tactic| walk_at "dsd") => `(tactic| first | omega | exact mulW (by omega) (by omega) | exact divW (by omega) (by omega) | assumption | ((try simp only [List.length_append, List.length_cons, List.length_nil, List.length_map, List.length_reverse, List.length_dropLast, List.length_drop, List.length_take]); omega))
local macro_rules | `(tactic| walk_at "dgo") => `(tactic| (repeat' (first | refine ⟨_, rfl, ?_⟩ | refine ⟨_, _, rfl, ?_⟩ | refine ⟨_, _, rfl, rfl, ?_⟩ | refine ⟨_, _, _, rfl, ?_⟩ | refine ⟨_, _, _, rfl, rfl, rfl, ?_⟩ | refine ⟨_, _, _, rfl, rfl, atI_last, ?_⟩ | refine ⟨_, _, _, rfl, rfl, by assumption, ?_⟩ | refine ⟨_, _, _, _, rfl, ?_⟩ | refine And.intro rfl ?_ | refine And.intro ⟨_, rfl⟩ ?_ | refine ⟨_, .inl rfl, ?_⟩ | refine ⟨_, .inr rfl, ?_⟩ | refine t_go ?_ | refine f_go ?_ | refine d_go (fun _ => ?_) (fun _ => ?_) | refine n_go (fun _ => ?_) (fun _ => ?_) | refine c_go (fun _ => ?_) (fun _ => ?_) | refine And.intro (by walk_at "dsd") ?_ | fail)))
local macro_rules | `(tactic| walk_at "dgb") => `(tactic| (repeat' (first | refine ⟨_, rfl, ?_⟩ | refine ⟨_, _, rfl, ?_⟩ | refine ⟨_, _, rfl, rfl, ?_⟩ | refine ⟨_, _, _, rfl, ?_⟩ | refine ⟨_, _, _, rfl, rfl, rfl, ?_⟩ | refine ⟨_, _, _, rfl, rfl, atI_last, ?_⟩ | refine ⟨_, _, _, rfl, rfl, by assumption, ?_⟩ | refine ⟨_, _, _, _, rfl, ?_⟩ | refine And.intro rfl ?_ | refine And.intro ⟨_, rfl⟩ ?_ | refine ⟨_, .inl rfl, ?_⟩ | refine ⟨_, .inr rfl, ?_⟩ | refine t_go ?_ | refine f_go ?_ | refine d_go (fun _ => ?_) (fun _ => ?_) | refine n_go (fun _ => ?_) (fun _ => ?_) | refine c_go (fun _ => ?_) (fun _ => ?_) | refine nb_go (fun _ => ?_) (fun _ => ?_) | refine b_go (fun _ => ?_) (fun _ => ?_) | refine And.intro (by walk_at "dsd") ?_ | fail)))
local macro_rules | `(tactic| walk_at "dif") => `(tactic| ((repeat' split) <;> first | rfl | (exfalso; omega)))
section
variable {P : Program} {w0 : World} {K : PySem.W.Frag} {mg : PySem.Str → Option Value} {base : Heap} {ad : Kd → Addr}
theorem sc_lines_over : FnScope ["form", "lows", "told", "at", "low", "part"] ["form", "lows"] (defScope sLinesOver) := ⟨rfl, rfl, rfl, by decide +kernel, rfl, by decide +kernel, by decide +kernel⟩
def mAt (f : List Row) (ρ : List Sl) : Nat := match ρ[3]? with
  | some (Sl.val (D.int i)) => f.length - i.toNat
  | _ => 0
def intsD (ns : List Int) : D := .lst (ns.map D.int)
def gLinesOver (form lows : D) (k : D → Prop) : Prop := ∃ (f : List Row) (ns : List Int), form = formD f ∧ lows = intsD ns ∧ IsForm f ∧ BdY f ∧ ns.Pairwise (· < ·) ∧ (∀ n ∈ ns, -(200 * Yb) ≤ n ∧ n ≤ 200 * Yb) ∧ ns.length ≤ 100000 ∧ k (.lst (ns.map fun n => lnO (lineFrom f n)))
theorem D_lines_over (T : Txt K mg ad) : DF P w0 K mg base 5 "lines_over" ["form", "lows"] (spOf K (sp2 gLinesOver)) :=
  T.f_lines_over.df2 (N := ["form", "lows", "told", "at", "low", "part"]) (fun _ _ _ _ _ _ _ _ => rfl) sc_lines_over fun f cdv A outer s H E hr => ⟨_, _, (sdcons (sdsetL (i := 2) sc_lines_over.nd (dlist dnil))
      (sdcons (sdset (i := 3) sc_lines_over.nd dint)
      (sdcons (sdfor PassesOwn.never rfl (dilist (dv 1)) (gdname (i := 4) sc_lines_over.nd) (sdcons (sdwhile PassesOwn.never (PWD.pt (tand (tlt (dv 3) (dlen T.len (dv 0))) (tand1 (tlt (dix (dix (dv 0) (dv 3)) dint) (dv 4))))) (sdone (sdaug (i := 3) sc_lines_over.nd dint)))
      (sdone (sdif (PWD.pt (tand (tlt (dv 3) (dlen T.len (dv 0))) (tand1 (tle (dix (dix (dv 0) (dv 3)) dint) (dv 4))))) (sdcons (sdset (i := 5) sc_lines_over.nd (dix (dv 0) (dv 3)))
      (sdone (sdexpr (dappend 2 (dtup (dcons (dcall (D_line_at T) (hr.mono (by decide)) (dcons (dtup (dcons (dix (dv 5) dint) (dcons (dix (dv 5) dint) dnil))) (dcons (dix (dv 5) dint) (dcons (dv 4) dnil)))) (dcons (dix (dv 5) dint) dnil))))))) (sdone (sdexpr (dappend 2 dnon)))))))
      (sdone (sdret (dvo 2)))))), fun a b k0 h => by
    obtain ⟨f, ns, rfl, rfl, hf, hb, hp, hn, hl, hk⟩ := h
    have y := yb1
    walk_at "dgo"
    refine ⟨fun j ρ => Hd (∃ (l : List D) (i : Nat) (s4 s5 : Sl), ρ = [.val (formD f), .val (intsD ns), .own l, .val (.int i), s4, s5] ∧ l = (ns.take j).map (fun n => lnO (lineFrom f n)) ∧ i ≤ f.length ∧ ∀ (i' : Nat) r, i' < i → f[i']? = some r → ∀ x ∈ ns.drop j, r.hi < x),
      .mk ⟨_, 0, _, _, rfl, rfl, Nat.zero_le _, fun i' r h => absurd h (Nat.not_lt_zero _)⟩, fun j x ρ2 hx hI => ?_, fun ρ2 hI => ?_⟩
    · obtain ⟨n, hj, rfl⟩ := map_get hx
      obtain ⟨l, i, s4, s5, rfl, rfl, hi, hbe⟩ := hI.of
      have hnb := hn n (List.mem_of_getElem? hj)
      have hjl : j < ns.length := (List.getElem?_eq_some_iff.mp hj).1
      have hlen : (ns.take j).length ≤ 100000 := by rw [List.length_take]; omega
      have hs : (ns.take (j + 1)).map (fun n => lnO (lineFrom f n)) = (ns.take j).map (fun n => lnO (lineFrom f n)) ++ [lnO (lineFrom f n)] := by
        rw [List.take_add_one, hj, List.map_append]; rfl
      have hdr := drop_at hj
      have hgt : ∀ x ∈ ns.drop (j + 1), n < x := fun x hx => by
        have hp' := List.Pairwise.sublist (List.drop_sublist j ns) hp
        rw [hdr] at hp'
        exact (List.pairwise_cons.mp hp').1 x hx
      walk_at "dgo"
      refine ⟨fun ρ => ∃ (i : Nat), ρ = [.val (formD f), .val (intsD ns), .own ((ns.take j).map (fun n => lnO (lineFrom f n))), .val (.int i), .val (.int n), s5] ∧ i ≤ f.length ∧ ∀ (i' : Nat) r, i' < i → f[i']? = some r → r.hi < n, mAt f,
        ⟨i, rfl, hi, fun i' r h1 h2 => hbe i' r h1 h2 n (by rw [hdr]; exact List.mem_cons_self)⟩, fun ρ1 hI => ?_⟩
      obtain ⟨i, rfl, hi, hbe⟩ := hI
      by_cases hlt : i < f.length
      · obtain ⟨r, hr⟩ : ∃ r, f[i]? = some r := ⟨_, List.getElem?_eq_getElem hlt⟩
        have ir := atI_row hr
        have br := bdY_rows hf hb hr
        have hm1 : CMulW r.st (n - r.lo) := mulW (by omega) (by omega)
        walk_at "dgo"
        all_goals try (exfalso; simp only [List.length_map] at *; omega)
        · refine ⟨⟨i + 1, rfl, by omega, fun i' r' h1 h2 => ?_⟩, by simp [mAt]; omega⟩
          by_cases e : i' = i
          · subst e; rw [hr] at h2; cases h2; assumption
          · exact hbe i' r' (by omega) h2
        · have e : lineFrom f n = some (r.at_ n, r.st) := lineFrom_at hf.asc hr (by assumption) (by omega)
          refine .mk ⟨_, i, _, _, rfl, ?_, hi, fun i' r' h1 h2 x hx => by have := hbe i' r' h1 h2; have := hgt x hx; omega⟩
          rw [hs, e]; rfl
        · have e : lineFrom f n = none := lineFrom_gap (k := i) hf.asc (fun i' r' h1 h2 => hbe i' r' h1 h2) fun r' h2 => by rw [hr] at h2; cases h2; omega
          refine .mk ⟨_, i, _, _, rfl, ?_, hi, fun i' r' h1 h2 x hx => by have := hbe i' r' h1 h2; have := hgt x hx; omega⟩
          rw [hs, e]; rfl
      · walk_at "dgo"
        all_goals try (exfalso; simp only [List.length_map] at *; omega)
        have e : lineFrom f n = none := lineFrom_gap (k := i) hf.asc (fun i' r' h1 h2 => hbe i' r' h1 h2) fun r' h2 => by
          rw [List.getElem?_eq_none (by omega)] at h2; cases h2
        refine .mk ⟨_, i, _, _, rfl, ?_, hi, fun i' r' h1 h2 x hx => by have := hbe i' r' h1 h2; have := hgt x hx; omega⟩
        rw [hs, e]; rfl
    · obtain ⟨l, i, s4, s5, rfl, rfl, hi, hbe⟩ := hI.of
      rw [List.length_map, List.take_length]
      walk_at "dgo"
      exact hk⟩
theorem sc_side_by_side : FnScope ["one", "other", "cuts", "part", "lows", "highs", "behind"] ["one", "other"] (defScope sSideBySide) := ⟨rfl, rfl, rfl, by decide +kernel, rfl, by decide +kernel, by decide +kernel⟩
def segL : List Int → List (Int × Int)
  | c :: d :: r => (c, d - 1) :: segL (d :: r)
  | _ => []
theorem segRows_segL (g : Int → Int → List Row) : ∀ cs : List Int, segRows g cs = (segL cs).flatMap fun p => g p.1 p.2
  | [] => rfl
  | [_] => rfl
  | c :: d :: r => by
    show g c (d - 1) ++ segRows g (d :: r) = _
    rw [segRows_segL g (d :: r)]
    simp [segL]
def segD (f g : List Row) (p : Int × Int) : D := .tup [.int p.1, .int p.2, lnO (lineFrom f p.1), lnO (lineFrom g p.1)]
theorem zip_segL (f g : List Row) : ∀ cs : List Int, zip4 (cs.dropLast.map D.int) ((cs.drop 1).map fun d => D.int (d - 1)) (cs.dropLast.map fun n => lnO (lineFrom f n)) (cs.dropLast.map fun n => lnO (lineFrom g n)) = (segL cs).map (segD f g)
  | [] => by simp [zip4, segL]
  | [_] => by simp [zip4, segL]
  | c :: d :: r => by
    have ih := zip_segL f g (d :: r)
    simp only [List.dropLast_cons₂, List.map_cons, List.drop_succ_cons, List.drop_zero, zip4, segL] at ih ⊢
    rw [ih]
    rfl
theorem cut_last {α : Type} (xs : List α) : cutD xs none (some (-1)) = xs.dropLast := by
  unfold cutD HT.sIx
  rw [List.dropLast_eq_take]
  simp
  congr 1
  omega
theorem cut_first {α : Type} (xs : List α) : cutD xs (some 1) none = xs.drop 1 := by
  unfold cutD HT.sIx
  simp
  cases xs with
  | nil => simp
  | cons x t => simp
def lastSub : D → D
  | .int i => .int (i - 1)
  | d => d
theorem cut_bound {f g : List Row} (hf : IsForm f) (hbf : BdY f) (hg : IsForm g) (hbg : BdY g) : ∀ n ∈ cuts f g, -(200 * Yb) ≤ n ∧ n ≤ 200 * Yb := fun n hn => by
  have y := yb1
  have h := mem_sortU.mp hn
  rw [bounds_append] at h
  rcases List.mem_append.mp h with h | h
  · obtain ⟨r, hr, e⟩ := mem_bounds.mp h
    have := bdY_row hf hbf hr
    omega
  · obtain ⟨r, hr, e⟩ := mem_bounds.mp h
    have := bdY_row hg hbg hr
    omega
theorem bounds_len : ∀ f : List Row, (bounds f).length = 2 * f.length
  | [] => rfl
  | r :: f => by
    have := bounds_len f
    unfold bounds at this ⊢
    simp only [List.flatMap_cons, List.length_append, List.length_cons, List.length_nil, this]
    omega
theorem bounds_take {f : List Row} {j : Nat} {r : Row} (h : f[j]? = some r) : bounds (f.take (j + 1)) = bounds (f.take j) ++ [r.lo, r.hi + 1] := by
  unfold bounds
  rw [List.take_add_one, h, List.flatMap_append]
  simp
def gSide (one other : D) (k : D → Prop) : Prop := ∃ f g : List Row, one = formD f ∧ other = formD g ∧ IsForm f ∧ BdY f ∧ IsForm g ∧ BdY g ∧ f.length + g.length ≤ 1900 ∧ k (.lst ((segL (cuts f g)).map (segD f g)))
theorem D_side_by_side (T : Txt K mg ad) : DF P w0 K mg base 6 "side_by_side" ["one", "other"] (spOf K (sp2 gSide)) :=
  T.f_side_by_side.df2 (N := ["one", "other", "cuts", "part", "lows", "highs", "behind"]) (fun _ _ _ _ _ _ _ _ => rfl) sc_side_by_side fun f cdv A outer s H E hr => ⟨_, _, (sdcons (sdsetL (i := 2) sc_side_by_side.nd (dlist dnil))
      (sdcons (sdfor PassesOwn.never rfl (dituple (dcatT (dv 0) (dv 1))) (gdname (i := 3) sc_side_by_side.nd) (sdcons (sdexpr (dappend 2 (dix (dv 3) dint)))
      (sdone (sdexpr (dappend 2 (dadd (dix (dv 3) dint) dint))))))
      (sdcons (sdset (i := 2) sc_side_by_side.nd (PLD.asE (dsortedSet rfl T.sorted T.set_ (dvo 2))))
      (sdcons (sdset (i := 4) sc_side_by_side.nd (PLD.asE (dslice (dv 2) dono (dosome (dneg dint)))))
      (sdcons (sdsetLc (i := 6) (iy := 5) (te := tOp (rI0 fun i j => .int (i - j)) (tVar 6) (tC (.int 1))) (we := wOp (rdI fun i j => .int (i - j)) (wVar 6) (wC (.int 1))) rfl sc_side_by_side.nd rfl rfl (sw_true rfl rfl rfl (by decide +kernel)) (dilist (PLD.asE (dslice (dv 2) (dosome dint) dono))) (blkOk_by (by rfl)) (fun _ _ _ _ _ => pg_name (i := 6) sc_side_by_side.nd rfl (by first | exact Or.inl rfl | exact Or.inr rfl)) (fun _ _ _ _ _ => (dsub (dv 6) dint)))
      (sdone (sdret (PLD.asE (dzip4 rfl T.list T.zip (dcons (dv 4) (dcons (dvo 5) (dcons (dcall (D_lines_over T) (hr.mono (by decide)) (dcons (dv 0) (dcons (dv 4) dnil))) (dcons (dcall (D_lines_over T) (hr.mono (by decide)) (dcons (dv 1) (dcons (dv 4) dnil))) dnil))))))))))))), fun a b k0 h => by
    obtain ⟨f, g, rfl, rfl, hf, hbf, hg, hbg, hl, hk⟩ := h
    have y := yb1
    have cb := cut_bound hf hbf hg hbg
    walk_at "dgo"
    rw [← List.map_append]
    refine ⟨fun j ρ => ∃ l s3 s4 s5 s6, ρ = [.val (formD f), .val (formD g), .own l, s3, s4, s5, s6] ∧ l = (bounds ((f ++ g).take j)).map D.int, ⟨_, _, _, _, _, rfl, rfl⟩, fun j x ρ2 hx hI => ?_, fun ρ2 hI => ?_⟩
    · obtain ⟨r, hr, rfl⟩ := map_get hx
      obtain ⟨l, s3, s4, s5, s6, rfl, rfl⟩ := hI
      have hlen := bounds_len ((f ++ g).take j)
      rw [List.length_take, List.length_append] at hlen
      walk_at "dgo"
      refine ⟨_, _, _, _, _, rfl, ?_⟩
      rw [bounds_take hr]; simp
    · obtain ⟨l, s3, s4, s5, s6, rfl, rfl⟩ := hI
      rw [List.length_map, List.take_length]
      have hlen := bounds_len (f ++ g)
      rw [List.length_append] at hlen
      walk_at "dgo"
      intro ms h1 h2 h3
      have e : ms = cuts f g := sorted_ext h1 (sortU_sorted _) fun z => by rw [h2 z]; exact mem_sortU.symm
      subst e
      clear h1 h2
      have hp1 : (cuts f g).dropLast.Pairwise (· < ·) := List.Pairwise.sublist (List.dropLast_sublist _) (sortU_sorted _)
      have hp2 : ∀ n ∈ (cuts f g).dropLast, -(200 * Yb) ≤ n ∧ n ≤ 200 * Yb := fun n hn => cb n ((List.dropLast_sublist _).subset hn)
      have hp3 : (cuts f g).length ≤ 4000 := by omega
      have e := zip_segL f g (cuts f g)
      have e2 : List.map lastSub (List.map D.int ((cuts f g).drop 1)) = ((cuts f g).drop 1).map fun d => D.int (d - 1) := by rw [List.map_map]; rfl
      walk_at "dgo"
      rw [cut_first, cut_last, ← List.map_dropLast, ← List.map_drop]
      refine And.intro (by simp only [List.length_map, List.length_drop]; omega) ⟨lastSub, fun x hx => ?_, ?_⟩
      · obtain ⟨n, _, rfl⟩ := List.mem_map.mp hx
        walk_at "dgo"
        rfl
      rw [e2]
      walk_at "dgo"
      rw [e]
      refine And.intro ⟨?_, ?_, ?_⟩ hk
      all_goals simp only [List.length_map, List.length_drop, List.length_dropLast]⟩
end
end K36
set_option Elab.async false
set_option linter.all false
set_option maxRecDepth 100000
set_option maxHeartbeats 4000000
namespace K36
open PySem PySem.Spec PyProof.Rows L2
local macro_rules | `(tactic| walk_at "dsd") => `(tactic| first | omega | exact mulW (by omega) (by omega) | exact divW (by omega) (by omega) | assumption | ((try simp only [List.length_append, List.length_cons, List.length_nil, List.length_map, List.length_reverse, List.length_dropLast, List.length_drop, List.length_take]); omega))
local macro_rules | `(tactic| walk_at "dgo") => `(tactic| (repeat' (first | refine ⟨_, rfl, ?_⟩ | refine ⟨_, _, rfl, ?_⟩ | refine ⟨_, _, rfl, rfl, ?_⟩ | refine ⟨_, _, _, rfl, ?_⟩ | refine ⟨_, _, _, rfl, rfl, rfl, ?_⟩ | refine ⟨_, _, _, rfl, rfl, atI_last, ?_⟩ | refine ⟨_, _, _, rfl, rfl, by assumption, ?_⟩ | refine ⟨_, _, _, _, rfl, ?_⟩ | refine And.intro rfl ?_ | refine And.intro ⟨_, rfl⟩ ?_ | refine ⟨_, .inl rfl, ?_⟩ | refine ⟨_, .inr rfl, ?_⟩ | refine t_go ?_ | refine f_go ?_ | refine d_go (fun _ => ?_) (fun _ => ?_) | refine n_go (fun _ => ?_) (fun _ => ?_) | refine c_go (fun _ => ?_) (fun _ => ?_) | refine And.intro (by walk_at "dsd") ?_ | fail)))
local macro_rules | `(tactic| walk_at "dgb") => `(tactic| (repeat' (first | refine ⟨_, rfl, ?_⟩ | refine ⟨_, _, rfl, ?_⟩ | refine ⟨_, _, rfl, rfl, ?_⟩ | refine ⟨_, _, _, rfl, ?_⟩ | refine ⟨_, _, _, rfl, rfl, rfl, ?_⟩ | refine ⟨_, _, _, rfl, rfl, atI_last, ?_⟩ | refine ⟨_, _, _, rfl, rfl, by assumption, ?_⟩ | refine ⟨_, _, _, _, rfl, ?_⟩ | refine And.intro rfl ?_ | refine And.intro ⟨_, rfl⟩ ?_ | refine ⟨_, .inl rfl, ?_⟩ | refine ⟨_, .inr rfl, ?_⟩ | refine t_go ?_ | refine f_go ?_ | refine d_go (fun _ => ?_) (fun _ => ?_) | refine n_go (fun _ => ?_) (fun _ => ?_) | refine c_go (fun _ => ?_) (fun _ => ?_) | refine nb_go (fun _ => ?_) (fun _ => ?_) | refine b_go (fun _ => ?_) (fun _ => ?_) | refine And.intro (by walk_at "dsd") ?_ | fail)))
local macro_rules | `(tactic| walk_at "dif") => `(tactic| ((repeat' split) <;> first | rfl | (exfalso; omega)))
section
variable {P : Program} {w0 : World} {K : PySem.W.Frag} {mg : PySem.Str → Option Value} {base : Heap} {ad : Kd → Addr}
theorem segL_mem : ∀ {cs : List Int}, cs.Pairwise (· < ·) → ∀ p ∈ segL cs, p.1 ≤ p.2 ∧ p.1 ∈ cs ∧ p.2 + 1 ∈ cs
  | [], _, p, h => by simp [segL] at h
  | [_], _, p, h => by simp [segL] at h
  | c :: d :: r, hp, p, h => by
    have hp' := List.pairwise_cons.mp hp
    have hcd := hp'.1 d (by simp)
    rcases List.mem_cons.mp h with rfl | h
    · exact ⟨by omega, by simp, by simp⟩
    · obtain ⟨h1, h2, h3⟩ := segL_mem hp'.2 p h
      exact ⟨h1, List.mem_cons_of_mem _ h2, List.mem_cons_of_mem _ h3⟩
theorem segL_len : ∀ cs : List Int, (segL cs).length ≤ cs.length
  | [] => Nat.le_refl _
  | [_] => Nat.zero_le _
  | c :: d :: r => by
    have := segL_len (d :: r)
    simp only [segL, List.length_cons] at this ⊢
    omega
theorem lineFrom_mem : ∀ {f : List Row} {x : Int} {l : Int × Int}, lineFrom f x = some l → ∃ r ∈ f, r.lo ≤ x ∧ x ≤ r.hi ∧ l = (r.at_ x, r.st)
  | r :: f, x, l, h => by
    simp only [lineFrom] at h
    split at h
    · rename_i c
      exact ⟨r, by simp, c.1, c.2, (Option.some.inj h).symm⟩
    · obtain ⟨q, hq, e⟩ := lineFrom_mem h
      exact ⟨q, by simp [hq], e⟩
theorem lineFrom_bd {f : List Row} (hf : IsForm f) (hb : BdY f) {x : Int} {l : Int × Int} (h : lineFrom f x = some l) : -(200 * Yb) ≤ l.2 ∧ l.2 ≤ 200 * Yb := by
  obtain ⟨r, hr, _, _, rfl⟩ := lineFrom_mem h
  exact (bdY_row hf hb hr).2.2.2
theorem lower_len (a b : Int × Int) (lo hi : Int) : (lowerLine a b lo hi).length ≤ 3 := by
  unfold lowerLine
  split
  · simp
  · split <;> split <;> simp
theorem flatMap_takeP {ps : List (Int × Int)} {g : Int × Int → List Row} {j : Nat} {p : Int × Int} (h : ps[j]? = some p) : (ps.take (j + 1)).flatMap g = (ps.take j).flatMap g ++ g p := by
  rw [List.take_add_one, h, List.flatMap_append]
  simp
theorem flatMapP_le {g : Int × Int → List Row} {n : Nat} (hg : ∀ p, (g p).length ≤ n) : ∀ f : List (Int × Int), (f.flatMap g).length ≤ n * f.length
  | [] => by simp
  | r :: f => by
    have := flatMapP_le hg f
    have := hg r
    simp only [List.flatMap_cons, List.length_append, List.length_cons, Nat.mul_add, Nat.mul_one]
    omega
theorem cuts_len (f g : List Row) : (cuts f g).length ≤ 2 * (f.length + g.length) := by
  have h1 := sortU_length (bounds (f ++ g))
  have h2 := bounds_len (f ++ g)
  rw [List.length_append] at h2
  unfold cuts
  omega
def leastP (f g : List Row) (p : Int × Int) : List Row := leastSeg (lineFrom f p.1) (lineFrom g p.1) p.1 p.2
def greatestP (f g : List Row) (p : Int × Int) : List Row := greatestSeg (lineFrom f p.1) (lineFrom g p.1) p.1 p.2
theorem leastP_len (f g : List Row) (p : Int × Int) : (leastP f g p).length ≤ 3 := by
  unfold leastP leastSeg
  split
  · exact lower_len _ _ _ _
  all_goals simp
theorem greatestP_len (f g : List Row) (p : Int × Int) : (greatestP f g p).length ≤ 3 := by
  unfold greatestP greatestSeg
  split
  · rw [List.length_map]; exact lower_len _ _ _ _
  · simp
theorem sc_least : FnScope ["one", "other", "rows", "low", "high", "mine", "yours"] ["one", "other"] (defScope sLeast) := ⟨rfl, rfl, rfl, by decide +kernel, rfl, by decide +kernel, by decide +kernel⟩
def gLeast (one other : D) (k : D → Prop) : Prop := ∃ f g : List Row, one = formD f ∧ other = formD g ∧ IsForm f ∧ BdY f ∧ IsForm g ∧ BdY g ∧ BdY (leastRows f g) ∧ f.length + g.length ≤ 1900 ∧ k (formD (fLeast f g))
theorem D_least (T : Txt K mg ad) : DF P w0 K mg base 7 "least" ["one", "other"] (spOf K (sp2 gLeast)) :=
  T.f_least.df2 (N := ["one", "other", "rows", "low", "high", "mine", "yours"]) (fun _ _ _ _ _ _ _ _ => rfl) sc_least fun f cdv A outer s H E hr => ⟨_, _, (sdcons (sdsetL (i := 2) sc_least.nd (dlist dnil))
      (sdcons (sdfor PassesOwn.never rfl (dilist (dcall (D_side_by_side T) (hr.mono (by decide)) (dcons (dv 0) (dcons (dv 1) dnil)))) (gdtup rfl (gdcons (gdname (i := 3) sc_least.nd) (gdcons (gdname (i := 4) sc_least.nd) (gdcons (gdname (i := 5) sc_least.nd) (gdcons (gdname (i := 6) sc_least.nd) gdnil))))) (sdone (sdif (PWD.pt (tand (tnotN (dv 5) dnon) (tand1 (tnotN (dv 6) dnon)))) (sdone (sdexpr (dextend 2 (dcall (D_lower_line T) (hr.mono (by decide)) (dcons (dv 5) (dcons (dv 6) (dcons (dv 3) (dcons (dv 4) dnil)))))))) (sdone (sdif (tnotN (dv 5) dnon) (sdone (sdexpr (dappend 2 (dtup (dcons (dv 3) (dcons (dv 4) (dcons (dix (dv 5) dint) (dcons (dix (dv 5) dint) dnil)))))))) (sdone (sdif (tnotN (dv 6) dnon) (sdone (sdexpr (dappend 2 (dtup (dcons (dv 3) (dcons (dv 4) (dcons (dix (dv 6) dint) (dcons (dix (dv 6) dint) dnil)))))))) sdnil)))))))
      (sdone (sdret (dcall (D_laid T) (hr.mono (by decide)) (dcons (dvo 2) dnil)))))), fun a b k0 h => by
    obtain ⟨f, g, rfl, rfl, hf, hbf, hg, hbg, hb, hl, hk⟩ := h
    have y := yb1
    obtain ⟨spa, spb⟩ := least_spec f g
    have cb := cut_bound hf hbf hg hbg
    have cl := cuts_len f g
    have sl := segL_len (cuts f g)
    have es : leastRows f g = (segL (cuts f g)).flatMap (leastP f g) := segRows_segL _ _
    walk_at "dgo"
    refine ⟨fun j ρ => ∃ l s3 s4 s5 s6, ρ = [.val (formD f), .val (formD g), .own l, s3, s4, s5, s6] ∧ l = (((segL (cuts f g)).take j).flatMap (leastP f g)).map rowD, ⟨_, _, _, _, _, rfl, rfl⟩, fun j x ρ2 hx hI => ?_, fun ρ2 hI => ?_⟩
    · obtain ⟨p, hp, rfl⟩ := map_get hx
      obtain ⟨l, s3, s4, s5, s6, rfl, rfl⟩ := hI
      obtain ⟨m1, m2, m3⟩ := segL_mem (sortU_sorted _) p (List.mem_of_getElem? hp)
      have b1 := cb _ m2
      have b2 := cb _ m3
      have hlen := flatMapP_le (leastP_len f g) ((segL (cuts f g)).take j)
      rw [List.length_take] at hlen
      have hs := flatMap_takeP (g := leastP f g) hp
      rcases e1 : lineFrom f p.1 with _ | l1 <;> rcases e2 : lineFrom g p.1 with _ | l2
      all_goals
        have hx : segD f g p = .tup [.int p.1, .int p.2, lnO (lineFrom f p.1), lnO (lineFrom g p.1)] := rfl
        rw [e1, e2] at hx
        rw [hx]
      · walk_at "dgo"
        refine ⟨_, _, _, _, _, rfl, ?_⟩
        rw [hs, List.map_append]
        unfold leastP
        rw [e1, e2]; simp [leastSeg]
      · walk_at "dgo"
        refine ⟨_, _, _, _, _, rfl, ?_⟩
        rw [hs, List.map_append]
        unfold leastP
        rw [e1, e2]; rfl
      · walk_at "dgo"
        refine ⟨_, _, _, _, _, rfl, ?_⟩
        rw [hs, List.map_append]
        unfold leastP
        rw [e1, e2]; rfl
      · have h1 := lineFrom_bd hf hbf e1
        have h2 := lineFrom_bd hg hbg e2
        have hl2 := lower_len (l1.1, l1.2) (l2.1, l2.2) p.1 p.2
        walk_at "dgo"
        refine ⟨_, _, _, _, _, rfl, ?_⟩
        rw [hs, List.map_append]
        unfold leastP
        rw [e1, e2]; rfl
    · obtain ⟨l, s3, s4, s5, s6, rfl, rfl⟩ := hI
      rw [List.length_map, List.take_length, ← es]
      have hlen := flatMapP_le (leastP_len f g) (segL (cuts f g))
      rw [← es] at hlen
      have h1 : (leastRows f g).length ≤ 100000 := by omega
      walk_at "dgo"
      exact hk⟩
end
end K36
set_option Elab.async false
set_option linter.all false
set_option maxRecDepth 100000
set_option maxHeartbeats 4000000
namespace K36
open PySem PySem.Spec PyProof.Rows L2
local macro_rules | `(tactic| walk_at "dsd") => `(tactic| first | omega | exact mulW (by omega) (by omega) | exact divW (by omega) (by omega) | assumption | ((try simp only [List.length_append, List.length_cons, List.length_nil, List.length_map, List.length_reverse, List.length_dropLast, List.length_drop, List.length_take]); omega))
local macro_rules | `(tactic| walk_at "dgo") => `(tactic| (repeat' (first | refine ⟨_, rfl, ?_⟩ | refine ⟨_, _, rfl, ?_⟩ | refine ⟨_, _, rfl, rfl, ?_⟩ | refine ⟨_, _, _, rfl, ?_⟩ | refine ⟨_, _, _, rfl, rfl, rfl, ?_⟩ | refine ⟨_, _, _, rfl, rfl, atI_last, ?_⟩ | refine ⟨_, _, _, rfl, rfl, by assumption, ?_⟩ | refine ⟨_, _, _, _, rfl, ?_⟩ | refine And.intro rfl ?_ | refine And.intro ⟨_, rfl⟩ ?_ | refine ⟨_, .inl rfl, ?_⟩ | refine ⟨_, .inr rfl, ?_⟩ | refine t_go ?_ | refine f_go ?_ | refine d_go (fun _ => ?_) (fun _ => ?_) | refine n_go (fun _ => ?_) (fun _ => ?_) | refine c_go (fun _ => ?_) (fun _ => ?_) | refine And.intro (by walk_at "dsd") ?_ | fail)))
local macro_rules | `(tactic| walk_at "dgb") => `(tactic| (repeat' (first | refine ⟨_, rfl, ?_⟩ | refine ⟨_, _, rfl, ?_⟩ | refine ⟨_, _, rfl, rfl, ?_⟩ | refine ⟨_, _, _, rfl, ?_⟩ | refine ⟨_, _, _, rfl, rfl, rfl, ?_⟩ | refine ⟨_, _, _, rfl, rfl, atI_last, ?_⟩ | refine ⟨_, _, _, rfl, rfl, by assumption, ?_⟩ | refine ⟨_, _, _, _, rfl, ?_⟩ | refine And.intro rfl ?_ | refine And.intro ⟨_, rfl⟩ ?_ | refine ⟨_, .inl rfl, ?_⟩ | refine ⟨_, .inr rfl, ?_⟩ | refine t_go ?_ | refine f_go ?_ | refine d_go (fun _ => ?_) (fun _ => ?_) | refine n_go (fun _ => ?_) (fun _ => ?_) | refine c_go (fun _ => ?_) (fun _ => ?_) | refine nb_go (fun _ => ?_) (fun _ => ?_) | refine b_go (fun _ => ?_) (fun _ => ?_) | refine And.intro (by walk_at "dsd") ?_ | fail)))
local macro_rules | `(tactic| walk_at "dif") => `(tactic| ((repeat' split) <;> first | rfl | (exfalso; omega)))
section
variable {P : Program} {w0 : World} {K : PySem.W.Frag} {mg : PySem.Str → Option Value} {base : Heap} {ad : Kd → Addr}
theorem sc_greatest : FnScope ["one", "other", "rows", "low", "high", "mine", "yours", "first", "last", "price", "step"] ["one", "other"] (defScope sGreatest) := ⟨rfl, rfl, rfl, by decide +kernel, rfl, by decide +kernel, by decide +kernel⟩
def gGreatest (one other : D) (k : D → Prop) : Prop := ∃ f g : List Row, one = formD f ∧ other = formD g ∧ IsForm f ∧ BdY f ∧ IsForm g ∧ BdY g ∧ BdY (greatestRows f g) ∧ f.length + g.length ≤ 1900 ∧ k (formD (fGreatest f g))
theorem D_greatest (T : Txt K mg ad) : DF P w0 K mg base 7 "greatest" ["one", "other"] (spOf K (sp2 gGreatest)) :=
  T.f_greatest.df2 (N := ["one", "other", "rows", "low", "high", "mine", "yours", "first", "last", "price", "step"]) (fun _ _ _ _ _ _ _ _ => rfl) sc_greatest fun f cdv A outer s H E hr => ⟨_, _, (sdcons (sdsetL (i := 2) sc_greatest.nd (dlist dnil))
      (sdcons (sdfor PassesOwn.never rfl (dilist (dcall (D_side_by_side T) (hr.mono (by decide)) (dcons (dv 0) (dcons (dv 1) dnil)))) (gdtup rfl (gdcons (gdname (i := 3) sc_greatest.nd) (gdcons (gdname (i := 4) sc_greatest.nd) (gdcons (gdname (i := 5) sc_greatest.nd) (gdcons (gdname (i := 6) sc_greatest.nd) gdnil))))) (sdone (sdif (PWD.pt (tand (tnotN (dv 5) dnon) (tand1 (tnotN (dv 6) dnon)))) (sdone (sdfor PassesOwn.never rfl (dilist (dcall (D_lower_line T) (hr.mono (by decide)) (dcons (dtup (dcons (dneg (dix (dv 5) dint)) (dcons (dneg (dix (dv 5) dint)) dnil))) (dcons (dtup (dcons (dneg (dix (dv 6) dint)) (dcons (dneg (dix (dv 6) dint)) dnil))) (dcons (dv 3) (dcons (dv 4) dnil)))))) (gdtup rfl (gdcons (gdname (i := 7) sc_greatest.nd) (gdcons (gdname (i := 8) sc_greatest.nd) (gdcons (gdname (i := 9) sc_greatest.nd) (gdcons (gdname (i := 10) sc_greatest.nd) gdnil))))) (sdone (sdexpr (dappend 2 (dtup (dcons (dv 7) (dcons (dv 8) (dcons (dneg (dv 9)) (dcons (dneg (dv 10)) dnil)))))))))) sdnil)))
      (sdone (sdret (dcall (D_laid T) (hr.mono (by decide)) (dcons (dvo 2) dnil)))))), fun a b k0 h => by
    obtain ⟨f, g, rfl, rfl, hf, hbf, hg, hbg, hb, hl, hk⟩ := h
    have y := yb1
    obtain ⟨spa, spb⟩ := greatest_spec f g
    have cb := cut_bound hf hbf hg hbg
    have cl := cuts_len f g
    have sl := segL_len (cuts f g)
    have es : greatestRows f g = (segL (cuts f g)).flatMap (greatestP f g) := segRows_segL _ _
    walk_at "dgo"
    refine ⟨fun j ρ => ∃ l s3 s4 s5 s6 s7 s8 s9 s10, ρ = [.val (formD f), .val (formD g), .own l, s3, s4, s5, s6, s7, s8, s9, s10] ∧ l = (((segL (cuts f g)).take j).flatMap (greatestP f g)).map rowD, ⟨_, _, _, _, _, _, _, _, _, rfl, rfl⟩, fun j x ρ2 hx hI => ?_, fun ρ2 hI => ?_⟩
    · obtain ⟨p, hp, rfl⟩ := map_get hx
      obtain ⟨l, s3, s4, s5, s6, s7, s8, s9, s10, rfl, rfl⟩ := hI
      obtain ⟨m1, m2, m3⟩ := segL_mem (sortU_sorted _) p (List.mem_of_getElem? hp)
      have b1 := cb _ m2
      have b2 := cb _ m3
      have hlen := flatMapP_le (greatestP_len f g) ((segL (cuts f g)).take j)
      rw [List.length_take] at hlen
      have hs := flatMap_takeP (g := greatestP f g) hp
      rcases e1 : lineFrom f p.1 with _ | l1 <;> rcases e2 : lineFrom g p.1 with _ | l2
      all_goals
        have hx : segD f g p = .tup [.int p.1, .int p.2, lnO (lineFrom f p.1), lnO (lineFrom g p.1)] := rfl
        rw [e1, e2] at hx
        rw [hx]
      · walk_at "dgo"
        refine ⟨_, _, _, _, _, _, _, _, _, rfl, ?_⟩
        rw [hs, List.map_append]
        unfold greatestP
        rw [e1, e2]; simp [greatestSeg]
      · walk_at "dgo"
        refine ⟨_, _, _, _, _, _, _, _, _, rfl, ?_⟩
        rw [hs, List.map_append]
        unfold greatestP
        rw [e1, e2]; simp [greatestSeg]
      · walk_at "dgo"
        refine ⟨_, _, _, _, _, _, _, _, _, rfl, ?_⟩
        rw [hs, List.map_append]
        unfold greatestP
        rw [e1, e2]; simp [greatestSeg]
      · have h1 := lineFrom_bd hf hbf e1
        have h2 := lineFrom_bd hg hbg e2
        have hl2 := lower_len (-l1.1, -l1.2) (-l2.1, -l2.2) p.1 p.2
        walk_at "dgo"
        refine ⟨fun i ρ => ∃ l s7 s8 s9 s10, ρ = [.val (formD f), .val (formD g), .own l, .val (.int p.1), .val (.int p.2), .val (lnD l1), .val (lnD l2), s7, s8, s9, s10] ∧ l = (((segL (cuts f g)).take j).flatMap (greatestP f g)).map rowD ++ (((lowerLine (-l1.1, -l1.2) (-l2.1, -l2.2) p.1 p.2).take i).map negRow).map rowD,
          ⟨_, _, _, _, _, rfl, by simp⟩, fun i x ρ2 hx hI => ?_, fun ρ2 hI => ?_⟩
        · obtain ⟨r, hr, rfl⟩ := map_get hx
          obtain ⟨l, s7, s8, s9, s10, rfl, rfl⟩ := hI
          have hl3 : ((lowerLine (-l1.1, -l1.2) (-l2.1, -l2.2) p.1 p.2).take i).length ≤ 3 := by rw [List.length_take]; omega
          walk_at "dgo"
          refine ⟨_, _, _, _, _, rfl, ?_⟩
          rw [List.take_add_one, hr]
          simp [negRow, rowD]
        · obtain ⟨l, s7, s8, s9, s10, rfl, rfl⟩ := hI
          refine ⟨_, _, _, _, _, _, _, _, _, rfl, ?_⟩
          rw [List.length_map, List.take_length, hs, List.map_append]
          have e3 : greatestP f g p = (lowerLine (-l1.1, -l1.2) (-l2.1, -l2.2) p.1 p.2).map negRow := by
            unfold greatestP
            rw [e1, e2]; rfl
          rw [e3]
    · obtain ⟨l, s3, s4, s5, s6, s7, s8, s9, s10, rfl, rfl⟩ := hI
      rw [List.length_map, List.take_length, ← es]
      have hlen := flatMapP_le (greatestP_len f g) (segL (cuts f g))
      rw [← es] at hlen
      have h1 : (greatestRows f g).length ≤ 100000 := by omega
      walk_at "dgo"
      exact hk⟩
end
end K36
set_option Elab.async false
set_option linter.all false
set_option maxRecDepth 100000
set_option maxHeartbeats 4000000
namespace K36
open PySem PySem.Spec PyProof.Rows L2
local macro_rules | `(tactic| walk_at "dsd") => `(tactic| first | omega | exact mulW (by omega) (by omega) | exact divW (by omega) (by omega) | assumption | ((try simp only [List.length_append, List.length_cons, List.length_nil, List.length_map, List.length_reverse, List.length_dropLast, List.length_drop, List.length_take]); omega))
local macro_rules | `(tactic| walk_at "dgo") => `(tactic| (repeat' (first | refine ⟨_, rfl, ?_⟩ | refine ⟨_, _, rfl, ?_⟩ | refine ⟨_, _, rfl, rfl, ?_⟩ | refine ⟨_, _, _, rfl, ?_⟩ | refine ⟨_, _, _, rfl, rfl, rfl, ?_⟩ | refine ⟨_, _, _, rfl, rfl, atI_last, ?_⟩ | refine ⟨_, _, _, rfl, rfl, by assumption, ?_⟩ | refine ⟨_, _, _, _, rfl, ?_⟩ | refine And.intro rfl ?_ | refine And.intro ⟨_, rfl⟩ ?_ | refine ⟨_, .inl rfl, ?_⟩ | refine ⟨_, .inr rfl, ?_⟩ | refine t_go ?_ | refine f_go ?_ | refine d_go (fun _ => ?_) (fun _ => ?_) | refine n_go (fun _ => ?_) (fun _ => ?_) | refine c_go (fun _ => ?_) (fun _ => ?_) | refine And.intro (by walk_at "dsd") ?_ | fail)))
local macro_rules | `(tactic| walk_at "dgb") => `(tactic| (repeat' (first | refine ⟨_, rfl, ?_⟩ | refine ⟨_, _, rfl, ?_⟩ | refine ⟨_, _, rfl, rfl, ?_⟩ | refine ⟨_, _, _, rfl, ?_⟩ | refine ⟨_, _, _, rfl, rfl, rfl, ?_⟩ | refine ⟨_, _, _, rfl, rfl, atI_last, ?_⟩ | refine ⟨_, _, _, rfl, rfl, by assumption, ?_⟩ | refine ⟨_, _, _, _, rfl, ?_⟩ | refine And.intro rfl ?_ | refine And.intro ⟨_, rfl⟩ ?_ | refine ⟨_, .inl rfl, ?_⟩ | refine ⟨_, .inr rfl, ?_⟩ | refine t_go ?_ | refine f_go ?_ | refine d_go (fun _ => ?_) (fun _ => ?_) | refine n_go (fun _ => ?_) (fun _ => ?_) | refine c_go (fun _ => ?_) (fun _ => ?_) | refine nb_go (fun _ => ?_) (fun _ => ?_) | refine b_go (fun _ => ?_) (fun _ => ?_) | refine And.intro (by walk_at "dsd") ?_ | fail)))
local macro_rules | `(tactic| walk_at "dif") => `(tactic| ((repeat' split) <;> first | rfl | (exfalso; omega)))
section
variable {P : Program} {w0 : World} {K : PySem.W.Frag} {mg : PySem.Str → Option Value} {base : Heap} {ad : Kd → Addr}
theorem sc_at_least : FnScope ["form", "rows", "least_so_far", "behind", "low", "high", "price", "step", "end"] ["form"] (defScope sAtLeast) := ⟨rfl, rfl, rfl, by decide +kernel, rfl, by decide +kernel, by decide +kernel⟩
def gAtLeast (form : D) (k : D → Prop) : Prop := ∃ f : List Row, form = formD f ∧ IsForm f ∧ BdY f ∧ BdY (atLeastRows f) ∧ f.length ≤ 10000 ∧ k (formD (fAtLeast f))
theorem D_at_least (T : Txt K mg ad) : DF P w0 K mg base 5 "at_least" ["form"] (spOf K (sp1 gAtLeast)) :=
  T.f_at_least.df1 (N := ["form", "rows", "least_so_far", "behind", "low", "high", "price", "step", "end"]) (fun _ _ _ _ _ _ _ => rfl) sc_at_least fun f cdv A outer s H E hr => ⟨_, _, (sdcons (sdset (i := 1) sc_at_least.nd (PLD.asE (dlist dnil)))
      (sdcons (sdset (i := 2) sc_at_least.nd dnon)
      (sdcons (sdset (i := 3) sc_at_least.nd dint)
      (sdcons (sdfor PassesOwn.never rfl (direv T.reversed (dv 0)) (gdtup rfl (gdcons (gdname (i := 4) sc_at_least.nd) (gdcons (gdname (i := 5) sc_at_least.nd) (gdcons (gdname (i := 6) sc_at_least.nd) (gdcons (gdname (i := 7) sc_at_least.nd) gdnil))))) (sdcons (sdset (i := 8) sc_at_least.nd (dcall (D_line_at T) (hr.mono (by decide)) (dcons (dtup (dcons (dv 6) (dcons (dv 7) dnil))) (dcons (dv 4) (dcons (dv 5) dnil)))))
      (sdcons (sdif (tisN (dv 2) dnon) (sdone (sdset (i := 2) sc_at_least.nd (dv 8))) (sdone (sdif (tlt (dv 5) (dsub (dv 3) dint)) (sdone (sdset (i := 1) sc_at_least.nd (PLD.asE (dcat (PLD.asE (dlist (dcons (dtup (dcons (dadd (dv 5) dint) (dcons (dsub (dv 3) dint) (dcons (dv 2) (dcons dint dnil))))) dnil))) (dv 1))))) sdnil)))
      (sdcons (sdif (tlt (dv 7) dint) (sdcons (sdset (i := 2) sc_at_least.nd (dmin rfl T.min (dv 2) (dv 8)))
      (sdone (sdset (i := 1) sc_at_least.nd (PLD.asE (dcat (PLD.asE (dlist (dcons (dtup (dcons (dv 4) (dcons (dv 5) (dcons (dv 2) (dcons dint dnil))))) dnil))) (dv 1)))))) (sdcons (sdset (i := 1) sc_at_least.nd (PLD.asE (dcat (dcall (D_lower_line T) (hr.mono (by decide)) (dcons (dtup (dcons (dv 6) (dcons (dv 7) dnil))) (dcons (dtup (dcons (dv 2) (dcons dint dnil))) (dcons (dv 4) (dcons (dv 5) dnil))))) (dv 1))))
      (sdone (sdset (i := 2) sc_at_least.nd (dmin rfl T.min (dv 2) (dv 6))))))
      (sdone (sdset (i := 3) sc_at_least.nd (dv 4)))))))
      (sdone (sdret (dcall (D_laid T) (hr.mono (by decide)) (dcons (dv 1) dnil)))))))), fun a k0 h => by
    obtain ⟨f, rfl, hf, hbf, hb, hl, hk⟩ := h
    have y := yb1
    have spa : Asc (atLeastRows f) := (atLeast_spec (M := 100 * Yb) hf.asc fun r hr x h1 h2 => (hbf x _ (cost_in hf.asc hr h1 h2)).2).asc
    have lo_hi : ∀ r ∈ f, r.lo ≤ r.hi := fun r hr => (bdY_row hf hbf hr).1
    walk_at "dgo"
    dsimp only
    rw [← List.map_reverse]
    refine ⟨fun j ρ => ∃ R L B s4 s5 s6 s7 s8, ρ = [.val (formD f), .val (rowsD R), .val (optD L), .val (.int B), s4, s5, s6, s7, s8] ∧ (f.reverse.take j).foldl alStep ⟨[], none, 0⟩ = ⟨R, L, B⟩, ⟨[], none, 0, _, _, _, _, _, rfl, rfl⟩, fun j x ρ2 hx hI => ?_, fun ρ2 hI => ?_⟩
    · obtain ⟨r, hr, rfl⟩ := map_get hx
      obtain ⟨R, L, B, s4, s5, s6, s7, s8, rfl, hL⟩ := hI
      have hm := bdY_row hf hbf (List.mem_reverse.mp (List.mem_of_getElem? hr))
      have hlen := alFold_length (f.reverse.take j) ⟨[], none, 0⟩ fun r hr => lo_hi r (List.mem_reverse.mp (List.mem_of_mem_take hr))
      rw [hL, List.length_take, List.length_reverse] at hlen
      simp only [List.length_nil] at hlen
      have hs : (f.reverse.take (j + 1)).foldl alStep ⟨[], none, 0⟩ = alStep ⟨R, L, B⟩ r := by
        rw [List.take_add_one, hr, List.foldl_append, hL]; rfl
      cases L with
      | none =>
        have hl3 := lower_len (r.pr, r.st) (lineAt (r.pr, r.st) r.lo r.hi, 0) r.lo r.hi
        walk_at "dgo"
        all_goals
          refine ⟨(alStep ⟨R, none, B⟩ r).rows, (alStep ⟨R, none, B⟩ r).lsf, (alStep ⟨R, none, B⟩ r).behind, .val (.int r.lo), .val (.int r.hi), .val (.int r.pr), .val (.int r.st), .val (.int (lineAt (r.pr, r.st) r.lo r.hi)), ?_, hs⟩
          unfold alStep pyMin
          dsimp only
          try simp only [show r.at_ r.hi = lineAt (r.pr, r.st) r.lo r.hi from rfl]
          (repeat' split) <;> first | (exfalso; omega) | rfl | (simp only [rowsD, List.map_append]; rfl)
      | some l =>
        have hl3 := lower_len (r.pr, r.st) (l, 0) r.lo r.hi
        walk_at "dgo"
        all_goals
          refine ⟨(alStep ⟨R, some l, B⟩ r).rows, (alStep ⟨R, some l, B⟩ r).lsf, (alStep ⟨R, some l, B⟩ r).behind, .val (.int r.lo), .val (.int r.hi), .val (.int r.pr), .val (.int r.st), .val (.int (lineAt (r.pr, r.st) r.lo r.hi)), ?_, hs⟩
          unfold alStep pyMin
          dsimp only
          try simp only [show r.at_ r.hi = lineAt (r.pr, r.st) r.lo r.hi from rfl]
          (repeat' split) <;> first | (exfalso; omega) | rfl | (simp only [rowsD, List.map_append]; rfl)
    · obtain ⟨R, L, B, s4, s5, s6, s7, s8, rfl, hL⟩ := hI
      rw [List.length_map, ← List.length_reverse, List.length_reverse, List.take_length] at hL
      have e : atLeastRows f = R := by unfold atLeastRows; rw [hL]
      subst e
      have hlen := alFold_length f.reverse ⟨[], none, 0⟩ fun r hr => lo_hi r (List.mem_reverse.mp hr)
      rw [hL, List.length_reverse] at hlen
      simp only [List.length_nil] at hlen
      have h1 : (atLeastRows f).length ≤ 100000 := by omega
      walk_at "dgo"
      exact hk⟩
end
end K36
set_option Elab.async false
set_option linter.all false
set_option maxRecDepth 100000
set_option maxHeartbeats 4000000
namespace K36
open PySem PySem.Spec PyProof.Rows L2
section
variable {P : Program} {w0 : World} {K : PySem.W.Frag} {mg : PySem.Str → Option Value} {base : Heap} {ad : Kd → Addr}
theorem mkInit {x qual : PySem.Str} {C : Addr} {st : Stmt} {N ps : List PySem.Str} {F : List D → List (PySem.Str × D) → Prop} (I : InAt K mg x qual C st) (S : FnScope N ps (defScope st))
    (hb : ∀ (kV doc pm : Value) (an : Option Addr) (cdv ct : Value) (us : List Value), us.length = ps.length → bindArgs (PySem.W.fnOf "__init__" qual (defArgs st) (defBody st) (defScope st) .none kV doc pm an cdv ct) ⟨us, []⟩ = pure (ps.zip us))
    (len : ∀ ds fs, F ds fs → ds.length + 1 = ps.length)
    (body : ∀ (f : Addr) (cdv : Value) (A : Around) (outer : List Env) (s : Shared) (H : Hp) (E : XK), Room 0 (A.deeper (envOfC qual (defScope st) s.heap.objs.size f cdv)) →
      ∃ t, PSs (cxOf CX0 P w0 K mg base N qual (defScope st) f cdv A outer s H E).nox (defBody st) t ∧ ∀ (Hs H : Hp) (x dx : Addr) (ws : List V) (ds : List D) (fs : List (PySem.Str × D)) (Q : VK), Same Hs H → Hs x = none → H x = some (.ins C dx []) → Rl K Hs ws ds → F ds fs →
        (∀ Hs' H' gs, Same Hs Hs' → Same Hs' H' → (∀ b o, H b = some o → b ≠ x → H' b = some o) → (∀ a, Hs a = none → H a ≠ none → Hs' a = none) → H' x = some (.ins C dx gs) → gs.map (·.1) = fs.map (·.1) → (∀ (i : Nat) f v g d, gs[i]? = some (f, v) → fs[i]? = some (g, d) → DR K Hs' v d) → Q .non H') →
        t { nx := fun _ H' => Q .non H', rt := Q } (L2.start N (.ref x :: ws)) H) : MkD P w0 K mg base 1 x C F := by
  obtain ⟨f, fd, h1, G, h3⟩ := I.ex
  refine ⟨f, fd, ps, h1, G.ok S (fun vs H Q E h => ?_) (fun cdv A outer s H vs Q E hr h => ?_), h3, G.bindsN hb⟩
  · obtain ⟨Hs, x, dx, ws, ds, fs, rfl, _, _, _, g, hF, _⟩ := h
    rw [List.length_cons, g.1]
    exact len ds fs hF
  · obtain ⟨Hs, x, dx, ws, ds, fs, rfl, s1, n1, h1, g, hF, fin⟩ := h
    obtain ⟨t, pt, ht⟩ := body f cdv A outer s H E hr
    exact ⟨t, pt.nox, ht Hs H x dx ws ds fs Q s1 n1 h1 g hF fin⟩
theorem same_ins {Hs H : Hp} {x : Addr} {o : HO} (s : Same Hs H) (n : Hs x = none) : Same Hs (upd H x o) := same_upd_of s n

def FEach (ds : List D) (fs : List (PySem.Str × D)) : Prop := ∃ d0 d1 d2, ds = [d0, d1, d2] ∧ fs = [(("unit" : PySem.Str), d0), (("low" : PySem.Str), d1), (("high" : PySem.Str), d2)]
theorem sci_Each : FnScope ["self", "unit", "low", "high"] ["self", "unit", "low", "high"] (defScope sEach_init) := ⟨rfl, rfl, rfl, by decide +kernel, rfl, by decide +kernel, by decide +kernel⟩
theorem M_Each (T : Txt K mg ad) : MkD P w0 K mg base 1 "Each" (ad .each) FEach :=
  mkInit (T.init .each) sci_Each (fun kV doc pm an cdv ct us hl => match us, hl with | [u0, u1, u2, u3], _ => rfl) (fun ds fs ⟨_, _, _, e, _⟩ => by rw [e]; rfl) fun f cdv A outer s H E hr => ⟨_, (pss_cons (ps_fld (dv 0).pe (dv 1).pe rfl) (pss_cons (ps_fld (dv 0).pe (dv 2).pe rfl) (pss_one (ps_fld (dv 0).pe (dv 3).pe rfl)))), fun Hs H x dx ws ds fs Q s1 n1 h1 g hF fin => by
    obtain ⟨d0, d1, d2, rfl, rfl⟩ := hF
    obtain ⟨v0, ws, rfl, g0, g⟩ := g.cons_inv
    obtain ⟨v1, ws, rfl, g1, g⟩ := g.cons_inv
    obtain ⟨v2, ws, rfl, g2, g⟩ := g.cons_inv
    have := g.nil_inv
    subst this
    refine ⟨v0, rfl, .ref x, rfl, x, ad .each, dx, _, rfl, h1, T.cls .each, T.noat .each "unit" (by decide), by first | decide | (simp only [putF]; (repeat split) <;> first | exact of_decide_eq_true rfl | (simp; done) | (simp only [List.length_cons, List.length_nil]; omega)), ?_⟩
    refine ⟨v1, rfl, .ref x, rfl, x, ad .each, dx, _, rfl, upd_same, T.cls .each, T.noat .each "low" (by decide), by first | decide | (simp only [putF]; (repeat split) <;> first | exact of_decide_eq_true rfl | (simp; done) | (simp only [List.length_cons, List.length_nil]; omega)), ?_⟩
    refine ⟨v2, rfl, .ref x, rfl, x, ad .each, dx, _, rfl, upd_same, T.cls .each, T.noat .each "high" (by decide), by first | decide | (simp only [putF]; (repeat split) <;> first | exact of_decide_eq_true rfl | (simp; done) | (simp only [List.length_cons, List.length_nil]; omega)), ?_⟩
    refine fin Hs _ _ (Same.refl _) (same_upd_of (same_upd_of (same_upd_of s1 n1) n1) n1) (fun b o e ne => by rw [upd_ne ne, upd_ne ne, upd_ne ne]; exact e) (fun b e1 _ => e1) upd_same rfl ?_
    intro i f v g d e1 e2
    rcases i with _ | i
    · cases Option.some.inj e1; cases Option.some.inj e2; exact g0
    rcases i with _ | i
    · cases Option.some.inj e1; cases Option.some.inj e2; exact g1
    rcases i with _ | i
    · cases Option.some.inj e1; cases Option.some.inj e2; exact g2
    · simp at e2⟩
def FFlat (ds : List D) (fs : List (PySem.Str × D)) : Prop := ∃ d0 d1 d2, ds = [d0, d1, d2] ∧ fs = [(("price" : PySem.Str), d0), (("low" : PySem.Str), d1), (("high" : PySem.Str), d2)]
theorem sci_Flat : FnScope ["self", "price", "low", "high"] ["self", "price", "low", "high"] (defScope sFlat_init) := ⟨rfl, rfl, rfl, by decide +kernel, rfl, by decide +kernel, by decide +kernel⟩
theorem M_Flat (T : Txt K mg ad) : MkD P w0 K mg base 1 "Flat" (ad .flat) FFlat :=
  mkInit (T.init .flat) sci_Flat (fun kV doc pm an cdv ct us hl => match us, hl with | [u0, u1, u2, u3], _ => rfl) (fun ds fs ⟨_, _, _, e, _⟩ => by rw [e]; rfl) fun f cdv A outer s H E hr => ⟨_, (pss_cons (ps_fld (dv 0).pe (dv 1).pe rfl) (pss_cons (ps_fld (dv 0).pe (dv 2).pe rfl) (pss_one (ps_fld (dv 0).pe (dv 3).pe rfl)))), fun Hs H x dx ws ds fs Q s1 n1 h1 g hF fin => by
    obtain ⟨d0, d1, d2, rfl, rfl⟩ := hF
    obtain ⟨v0, ws, rfl, g0, g⟩ := g.cons_inv
    obtain ⟨v1, ws, rfl, g1, g⟩ := g.cons_inv
    obtain ⟨v2, ws, rfl, g2, g⟩ := g.cons_inv
    have := g.nil_inv
    subst this
    refine ⟨v0, rfl, .ref x, rfl, x, ad .flat, dx, _, rfl, h1, T.cls .flat, T.noat .flat "price" (by decide), by first | decide | (simp only [putF]; (repeat split) <;> first | exact of_decide_eq_true rfl | (simp; done) | (simp only [List.length_cons, List.length_nil]; omega)), ?_⟩
    refine ⟨v1, rfl, .ref x, rfl, x, ad .flat, dx, _, rfl, upd_same, T.cls .flat, T.noat .flat "low" (by decide), by first | decide | (simp only [putF]; (repeat split) <;> first | exact of_decide_eq_true rfl | (simp; done) | (simp only [List.length_cons, List.length_nil]; omega)), ?_⟩
    refine ⟨v2, rfl, .ref x, rfl, x, ad .flat, dx, _, rfl, upd_same, T.cls .flat, T.noat .flat "high" (by decide), by first | decide | (simp only [putF]; (repeat split) <;> first | exact of_decide_eq_true rfl | (simp; done) | (simp only [List.length_cons, List.length_nil]; omega)), ?_⟩
    refine fin Hs _ _ (Same.refl _) (same_upd_of (same_upd_of (same_upd_of s1 n1) n1) n1) (fun b o e ne => by rw [upd_ne ne, upd_ne ne, upd_ne ne]; exact e) (fun b e1 _ => e1) upd_same rfl ?_
    intro i f v g d e1 e2
    rcases i with _ | i
    · cases Option.some.inj e1; cases Option.some.inj e2; exact g0
    rcases i with _ | i
    · cases Option.some.inj e1; cases Option.some.inj e2; exact g1
    rcases i with _ | i
    · cases Option.some.inj e1; cases Option.some.inj e2; exact g2
    · simp at e2⟩
def FBands (ds : List D) (fs : List (PySem.Str × D)) : Prop := ∃ l, ds = [.lst l] ∧ fs = [(("rows" : PySem.Str), D.lst l)]
theorem sci_Bands : FnScope ["self", "rows"] ["self", "rows"] (defScope sBands_init) := ⟨rfl, rfl, rfl, by decide +kernel, rfl, by decide +kernel, by decide +kernel⟩
theorem M_Bands (T : Txt K mg ad) : MkD P w0 K mg base 1 "Bands" (ad .bands) FBands :=
  mkInit (T.init .bands) sci_Bands (fun kV doc pm an cdv ct us hl => match us, hl with | [u0, u1], _ => rfl) (fun ds fs ⟨_, e, _⟩ => by rw [e]; rfl) fun f cdv A outer s H E hr => ⟨_, pss_one (ps_fld (dv 0).pe (PLD.asE (dlistOf T.list (dv 1))).pe rfl), fun Hs H x dx ws ds fs Q s1 n1 h1 g hF fin => by
    obtain ⟨l, rfl, rfl⟩ := hF
    obtain ⟨v, ws, rfl, g1, g2⟩ := g.cons_inv
    have := g2.nil_inv
    subst this
    obtain ⟨a, vs, rfl, ha, gl⟩ := g1.lst_inv
    refine ⟨.ref a, rfl, a, vs, rfl, .inl (SqL.of (s1 _ _ ha)), fun p hp => ?_⟩
    have np : p ≠ x := fun z => by rw [z, h1] at hp; cases hp
    have nHp : Hs p = none := s1.free hp
    have sp : Same Hs (upd Hs p (.lst vs)) := same_upd nHp
    refine ⟨.ref x, rfl, x, ad .bands, dx, [], rfl, by rw [upd_ne (Ne.symm np)]; exact h1, T.cls .bands, T.noat .bands "rows" (by decide), by decide, ?_⟩
    refine fin (upd Hs p (.lst vs)) _ _ sp (same_upd_of (same_upd_both s1) (by rw [upd_ne (Ne.symm np)]; exact n1)) (fun b o e ne => by rw [upd_ne ne, upd_ne (fun z => by rw [z, hp] at e; cases e)]; exact e) (fun b e1 e2 => by
      rw [upd_ne (fun z => by rw [z] at e2; exact e2 hp)]; exact e1) upd_same rfl ?_
    intro i f v g d e1 e2
    cases i with
    | zero =>
      have e1' := Option.some.inj e1
      have e2' := Option.some.inj e2
      cases e1'; cases e2'
      exact DR.mk_lst upd_same (gl.mono sp)
    | succ i => simp at e2⟩
def FSteps (ds : List D) (fs : List (PySem.Str × D)) : Prop := ∃ l, ds = [.lst l] ∧ fs = [(("rows" : PySem.Str), D.lst l)]
theorem sci_Steps : FnScope ["self", "rows"] ["self", "rows"] (defScope sSteps_init) := ⟨rfl, rfl, rfl, by decide +kernel, rfl, by decide +kernel, by decide +kernel⟩
theorem M_Steps (T : Txt K mg ad) : MkD P w0 K mg base 1 "Steps" (ad .steps) FSteps :=
  mkInit (T.init .steps) sci_Steps (fun kV doc pm an cdv ct us hl => match us, hl with | [u0, u1], _ => rfl) (fun ds fs ⟨_, e, _⟩ => by rw [e]; rfl) fun f cdv A outer s H E hr => ⟨_, pss_one (ps_fld (dv 0).pe (PLD.asE (dlistOf T.list (dv 1))).pe rfl), fun Hs H x dx ws ds fs Q s1 n1 h1 g hF fin => by
    obtain ⟨l, rfl, rfl⟩ := hF
    obtain ⟨v, ws, rfl, g1, g2⟩ := g.cons_inv
    have := g2.nil_inv
    subst this
    obtain ⟨a, vs, rfl, ha, gl⟩ := g1.lst_inv
    refine ⟨.ref a, rfl, a, vs, rfl, .inl (SqL.of (s1 _ _ ha)), fun p hp => ?_⟩
    have np : p ≠ x := fun z => by rw [z, h1] at hp; cases hp
    have nHp : Hs p = none := s1.free hp
    have sp : Same Hs (upd Hs p (.lst vs)) := same_upd nHp
    refine ⟨.ref x, rfl, x, ad .steps, dx, [], rfl, by rw [upd_ne (Ne.symm np)]; exact h1, T.cls .steps, T.noat .steps "rows" (by decide), by decide, ?_⟩
    refine fin (upd Hs p (.lst vs)) _ _ sp (same_upd_of (same_upd_both s1) (by rw [upd_ne (Ne.symm np)]; exact n1)) (fun b o e ne => by rw [upd_ne ne, upd_ne (fun z => by rw [z, hp] at e; cases e)]; exact e) (fun b e1 e2 => by
      rw [upd_ne (fun z => by rw [z] at e2; exact e2 hp)]; exact e1) upd_same rfl ?_
    intro i f v g d e1 e2
    cases i with
    | zero =>
      have e1' := Option.some.inj e1
      have e2' := Option.some.inj e2
      cases e1'; cases e2'
      exact DR.mk_lst upd_same (gl.mono sp)
    | succ i => simp at e2⟩
def FBlocks (ds : List D) (fs : List (PySem.Str × D)) : Prop := ∃ d0 d1 d2, ds = [d0, d1, d2] ∧ fs = [(("size" : PySem.Str), d0), (("price" : PySem.Str), d1), (("many" : PySem.Str), d2)]
theorem sci_Blocks : FnScope ["self", "size", "price", "many"] ["self", "size", "price", "many"] (defScope sBlocks_init) := ⟨rfl, rfl, rfl, by decide +kernel, rfl, by decide +kernel, by decide +kernel⟩
theorem M_Blocks (T : Txt K mg ad) : MkD P w0 K mg base 1 "Blocks" (ad .blocks) FBlocks :=
  mkInit (T.init .blocks) sci_Blocks (fun kV doc pm an cdv ct us hl => match us, hl with | [u0, u1, u2, u3], _ => rfl) (fun ds fs ⟨_, _, _, e, _⟩ => by rw [e]; rfl) fun f cdv A outer s H E hr => ⟨_, (pss_cons (ps_fld (dv 0).pe (dv 1).pe rfl) (pss_cons (ps_fld (dv 0).pe (dv 2).pe rfl) (pss_one (ps_fld (dv 0).pe (dv 3).pe rfl)))), fun Hs H x dx ws ds fs Q s1 n1 h1 g hF fin => by
    obtain ⟨d0, d1, d2, rfl, rfl⟩ := hF
    obtain ⟨v0, ws, rfl, g0, g⟩ := g.cons_inv
    obtain ⟨v1, ws, rfl, g1, g⟩ := g.cons_inv
    obtain ⟨v2, ws, rfl, g2, g⟩ := g.cons_inv
    have := g.nil_inv
    subst this
    refine ⟨v0, rfl, .ref x, rfl, x, ad .blocks, dx, _, rfl, h1, T.cls .blocks, T.noat .blocks "size" (by decide), by first | decide | (simp only [putF]; (repeat split) <;> first | exact of_decide_eq_true rfl | (simp; done) | (simp only [List.length_cons, List.length_nil]; omega)), ?_⟩
    refine ⟨v1, rfl, .ref x, rfl, x, ad .blocks, dx, _, rfl, upd_same, T.cls .blocks, T.noat .blocks "price" (by decide), by first | decide | (simp only [putF]; (repeat split) <;> first | exact of_decide_eq_true rfl | (simp; done) | (simp only [List.length_cons, List.length_nil]; omega)), ?_⟩
    refine ⟨v2, rfl, .ref x, rfl, x, ad .blocks, dx, _, rfl, upd_same, T.cls .blocks, T.noat .blocks "many" (by decide), by first | decide | (simp only [putF]; (repeat split) <;> first | exact of_decide_eq_true rfl | (simp; done) | (simp only [List.length_cons, List.length_nil]; omega)), ?_⟩
    refine fin Hs _ _ (Same.refl _) (same_upd_of (same_upd_of (same_upd_of s1 n1) n1) n1) (fun b o e ne => by rw [upd_ne ne, upd_ne ne, upd_ne ne]; exact e) (fun b e1 _ => e1) upd_same rfl ?_
    intro i f v g d e1 e2
    rcases i with _ | i
    · cases Option.some.inj e1; cases Option.some.inj e2; exact g0
    rcases i with _ | i
    · cases Option.some.inj e1; cases Option.some.inj e2; exact g1
    rcases i with _ | i
    · cases Option.some.inj e1; cases Option.some.inj e2; exact g2
    · simp at e2⟩
def FNamed (ds : List D) (fs : List (PySem.Str × D)) : Prop := ∃ d0, ds = [d0] ∧ fs = [(("name" : PySem.Str), d0)]
theorem sci_Named : FnScope ["self", "name"] ["self", "name"] (defScope sNamed_init) := ⟨rfl, rfl, rfl, by decide +kernel, rfl, by decide +kernel, by decide +kernel⟩
theorem M_Named (T : Txt K mg ad) : MkD P w0 K mg base 1 "Named" (ad .named) FNamed :=
  mkInit (T.init .named) sci_Named (fun kV doc pm an cdv ct us hl => match us, hl with | [u0, u1], _ => rfl) (fun ds fs ⟨_, e, _⟩ => by rw [e]; rfl) fun f cdv A outer s H E hr => ⟨_, (pss_one (ps_fld (dv 0).pe (dv 1).pe rfl)), fun Hs H x dx ws ds fs Q s1 n1 h1 g hF fin => by
    obtain ⟨d0, rfl, rfl⟩ := hF
    obtain ⟨v0, ws, rfl, g0, g⟩ := g.cons_inv
    have := g.nil_inv
    subst this
    refine ⟨v0, rfl, .ref x, rfl, x, ad .named, dx, _, rfl, h1, T.cls .named, T.noat .named "name" (by decide), by first | decide | (simp only [putF]; (repeat split) <;> first | exact of_decide_eq_true rfl | (simp; done) | (simp only [List.length_cons, List.length_nil]; omega)), ?_⟩
    refine fin Hs _ _ (Same.refl _) (same_upd_of s1 n1) (fun b o e ne => by rw [upd_ne ne]; exact e) (fun b e1 _ => e1) upd_same rfl ?_
    intro i f v g d e1 e2
    rcases i with _ | i
    · cases Option.some.inj e1; cases Option.some.inj e2; exact g0
    · simp at e2⟩
def FSum (ds : List D) (fs : List (PySem.Str × D)) : Prop := ∃ d0 d1, ds = [d0, d1] ∧ fs = [(("one" : PySem.Str), d0), (("other" : PySem.Str), d1)]
theorem sci_Sum : FnScope ["self", "one", "other"] ["self", "one", "other"] (defScope sPair_init) := ⟨rfl, rfl, rfl, by decide +kernel, rfl, by decide +kernel, by decide +kernel⟩
theorem M_Sum (T : Txt K mg ad) : MkD P w0 K mg base 1 "Sum" (ad .sum) FSum :=
  mkInit (T.init .sum) sci_Sum (fun kV doc pm an cdv ct us hl => match us, hl with | [u0, u1, u2], _ => rfl) (fun ds fs ⟨_, _, e, _⟩ => by rw [e]; rfl) fun f cdv A outer s H E hr => ⟨_, (pss_cons (ps_fld (dv 0).pe (dv 1).pe rfl) (pss_one (ps_fld (dv 0).pe (dv 2).pe rfl))), fun Hs H x dx ws ds fs Q s1 n1 h1 g hF fin => by
    obtain ⟨d0, d1, rfl, rfl⟩ := hF
    obtain ⟨v0, ws, rfl, g0, g⟩ := g.cons_inv
    obtain ⟨v1, ws, rfl, g1, g⟩ := g.cons_inv
    have := g.nil_inv
    subst this
    refine ⟨v0, rfl, .ref x, rfl, x, ad .sum, dx, _, rfl, h1, T.cls .sum, T.noat .sum "one" (by decide), by first | decide | (simp only [putF]; (repeat split) <;> first | exact of_decide_eq_true rfl | (simp; done) | (simp only [List.length_cons, List.length_nil]; omega)), ?_⟩
    refine ⟨v1, rfl, .ref x, rfl, x, ad .sum, dx, _, rfl, upd_same, T.cls .sum, T.noat .sum "other" (by decide), by first | decide | (simp only [putF]; (repeat split) <;> first | exact of_decide_eq_true rfl | (simp; done) | (simp only [List.length_cons, List.length_nil]; omega)), ?_⟩
    refine fin Hs _ _ (Same.refl _) (same_upd_of (same_upd_of s1 n1) n1) (fun b o e ne => by rw [upd_ne ne, upd_ne ne]; exact e) (fun b e1 _ => e1) upd_same rfl ?_
    intro i f v g d e1 e2
    rcases i with _ | i
    · cases Option.some.inj e1; cases Option.some.inj e2; exact g0
    rcases i with _ | i
    · cases Option.some.inj e1; cases Option.some.inj e2; exact g1
    · simp at e2⟩
def FCheaper (ds : List D) (fs : List (PySem.Str × D)) : Prop := ∃ d0 d1, ds = [d0, d1] ∧ fs = [(("one" : PySem.Str), d0), (("other" : PySem.Str), d1)]
theorem sci_Cheaper : FnScope ["self", "one", "other"] ["self", "one", "other"] (defScope sPair_init) := ⟨rfl, rfl, rfl, by decide +kernel, rfl, by decide +kernel, by decide +kernel⟩
theorem M_Cheaper (T : Txt K mg ad) : MkD P w0 K mg base 1 "Cheaper" (ad .cheaper) FCheaper :=
  mkInit (T.init .cheaper) sci_Cheaper (fun kV doc pm an cdv ct us hl => match us, hl with | [u0, u1, u2], _ => rfl) (fun ds fs ⟨_, _, e, _⟩ => by rw [e]; rfl) fun f cdv A outer s H E hr => ⟨_, (pss_cons (ps_fld (dv 0).pe (dv 1).pe rfl) (pss_one (ps_fld (dv 0).pe (dv 2).pe rfl))), fun Hs H x dx ws ds fs Q s1 n1 h1 g hF fin => by
    obtain ⟨d0, d1, rfl, rfl⟩ := hF
    obtain ⟨v0, ws, rfl, g0, g⟩ := g.cons_inv
    obtain ⟨v1, ws, rfl, g1, g⟩ := g.cons_inv
    have := g.nil_inv
    subst this
    refine ⟨v0, rfl, .ref x, rfl, x, ad .cheaper, dx, _, rfl, h1, T.cls .cheaper, T.noat .cheaper "one" (by decide), by first | decide | (simp only [putF]; (repeat split) <;> first | exact of_decide_eq_true rfl | (simp; done) | (simp only [List.length_cons, List.length_nil]; omega)), ?_⟩
    refine ⟨v1, rfl, .ref x, rfl, x, ad .cheaper, dx, _, rfl, upd_same, T.cls .cheaper, T.noat .cheaper "other" (by decide), by first | decide | (simp only [putF]; (repeat split) <;> first | exact of_decide_eq_true rfl | (simp; done) | (simp only [List.length_cons, List.length_nil]; omega)), ?_⟩
    refine fin Hs _ _ (Same.refl _) (same_upd_of (same_upd_of s1 n1) n1) (fun b o e ne => by rw [upd_ne ne, upd_ne ne]; exact e) (fun b e1 _ => e1) upd_same rfl ?_
    intro i f v g d e1 e2
    rcases i with _ | i
    · cases Option.some.inj e1; cases Option.some.inj e2; exact g0
    rcases i with _ | i
    · cases Option.some.inj e1; cases Option.some.inj e2; exact g1
    · simp at e2⟩
def FDearer (ds : List D) (fs : List (PySem.Str × D)) : Prop := ∃ d0 d1, ds = [d0, d1] ∧ fs = [(("one" : PySem.Str), d0), (("other" : PySem.Str), d1)]
theorem sci_Dearer : FnScope ["self", "one", "other"] ["self", "one", "other"] (defScope sPair_init) := ⟨rfl, rfl, rfl, by decide +kernel, rfl, by decide +kernel, by decide +kernel⟩
theorem M_Dearer (T : Txt K mg ad) : MkD P w0 K mg base 1 "Dearer" (ad .dearer) FDearer :=
  mkInit (T.init .dearer) sci_Dearer (fun kV doc pm an cdv ct us hl => match us, hl with | [u0, u1, u2], _ => rfl) (fun ds fs ⟨_, _, e, _⟩ => by rw [e]; rfl) fun f cdv A outer s H E hr => ⟨_, (pss_cons (ps_fld (dv 0).pe (dv 1).pe rfl) (pss_one (ps_fld (dv 0).pe (dv 2).pe rfl))), fun Hs H x dx ws ds fs Q s1 n1 h1 g hF fin => by
    obtain ⟨d0, d1, rfl, rfl⟩ := hF
    obtain ⟨v0, ws, rfl, g0, g⟩ := g.cons_inv
    obtain ⟨v1, ws, rfl, g1, g⟩ := g.cons_inv
    have := g.nil_inv
    subst this
    refine ⟨v0, rfl, .ref x, rfl, x, ad .dearer, dx, _, rfl, h1, T.cls .dearer, T.noat .dearer "one" (by decide), by first | decide | (simp only [putF]; (repeat split) <;> first | exact of_decide_eq_true rfl | (simp; done) | (simp only [List.length_cons, List.length_nil]; omega)), ?_⟩
    refine ⟨v1, rfl, .ref x, rfl, x, ad .dearer, dx, _, rfl, upd_same, T.cls .dearer, T.noat .dearer "other" (by decide), by first | decide | (simp only [putF]; (repeat split) <;> first | exact of_decide_eq_true rfl | (simp; done) | (simp only [List.length_cons, List.length_nil]; omega)), ?_⟩
    refine fin Hs _ _ (Same.refl _) (same_upd_of (same_upd_of s1 n1) n1) (fun b o e ne => by rw [upd_ne ne, upd_ne ne]; exact e) (fun b e1 _ => e1) upd_same rfl ?_
    intro i f v g d e1 e2
    rcases i with _ | i
    · cases Option.some.inj e1; cases Option.some.inj e2; exact g0
    rcases i with _ | i
    · cases Option.some.inj e1; cases Option.some.inj e2; exact g1
    · simp at e2⟩
def FOnly (ds : List D) (fs : List (PySem.Str × D)) : Prop := ∃ d0 d1 d2, ds = [d0, d1, d2] ∧ fs = [(("one" : PySem.Str), d0), (("low" : PySem.Str), d1), (("high" : PySem.Str), d2)]
theorem sci_Only : FnScope ["self", "one", "low", "high"] ["self", "one", "low", "high"] (defScope sOnly_init) := ⟨rfl, rfl, rfl, by decide +kernel, rfl, by decide +kernel, by decide +kernel⟩
theorem M_Only (T : Txt K mg ad) : MkD P w0 K mg base 1 "Only" (ad .only) FOnly :=
  mkInit (T.init .only) sci_Only (fun kV doc pm an cdv ct us hl => match us, hl with | [u0, u1, u2, u3], _ => rfl) (fun ds fs ⟨_, _, _, e, _⟩ => by rw [e]; rfl) fun f cdv A outer s H E hr => ⟨_, (pss_cons (ps_fld (dv 0).pe (dv 1).pe rfl) (pss_cons (ps_fld (dv 0).pe (dv 2).pe rfl) (pss_one (ps_fld (dv 0).pe (dv 3).pe rfl)))), fun Hs H x dx ws ds fs Q s1 n1 h1 g hF fin => by
    obtain ⟨d0, d1, d2, rfl, rfl⟩ := hF
    obtain ⟨v0, ws, rfl, g0, g⟩ := g.cons_inv
    obtain ⟨v1, ws, rfl, g1, g⟩ := g.cons_inv
    obtain ⟨v2, ws, rfl, g2, g⟩ := g.cons_inv
    have := g.nil_inv
    subst this
    refine ⟨v0, rfl, .ref x, rfl, x, ad .only, dx, _, rfl, h1, T.cls .only, T.noat .only "one" (by decide), by first | decide | (simp only [putF]; (repeat split) <;> first | exact of_decide_eq_true rfl | (simp; done) | (simp only [List.length_cons, List.length_nil]; omega)), ?_⟩
    refine ⟨v1, rfl, .ref x, rfl, x, ad .only, dx, _, rfl, upd_same, T.cls .only, T.noat .only "low" (by decide), by first | decide | (simp only [putF]; (repeat split) <;> first | exact of_decide_eq_true rfl | (simp; done) | (simp only [List.length_cons, List.length_nil]; omega)), ?_⟩
    refine ⟨v2, rfl, .ref x, rfl, x, ad .only, dx, _, rfl, upd_same, T.cls .only, T.noat .only "high" (by decide), by first | decide | (simp only [putF]; (repeat split) <;> first | exact of_decide_eq_true rfl | (simp; done) | (simp only [List.length_cons, List.length_nil]; omega)), ?_⟩
    refine fin Hs _ _ (Same.refl _) (same_upd_of (same_upd_of (same_upd_of s1 n1) n1) n1) (fun b o e ne => by rw [upd_ne ne, upd_ne ne, upd_ne ne]; exact e) (fun b e1 _ => e1) upd_same rfl ?_
    intro i f v g d e1 e2
    rcases i with _ | i
    · cases Option.some.inj e1; cases Option.some.inj e2; exact g0
    rcases i with _ | i
    · cases Option.some.inj e1; cases Option.some.inj e2; exact g1
    rcases i with _ | i
    · cases Option.some.inj e1; cases Option.some.inj e2; exact g2
    · simp at e2⟩
def FAfter (ds : List D) (fs : List (PySem.Str × D)) : Prop := ∃ d0 d1, ds = [d0, d1] ∧ fs = [(("one" : PySem.Str), d0), (("count" : PySem.Str), d1)]
theorem sci_After : FnScope ["self", "one", "count"] ["self", "one", "count"] (defScope sAfter_init) := ⟨rfl, rfl, rfl, by decide +kernel, rfl, by decide +kernel, by decide +kernel⟩
theorem M_After (T : Txt K mg ad) : MkD P w0 K mg base 1 "After" (ad .after) FAfter :=
  mkInit (T.init .after) sci_After (fun kV doc pm an cdv ct us hl => match us, hl with | [u0, u1, u2], _ => rfl) (fun ds fs ⟨_, _, e, _⟩ => by rw [e]; rfl) fun f cdv A outer s H E hr => ⟨_, (pss_cons (ps_fld (dv 0).pe (dv 1).pe rfl) (pss_one (ps_fld (dv 0).pe (dv 2).pe rfl))), fun Hs H x dx ws ds fs Q s1 n1 h1 g hF fin => by
    obtain ⟨d0, d1, rfl, rfl⟩ := hF
    obtain ⟨v0, ws, rfl, g0, g⟩ := g.cons_inv
    obtain ⟨v1, ws, rfl, g1, g⟩ := g.cons_inv
    have := g.nil_inv
    subst this
    refine ⟨v0, rfl, .ref x, rfl, x, ad .after, dx, _, rfl, h1, T.cls .after, T.noat .after "one" (by decide), by first | decide | (simp only [putF]; (repeat split) <;> first | exact of_decide_eq_true rfl | (simp; done) | (simp only [List.length_cons, List.length_nil]; omega)), ?_⟩
    refine ⟨v1, rfl, .ref x, rfl, x, ad .after, dx, _, rfl, upd_same, T.cls .after, T.noat .after "count" (by decide), by first | decide | (simp only [putF]; (repeat split) <;> first | exact of_decide_eq_true rfl | (simp; done) | (simp only [List.length_cons, List.length_nil]; omega)), ?_⟩
    refine fin Hs _ _ (Same.refl _) (same_upd_of (same_upd_of s1 n1) n1) (fun b o e ne => by rw [upd_ne ne, upd_ne ne]; exact e) (fun b e1 _ => e1) upd_same rfl ?_
    intro i f v g d e1 e2
    rcases i with _ | i
    · cases Option.some.inj e1; cases Option.some.inj e2; exact g0
    rcases i with _ | i
    · cases Option.some.inj e1; cases Option.some.inj e2; exact g1
    · simp at e2⟩
def FRoomy (ds : List D) (fs : List (PySem.Str × D)) : Prop := ∃ d0, ds = [d0] ∧ fs = [(("one" : PySem.Str), d0)]
theorem sci_Roomy : FnScope ["self", "one"] ["self", "one"] (defScope sRoomy_init) := ⟨rfl, rfl, rfl, by decide +kernel, rfl, by decide +kernel, by decide +kernel⟩
theorem M_Roomy (T : Txt K mg ad) : MkD P w0 K mg base 1 "Roomy" (ad .roomy) FRoomy :=
  mkInit (T.init .roomy) sci_Roomy (fun kV doc pm an cdv ct us hl => match us, hl with | [u0, u1], _ => rfl) (fun ds fs ⟨_, e, _⟩ => by rw [e]; rfl) fun f cdv A outer s H E hr => ⟨_, (pss_one (ps_fld (dv 0).pe (dv 1).pe rfl)), fun Hs H x dx ws ds fs Q s1 n1 h1 g hF fin => by
    obtain ⟨d0, rfl, rfl⟩ := hF
    obtain ⟨v0, ws, rfl, g0, g⟩ := g.cons_inv
    have := g.nil_inv
    subst this
    refine ⟨v0, rfl, .ref x, rfl, x, ad .roomy, dx, _, rfl, h1, T.cls .roomy, T.noat .roomy "one" (by decide), by first | decide | (simp only [putF]; (repeat split) <;> first | exact of_decide_eq_true rfl | (simp; done) | (simp only [List.length_cons, List.length_nil]; omega)), ?_⟩
    refine fin Hs _ _ (Same.refl _) (same_upd_of s1 n1) (fun b o e ne => by rw [upd_ne ne]; exact e) (fun b e1 _ => e1) upd_same rfl ?_
    intro i f v g d e1 e2
    rcases i with _ | i
    · cases Option.some.inj e1; cases Option.some.inj e2; exact g0
    · simp at e2⟩
def FFee (ds : List D) (fs : List (PySem.Str × D)) : Prop := ∃ d0 d1, ds = [d0, d1] ∧ fs = [(("one" : PySem.Str), d0), (("price" : PySem.Str), d1)]
theorem sci_Fee : FnScope ["self", "one", "price"] ["self", "one", "price"] (defScope sFee_init) := ⟨rfl, rfl, rfl, by decide +kernel, rfl, by decide +kernel, by decide +kernel⟩
theorem M_Fee (T : Txt K mg ad) : MkD P w0 K mg base 1 "Fee" (ad .fee) FFee :=
  mkInit (T.init .fee) sci_Fee (fun kV doc pm an cdv ct us hl => match us, hl with | [u0, u1, u2], _ => rfl) (fun ds fs ⟨_, _, e, _⟩ => by rw [e]; rfl) fun f cdv A outer s H E hr => ⟨_, (pss_cons (ps_fld (dv 0).pe (dv 1).pe rfl) (pss_one (ps_fld (dv 0).pe (dv 2).pe rfl))), fun Hs H x dx ws ds fs Q s1 n1 h1 g hF fin => by
    obtain ⟨d0, d1, rfl, rfl⟩ := hF
    obtain ⟨v0, ws, rfl, g0, g⟩ := g.cons_inv
    obtain ⟨v1, ws, rfl, g1, g⟩ := g.cons_inv
    have := g.nil_inv
    subst this
    refine ⟨v0, rfl, .ref x, rfl, x, ad .fee, dx, _, rfl, h1, T.cls .fee, T.noat .fee "one" (by decide), by first | decide | (simp only [putF]; (repeat split) <;> first | exact of_decide_eq_true rfl | (simp; done) | (simp only [List.length_cons, List.length_nil]; omega)), ?_⟩
    refine ⟨v1, rfl, .ref x, rfl, x, ad .fee, dx, _, rfl, upd_same, T.cls .fee, T.noat .fee "price" (by decide), by first | decide | (simp only [putF]; (repeat split) <;> first | exact of_decide_eq_true rfl | (simp; done) | (simp only [List.length_cons, List.length_nil]; omega)), ?_⟩
    refine fin Hs _ _ (Same.refl _) (same_upd_of (same_upd_of s1 n1) n1) (fun b o e ne => by rw [upd_ne ne, upd_ne ne]; exact e) (fun b e1 _ => e1) upd_same rfl ?_
    intro i f v g d e1 e2
    rcases i with _ | i
    · cases Option.some.inj e1; cases Option.some.inj e2; exact g0
    rcases i with _ | i
    · cases Option.some.inj e1; cases Option.some.inj e2; exact g1
    · simp at e2⟩
end
end K36
set_option Elab.async false
set_option linter.all false
set_option maxRecDepth 100000
set_option maxHeartbeats 2000000
namespace K36
open PySem PySem.Spec PyProof.Rows L2
/-! ### what is never reached -/
section
variable {X : Cx} {st : Stmt} {sts : List Stmt} {e : Expr}
theorem sdead : PSD X st (fun _ _ _ => False) (fun _ _ => False) := ⟨⟨fun _ _ _ _ _ _ h => h.elim⟩, fun _ _ _ _ _ _ _ _ h _ => h.elim⟩
theorem ddead : PED X e (fun _ _ _ => False) (fun _ _ => False) := ⟨⟨fun _ _ _ _ _ _ h => h.elim⟩, fun _ _ _ _ _ _ _ _ h _ => h.elim⟩
end
theorem sp1_go {f : D → (D → Prop) → Prop} {a : D} {k : D → Prop} (h : f a k) : sp1 f [a] k := ⟨a, rfl, h⟩
theorem sp2_go {f : D → D → (D → Prop) → Prop} {a b : D} {k : D → Prop} (h : f a b k) : sp2 f [a, b] k := ⟨a, b, rfl, h⟩
theorem sp3_go {f : D → D → D → (D → Prop) → Prop} {a b c : D} {k : D → Prop} (h : f a b c k) : sp3 f [a, b, c] k := ⟨a, b, c, rfl, h⟩
theorem sp4_go {f : D → D → D → D → (D → Prop) → Prop} {a b c d : D} {k : D → Prop} (h : f a b c d k) : sp4 f [a, b, c, d] k := ⟨a, b, c, d, rfl, h⟩
/-! ### dicts with texts as keys -/
theorem valV_keys {K : PySem.W.Frag} {H : Hp} {f : PySem.Str} : ∀ {kvs : List (Key × V)} {ds : List (PySem.Str × D)}, kvs.map (·.1) = ds.map (fun p => Sum.inr p.1) → (∀ (i : Nat) f v g d, kvs[i]? = some (f, v) → ds[i]? = some (g, d) → DR K H v d) →
    (∀ x, ds.lookup f = some x → ∃ v, valV kvs (.inr f) = some v ∧ DR K H v x) ∧ (ds.lookup f = none → valV kvs (.inr f) = none)
  | [], [], _, _ => ⟨fun x h => absurd h (by simp), fun _ => rfl⟩
  | [], _ :: _, h, _ => by cases h
  | _ :: _, [], h, _ => by cases h
  | (g, v) :: fs, (g', d) :: ds, h, hr => by
    have h1 : g = Sum.inr g' ∧ fs.map (·.1) = ds.map (fun p => Sum.inr p.1) := by simpa using h
    obtain ⟨rfl, h2⟩ := h1
    obtain ⟨i1, i2⟩ := valV_keys (f := f) h2 fun i a b c e x y => hr (i + 1) a b c e (by simpa using x) (by simpa using y)
    have h0 : DR K H v d := hr 0 _ v g' d rfl rfl
    simp only [List.lookup]
    cases q : (f == g') with
    | true =>
      have e : f = g' := by simpa using q
      refine ⟨fun x hx => ?_, fun hx => by cases hx⟩
      cases hx
      refine ⟨v, ?_, h0⟩
      unfold valV
      rw [List.find?_cons]
      simp [e]
    | false =>
      have ne : f ≠ g' := by simpa using q
      have e : valV ((Sum.inr g', v) :: fs) (Sum.inr f) = valV fs (Sum.inr f) := by
        unfold valV
        rw [List.find?_cons]
        have : decide (g' = f) = false := by
          rw [decide_eq_false_iff_not]
          intro z; exact ne z.symm
        simp [this]
      rw [e]
      exact ⟨i1, i2⟩
theorem DR.dct_inv {K : PySem.W.Frag} {H : Hp} {v : V} {ds : List (PySem.Str × D)} (h : DR K H v (.dct ds)) : ∃ a kvs, v = .ref a ∧ H a = some (.dK kvs) ∧ ∀ f, (∀ x, ds.lookup f = some x → ∃ v, valV kvs (.inr f) = some v ∧ DR K H v x) ∧ (ds.lookup f = none → valV kvs (.inr f) = none) := by
  cases h with
  | dct h1 h2 h3 => exact ⟨_, _, rfl, h1, fun f => valV_keys h2 h3⟩
section
variable {X : Cx} {o e : Expr} {to te : TE} {wo we : DE} {pos : Pos} {k : Nat}
/-- d[name], there -/
def wDix (wo we : DE) : DE := fun ρ k => wo ρ fun d ρ1 => we ρ1 fun y ρ2 => ∃ kvs f x, d = .dct kvs ∧ y = .str f ∧ kvs.lookup f = some x ∧ k x ρ2
theorem ddix (hr : Room k X.A) (ho : PED X o to wo) (he : PED X e te we) (hs : NoSl e := by first | exact fun _ _ => rfl | rfl) : PED X (.Subscript o e pos) (tDGet to te) (wDix wo we) := by
  refine ⟨pe_dget (hu_of hr) ho.pe he.pe hs, ?_⟩
  intro B Hs H σ ρ k Q r hw hQ
  refine ho.ref B Hs H σ ρ _ _ r hw fun v Hs1 H1 d ρ1 s1 r1 d1 q1 => ?_
  refine he.ref B Hs1 H1 σ ρ1 _ _ r1 q1 fun u Hs2 H2 y ρ2 s2 r2 d2 q2 => ?_
  obtain ⟨kvs, f, x, rfl, rfl, l, q⟩ := q2
  obtain ⟨a, gs, rfl, h1, hl⟩ := (d1.mono s2).dct_inv
  obtain ⟨z, e1, e2⟩ := (hl f).1 x l
  rw [d2.str_inv]
  refine ⟨a, z, rfl, ?_, hQ z Hs2 H2 x ρ2 (s1.trans s2) r2 e2 q⟩
  rw [← e1]
  exact DGet.k (k := .inr f) (r2.same _ _ h1)
/-- name not in d -/
def wDnin (we wo : DE) : DT := fun ρ k => we ρ fun y ρ1 => wo ρ1 fun d ρ2 => ∃ kvs f, d = .dct kvs ∧ y = .str f ∧ k (!(kvs.lookup f).isSome) ρ2
theorem tdnin (hr : Room k X.A) (he : PED X e te we) (ho : PED X o to wo) (hm : behindInMarks .NotIn o = false := by rfl) : PTD X (.Compare e [.NotIn] [o] pos) (tB (tDNotIn te to)) (wDnin we wo) := by
  refine ⟨pt_cmp (pc_dnotin (hu_of hr) he.pe ho.pe) hm, ?_⟩
  intro B Hs H σ ρ k Q r hw hQ
  refine he.ref B Hs H σ ρ _ _ r hw fun u Hs1 H1 y ρ1 s1 r1 d1 q1 => ?_
  refine ho.ref B Hs1 H1 σ ρ1 _ _ r1 q1 fun v Hs2 H2 d ρ2 s2 r2 d2 q2 => ?_
  obtain ⟨kvs, f, rfl, rfl, q⟩ := q2
  obtain ⟨a, gs, rfl, h1, hl⟩ := d2.dct_inv
  rw [(d1.mono s2).str_inv]
  refine ⟨a, _, rfl, DGet.k (k := .inr f) (r2.same _ _ h1), ?_⟩
  have e : (valV gs (.inr f)).isSome = (kvs.lookup f).isSome := by
    cases q : kvs.lookup f with
    | none => rw [(hl f).2 q]; rfl
    | some x =>
      obtain ⟨z, e1, _⟩ := (hl f).1 x q
      rw [e1]; rfl
  rw [e]
  exact ⟨_, rfl, hQ _ Hs2 H2 ρ2 (s1.trans s2) r2 q⟩
end
end K36
set_option Elab.async false
set_option linter.all false
set_option maxRecDepth 100000
set_option maxHeartbeats 2000000
namespace K36
open PySem PySem.Spec PyProof.Rows L2
/-! methods that may raise -/
structure MX (P : Program) (w : World) (K : PySem.W.Frag) (mg : PySem.Str → Option Value) (base : Heap) (k : Nat) (C : Addr) (m : PySem.Str) (sp : Sp) : Prop where
  ex : ∃ f fd ps, Cls K C ∧ Meth K C m f ∧ FnOk P w K mg base (L2.CX P w) k f fd ps sp ∧ Binds K fd ps []
theorem MX.mono {P : Program} {w : World} {K : PySem.W.Frag} {mg : PySem.Str → Option Value} {base : Heap} {C : Addr} {m : PySem.Str} {sp : Sp} {i j : Nat} (h : MX P w K mg base i C m sp) (l : i ≤ j) : MX P w K mg base j C m sp := by
  obtain ⟨f, fd, ps, h1, h2, h3, h4⟩ := h.ex
  exact ⟨f, fd, ps, h1, h2, h3.mono l, h4⟩
theorem MX.imp {P : Program} {w : World} {K : PySem.W.Frag} {mg : PySem.Str → Option Value} {base : Heap} {C : Addr} {m : PySem.Str} {sp sp' : Sp} {i : Nat} (h : MX P w K mg base i C m sp) (l : ∀ vs H Q E, sp' vs H Q E → sp vs H Q E) : MX P w K mg base i C m sp' := by
  obtain ⟨f, fd, ps, h1, h2, h3, h4⟩ := h.ex
  exact ⟨f, fd, ps, h1, h2, h3.imp l, h4⟩
/-- where it does not raise -/
theorem fn_calm {P : Program} {w : World} {K : PySem.W.Frag} {mg : PySem.Str → Option Value} {base : Heap} {k : Nat} {f : Addr} {fd : FuncData} {ps : List PySem.Str} {sp sp' : Sp} (F : FnOk P w K mg base (L2.CX P w) k f fd ps sp)
    (h : ∀ vs H Q E, sp' vs H Q E → sp vs H Q (fun _ _ _ => False)) : FnOk P w K mg base CX0 k f fd ps sp' := by
  refine ⟨fun vs H Q E q => F.len vs H Q _ (h _ _ _ _ q), fun A outer s H args us vs Q E hr he hb hv hs => ?_⟩
  refine codeAny_mono (F.run A outer s H args us vs Q _ hr he hb hv (h _ _ _ _ hs)) fun r s' hq => ?_
  cases r with
  | error e =>
    obtain ⟨_, _, _, _, _, _, _, _, _, _, _, _, z⟩ := hq
    exact z.elim
  | ok fl =>
    cases fl with
    | ret u => exact hq
    | next => exact hq
    | brk => exact hq
    | cont => exact hq
theorem MX.calm {P : Program} {w : World} {K : PySem.W.Frag} {mg : PySem.Str → Option Value} {base : Heap} {C : Addr} {m : PySem.Str} {sp sp' : Sp} {i : Nat} (h : MX P w K mg base i C m sp) (l : ∀ vs H Q E, sp' vs H Q E → sp vs H Q (fun _ _ _ => False)) : MD P w K mg base i C m sp' := by
  obtain ⟨f, fd, ps, h1, h2, h3, h4⟩ := h.ex
  exact ⟨f, fd, ps, h1, h2, fn_calm h3 l, h4⟩
section
variable {X : Cx} {o e : Expr} {es : List Expr} {to : TE} {t : TA} {m : PySem.Str} {apos pos : Pos} {k : Nat} {EX : XK}
def tMethX (P : Program) (w : World) (K : PySem.W.Frag) (mg : PySem.Str → Option Value) (base : Heap) (k : Nat) (EX : XK) (m : PySem.Str) (to : TE) (t : TA) : TE := fun σ H Q => to σ H fun x H1 => ∃ C a dx fs sp, x = .ref a ∧ H1 a = some (.ins C dx fs) ∧ fs.lookup m = none ∧ MX P w K mg base k C m sp ∧ t σ H1 fun vs H2 => sp (x :: vs) H2 Q EX
theorem pe_methX {pl : Sem Bool} (he : PE X o to) (hr : Room k X.A) (hx : Passes (L2.CX X.prog X.w) X EX) (ha : PA X (e :: es) t) (hst : starEach (e :: es) X.env = (false, eval e X.env) :: starEach es X.env := by rfl) (hpl : (backTo pos (starEach es X.env)).any (·.1) = false := by rfl)
    (ht : eval (.Call (.Attribute o m apos) (e :: es) [] pos) X.env = (do
      let ov ← eval o X.env
      standAt apos.atName
      let (f, first) ← holding [ov] (getMethod ov m pl)
      callWith pos f first (backTo pos (starEach (e :: es) X.env)) (backToKw pos (keywordEach [] X.env))) := by rfl) :
    PE X (.Call (.Attribute o m apos) (e :: es) [] pos) (tMethX X.prog X.w X.K X.mg X.base k EX m to t) := by
  refine ⟨fun pins s σ H Q I h => ?_⟩
  refine PySem.W.methodCall_KW (pl := pl) (thn (he.run pins s σ H _ I h) fun u s1 ⟨x, H1, I1, rx, C, a, dx, fs, sp, ex, ea, l, md, q⟩ => ?_) ht
  subst ex
  obtain rfl : u = Value.ref a := rx
  obtain ⟨f, fd, ps, c, hm, F, hb⟩ := md.ex
  refine getmeth_ok I1 ea c hm l ?_
  refine PySem.W.callWith_K (first := [.ref a]) (h₀ := X.base) I.ok.mod.kin hm.kp (thn (ha.run pos pins s1 σ H1 _ I1 q) fun us s2 ⟨vs, H2, I2, r, q2⟩ => ⟨I2.kIn, ?_⟩) hst hpl
  exact run_fn (us := .ref a :: us) (vs := .ref a :: vs) F hr hb .nil hx I2 (.cons rfl r) (by rw [List.append_nil]; exact q2)
end
theorem passes_blkX {X : Cx} {s : Shared} {H : Hp} {scope : Scope} {ce : Env} {fp : List Addr} {EX : XK} : Passes (L2.CX X.prog X.w) (K36R.blkX X s H scope ce fp EX) EX :=
  fun pins σ H8 s8 e s' I c => ⟨pins, σ, H8, s8, I.unwish, c⟩

/-! a list comprehension whose item may raise -/
section
variable {wi : TI} {w : DA} {te : TE}
theorem lcX {K : PySem.W.Frag} {i : Nat} (hi : RefI K wi w) {Hs H : Hp} {σ : L2.St} {ρ ρ0 : List Sl} {l : List D} {Q : VK} (r : Rep K ⟨Hs, H⟩ Hs H σ ρ) (hw : w ρ fun l' ρ1 => l' = l ∧ ρ1 = ρ0) (good : Nat → Prop) (f : Nat → D) (hl : l.length ≤ 100000)
    (hte : ∀ (j : Nat) (x : D) (Hs' H' : Hp) (σ' : L2.St) (Q' : VK), l[j]? = some x → Same H H' → Same Hs Hs' → Rep K ⟨Hs', H'⟩ Hs' H' σ' ((ρ0.map hideO).set i (.val x)) → (good j → ∀ v Hs3 H3, Same Hs' Hs3 → Same Hs3 H3 → Same H' H3 → (∀ a, Hs' a = none → H' a ≠ none → Hs3 a = none) → DR K Hs3 v (f j) → Q' v H3) → te σ' H' Q')
    (hQ : (∀ j, j < l.length → good j) → ∀ p vs Hs' H', Same Hs Hs' → Rep K ⟨Hs, H⟩ Hs' H' σ ρ0 → Hs' p = none → H p = none → H' p = some (.lst vs) → Rl K Hs' vs ((List.range l.length).map f) → (∀ (i : Nat) ds, ρ0[i]? = some (.own ds) → σ[i]? ≠ some (some (.ref p))) → Q (.ref p) H') :
    tLc wi (gName i) tYes te [i] σ H Q := by
  refine hi ⟨Hs, H⟩ Hs H σ ρ _ _ r hw fun J Hs1 H1 l' ρ1 s1 r1 ok q D hD => ?_
  obtain ⟨rfl, rfl⟩ := q
  have inv0 : Rep K ⟨Hs, H⟩ Hs1 (upd H1 D (.lst [])) σ ρ1 := r1.laid hD
  have hDs : Hs1 D = none := r1.same.free hD
  have hDb : H D = none := r1.ent.free hD
  refine ⟨fun j m H2 => m = l'.length - j ∧ j ≤ l'.length ∧ (∀ x, x < j → good x) ∧ ∃ Hs2 vs, Same Hs1 Hs2 ∧ Rep K ⟨Hs, H⟩ Hs2 H2 σ ρ1 ∧ Hs2 D = none ∧ H2 D = some (.lst vs) ∧ Rl K Hs2 vs ((List.range j).map f) ∧ (∀ (i : Nat) ds, ρ1[i]? = some (.own ds) → σ[i]? ≠ some (some (.ref D))),
    ⟨l'.length, by simp, Nat.zero_le _, by simp, Hs1, [], Same.refl _, inv0, hDs, upd_same, Rl.nil, r1.notOwn hD⟩, ?_⟩
  rintro j m H2 ⟨rfl, hj, hg, Hs2, vs, s2, r2, n2, h2, g2, no⟩
  by_cases hlt : j < l'.length
  · refine .inr ⟨ok.go j H2 (s2.trans r2.same) hlt, fun H2 => (∀ x, x < j + 1 → good x) ∧ ∃ Hs2 vs, Same Hs1 Hs2 ∧ Rep K ⟨Hs, H⟩ Hs2 H2 σ ρ1 ∧ Hs2 D = none ∧ H2 D = some (.lst vs) ∧ Rl K Hs2 vs ((List.range (j + 1)).map f) ∧ (∀ (i : Nat) ds, ρ1[i]? = some (.own ds) → σ[i]? ≠ some (some (.ref D))),
      fun H' h => ⟨l'.length - (j + 1), by omega, rfl, hlt, h⟩, fun x H' y => ?_⟩
    obtain ⟨e, d, e1, e2⟩ := ok.yld j H2 x H' (s2.trans r2.same) hlt y
    subst e
    refine ⟨by show ((σ.set i none).set i (some x)).set i none = σ.set i none; rw [List.set_set, List.set_set], ?_⟩
    unfold tYes
    dsimp only
    rw [if_pos rfl]
    have rb : Rep K ⟨Hs2, H'⟩ Hs2 H' ((σ.set i none).set i (some x)) (((ρ1.map hideO).set i .un).set i (.val d)) := (r2.hide.setAny none i).setVal (e2.mono s2) i
    rw [show ((ρ1.map hideO).set i .un).set i (.val d) = (ρ1.map hideO).set i (.val d) from List.set_set ..] at rb
    show te ((σ.set i none).set i (some x)) H' _
    refine hte j d Hs2 H' _ _ e1 r2.ent (s1.trans s2) rb fun gd v Hs3 H3 s3 t3 hH hfr dr3 => ?_
    have hD3 : H3 D = some (.lst vs) := hH _ _ h2
    have n3 : Hs3 D = none := hfr D n2 (by rw [h2]; simp)
    have r3' : Rep K ⟨Hs, H⟩ Hs3 H3 σ ρ1 := r2.grow s3 t3 hH hfr
    refine ⟨vs, hD3, by rw [g2.1, List.length_map, List.length_range]; exact Nat.lt_of_lt_of_le (by omega : j < 1000000) (by decide), ?_⟩
    refine ⟨fun z hz => ?_, Hs3, vs ++ [v], s2.trans s3, ?_, n3, upd_same, ?_, no⟩
    · by_cases hz' : z = j
      · rw [hz']; exact gd
      · exact hg z (by omega)
    · refine ⟨same_upd_of r3'.same n3, same_upd_of r3'.ent hDb, r3'.fr, r3'.len, r3'.val, fun i ds e => ?_, r3'.sep⟩
      obtain ⟨a, ws, f1, f2, f0, f3, f4⟩ := r3'.own i ds e
      have ne : a ≠ D := fun z => no i ds e (by rw [← z]; exact f1)
      exact ⟨a, ws, f1, f2, f0, by rw [upd_ne ne]; exact f3, f4⟩
    · rw [List.range_succ, List.map_append]
      exact (g2.mono s3).append (Rl.cons dr3 Rl.nil)
  · have e : j = l'.length := by omega
    subst e
    exact .inl ⟨ok.stop H2 (s2.trans r2.same), hQ hg D vs Hs2 H2 (s1.trans s2) r2 n2 hDb h2 g2 no⟩
/-! statements with what their parts tell of data -/
structure PSR (X : Cx) (st : Stmt) (t : TS) (R : Prop) : Prop where
  pe : PS X st t
  r : R
structure PSsR (X : Cx) (st : List Stmt) (t : TS) (R : Prop) : Prop where
  pe : PSs X st t
  r : R
variable {X : Cx} {st : Stmt} {sts : List Stmt} {t u : TS} {R R' : Prop}
theorem rcons (h : PSR X st t R) (g : PSsR X sts u R') : PSsR X (st :: sts) (tSeq t u) (R ∧ R') := ⟨pss_cons h.pe g.pe, h.r, g.r⟩
theorem rone (h : PSR X st t R) : PSsR X [st] t R := ⟨pss_one h.pe, h.r⟩
theorem rdata {w : DS} (h : PSD X st t w) : PSR X st t (RefS X.K t w) := ⟨h.pe, h.ref⟩
theorem rfor {tg iter : Expr} (g : PI X tg iter wi → PS X st t) (h : PID X tg iter wi w) : PSR X st t (RefI X.K wi w) := ⟨g h.pe, h.ref⟩
theorem rif {c : Expr} {tc : TT} {wt : DT} (g : PT X c tc → PS X st t) (h : PTD X c tc wt) : PSR X st t (RefT X.K tc wt) := ⟨g h.pe, h.ref⟩
theorem rexp {e : Expr} {te : TE} {we : DE} (g : PE X e te → PS X st t) (h : PED X e te we) : PSR X st t (RefE X.K te we) := ⟨g h.pe, h.ref⟩
end
end K36
set_option Elab.async false
set_option linter.all false
set_option maxRecDepth 100000
set_option maxHeartbeats 4000000
namespace K36
open PySem PySem.Spec PyProof.Rows L2
/-! plans as data, and their bounds -/
def LL : Lim := ⟨2 ^ 160, 2 ^ 140, 2 ^ 400, by decide +kernel, by decide +kernel, by decide +kernel⟩
theorem llA : 20 * LL.A ≤ Yb := by unfold LL Yb; decide +kernel
theorem llM : 20 * LL.M ≤ Yb := by unfold LL Yb; decide +kernel
theorem llU : LL.U ≤ Yb := by unfold LL Yb; decide +kernel
theorem good_bdY {w : Nat} {f : List Row} (g : Good LL w f) (hw : w ≤ 20) : BdY f := fun x c e => by
  have h := (g.mono hw).bd x c e
  have a := llA
  have m := llM
  have y := yb1
  rw [show ((20 : Nat) : Int) = 20 from rfl] at h
  omega
theorem laid_bdY {w : Nat} {R : List Row} (h : Asc R) (g : Good LL w (laid R)) (hw : w ≤ 20) : BdY R := fun x c e => good_bdY g hw x c (by rw [laid_cost h]; exact e)
def small : Plan → Prop
  | .bands rows => rows.length ≤ 10
  | .steps rows => rows.length ≤ 10
  | .plus a b => small a ∧ small b
  | .or_ a b => small a ∧ small b
  | .max_ a b => small a ∧ small b
  | .only a lo hi => small a ∧ (0 ≤ lo ∧ lo ≤ LL.A ∧ 0 ≤ hi ∧ hi ≤ LL.A)
  | .after a _ => small a
  | .fee a _ => small a
  | .roomy a => small a
  | _ => True
structure FOk (F : Fo) : Prop where
  good : ∀ n, Good LL 1 (F n)
  len : ∀ n, (F n).length ≤ 60
structure PlOk (p : Plan) : Prop where
  ok : POk LL p
  sm : small p
  wt : weight p ≤ 20
theorem weight_pos : ∀ p : Plan, 1 ≤ weight p := fun p => by
  induction p <;> simp only [weight] <;> omega
theorem PlOk.plus {a b : Plan} (h : PlOk (.plus a b)) : PlOk a ∧ PlOk b := by
  obtain ⟨h1, h2, h3⟩ := h
  simp only [weight] at h3
  exact ⟨⟨h1.1, h2.1, by omega⟩, ⟨h1.2, h2.2, by omega⟩⟩
theorem PlOk.or_ {a b : Plan} (h : PlOk (.or_ a b)) : PlOk a ∧ PlOk b := by
  obtain ⟨h1, h2, h3⟩ := h
  simp only [weight] at h3
  exact ⟨⟨h1.1, h2.1, by omega⟩, ⟨h1.2, h2.2, by omega⟩⟩
theorem PlOk.max_ {a b : Plan} (h : PlOk (.max_ a b)) : PlOk a ∧ PlOk b := by
  obtain ⟨h1, h2, h3⟩ := h
  simp only [weight] at h3
  exact ⟨⟨h1.1, h2.1, by omega⟩, ⟨h1.2, h2.2, by omega⟩⟩
theorem PlOk.only {a : Plan} {lo hi : Int} (h : PlOk (.only a lo hi)) : PlOk a := by
  obtain ⟨h1, h2, h3⟩ := h
  simp only [weight] at h3
  exact ⟨h1, h2.1, by omega⟩
theorem PlOk.after {a : Plan} {c : Int} (h : PlOk (.after a c)) : PlOk a := by
  obtain ⟨h1, h2, h3⟩ := h
  simp only [weight] at h3
  exact ⟨h1.1, h2, by omega⟩
theorem PlOk.fee {a : Plan} {c : Int} (h : PlOk (.fee a c)) : PlOk a := by
  obtain ⟨h1, h2, h3⟩ := h
  simp only [weight] at h3
  exact ⟨h1.1, h2, by omega⟩
theorem PlOk.roomy {a : Plan} (h : PlOk (.roomy a)) : PlOk a := by
  obtain ⟨h1, h2, h3⟩ := h
  simp only [weight] at h3
  exact ⟨h1, h2, by omega⟩
theorem PlOk.good {F : Fo} {p : Plan} (h : PlOk p) (hF : FOk F) : Good LL (weight p) (K36.mk F p) := (plan_good hF.good p h.ok).1
theorem PlOk.bd {F : Fo} {p : Plan} (h : PlOk p) (hF : FOk F) : BdY (K36.mk F p) := good_bdY (h.good hF) h.wt
/-! ### as data -/
def nmS : Nm → PySem.Str
  | .p => "p"
  | .qq => "qq"
  | .ptop => "ptop"
def formsL (F : Fo) : List (PySem.Str × D) := [("p", formD (F .p)), ("qq", formD (F .qq)), ("ptop", formD (F .ptop))]
def formsD (F : Fo) : D := .dct (formsL F)
theorem forms_get (F : Fo) (n : Nm) : (formsL F).lookup (nmS n) = some (formD (F n)) := by
  cases n <;> rfl
def twoD (q : Int × Int) : D := .tup [.int q.1, .int q.2]
def twosD (rows : List (Int × Int)) : D := .lst (rows.map twoD)
def kd : Plan → Kd
  | .each .. => .each
  | .flat .. => .flat
  | .bands .. => .bands
  | .steps .. => .steps
  | .blocks .. => .blocks
  | .name .. => .named
  | .plus .. => .sum
  | .or_ .. => .cheaper
  | .max_ .. => .dearer
  | .only .. => .only
  | .after .. => .after
  | .fee .. => .fee
  | .roomy .. => .roomy
def ruleF (ad : Kd → Addr) : Plan → List (PySem.Str × D)
  | .each u lo hi => [("unit", .int u), ("low", .int lo), ("high", .int hi)]
  | .flat p lo hi => [("price", .int p), ("low", .int lo), ("high", .int hi)]
  | .bands rows => [("rows", twosD rows)]
  | .steps rows => [("rows", twosD rows)]
  | .blocks s p m => [("size", .int s), ("price", .int p), ("many", .int m)]
  | .name n => [("name", .str (nmS n))]
  | .plus a b => [("one", .ins (ad (kd a)) (ruleF ad a)), ("other", .ins (ad (kd b)) (ruleF ad b))]
  | .or_ a b => [("one", .ins (ad (kd a)) (ruleF ad a)), ("other", .ins (ad (kd b)) (ruleF ad b))]
  | .max_ a b => [("one", .ins (ad (kd a)) (ruleF ad a)), ("other", .ins (ad (kd b)) (ruleF ad b))]
  | .only a lo hi => [("one", .ins (ad (kd a)) (ruleF ad a)), ("low", .int lo), ("high", .int hi)]
  | .after a c => [("one", .ins (ad (kd a)) (ruleF ad a)), ("count", .int c)]
  | .fee a p => [("one", .ins (ad (kd a)) (ruleF ad a)), ("price", .int p)]
  | .roomy a => [("one", .ins (ad (kd a)) (ruleF ad a))]
def ruleD (ad : Kd → Addr) (p : Plan) : D := .ins (ad (kd p)) (ruleF ad p)
theorem no_meth {ad : Kd → Addr} (p : Plan) (m : Mt) : (ruleF ad p).lookup (mnm m) = none := by
  cases p <;> cases m <;> rfl
def subs : Plan → List Plan
  | .plus a b => [a, b]
  | .or_ a b => [a, b]
  | .max_ a b => [a, b]
  | .only a _ _ => [a]
  | .after a _ => [a]
  | .fee a _ => [a]
  | .roomy a => [a]
  | _ => []
def depth : Plan → Nat
  | .plus a b => max (depth a) (depth b) + 1
  | .or_ a b => max (depth a) (depth b) + 1
  | .max_ a b => max (depth a) (depth b) + 1
  | .only a _ _ => depth a + 1
  | .after a _ => depth a + 1
  | .fee a _ => depth a + 1
  | .roomy a => depth a + 1
  | _ => 0
theorem subs_depth {p a : Plan} (h : a ∈ subs p) : depth a < depth p := by
  cases p <;> simp only [subs, List.mem_cons, List.not_mem_nil, or_false] at h <;> first | exact h.elim | (subst h; simp only [depth]; omega) | (rcases h with rfl | rfl <;> simp only [depth] <;> omega)
theorem subs_ok {p a : Plan} (hp : PlOk p) (h : a ∈ subs p) : PlOk a := by
  cases p <;> simp only [subs, List.mem_cons, List.not_mem_nil, or_false] at h <;>
    first
    | exact h.elim
    | (subst h; first | exact hp.only | exact hp.after | exact hp.fee | exact hp.roomy)
    | (rcases h with rfl | rfl <;> first | exact hp.plus.1 | exact hp.plus.2 | exact hp.or_.1 | exact hp.or_.2 | exact hp.max_.1 | exact hp.max_.2)
/-- what a rule's drawn is given -/
def drInner (F : Fo) (p : Plan) : List D := (subs p).map fun a => formD (mk F a)
def gDr (ad : Kd → Addr) (c : Kd) (self forms inner : D) (k : D → Prop) : Prop := ∃ pl F, kd pl = c ∧ self = ruleD ad pl ∧ forms = formsD F ∧ inner = .lst (drInner F pl) ∧ PlOk pl ∧ FOk F ∧ (∀ a ∈ subs pl, (mk F a).length ≤ 60) ∧ k (formD (mk F pl))
end K36
set_option Elab.async false
set_option linter.all false
set_option maxRecDepth 100000
set_option maxHeartbeats 4000000
namespace K36
open PySem PySem.Spec PyProof.Rows L2
local macro_rules | `(tactic| walk_at "dfl") => `(tactic| first | refine sp3_go ?_ | refine sp2_go ?_ | refine sp1_go ?_ | refine sp4_go ?_ | refine ⟨_, _, _, rfl, rfl, rfl, rfl, ?_⟩ | refine ⟨_, _, rfl, rfl, rfl, rfl, ?_⟩ | refine ⟨_, _, _, rfl, by assumption, by assumption, rfl, ?_⟩ | refine ⟨_, _, _, rfl, by assumption, by assumption, by assumption, ?_⟩ | refine ⟨_, _, _, rfl, rfl, forms_get _ _, ?_⟩ | refine ⟨_, _, _, rfl, by assumption, by assumption, ?_⟩)
local macro_rules | `(tactic| walk_at "dgf") => `(tactic| (repeat' (first | walk_at "dfl" | refine ⟨_, rfl, ?_⟩ | refine ⟨_, _, rfl, ?_⟩ | refine ⟨_, _, rfl, rfl, ?_⟩ | refine ⟨_, _, _, rfl, ?_⟩ | refine ⟨_, _, _, rfl, rfl, rfl, ?_⟩ | refine ⟨_, _, _, rfl, rfl, atI_last, ?_⟩ | refine ⟨_, _, _, rfl, rfl, by assumption, ?_⟩ | refine ⟨_, _, _, _, rfl, ?_⟩ | refine And.intro rfl ?_ | refine And.intro ⟨_, rfl⟩ ?_ | refine ⟨_, .inl rfl, ?_⟩ | refine ⟨_, .inr rfl, ?_⟩ | refine t_go ?_ | refine f_go ?_ | refine d_go (fun _ => ?_) (fun _ => ?_) | refine n_go (fun _ => ?_) (fun _ => ?_) | refine c_go (fun _ => ?_) (fun _ => ?_) | refine And.intro (by walk_at "dsd") ?_ | fail)))
local macro_rules | `(tactic| walk_at "dsd") => `(tactic| first | omega | exact mulW (by omega) (by omega) | exact divW (by omega) (by omega) | assumption | ((try simp only [List.length_append, List.length_cons, List.length_nil, List.length_map, List.length_reverse, List.length_dropLast, List.length_drop, List.length_take]); omega))
local macro_rules | `(tactic| walk_at "dgo") => `(tactic| (repeat' (first | refine ⟨_, rfl, ?_⟩ | refine ⟨_, _, rfl, ?_⟩ | refine ⟨_, _, rfl, rfl, ?_⟩ | refine ⟨_, _, _, rfl, ?_⟩ | refine ⟨_, _, _, rfl, rfl, rfl, ?_⟩ | refine ⟨_, _, _, rfl, rfl, atI_last, ?_⟩ | refine ⟨_, _, _, rfl, rfl, by assumption, ?_⟩ | refine ⟨_, _, _, _, rfl, ?_⟩ | refine And.intro rfl ?_ | refine And.intro ⟨_, rfl⟩ ?_ | refine ⟨_, .inl rfl, ?_⟩ | refine ⟨_, .inr rfl, ?_⟩ | refine t_go ?_ | refine f_go ?_ | refine d_go (fun _ => ?_) (fun _ => ?_) | refine n_go (fun _ => ?_) (fun _ => ?_) | refine c_go (fun _ => ?_) (fun _ => ?_) | refine And.intro (by walk_at "dsd") ?_ | fail)))
local macro_rules | `(tactic| walk_at "dgb") => `(tactic| (repeat' (first | refine ⟨_, rfl, ?_⟩ | refine ⟨_, _, rfl, ?_⟩ | refine ⟨_, _, rfl, rfl, ?_⟩ | refine ⟨_, _, _, rfl, ?_⟩ | refine ⟨_, _, _, rfl, rfl, rfl, ?_⟩ | refine ⟨_, _, _, rfl, rfl, atI_last, ?_⟩ | refine ⟨_, _, _, rfl, rfl, by assumption, ?_⟩ | refine ⟨_, _, _, _, rfl, ?_⟩ | refine And.intro rfl ?_ | refine And.intro ⟨_, rfl⟩ ?_ | refine ⟨_, .inl rfl, ?_⟩ | refine ⟨_, .inr rfl, ?_⟩ | refine t_go ?_ | refine f_go ?_ | refine d_go (fun _ => ?_) (fun _ => ?_) | refine n_go (fun _ => ?_) (fun _ => ?_) | refine c_go (fun _ => ?_) (fun _ => ?_) | refine nb_go (fun _ => ?_) (fun _ => ?_) | refine b_go (fun _ => ?_) (fun _ => ?_) | refine And.intro (by walk_at "dsd") ?_ | fail)))
local macro_rules | `(tactic| walk_at "dif") => `(tactic| ((repeat' split) <;> first | rfl | (exfalso; omega)))
section
variable {P : Program} {w0 : World} {K : PySem.W.Frag} {mg : PySem.Str → Option Value} {base : Heap} {ad : Kd → Addr}
theorem sc_Each_drawn : FnScope ["self", "forms", "inner"] ["self", "forms", "inner"] (defScope sEach_drawn) := ⟨rfl, rfl, rfl, by decide +kernel, rfl, by decide +kernel, by decide +kernel⟩
theorem sc_Flat_drawn : FnScope ["self", "forms", "inner"] ["self", "forms", "inner"] (defScope sFlat_drawn) := ⟨rfl, rfl, rfl, by decide +kernel, rfl, by decide +kernel, by decide +kernel⟩
theorem sc_Named_drawn : FnScope ["self", "forms", "inner"] ["self", "forms", "inner"] (defScope sNamed_drawn) := ⟨rfl, rfl, rfl, by decide +kernel, rfl, by decide +kernel, by decide +kernel⟩
theorem sc_Sum_drawn : FnScope ["self", "forms", "inner"] ["self", "forms", "inner"] (defScope sSum_drawn) := ⟨rfl, rfl, rfl, by decide +kernel, rfl, by decide +kernel, by decide +kernel⟩
theorem sc_Cheaper_drawn : FnScope ["self", "forms", "inner"] ["self", "forms", "inner"] (defScope sCheaper_drawn) := ⟨rfl, rfl, rfl, by decide +kernel, rfl, by decide +kernel, by decide +kernel⟩
theorem sc_Dearer_drawn : FnScope ["self", "forms", "inner"] ["self", "forms", "inner"] (defScope sDearer_drawn) := ⟨rfl, rfl, rfl, by decide +kernel, rfl, by decide +kernel, by decide +kernel⟩
theorem sc_Only_drawn : FnScope ["self", "forms", "inner"] ["self", "forms", "inner"] (defScope sOnly_drawn) := ⟨rfl, rfl, rfl, by decide +kernel, rfl, by decide +kernel, by decide +kernel⟩
theorem sc_After_drawn : FnScope ["self", "forms", "inner"] ["self", "forms", "inner"] (defScope sAfter_drawn) := ⟨rfl, rfl, rfl, by decide +kernel, rfl, by decide +kernel, by decide +kernel⟩
theorem sc_Roomy_drawn : FnScope ["self", "forms", "inner"] ["self", "forms", "inner"] (defScope sRoomy_drawn) := ⟨rfl, rfl, rfl, by decide +kernel, rfl, by decide +kernel, by decide +kernel⟩
theorem sc_Fee_drawn : FnScope ["self", "forms", "inner"] ["self", "forms", "inner"] (defScope sFee_drawn) := ⟨rfl, rfl, rfl, by decide +kernel, rfl, by decide +kernel, by decide +kernel⟩
theorem DR_each (T : Txt K mg ad) : MD P w0 K mg base 5 (ad .each) "drawn" (spOf K (sp3 (gDr ad .each))) :=
  MdAt.md3 (N := ["self", "forms", "inner"]) (T.meth .each .drawn) (T.cls .each) (fun _ _ _ _ _ _ _ _ _ => rfl) sc_Each_drawn fun f cdv A outer s H E hr => ⟨_, _, (sdone (sdret (dcall (D_laid T) (hr.mono (by first | decide | omega)) (dcons (PLD.asE (dlist (dcons (dtup (dcons (dfld (dv 0)) (dcons (dfld (dv 0)) (dcons (dmul (dfld (dv 0)) (dfld (dv 0))) (dcons (dfld (dv 0)) dnil))))) dnil))) dnil)))), fun a b c k0 h => by
    obtain ⟨pl, F, hk, rfl, rfl, rfl, hp, hF, hl, hk0⟩ := h
    cases pl <;> first | cases hk | skip
    rename_i u lo hi
    have c1 := T.cls .each
    have n1 := T.noat .each "unit" (by decide)
    have n2 := T.noat .each "low" (by decide)
    have n3 := T.noat .each "high" (by decide)
    have y := yb1
    have h1 := hp.ok
    have aA := llA
    have aU := llU
    simp only [POk] at h1
    walk_at "dgf"
    refine ⟨[⟨lo, hi, u * lo, u⟩], rfl, by simp only [List.length_cons, List.length_nil]; omega, asc_one h1.2.2.1, laid_bdY (asc_one h1.2.2.1) (hp.good hF) hp.wt, hk0⟩⟩
theorem DR_flat (T : Txt K mg ad) : MD P w0 K mg base 5 (ad .flat) "drawn" (spOf K (sp3 (gDr ad .flat))) :=
  MdAt.md3 (N := ["self", "forms", "inner"]) (T.meth .flat .drawn) (T.cls .flat) (fun _ _ _ _ _ _ _ _ _ => rfl) sc_Flat_drawn fun f cdv A outer s H E hr => ⟨_, _, (sdone (sdret (dcall (D_laid T) (hr.mono (by first | decide | omega)) (dcons (PLD.asE (dlist (dcons (dtup (dcons (dfld (dv 0)) (dcons (dfld (dv 0)) (dcons (dfld (dv 0)) (dcons dint dnil))))) dnil))) dnil)))), fun a b c k0 h => by
    obtain ⟨pl, F, hk, rfl, rfl, rfl, hp, hF, hl, hk0⟩ := h
    cases pl <;> first | cases hk | skip
    rename_i u lo hi
    have c1 := T.cls .flat
    have n1 := T.noat .flat "price" (by decide)
    have n2 := T.noat .flat "low" (by decide)
    have n3 := T.noat .flat "high" (by decide)
    have h1 := hp.ok
    simp only [POk] at h1
    walk_at "dgf"
    refine ⟨[⟨lo, hi, u, 0⟩], rfl, by simp only [List.length_cons, List.length_nil]; omega, asc_one h1.2.2.1, laid_bdY (asc_one h1.2.2.1) (hp.good hF) hp.wt, hk0⟩⟩
theorem DR_named (T : Txt K mg ad) : MD P w0 K mg base 5 (ad .named) "drawn" (spOf K (sp3 (gDr ad .named))) :=
  MdAt.md3 (N := ["self", "forms", "inner"]) (T.meth .named .drawn) (T.cls .named) (fun _ _ _ _ _ _ _ _ _ => rfl) sc_Named_drawn fun f cdv A outer s H E hr => ⟨_, _, (sdone (sdret (ddix hr (dv 1) (dfld (dv 0))))), fun a b c k0 h => by
    obtain ⟨pl, F, hk, rfl, rfl, rfl, hp, hF, hl, hk0⟩ := h
    cases pl <;> first | cases hk | skip
    rename_i n
    have c1 := T.cls .named
    have n1 := T.noat .named "name" (by decide)
    walk_at "dgf"
    exact hk0⟩
theorem DR_sum (T : Txt K mg ad) : MD P w0 K mg base 6 (ad .sum) "drawn" (spOf K (sp3 (gDr ad .sum))) :=
  MdAt.md3 (N := ["self", "forms", "inner"]) (T.meth .sum .drawn) (T.cls .sum) (fun _ _ _ _ _ _ _ _ _ => rfl) sc_Sum_drawn fun f cdv A outer s H E hr => ⟨_, _, (sdone (sdret (dcall (D_plus T) (hr.mono (by first | decide | omega)) (dcons (dix (dv 2) dint) (dcons (dix (dv 2) dint) dnil))))), fun a b c k0 h => by
    obtain ⟨pl, F, hk, rfl, rfl, rfl, hp, hF, hl, hk0⟩ := h
    cases pl <;> first | cases hk | skip
    rename_i a b
    obtain ⟨pa, pb⟩ := hp.plus
    have la := hl a (by simp [subs])
    have lb := hl b (by simp [subs])
    have ga := pa.good hF
    have gb := pb.good hF
    have fa := ga.form
    have fb := gb.form
    have ba := pa.bd hF
    have bb := pb.bd hF
    have br := laid_bdY (plus_spec _ _ ga.form.asc gb.form.asc).1 (hp.good hF) hp.wt
    walk_at "dgf"
    exact hk0⟩
theorem DR_cheaper (T : Txt K mg ad) : MD P w0 K mg base 8 (ad .cheaper) "drawn" (spOf K (sp3 (gDr ad .cheaper))) :=
  MdAt.md3 (N := ["self", "forms", "inner"]) (T.meth .cheaper .drawn) (T.cls .cheaper) (fun _ _ _ _ _ _ _ _ _ => rfl) sc_Cheaper_drawn fun f cdv A outer s H E hr => ⟨_, _, (sdone (sdret (dcall (D_least T) (hr.mono (by first | decide | omega)) (dcons (dix (dv 2) dint) (dcons (dix (dv 2) dint) dnil))))), fun a b c k0 h => by
    obtain ⟨pl, F, hk, rfl, rfl, rfl, hp, hF, hl, hk0⟩ := h
    cases pl <;> first | cases hk | skip
    rename_i a b
    obtain ⟨pa, pb⟩ := hp.or_
    have la := hl a (by simp [subs])
    have lb := hl b (by simp [subs])
    have ga := pa.good hF
    have gb := pb.good hF
    have fa := ga.form
    have fb := gb.form
    have ba := pa.bd hF
    have bb := pb.bd hF
    have br := laid_bdY (least_spec (mk F a) (mk F b)).1 (hp.good hF) hp.wt
    walk_at "dgf"
    exact hk0⟩
theorem DR_dearer (T : Txt K mg ad) : MD P w0 K mg base 8 (ad .dearer) "drawn" (spOf K (sp3 (gDr ad .dearer))) :=
  MdAt.md3 (N := ["self", "forms", "inner"]) (T.meth .dearer .drawn) (T.cls .dearer) (fun _ _ _ _ _ _ _ _ _ => rfl) sc_Dearer_drawn fun f cdv A outer s H E hr => ⟨_, _, (sdone (sdret (dcall (D_greatest T) (hr.mono (by first | decide | omega)) (dcons (dix (dv 2) dint) (dcons (dix (dv 2) dint) dnil))))), fun a b c k0 h => by
    obtain ⟨pl, F, hk, rfl, rfl, rfl, hp, hF, hl, hk0⟩ := h
    cases pl <;> first | cases hk | skip
    rename_i a b
    obtain ⟨pa, pb⟩ := hp.max_
    have la := hl a (by simp [subs])
    have lb := hl b (by simp [subs])
    have ga := pa.good hF
    have gb := pb.good hF
    have fa := ga.form
    have fb := gb.form
    have ba := pa.bd hF
    have bb := pb.bd hF
    have br := laid_bdY (greatest_spec (mk F a) (mk F b)).1 (hp.good hF) hp.wt
    walk_at "dgf"
    exact hk0⟩
theorem DR_only (T : Txt K mg ad) : MD P w0 K mg base 6 (ad .only) "drawn" (spOf K (sp3 (gDr ad .only))) :=
  MdAt.md3 (N := ["self", "forms", "inner"]) (T.meth .only .drawn) (T.cls .only) (fun _ _ _ _ _ _ _ _ _ => rfl) sc_Only_drawn fun f cdv A outer s H E hr => ⟨_, _, (sdone (sdret (dcall (D_within T) (hr.mono (by first | decide | omega)) (dcons (dix (dv 2) dint) (dcons (dfld (dv 0)) (dcons (dfld (dv 0)) dnil)))))), fun a b c k0 h => by
    obtain ⟨pl, F, hk, rfl, rfl, rfl, hp, hF, hl, hk0⟩ := h
    cases pl <;> first | cases hk | skip
    rename_i a lo hi
    have c1 := T.cls .only
    have n1 := T.noat .only "low" (by decide)
    have n2 := T.noat .only "high" (by decide)
    have pa := hp.only
    have la := hl a (by simp [subs])
    have ga := pa.good hF
    have hs := hp.sm.2
    have y := yb1
    have aA := llA
    have fa := ga.form
    have ba := pa.bd hF
    walk_at "dgf"
    exact hk0⟩
theorem DR_after (T : Txt K mg ad) : MD P w0 K mg base 6 (ad .after) "drawn" (spOf K (sp3 (gDr ad .after))) :=
  MdAt.md3 (N := ["self", "forms", "inner"]) (T.meth .after .drawn) (T.cls .after) (fun _ _ _ _ _ _ _ _ _ => rfl) sc_After_drawn fun f cdv A outer s H E hr => ⟨_, _, (sdone (sdret (dcall (D_freed T) (hr.mono (by first | decide | omega)) (dcons (dix (dv 2) dint) (dcons (dfld (dv 0)) dnil))))), fun a b c k0 h => by
    obtain ⟨pl, F, hk, rfl, rfl, rfl, hp, hF, hl, hk0⟩ := h
    cases pl <;> first | cases hk | skip
    rename_i a n
    have c1 := T.cls .after
    have n1 := T.noat .after "count" (by decide)
    have pa := hp.after
    have la := hl a (by simp [subs])
    have ga := pa.good hF
    have hs := hp.ok.2
    have fa := ga.form
    have ba := pa.bd hF
    have br := laid_bdY (freed_spec ga.form.asc hs.1).1 (hp.good hF) hp.wt
    walk_at "dgf"
    exact hk0⟩
theorem DR_roomy (T : Txt K mg ad) : MD P w0 K mg base 6 (ad .roomy) "drawn" (spOf K (sp3 (gDr ad .roomy))) :=
  MdAt.md3 (N := ["self", "forms", "inner"]) (T.meth .roomy .drawn) (T.cls .roomy) (fun _ _ _ _ _ _ _ _ _ => rfl) sc_Roomy_drawn fun f cdv A outer s H E hr => ⟨_, _, (sdone (sdret (dcall (D_at_least T) (hr.mono (by first | decide | omega)) (dcons (dix (dv 2) dint) dnil)))), fun a b c k0 h => by
    obtain ⟨pl, F, hk, rfl, rfl, rfl, hp, hF, hl, hk0⟩ := h
    cases pl <;> first | cases hk | skip
    rename_i a
    have pa := hp.roomy
    have la := hl a (by simp [subs])
    have ga := pa.good hF
    have fa := ga.form
    have ba := pa.bd hF
    have br := laid_bdY (good_atLeast ga).2 (hp.good hF) hp.wt
    walk_at "dgf"
    exact hk0⟩
theorem flatMap_len {f : Row → List Row} {m : Nat} (h : ∀ r, (f r).length ≤ m) : ∀ l : List Row, (l.flatMap f).length ≤ m * l.length
  | [] => by simp
  | r :: l => by
    have := flatMap_len h l
    have := h r
    rw [List.flatMap_cons, List.length_append, List.length_cons, Nat.mul_succ]
    omega
theorem within_len (f : List Row) (lo hi : Int) : (fWithin f lo hi).length ≤ f.length := by
  have := laid_length (withinRows f lo hi)
  have h := flatMap_len (f := fun r => clip r lo hi) (m := 1) (fun r => clip_length r lo hi) f
  unfold fWithin
  unfold withinRows at *
  omega
theorem without_len (f : List Row) (lo hi : Int) : (fWithout f lo hi).length ≤ 2 * f.length := by
  have := laid_length (withoutRows f lo hi)
  have h := flatMap_len (f := fun r => clip r r.lo (lo - 1) ++ clip r (hi + 1) r.hi) (m := 2) (fun r => by rw [List.length_append]; have := clip_length r r.lo (lo - 1); have := clip_length r (hi + 1) r.hi; omega) f
  unfold fWithout
  unfold withoutRows at *
  omega
theorem raised_len (f : List Row) (p : Int) : (fRaised f p).length ≤ f.length := by
  have := laid_length (raisedRows f p)
  unfold fRaised
  unfold raisedRows at *
  rw [List.length_map] at this
  exact this
theorem DR_fee (T : Txt K mg ad) : MD P w0 K mg base 8 (ad .fee) "drawn" (spOf K (sp3 (gDr ad .fee))) :=
  MdAt.md3 (N := ["self", "forms", "inner"]) (T.meth .fee .drawn) (T.cls .fee) (fun _ _ _ _ _ _ _ _ _ => rfl) sc_Fee_drawn fun f cdv A outer s H E hr => ⟨_, _, (sdone (sdret (dcall (D_least T) (hr.mono (by first | decide | omega)) (dcons (dcall (D_within T) (hr.mono (by first | decide | omega)) (dcons (dix (dv 2) dint) (dcons dint (dcons dint dnil)))) (dcons (dcall (D_raised T) (hr.mono (by first | decide | omega)) (dcons (dcall (D_without T) (hr.mono (by first | decide | omega)) (dcons (dix (dv 2) dint) (dcons dint (dcons dint dnil)))) (dcons (dfld (dv 0)) dnil))) dnil))))), fun a b c k0 h => by
    obtain ⟨pl, F, hk, rfl, rfl, rfl, hp, hF, hl, hk0⟩ := h
    cases pl <;> first | cases hk | skip
    rename_i a p
    have c1 := T.cls .fee
    have n1 := T.noat .fee "price" (by decide)
    have pa := hp.fee
    have la := hl a (by simp [subs])
    have ga := pa.good hF
    have hs := hp.ok.2
    have y := yb1
    have w1 := hp.wt
    simp only [weight] at w1
    obtain ⟨a1, a2⟩ := good_within ga 0 0
    obtain ⟨b1, b2⟩ := good_without ga (Int.le_refl 0)
    obtain ⟨c1', c2⟩ := good_raised b1 hs
    have fa := ga.form
    have ba := pa.bd hF
    have f1 := a1.form
    have f2 := b1.form
    have f3 := c1'.form
    have l1 := within_len (mk F a) 0 0
    have l2 := without_len (mk F a) 0 0
    have l3 := raised_len (fWithout (mk F a) 0 0) p
    have b4 := good_bdY a1 (by omega)
    have b5 := good_bdY b1 (by omega)
    have b6 := good_bdY c1' (by omega)
    have b7 := laid_bdY (raised_spec f2.asc p).1 c1' (by omega)
    have br := laid_bdY (least_spec (fWithin (mk F a) 0 0) (fRaised (fWithout (mk F a) 0 0) p)).1 (hp.good hF) hp.wt
    walk_at "dgf"
    exact hk0⟩
end
end K36
set_option Elab.async false
set_option linter.all false
set_option maxRecDepth 100000
set_option maxHeartbeats 4000000
namespace K36
open PySem PySem.Spec PyProof.Rows L2
local macro_rules | `(tactic| walk_at "dfl") => `(tactic| first | refine sp3_go ?_ | refine sp2_go ?_ | refine sp1_go ?_ | refine sp4_go ?_ | refine ⟨_, _, _, rfl, rfl, rfl, rfl, ?_⟩ | refine ⟨_, _, rfl, rfl, rfl, rfl, ?_⟩ | refine ⟨_, _, _, rfl, by assumption, by assumption, rfl, ?_⟩ | refine ⟨_, _, _, rfl, by assumption, by assumption, by assumption, ?_⟩ | refine ⟨_, _, _, rfl, rfl, forms_get _ _, ?_⟩ | refine ⟨_, _, _, rfl, by assumption, by assumption, ?_⟩)
local macro_rules | `(tactic| walk_at "dgf") => `(tactic| (repeat' (first | walk_at "dfl" | refine ⟨_, rfl, ?_⟩ | refine ⟨_, _, rfl, ?_⟩ | refine ⟨_, _, rfl, rfl, ?_⟩ | refine ⟨_, _, _, rfl, ?_⟩ | refine ⟨_, _, _, rfl, rfl, rfl, ?_⟩ | refine ⟨_, _, _, rfl, rfl, atI_last, ?_⟩ | refine ⟨_, _, _, rfl, rfl, by assumption, ?_⟩ | refine ⟨_, _, _, _, rfl, ?_⟩ | refine And.intro rfl ?_ | refine And.intro ⟨_, rfl⟩ ?_ | refine ⟨_, .inl rfl, ?_⟩ | refine ⟨_, .inr rfl, ?_⟩ | refine t_go ?_ | refine f_go ?_ | refine d_go (fun _ => ?_) (fun _ => ?_) | refine n_go (fun _ => ?_) (fun _ => ?_) | refine c_go (fun _ => ?_) (fun _ => ?_) | refine And.intro (by walk_at "dsd") ?_ | fail)))
local macro_rules | `(tactic| walk_at "dsd") => `(tactic| first | omega | exact mulW (by omega) (by omega) | exact divW (by omega) (by omega) | assumption | ((try simp only [List.length_append, List.length_cons, List.length_nil, List.length_map, List.length_reverse, List.length_dropLast, List.length_drop, List.length_take]); omega))
local macro_rules | `(tactic| walk_at "dgo") => `(tactic| (repeat' (first | refine ⟨_, rfl, ?_⟩ | refine ⟨_, _, rfl, ?_⟩ | refine ⟨_, _, rfl, rfl, ?_⟩ | refine ⟨_, _, _, rfl, ?_⟩ | refine ⟨_, _, _, rfl, rfl, rfl, ?_⟩ | refine ⟨_, _, _, rfl, rfl, atI_last, ?_⟩ | refine ⟨_, _, _, rfl, rfl, by assumption, ?_⟩ | refine ⟨_, _, _, _, rfl, ?_⟩ | refine And.intro rfl ?_ | refine And.intro ⟨_, rfl⟩ ?_ | refine ⟨_, .inl rfl, ?_⟩ | refine ⟨_, .inr rfl, ?_⟩ | refine t_go ?_ | refine f_go ?_ | refine d_go (fun _ => ?_) (fun _ => ?_) | refine n_go (fun _ => ?_) (fun _ => ?_) | refine c_go (fun _ => ?_) (fun _ => ?_) | refine And.intro (by walk_at "dsd") ?_ | fail)))
local macro_rules | `(tactic| walk_at "dgb") => `(tactic| (repeat' (first | refine ⟨_, rfl, ?_⟩ | refine ⟨_, _, rfl, ?_⟩ | refine ⟨_, _, rfl, rfl, ?_⟩ | refine ⟨_, _, _, rfl, ?_⟩ | refine ⟨_, _, _, rfl, rfl, rfl, ?_⟩ | refine ⟨_, _, _, rfl, rfl, atI_last, ?_⟩ | refine ⟨_, _, _, rfl, rfl, by assumption, ?_⟩ | refine ⟨_, _, _, _, rfl, ?_⟩ | refine And.intro rfl ?_ | refine And.intro ⟨_, rfl⟩ ?_ | refine ⟨_, .inl rfl, ?_⟩ | refine ⟨_, .inr rfl, ?_⟩ | refine t_go ?_ | refine f_go ?_ | refine d_go (fun _ => ?_) (fun _ => ?_) | refine n_go (fun _ => ?_) (fun _ => ?_) | refine c_go (fun _ => ?_) (fun _ => ?_) | refine nb_go (fun _ => ?_) (fun _ => ?_) | refine b_go (fun _ => ?_) (fun _ => ?_) | refine And.intro (by walk_at "dsd") ?_ | fail)))
local macro_rules | `(tactic| walk_at "dif") => `(tactic| ((repeat' split) <;> first | rfl | (exfalso; omega)))
section
variable {P : Program} {w0 : World} {K : PySem.W.Frag} {mg : PySem.Str → Option Value} {base : Heap} {ad : Kd → Addr}
theorem sc_Bands_drawn : FnScope ["self", "forms", "inner", "told", "low", "top", "unit"] ["self", "forms", "inner"] (defScope sBands_drawn) := ⟨rfl, rfl, rfl, by decide +kernel, rfl, by decide +kernel, by decide +kernel⟩
theorem sc_Steps_drawn : FnScope ["self", "forms", "inner", "told", "price", "done", "top", "unit"] ["self", "forms", "inner"] (defScope sSteps_drawn) := ⟨rfl, rfl, rfl, by decide +kernel, rfl, by decide +kernel, by decide +kernel⟩
theorem sc_Blocks_drawn : FnScope ["self", "forms", "inner", "told", "k"] ["self", "forms", "inner"] (defScope sBlocks_drawn) := ⟨rfl, rfl, rfl, by decide +kernel, rfl, by decide +kernel, by decide +kernel⟩
theorem app_of {R l : List Row} {r : Row} {t : List Row} (h : R = l ++ (r :: t)) : R = (l ++ [r]) ++ t := by rw [h]; simp
theorem DR_bands (T : Txt K mg ad) : MD P w0 K mg base 5 (ad .bands) "drawn" (spOf K (sp3 (gDr ad .bands))) :=
  MdAt.md3 (N := ["self", "forms", "inner", "told", "low", "top", "unit"]) (T.meth .bands .drawn) (T.cls .bands) (fun _ _ _ _ _ _ _ _ _ => rfl) sc_Bands_drawn fun f cdv A outer s H E hr => ⟨_, _, (sdcons (sdsetL (i := 3) sc_Bands_drawn.nd (dlist dnil))
      (sdcons (sdset (i := 4) sc_Bands_drawn.nd dint)
      (sdcons (sdfor PassesOwn.never rfl (dilist (dfld (dv 0))) (gdtup rfl (gdcons (gdname (i := 5) sc_Bands_drawn.nd) (gdcons (gdname (i := 6) sc_Bands_drawn.nd) gdnil))) (sdcons (sdexpr (dappend 3 (dtup (dcons (dv 4) (dcons (dv 5) (dcons (dmul (dv 6) (dv 4)) (dcons (dv 6) dnil)))))))
      (sdone (sdset (i := 4) sc_Bands_drawn.nd (dadd (dv 5) dint)))))
      (sdone (sdret (dcall (D_laid T) (hr.mono (by first | decide | omega)) (dcons (dvo 3) dnil))))))), fun a b c k0 h => by
    obtain ⟨pl, F, hk, rfl, rfl, rfl, hp, hF, hl, hk0⟩ := h
    cases pl <;> first | cases hk | skip
    rename_i rows
    have c1 := T.cls .bands
    have n1 := T.noat .bands "rows" (by decide)
    have h1 : RowsOk LL rows := hp.ok
    have hs : rows.length ≤ 10 := hp.sm
    have y := yb1
    have aA := llA
    have aU := llU
    have ha := (band_spec rows 0 h1.2.1).1
    have hb := laid_bdY ha (hp.good hF) hp.wt
    walk_at "dgf"
    refine ⟨fun j ρ => Hd (∃ done low s5 s6, ρ = [.val (ruleD ad (.bands rows)), .val (formsD F), .val (.lst (drInner F (.bands rows))), .own (done.map rowD), .val (.int low), s5, s6] ∧ bandRows 0 rows = done ++ bandRows low (rows.drop j) ∧ done.length = j ∧ 0 ≤ low ∧ low ≤ LL.A + 1 ∧ TopsFrom low (rows.drop j)), .mk ⟨[], 0, _, _, rfl, rfl, rfl, Int.le_refl _, by have := LL.hA; omega, h1.2.1⟩, fun j x ρ2 hx hI => ?_, fun ρ2 hI => ?_⟩
    · obtain ⟨⟨top, unit⟩, hr, rfl⟩ := map_get hx
      obtain ⟨done, low, s5, s6, rfl, e1, e2, b1, b2, tp⟩ := hI.of
      rw [drop_at hr] at e1 tp
      simp only [bandRows] at e1
      have q := h1.2.2 (top, unit) (List.mem_of_getElem? hr)
      have jl := (List.getElem?_eq_some_iff.mp hr).1
      simp only at q
      have t1 : low ≤ top := tp.1
      walk_at "dgf"
      refine .mk ⟨done ++ [⟨low, top, unit * low, unit⟩], top + 1, .val (.int top), .val (.int unit), ?_, app_of e1, by rw [List.length_append, e2]; rfl, by omega, by omega, tp.2⟩
      rw [List.map_append]
      rfl
    · obtain ⟨done, low, s5, s6, rfl, e1, e2, b1, b2, tp⟩ := hI.of
      rw [List.length_map, List.drop_length] at e1
      have e3 : bandRows 0 rows = done := by rw [e1]; simp [bandRows]
      subst e3
      rw [List.length_map] at e2
      have ln : (bandRows 0 rows).length ≤ 100000 := by omega
      walk_at "dgf"
      exact hk0⟩
theorem DR_steps (T : Txt K mg ad) : MD P w0 K mg base 5 (ad .steps) "drawn" (spOf K (sp3 (gDr ad .steps))) :=
  MdAt.md3 (N := ["self", "forms", "inner", "told", "price", "done", "top", "unit"]) (T.meth .steps .drawn) (T.cls .steps) (fun _ _ _ _ _ _ _ _ _ => rfl) sc_Steps_drawn fun f cdv A outer s H E hr => ⟨_, _, (sdcons (sdsetL (i := 3) sc_Steps_drawn.nd (dlist (dcons (dtup (dcons dint (dcons dint (dcons dint (dcons dint dnil))))) dnil)))
      (sdcons (sdset (i := 4) sc_Steps_drawn.nd dint)
      (sdcons (sdset (i := 5) sc_Steps_drawn.nd dint)
      (sdcons (sdfor PassesOwn.never rfl (dilist (dfld (dv 0))) (gdtup rfl (gdcons (gdname (i := 6) sc_Steps_drawn.nd) (gdcons (gdname (i := 7) sc_Steps_drawn.nd) gdnil))) (sdone (sdif (tgt (dv 6) (dv 5)) (sdcons (sdexpr (dappend 3 (dtup (dcons (dadd (dv 5) dint) (dcons (dv 6) (dcons (dadd (dv 4) (dv 7)) (dcons (dv 7) dnil)))))))
      (sdcons (sdaug (i := 4) sc_Steps_drawn.nd (dmul (dv 7) (dsub (dv 6) (dv 5))))
      (sdone (sdset (i := 5) sc_Steps_drawn.nd (dv 6))))) sdnil)))
      (sdone (sdret (dcall (D_laid T) (hr.mono (by first | decide | omega)) (dcons (dvo 3) dnil)))))))), fun a b c k0 h => by
    obtain ⟨pl, F, hk, rfl, rfl, rfl, hp, hF, hl, hk0⟩ := h
    cases pl <;> first | cases hk | skip
    rename_i rows
    have c1 := T.cls .steps
    have n1 := T.noat .steps "rows" (by decide)
    have h1 : RowsOk LL rows := hp.ok
    have hs : rows.length ≤ 10 := hp.sm
    have y := yb1
    have aA := llA
    have aU := llU
    have hL := LL.hA
    have tu := topsUp_of h1.2.1
    walk_at "dgf"
    refine ⟨fun j ρ => Hd (∃ don price low, ∃ s6 s7, ρ = [.val (ruleD ad (.steps rows)), .val (formsD F), .val (.lst (drInner F (.steps rows))), .own (don.map rowD), .val (.int price), .val (.int low), s6, s7] ∧ (⟨0, 0, 0, 0⟩ :: stepRows 0 0 rows) = don ++ stepRows price low (rows.drop j) ∧ don.length ≤ j + 1 ∧ 0 ≤ low ∧ low ≤ LL.A), .mk ⟨[⟨0, 0, 0, 0⟩], 0, 0, _, _, rfl, rfl, Nat.le_refl _, Int.le_refl _, by omega⟩, fun j x ρ2 hx hI => ?_, fun ρ2 hI => ?_⟩
    · obtain ⟨⟨top, unit⟩, hr, rfl⟩ := map_get hx
      obtain ⟨don, price, low, s6, s7, rfl, e1, e2, b1, b2⟩ := hI.of
      rw [drop_at hr] at e1
      have q := h1.2.2 (top, unit) (List.mem_of_getElem? hr)
      have jl := (List.getElem?_eq_some_iff.mp hr).1
      simp only at q
      simp only [stepRows] at e1
      walk_at "dgf"
      · rename_i hc
        rw [if_pos (by omega)] at e1
        walk_at "dgf"
        refine .mk ⟨don ++ [⟨low + 1, top, price + unit, unit⟩], price + unit * (top - low), top, .val (.int top), .val (.int unit), ?_, app_of e1, by rw [List.length_append]; simp; omega, by omega, by omega⟩
        rw [List.map_append]
        rfl
      · rename_i hc
        rw [if_neg (by omega)] at e1
        exact .mk ⟨don, price, low, _, _, rfl, e1, by omega, b1, b2⟩
    · obtain ⟨don, price, low, s6, s7, rfl, e1, e2, b1, b2⟩ := hI.of
      rw [List.length_map, List.drop_length] at e1
      have e3 : (⟨0, 0, 0, 0⟩ :: stepRows 0 0 rows) = don := by rw [e1]; simp [stepRows]
      subst e3
      rw [List.length_map] at e2
      have ln : ((⟨0, 0, 0, 0⟩ : Row) :: stepRows 0 0 rows).length ≤ 100000 := by omega
      have ha : Asc (⟨0, 0, 0, 0⟩ :: stepRows 0 0 rows) := ⟨Int.le_refl _, fun q hq => by have := step_low rows 0 0 q hq; show (0 : Int) < _; omega, (step_spec rows 0 0 tu).1⟩
      have hb := laid_bdY ha (hp.good hF) hp.wt
      walk_at "dgf"
      exact hk0⟩
theorem DR_blocks (T : Txt K mg ad) : MD P w0 K mg base 5 (ad .blocks) "drawn" (spOf K (sp3 (gDr ad .blocks))) :=
  MdAt.md3 (N := ["self", "forms", "inner", "told", "k"]) (T.meth .blocks .drawn) (T.cls .blocks) (fun _ _ _ _ _ _ _ _ _ => rfl) sc_Blocks_drawn fun f cdv A outer s H E hr => ⟨_, _, (sdcons (sdsetL (i := 3) sc_Blocks_drawn.nd (dlist (dcons (dtup (dcons dint (dcons dint (dcons dint (dcons dint dnil))))) dnil)))
      (sdcons (sdfor PassesOwn.never rfl (dirange1 T.range (dfld (dv 0))) (gdname (i := 4) sc_Blocks_drawn.nd) (sdone (sdexpr (dappend 3 (dtup (dcons (dadd (dmul (dfld (dv 0)) (dv 4)) dint) (dcons (dmul (dfld (dv 0)) (dadd (dv 4) dint)) (dcons (dmul (dfld (dv 0)) (dadd (dv 4) dint)) (dcons dint dnil)))))))))
      (sdone (sdret (dcall (D_laid T) (hr.mono (by first | decide | omega)) (dcons (dvo 3) dnil)))))), fun a b c k0 h => by
    obtain ⟨pl, F, hk, rfl, rfl, rfl, hp, hF, hl, hk0⟩ := h
    cases pl <;> first | cases hk | skip
    rename_i s p m
    have c1 := T.cls .blocks
    have n1 := T.noat .blocks "size" (by decide)
    have n2 := T.noat .blocks "price" (by decide)
    have n3 := T.noat .blocks "many" (by decide)
    have h1 := hp.ok
    simp only [POk] at h1
    have y := yb1
    have aA := llA
    have aU := llU
    have hL := LL.hA
    have sA : s ≤ LL.A := by
      have : s * 1 ≤ s * m := Int.mul_le_mul_of_nonneg_left (by omega) (by omega)
      omega
    walk_at "dgf"
    refine ⟨fun j ρ => ∃ s4, ρ = [.val (ruleD ad (.blocks s p m)), .val (formsD F), .val (.lst (drInner F (.blocks s p m))), .own ((⟨0, 0, 0, 0⟩ :: blockRows s p j).map rowD), s4], ⟨_, rfl⟩, fun j x ρ2 hx hI => ?_, fun ρ2 hI => ?_⟩
    · obtain ⟨s4, rfl⟩ := hI
      have jl := (List.getElem?_eq_some_iff.mp hx).1
      rw [rangeD_length] at jl
      rw [rangeD_get jl] at hx
      cases Option.some.inj hx
      have e : blockRows s p (j + 1) = blockRows s p j ++ [⟨s * j + 1, s * (j + 1), p * (j + 1), 0⟩] := by
        unfold blockRows; rw [List.range_succ, List.map_append]; rfl
      have bl : (blockRows s p j).length = j := by unfold blockRows; rw [List.length_map, List.length_range]
      have z : (0 : Int) + (j : Int) = j := by omega
      walk_at "dgf"
      refine ⟨.val (.int (0 + (j : Int))), ?_⟩
      rw [e, z]
      simp [rowD]
    · obtain ⟨s4, rfl⟩ := hI
      rw [rangeD_length]
      have bl : (blockRows s p m.toNat).length = m.toNat := by unfold blockRows; rw [List.length_map, List.length_range]
      have ln : ((⟨0, 0, 0, 0⟩ : Row) :: blockRows s p m.toNat).length ≤ 100000 := by rw [List.length_cons]; omega
      obtain ⟨i1, i2, i3⟩ := block_spec (price := p) h1.1 m.toNat
      have ha : Asc (⟨0, 0, 0, 0⟩ :: blockRows s p m.toNat) := ⟨Int.le_refl _, fun q hq => by have := (i2 q hq).1; show (0 : Int) < _; omega, i1⟩
      have hb := laid_bdY ha (hp.good hF) hp.wt
      walk_at "dgf"
      exact hk0⟩
theorem _root_.K36.MD.mono {C : Addr} {m : PySem.Str} {sp : Sp} {i j : Nat} (h : MD P w0 K mg base i C m sp) (l : i ≤ j) : MD P w0 K mg base j C m sp := by
  obtain ⟨f, fd, ps, h1, h2, h3, h4⟩ := h.ex
  exact ⟨f, fd, ps, h1, h2, h3.mono l, h4⟩
theorem DR_all (T : Txt K mg ad) : ∀ c, MD P w0 K mg base 8 (ad c) "drawn" (spOf K (sp3 (gDr ad c)))
  | .each => (DR_each T).mono (by decide)
  | .flat => (DR_flat T).mono (by decide)
  | .bands => (DR_bands T).mono (by decide)
  | .steps => (DR_steps T).mono (by decide)
  | .blocks => (DR_blocks T).mono (by decide)
  | .named => (DR_named T).mono (by decide)
  | .sum => (DR_sum T).mono (by decide)
  | .cheaper => DR_cheaper T
  | .dearer => DR_dearer T
  | .only => (DR_only T).mono (by decide)
  | .after => (DR_after T).mono (by decide)
  | .roomy => (DR_roomy T).mono (by decide)
  | .fee => DR_fee T
end
end K36
set_option Elab.async false
set_option linter.all false
set_option maxRecDepth 100000
set_option maxHeartbeats 4000000
namespace K36
open PySem PySem.Spec PyProof.Rows L2
local macro_rules | `(tactic| walk_at "dfl") => `(tactic| first | refine sp3_go ?_ | refine sp2_go ?_ | refine sp1_go ?_ | refine sp4_go ?_ | refine ⟨_, _, _, rfl, rfl, rfl, rfl, ?_⟩ | refine ⟨_, _, rfl, rfl, rfl, rfl, ?_⟩ | refine ⟨_, _, _, rfl, by assumption, by assumption, rfl, ?_⟩ | refine ⟨_, _, _, rfl, by assumption, by assumption, by assumption, ?_⟩ | refine ⟨_, _, _, rfl, rfl, forms_get _ _, ?_⟩ | refine ⟨_, _, _, rfl, by assumption, by assumption, ?_⟩)
local macro_rules | `(tactic| walk_at "dgf") => `(tactic| (repeat' (first | walk_at "dfl" | refine ⟨_, rfl, ?_⟩ | refine ⟨_, _, rfl, ?_⟩ | refine ⟨_, _, rfl, rfl, ?_⟩ | refine ⟨_, _, _, rfl, ?_⟩ | refine ⟨_, _, _, rfl, rfl, rfl, ?_⟩ | refine ⟨_, _, _, rfl, rfl, atI_last, ?_⟩ | refine ⟨_, _, _, rfl, rfl, by assumption, ?_⟩ | refine ⟨_, _, _, _, rfl, ?_⟩ | refine And.intro rfl ?_ | refine And.intro ⟨_, rfl⟩ ?_ | refine ⟨_, .inl rfl, ?_⟩ | refine ⟨_, .inr rfl, ?_⟩ | refine t_go ?_ | refine f_go ?_ | refine d_go (fun _ => ?_) (fun _ => ?_) | refine n_go (fun _ => ?_) (fun _ => ?_) | refine c_go (fun _ => ?_) (fun _ => ?_) | refine And.intro (by walk_at "dsd") ?_ | fail)))
local macro_rules | `(tactic| walk_at "dsd") => `(tactic| first | omega | exact mulW (by omega) (by omega) | exact divW (by omega) (by omega) | assumption | ((try simp only [List.length_append, List.length_cons, List.length_nil, List.length_map, List.length_reverse, List.length_dropLast, List.length_drop, List.length_take]); omega))
local macro_rules | `(tactic| walk_at "dgo") => `(tactic| (repeat' (first | refine ⟨_, rfl, ?_⟩ | refine ⟨_, _, rfl, ?_⟩ | refine ⟨_, _, rfl, rfl, ?_⟩ | refine ⟨_, _, _, rfl, ?_⟩ | refine ⟨_, _, _, rfl, rfl, rfl, ?_⟩ | refine ⟨_, _, _, rfl, rfl, atI_last, ?_⟩ | refine ⟨_, _, _, rfl, rfl, by assumption, ?_⟩ | refine ⟨_, _, _, _, rfl, ?_⟩ | refine And.intro rfl ?_ | refine And.intro ⟨_, rfl⟩ ?_ | refine ⟨_, .inl rfl, ?_⟩ | refine ⟨_, .inr rfl, ?_⟩ | refine t_go ?_ | refine f_go ?_ | refine d_go (fun _ => ?_) (fun _ => ?_) | refine n_go (fun _ => ?_) (fun _ => ?_) | refine c_go (fun _ => ?_) (fun _ => ?_) | refine And.intro (by walk_at "dsd") ?_ | fail)))
local macro_rules | `(tactic| walk_at "dgb") => `(tactic| (repeat' (first | refine ⟨_, rfl, ?_⟩ | refine ⟨_, _, rfl, ?_⟩ | refine ⟨_, _, rfl, rfl, ?_⟩ | refine ⟨_, _, _, rfl, ?_⟩ | refine ⟨_, _, _, rfl, rfl, rfl, ?_⟩ | refine ⟨_, _, _, rfl, rfl, atI_last, ?_⟩ | refine ⟨_, _, _, rfl, rfl, by assumption, ?_⟩ | refine ⟨_, _, _, _, rfl, ?_⟩ | refine And.intro rfl ?_ | refine And.intro ⟨_, rfl⟩ ?_ | refine ⟨_, .inl rfl, ?_⟩ | refine ⟨_, .inr rfl, ?_⟩ | refine t_go ?_ | refine f_go ?_ | refine d_go (fun _ => ?_) (fun _ => ?_) | refine n_go (fun _ => ?_) (fun _ => ?_) | refine c_go (fun _ => ?_) (fun _ => ?_) | refine nb_go (fun _ => ?_) (fun _ => ?_) | refine b_go (fun _ => ?_) (fun _ => ?_) | refine And.intro (by walk_at "dsd") ?_ | fail)))
local macro_rules | `(tactic| walk_at "dif") => `(tactic| ((repeat' split) <;> first | rfl | (exfalso; omega)))
section
variable {P : Program} {w0 : World} {K : PySem.W.Frag} {mg : PySem.Str → Option Value} {base : Heap} {ad : Kd → Addr}
theorem _root_.K36.MD.imp {C : Addr} {m : PySem.Str} {sp sp' : SpD} {i : Nat} (h : MD P w0 K mg base i C m (spOf K sp)) (l : ∀ ds k, sp' ds k → sp ds k) : MD P w0 K mg base i C m (spOf K sp') := by
  obtain ⟨f, fd, ps, h1, h2, h3, h4⟩ := h.ex
  exact ⟨f, fd, ps, h1, h2, h3.imp fun vs H Q E ⟨Hs, ds, k0, a, b, d, e⟩ => ⟨Hs, ds, k0, a, b, l _ _ d, e⟩, h4⟩
theorem sc_Rule_inner : FnScope ["self"] ["self"] (defScope sRule_inner) := ⟨rfl, rfl, rfl, by decide +kernel, rfl, by decide +kernel, by decide +kernel⟩
theorem sc_Pair_inner : FnScope ["self"] ["self"] (defScope sPair_inner) := ⟨rfl, rfl, rfl, by decide +kernel, rfl, by decide +kernel, by decide +kernel⟩
theorem sc_Turned_inner : FnScope ["self"] ["self"] (defScope sTurned_inner) := ⟨rfl, rfl, rfl, by decide +kernel, rfl, by decide +kernel, by decide +kernel⟩
theorem sc_Rule_own_names : FnScope ["self"] ["self"] (defScope sRule_ownnames) := ⟨rfl, rfl, rfl, by decide +kernel, rfl, by decide +kernel, by decide +kernel⟩
theorem sc_Named_own_names : FnScope ["self"] ["self"] (defScope sNamed_ownnames) := ⟨rfl, rfl, rfl, by decide +kernel, rfl, by decide +kernel, by decide +kernel⟩
/-! inner -/
def gIn0 (self : D) (k : D → Prop) : Prop := k (.lst [])
def gIn2 (C : Addr) (self : D) (k : D → Prop) : Prop := ∃ fs a b, self = .ins C fs ∧ fs.lookup (("one" : PySem.Str)) = some a ∧ fs.lookup (("other" : PySem.Str)) = some b ∧ k (.lst [a, b])
def gIn1 (C : Addr) (self : D) (k : D → Prop) : Prop := ∃ fs a, self = .ins C fs ∧ fs.lookup (("one" : PySem.Str)) = some a ∧ k (.lst [a])
theorem IN_0 (T : Txt K mg ad) {C : Addr} (h : MdAt K C "inner" "Rule.inner" sRule_inner) (c : Cls K C)  : MD P w0 K mg base 1 C "inner" (spOf K (sp1 (gIn0))) :=
  MdAt.md1 (N := ["self"]) h c (fun _ _ _ _ _ _ _ => rfl) sc_Rule_inner fun f cdv A outer s H E hr => ⟨_, _, (sdone (sdret (PLD.asE (dlist dnil)))), fun a k0 h => by
    walk_at "dgf"
    exact h⟩
theorem IN_2 (T : Txt K mg ad) {C : Addr} (h : MdAt K C "inner" "Pair.inner" sPair_inner) (c : Cls K C) (n1 : NoAttr K C "one") (n2 : NoAttr K C "other") : MD P w0 K mg base 1 C "inner" (spOf K (sp1 (gIn2 C))) :=
  MdAt.md1 (N := ["self"]) h c (fun _ _ _ _ _ _ _ => rfl) sc_Pair_inner fun f cdv A outer s H E hr => ⟨_, _, (sdone (sdret (PLD.asE (dlist (dcons (dfld (dv 0)) (dcons (dfld (dv 0)) dnil)))))), fun x k0 h => by
    obtain ⟨fs, a, b, rfl, e1, e2, hk⟩ := h
    walk_at "dgf"
    exact hk⟩
theorem IN_1 (T : Txt K mg ad) {C : Addr} (h : MdAt K C "inner" "Turned.inner" sTurned_inner) (c : Cls K C) (n1 : NoAttr K C "one") : MD P w0 K mg base 1 C "inner" (spOf K (sp1 (gIn1 C))) :=
  MdAt.md1 (N := ["self"]) h c (fun _ _ _ _ _ _ _ => rfl) sc_Turned_inner fun f cdv A outer s H E hr => ⟨_, _, (sdone (sdret (PLD.asE (dlist (dcons (dfld (dv 0)) dnil))))), fun x k0 h => by
    obtain ⟨fs, a, rfl, e1, hk⟩ := h
    walk_at "dgf"
    exact hk⟩
def gIn (ad : Kd → Addr) (c : Kd) (self : D) (k : D → Prop) : Prop := ∃ pl, kd pl = c ∧ self = ruleD ad pl ∧ k (.lst ((subs pl).map (ruleD ad)))
theorem in0 {c : Kd} (h : ∀ pl, kd pl = c → subs pl = []) : ∀ ds k, sp1 (gIn ad c) ds k → sp1 gIn0 ds k := fun ds k ⟨a, e, pl, e1, e2, hk⟩ => ⟨a, e, by rw [h pl e1] at hk; exact hk⟩
theorem in1 {c : Kd} (h : ∀ pl, kd pl = c → ∃ a, subs pl = [a] ∧ (ruleF ad pl).lookup (("one" : PySem.Str)) = some (ruleD ad a)) : ∀ ds k, sp1 (gIn ad c) ds k → sp1 (gIn1 (ad c)) ds k := fun ds k ⟨a, e, pl, e1, e2, hk⟩ => by
  obtain ⟨b, h1, h2⟩ := h pl e1
  rw [h1] at hk
  exact ⟨a, e, ruleF ad pl, _, by rw [e2, ← e1]; rfl, h2, hk⟩
theorem in2 {c : Kd} (h : ∀ pl, kd pl = c → ∃ a b, subs pl = [a, b] ∧ (ruleF ad pl).lookup (("one" : PySem.Str)) = some (ruleD ad a) ∧ (ruleF ad pl).lookup (("other" : PySem.Str)) = some (ruleD ad b)) : ∀ ds k, sp1 (gIn ad c) ds k → sp1 (gIn2 (ad c)) ds k := fun ds k ⟨a, e, pl, e1, e2, hk⟩ => by
  obtain ⟨b1, b2, h1, h2, h3⟩ := h pl e1
  rw [h1] at hk
  exact ⟨a, e, ruleF ad pl, _, _, by rw [e2, ← e1]; rfl, h2, h3, hk⟩
theorem IN_all (T : Txt K mg ad) : ∀ c, MD P w0 K mg base 1 (ad c) "inner" (spOf K (sp1 (gIn ad c)))
  | .each => (IN_0 T (T.meth .each .inner) (T.cls _)).imp (in0 fun pl e => by cases pl <;> first | rfl | cases e)
  | .flat => (IN_0 T (T.meth .flat .inner) (T.cls _)).imp (in0 fun pl e => by cases pl <;> first | rfl | cases e)
  | .bands => (IN_0 T (T.meth .bands .inner) (T.cls _)).imp (in0 fun pl e => by cases pl <;> first | rfl | cases e)
  | .steps => (IN_0 T (T.meth .steps .inner) (T.cls _)).imp (in0 fun pl e => by cases pl <;> first | rfl | cases e)
  | .blocks => (IN_0 T (T.meth .blocks .inner) (T.cls _)).imp (in0 fun pl e => by cases pl <;> first | rfl | cases e)
  | .named => (IN_0 T (T.meth .named .inner) (T.cls _)).imp (in0 fun pl e => by cases pl <;> first | rfl | cases e)
  | .sum => (IN_2 T (T.meth .sum .inner) (T.cls _) (T.noat .sum "one" (by decide)) (T.noat .sum "other" (by decide))).imp (in2 fun pl e => by cases pl <;> first | exact ⟨_, _, rfl, rfl, rfl⟩ | cases e)
  | .cheaper => (IN_2 T (T.meth .cheaper .inner) (T.cls _) (T.noat .cheaper "one" (by decide)) (T.noat .cheaper "other" (by decide))).imp (in2 fun pl e => by cases pl <;> first | exact ⟨_, _, rfl, rfl, rfl⟩ | cases e)
  | .dearer => (IN_2 T (T.meth .dearer .inner) (T.cls _) (T.noat .dearer "one" (by decide)) (T.noat .dearer "other" (by decide))).imp (in2 fun pl e => by cases pl <;> first | exact ⟨_, _, rfl, rfl, rfl⟩ | cases e)
  | .only => (IN_1 T (T.meth .only .inner) (T.cls _) (T.noat .only "one" (by decide))).imp (in1 fun pl e => by cases pl <;> first | exact ⟨_, rfl, rfl⟩ | cases e)
  | .after => (IN_1 T (T.meth .after .inner) (T.cls _) (T.noat .after "one" (by decide))).imp (in1 fun pl e => by cases pl <;> first | exact ⟨_, rfl, rfl⟩ | cases e)
  | .roomy => (IN_1 T (T.meth .roomy .inner) (T.cls _) (T.noat .roomy "one" (by decide))).imp (in1 fun pl e => by cases pl <;> first | exact ⟨_, rfl, rfl⟩ | cases e)
  | .fee => (IN_1 T (T.meth .fee .inner) (T.cls _) (T.noat .fee "one" (by decide))).imp (in1 fun pl e => by cases pl <;> first | exact ⟨_, rfl, rfl⟩ | cases e)
/-! own_names -/
def ownN : Plan → List Nm
  | .name n => [n]
  | _ => []
def txt (ns : List Nm) : List D := ns.map fun n => D.str (nmS n)
def gOn (ad : Kd → Addr) (c : Kd) (self : D) (k : D → Prop) : Prop := ∃ pl, kd pl = c ∧ self = ruleD ad pl ∧ k (.lst (txt (ownN pl)))
theorem ON_0 (T : Txt K mg ad) {C : Addr} (h : MdAt K C "own_names" "Rule.own_names" sRule_ownnames) (c : Cls K C)  : MD P w0 K mg base 1 C "own_names" (spOf K (sp1 (gIn0))) :=
  MdAt.md1 (N := ["self"]) h c (fun _ _ _ _ _ _ _ => rfl) sc_Rule_own_names fun f cdv A outer s H E hr => ⟨_, _, (sdone (sdret (PLD.asE (dlist dnil)))), fun a k0 h => by
    walk_at "dgf"
    exact h⟩
theorem ON_n (T : Txt K mg ad) : MD P w0 K mg base 1 (ad .named) "own_names" (spOf K (sp1 (gOn ad .named))) :=
  MdAt.md1 (N := ["self"]) (T.meth .named .own_names) (T.cls .named) (fun _ _ _ _ _ _ _ => rfl) sc_Named_own_names fun f cdv A outer s H E hr => ⟨_, _, (sdone (sdret (PLD.asE (dlist (dcons (dfld (dv 0)) dnil))))), fun a k0 h => by
    obtain ⟨pl, hk, rfl, hk0⟩ := h
    cases pl <;> first | cases hk | skip
    have c1 := T.cls .named
    have n1 := T.noat .named "name" (by decide)
    walk_at "dgf"
    exact hk0⟩
theorem on0 {c : Kd} (h : ∀ pl, kd pl = c → ownN pl = []) : ∀ ds k, sp1 (gOn ad c) ds k → sp1 gIn0 ds k := fun ds k ⟨a, e, pl, e1, e2, hk⟩ => ⟨a, e, by rw [h pl e1] at hk; exact hk⟩
theorem ON_all (T : Txt K mg ad) : ∀ c, MD P w0 K mg base 1 (ad c) "own_names" (spOf K (sp1 (gOn ad c)))
  | .named => ON_n T
  | .each => (ON_0 T (T.meth .each .own_names) (T.cls _)).imp (on0 fun pl e => by cases pl <;> first | rfl | cases e)
  | .flat => (ON_0 T (T.meth .flat .own_names) (T.cls _)).imp (on0 fun pl e => by cases pl <;> first | rfl | cases e)
  | .bands => (ON_0 T (T.meth .bands .own_names) (T.cls _)).imp (on0 fun pl e => by cases pl <;> first | rfl | cases e)
  | .steps => (ON_0 T (T.meth .steps .own_names) (T.cls _)).imp (on0 fun pl e => by cases pl <;> first | rfl | cases e)
  | .blocks => (ON_0 T (T.meth .blocks .own_names) (T.cls _)).imp (on0 fun pl e => by cases pl <;> first | rfl | cases e)
  | .sum => (ON_0 T (T.meth .sum .own_names) (T.cls _)).imp (on0 fun pl e => by cases pl <;> first | rfl | cases e)
  | .cheaper => (ON_0 T (T.meth .cheaper .own_names) (T.cls _)).imp (on0 fun pl e => by cases pl <;> first | rfl | cases e)
  | .dearer => (ON_0 T (T.meth .dearer .own_names) (T.cls _)).imp (on0 fun pl e => by cases pl <;> first | rfl | cases e)
  | .only => (ON_0 T (T.meth .only .own_names) (T.cls _)).imp (on0 fun pl e => by cases pl <;> first | rfl | cases e)
  | .after => (ON_0 T (T.meth .after .own_names) (T.cls _)).imp (on0 fun pl e => by cases pl <;> first | rfl | cases e)
  | .roomy => (ON_0 T (T.meth .roomy .own_names) (T.cls _)).imp (on0 fun pl e => by cases pl <;> first | rfl | cases e)
  | .fee => (ON_0 T (T.meth .fee .own_names) (T.cls _)).imp (on0 fun pl e => by cases pl <;> first | rfl | cases e)
end
end K36
set_option Elab.async false
set_option linter.all false
set_option maxRecDepth 100000
set_option maxHeartbeats 4000000
namespace K36
open PySem PySem.Spec PyProof.Rows L2
local macro_rules | `(tactic| walk_at "dfl") => `(tactic| first | refine sp3_go ?_ | refine sp2_go ?_ | refine sp1_go ?_ | refine sp4_go ?_ | refine ⟨_, _, _, rfl, rfl, rfl, rfl, ?_⟩ | refine ⟨_, _, rfl, rfl, rfl, rfl, ?_⟩ | refine ⟨_, _, _, rfl, by assumption, by assumption, rfl, ?_⟩ | refine ⟨_, _, _, rfl, by assumption, by assumption, by assumption, ?_⟩ | refine ⟨_, _, _, rfl, rfl, forms_get _ _, ?_⟩ | refine ⟨_, _, _, rfl, by assumption, by assumption, ?_⟩)
local macro_rules | `(tactic| walk_at "dgf") => `(tactic| (repeat' (first | walk_at "dfl" | refine ⟨_, rfl, ?_⟩ | refine ⟨_, _, rfl, ?_⟩ | refine ⟨_, _, rfl, rfl, ?_⟩ | refine ⟨_, _, _, rfl, ?_⟩ | refine ⟨_, _, _, rfl, rfl, rfl, ?_⟩ | refine ⟨_, _, _, rfl, rfl, atI_last, ?_⟩ | refine ⟨_, _, _, rfl, rfl, by assumption, ?_⟩ | refine ⟨_, _, _, _, rfl, ?_⟩ | refine And.intro rfl ?_ | refine And.intro ⟨_, rfl⟩ ?_ | refine ⟨_, .inl rfl, ?_⟩ | refine ⟨_, .inr rfl, ?_⟩ | refine t_go ?_ | refine f_go ?_ | refine d_go (fun _ => ?_) (fun _ => ?_) | refine n_go (fun _ => ?_) (fun _ => ?_) | refine c_go (fun _ => ?_) (fun _ => ?_) | refine And.intro (by walk_at "dsd") ?_ | fail)))
local macro_rules | `(tactic| walk_at "dsd") => `(tactic| first | omega | exact mulW (by omega) (by omega) | exact divW (by omega) (by omega) | assumption | ((try simp only [List.length_append, List.length_cons, List.length_nil, List.length_map, List.length_reverse, List.length_dropLast, List.length_drop, List.length_take]); omega))
local macro_rules | `(tactic| walk_at "dgo") => `(tactic| (repeat' (first | refine ⟨_, rfl, ?_⟩ | refine ⟨_, _, rfl, ?_⟩ | refine ⟨_, _, rfl, rfl, ?_⟩ | refine ⟨_, _, _, rfl, ?_⟩ | refine ⟨_, _, _, rfl, rfl, rfl, ?_⟩ | refine ⟨_, _, _, rfl, rfl, atI_last, ?_⟩ | refine ⟨_, _, _, rfl, rfl, by assumption, ?_⟩ | refine ⟨_, _, _, _, rfl, ?_⟩ | refine And.intro rfl ?_ | refine And.intro ⟨_, rfl⟩ ?_ | refine ⟨_, .inl rfl, ?_⟩ | refine ⟨_, .inr rfl, ?_⟩ | refine t_go ?_ | refine f_go ?_ | refine d_go (fun _ => ?_) (fun _ => ?_) | refine n_go (fun _ => ?_) (fun _ => ?_) | refine c_go (fun _ => ?_) (fun _ => ?_) | refine And.intro (by walk_at "dsd") ?_ | fail)))
local macro_rules | `(tactic| walk_at "dgb") => `(tactic| (repeat' (first | refine ⟨_, rfl, ?_⟩ | refine ⟨_, _, rfl, ?_⟩ | refine ⟨_, _, rfl, rfl, ?_⟩ | refine ⟨_, _, _, rfl, ?_⟩ | refine ⟨_, _, _, rfl, rfl, rfl, ?_⟩ | refine ⟨_, _, _, rfl, rfl, atI_last, ?_⟩ | refine ⟨_, _, _, rfl, rfl, by assumption, ?_⟩ | refine ⟨_, _, _, _, rfl, ?_⟩ | refine And.intro rfl ?_ | refine And.intro ⟨_, rfl⟩ ?_ | refine ⟨_, .inl rfl, ?_⟩ | refine ⟨_, .inr rfl, ?_⟩ | refine t_go ?_ | refine f_go ?_ | refine d_go (fun _ => ?_) (fun _ => ?_) | refine n_go (fun _ => ?_) (fun _ => ?_) | refine c_go (fun _ => ?_) (fun _ => ?_) | refine nb_go (fun _ => ?_) (fun _ => ?_) | refine b_go (fun _ => ?_) (fun _ => ?_) | refine And.intro (by walk_at "dsd") ?_ | fail)))
local macro_rules | `(tactic| walk_at "dif") => `(tactic| ((repeat' split) <;> first | rfl | (exfalso; omega)))
section
variable {P : Program} {w0 : World} {K : PySem.W.Frag} {mg : PySem.Str → Option Value} {base : Heap} {ad : Kd → Addr}
theorem sc_Rule_names : FnScope ["self", "told", "rule"] ["self"] (defScope sRule_names) := ⟨rfl, rfl, rfl, by decide +kernel, rfl, by decide +kernel, by decide +kernel⟩
theorem sc_Rule_look_at : FnScope ["self", "forms", "name"] ["self", "forms"] (defScope sRule_lookat) := ⟨rfl, rfl, rfl, by decide +kernel, rfl, by decide +kernel, by decide +kernel⟩
def wsum (l : List Plan) : Nat := (l.map weight).sum
theorem wsum_le (pl : Plan) : (ownN pl).length + wsum (subs pl) ≤ weight pl := by
  cases pl <;> simp [ownN, subs, wsum, weight] <;> omega
theorem wsum_take {l : List Plan} {j : Nat} {a : Plan} (h : l[j]? = some a) : wsum (l.take (j + 1)) = wsum (l.take j) + weight a := by
  unfold wsum
  rw [List.take_add_one, h, List.map_append, List.sum_append]
  simp
theorem wsum_all {l : List Plan} {j : Nat} : wsum (l.take j) ≤ wsum l := by
  unfold wsum
  induction l generalizing j with
  | nil => simp
  | cons a l ih =>
    cases j with
    | zero => simp
    | succ j => simp only [List.take_succ_cons, List.map_cons, List.sum_cons]; have := ih (j := j); omega
theorem texts_of {ns : List Nm} : ∀ {ms : List PySem.Str}, (∀ z ∈ ms, z ∈ ns.map nmS) → ∃ qs : List Nm, ms = qs.map nmS
  | [], _ => ⟨[], rfl⟩
  | m :: ms, h => by
    obtain ⟨q, _, e⟩ := List.mem_map.mp (h m (by simp))
    obtain ⟨qs, e2⟩ := texts_of (ns := ns) (ms := ms) fun z hz => h z (by simp [hz])
    exact ⟨q :: qs, by rw [List.map_cons, e, e2]⟩
def gNm (ad : Kd → Addr) (n : Nat) (c : Kd) (self : D) (k : D → Prop) : Prop := ∃ pl, kd pl = c ∧ self = ruleD ad pl ∧ depth pl < n ∧ weight pl ≤ 20 ∧ ∀ ns : List Nm, ns.length ≤ weight pl → k (.lst (txt ns))
def gNm0 (ad : Kd → Addr) (n : Nat) (C : Addr) (self : D) (k : D → Prop) : Prop := ∃ pl, ad (kd pl) = C ∧ self = ruleD ad pl ∧ depth pl < n ∧ weight pl ≤ 20 ∧ ∀ ns : List Nm, ns.length ≤ weight pl → k (.lst (txt ns))
theorem NM_step (T : Txt K mg ad) {C : Addr} (h : MdAt K C "names" "Rule.names" sRule_names) (c : Cls K C) {n : Nat} (ih : 0 < n → ∀ c, MD P w0 K mg base (n + 1) (ad c) "names" (spOf K (sp1 (gNm ad n c)))) : MD P w0 K mg base (n + 2) C "names" (spOf K (sp1 (gNm0 ad (n + 1) C))) :=
  MdAt.md1 (N := ["self", "told", "rule"]) h c (fun _ _ _ _ _ _ _ => rfl) sc_Rule_names fun f cdv A outer s H E hr => ⟨_, _, (sdcons (sdsetL (i := 1) sc_Rule_names.nd (dlistOf T.list (dmeth0 (k := 1) (dv 0) (hr.mono (by first | decide | omega)))))
      (sdcons (sdfor PassesOwn.never rfl (dilist (dmeth0 (k := 1) (dv 0) (hr.mono (by first | decide | omega)))) (gdname (i := 2) sc_Rule_names.nd) (sdone (sdexpr (dextend 1 (dmeth0 (k := n + 1) (dv 2) (hr.mono (by first | decide | omega)))))))
      (sdone (sdret (PLD.asE (dsortedSetW rfl T.sorted T.set_ (dvo 1))))))), fun a k0 h => by
    obtain ⟨pl, e0, rfl, hd, hw, hk⟩ := h
    have m1 := ON_all (P := P) (w0 := w0) (base := base) T (kd pl)
    have m2 := IN_all (P := P) (w0 := w0) (base := base) T (kd pl)
    have l1 := no_meth (ad := ad) pl .own_names
    have l2 := no_meth (ad := ad) pl .inner
    simp only [mnm] at l1 l2
    walk_at "dgf"
    have tw := wsum_le pl
    refine ⟨fun j ρ => ∃ ns : List Nm, ∃ s2, ρ = [.val (ruleD ad pl), .own (txt ns), s2] ∧ ns.length ≤ (ownN pl).length + wsum ((subs pl).take j), ⟨ownN pl, _, rfl, by omega⟩, fun j x ρ2 hx hI => ?_, fun ρ2 hI => ?_⟩
    · obtain ⟨a, ha, rfl⟩ := map_get hx
      obtain ⟨ns, s2, rfl, hn⟩ := hI
      have m := List.mem_of_getElem? ha
      have d1 := subs_depth m
      have w1 := wsum_take ha
      have w2 := wsum_all (l := subs pl) (j := j + 1)
      have w3 := wsum_all (l := subs pl) (j := j)
      have m3 := ih (by omega) (kd a)
      have l3 := no_meth (ad := ad) a .names
      simp only [mnm] at l3
      walk_at "dgf"
      intro qs hq
      have e1 : (txt ns).length = ns.length := List.length_map _
      have e2 : (txt qs).length = qs.length := List.length_map _
      walk_at "dgf"
      exact ⟨ns ++ qs, _, by unfold txt; rw [List.map_append]; rfl, by rw [List.length_append]; omega⟩
    · obtain ⟨ns, s2, rfl, hn⟩ := hI
      rw [List.length_map, List.take_length] at hn
      refine ⟨_, rfl, ns.map nmS, ?_, by rw [List.length_map]; omega, fun ms h1 h2 => ?_⟩
      · simp only [txt, List.map_map]; rfl
      · obtain ⟨qs, rfl⟩ := texts_of h1
        rw [List.length_map, List.length_map] at h2
        have := hk qs (by omega)
        simp only [txt] at this
        rw [List.map_map]
        exact this⟩
def qNames : Kd → PySem.Str := fun _ => "Rule.names"
theorem at_names (T : Txt K mg ad) : ∀ c, MdAt K (ad c) "names" "Rule.names" sRule_names
  | .each => T.meth .each .names
  | .flat => T.meth .flat .names
  | .bands => T.meth .bands .names
  | .steps => T.meth .steps .names
  | .blocks => T.meth .blocks .names
  | .named => T.meth .named .names
  | .sum => T.meth .sum .names
  | .cheaper => T.meth .cheaper .names
  | .dearer => T.meth .dearer .names
  | .only => T.meth .only .names
  | .after => T.meth .after .names
  | .roomy => T.meth .roomy .names
  | .fee => T.meth .fee .names
theorem at_look (T : Txt K mg ad) : ∀ c, MdAt K (ad c) "look_at" "Rule.look_at" sRule_lookat
  | .each => T.meth .each .look_at
  | .flat => T.meth .flat .look_at
  | .bands => T.meth .bands .look_at
  | .steps => T.meth .steps .look_at
  | .blocks => T.meth .blocks .look_at
  | .named => T.meth .named .look_at
  | .sum => T.meth .sum .look_at
  | .cheaper => T.meth .cheaper .look_at
  | .dearer => T.meth .dearer .look_at
  | .only => T.meth .only .look_at
  | .after => T.meth .after .look_at
  | .roomy => T.meth .roomy .look_at
  | .fee => T.meth .fee .look_at
theorem at_made (T : Txt K mg ad) : ∀ c, MdAt K (ad c) "made" "Rule.made" sRule_made
  | .each => T.meth .each .made
  | .flat => T.meth .flat .made
  | .bands => T.meth .bands .made
  | .steps => T.meth .steps .made
  | .blocks => T.meth .blocks .made
  | .named => T.meth .named .made
  | .sum => T.meth .sum .made
  | .cheaper => T.meth .cheaper .made
  | .dearer => T.meth .dearer .made
  | .only => T.meth .only .made
  | .after => T.meth .after .made
  | .roomy => T.meth .roomy .made
  | .fee => T.meth .fee .made
theorem at_cost (T : Txt K mg ad) : ∀ c, MdAt K (ad c) "cost" "Rule.cost" sRule_cost
  | .each => T.meth .each .cost
  | .flat => T.meth .flat .cost
  | .bands => T.meth .bands .cost
  | .steps => T.meth .steps .cost
  | .blocks => T.meth .blocks .cost
  | .named => T.meth .named .cost
  | .sum => T.meth .sum .cost
  | .cheaper => T.meth .cheaper .cost
  | .dearer => T.meth .dearer .cost
  | .only => T.meth .only .cost
  | .after => T.meth .after .cost
  | .roomy => T.meth .roomy .cost
  | .fee => T.meth .fee .cost
theorem at_form (T : Txt K mg ad) : ∀ c, MdAt K (ad c) "form" "Rule.form" sRule_form
  | .each => T.meth .each .form
  | .flat => T.meth .flat .form
  | .bands => T.meth .bands .form
  | .steps => T.meth .steps .form
  | .blocks => T.meth .blocks .form
  | .named => T.meth .named .form
  | .sum => T.meth .sum .form
  | .cheaper => T.meth .cheaper .form
  | .dearer => T.meth .dearer .form
  | .only => T.meth .only .form
  | .after => T.meth .after .form
  | .roomy => T.meth .roomy .form
  | .fee => T.meth .fee .form
theorem ad_kd {c : Kd} {fs : List (PySem.Str × D)} {pl : Plan} (h : kd pl = c) : ad (kd pl) = ad c := by rw [h]
theorem NM_all (T : Txt K mg ad) : ∀ n c, MD P w0 K mg base (n + 2) (ad c) "names" (spOf K (sp1 (gNm ad (n + 1) c)))
  | 0, c => (NM_step (n := 0) T (at_names T c) (T.cls c) fun h => absurd h (Nat.lt_irrefl _)).imp fun ds k ⟨a, e, pl, e1, e2⟩ => ⟨a, e, pl, by rw [e1], e2⟩
  | n + 1, c => (NM_step (n := n + 1) T (at_names T c) (T.cls c) fun _ c => NM_all T n c).imp fun ds k ⟨a, e, pl, e1, e2⟩ => ⟨a, e, pl, by rw [e1], e2⟩
theorem depth_weight : ∀ p : Plan, depth p < weight p := fun p => by
  induction p <;> simp only [depth, weight] <;> omega
def gLk (ad : Kd → Addr) (C : Addr) (self forms : D) (k : D → Prop) : Prop := ∃ pl F, ad (kd pl) = C ∧ self = ruleD ad pl ∧ forms = formsD F ∧ weight pl ≤ 20 ∧ k .non
theorem LK_all (T : Txt K mg ad) {C : Addr} (h : MdAt K C "look_at" "Rule.look_at" sRule_lookat) (c : Cls K C)  : MD P w0 K mg base 23 C "look_at" (spOf K (sp2 (gLk ad C))) :=
  MdAt.md2 (N := ["self", "forms", "name"]) h c (fun _ _ _ _ _ _ _ _ => rfl) sc_Rule_look_at fun f cdv A outer s H E hr => ⟨_, _, (sdone (sdfor PassesOwn.never rfl (dilist (dmeth0 (k := 22) (dv 0) (hr.mono (by first | decide | omega)))) (gdname (i := 2) sc_Rule_look_at.nd) (sdone (sdif (tdnin hr (dv 2) (dv 1)) (sdone sdead) sdnil)))), fun a b k0 h => by
    obtain ⟨pl, F, e0, rfl, rfl, hw, hk⟩ := h
    have m1 := NM_all (P := P) (w0 := w0) (base := base) T 20 (kd pl)
    have l1 := no_meth (ad := ad) pl .names
    simp only [mnm] at l1
    have dw := depth_weight pl
    walk_at "dgf"
    intro ns hn
    walk_at "dgf"
    refine ⟨fun j ρ => ∃ s2, ρ = [.val (ruleD ad pl), .val (formsD F), s2], ⟨_, rfl⟩, fun j x ρ2 hx hI => ?_, fun ρ2 hI => ?_⟩
    · obtain ⟨n, hn', rfl⟩ := map_get hx
      obtain ⟨s2, rfl⟩ := hI
      have e : (!((formsL F).lookup (nmS n)).isSome) = false := by rw [forms_get]; rfl
      walk_at "dgf"
      refine ⟨fun z => ?_, fun _ => Exists.intro (p := fun s2 => _ = [Sl.val (ruleD ad pl), Sl.val (formsD F), s2]) (.val (.str (nmS n))) rfl⟩
      rw [e] at z
      cases z
    · exact hk⟩
end
end K36
set_option Elab.async false
set_option linter.all false
set_option maxRecDepth 100000
set_option maxHeartbeats 4000000
namespace K36
open PySem PySem.Spec PyProof.Rows L2
local macro_rules | `(tactic| walk_at "dfl") => `(tactic| first | refine sp3_go ?_ | refine sp2_go ?_ | refine sp1_go ?_ | refine sp4_go ?_ | refine ⟨_, _, _, rfl, rfl, rfl, rfl, ?_⟩ | refine ⟨_, _, rfl, rfl, rfl, rfl, ?_⟩ | refine ⟨_, _, _, rfl, by assumption, by assumption, rfl, ?_⟩ | refine ⟨_, _, _, rfl, by assumption, by assumption, by assumption, ?_⟩ | refine ⟨_, _, _, rfl, rfl, forms_get _ _, ?_⟩ | refine ⟨_, _, _, rfl, by assumption, by assumption, ?_⟩)
local macro_rules | `(tactic| walk_at "dgf") => `(tactic| (repeat' (first | walk_at "dfl" | refine ⟨_, rfl, ?_⟩ | refine ⟨_, _, rfl, ?_⟩ | refine ⟨_, _, rfl, rfl, ?_⟩ | refine ⟨_, _, _, rfl, ?_⟩ | refine ⟨_, _, _, rfl, rfl, rfl, ?_⟩ | refine ⟨_, _, _, rfl, rfl, atI_last, ?_⟩ | refine ⟨_, _, _, rfl, rfl, by assumption, ?_⟩ | refine ⟨_, _, _, _, rfl, ?_⟩ | refine And.intro rfl ?_ | refine And.intro ⟨_, rfl⟩ ?_ | refine ⟨_, .inl rfl, ?_⟩ | refine ⟨_, .inr rfl, ?_⟩ | refine t_go ?_ | refine f_go ?_ | refine d_go (fun _ => ?_) (fun _ => ?_) | refine n_go (fun _ => ?_) (fun _ => ?_) | refine c_go (fun _ => ?_) (fun _ => ?_) | refine And.intro (by walk_at "dsd") ?_ | fail)))
local macro_rules | `(tactic| walk_at "dsd") => `(tactic| first | omega | exact mulW (by omega) (by omega) | exact divW (by omega) (by omega) | assumption | ((try simp only [List.length_append, List.length_cons, List.length_nil, List.length_map, List.length_reverse, List.length_dropLast, List.length_drop, List.length_take]); omega))
local macro_rules | `(tactic| walk_at "dgo") => `(tactic| (repeat' (first | refine ⟨_, rfl, ?_⟩ | refine ⟨_, _, rfl, ?_⟩ | refine ⟨_, _, rfl, rfl, ?_⟩ | refine ⟨_, _, _, rfl, ?_⟩ | refine ⟨_, _, _, rfl, rfl, rfl, ?_⟩ | refine ⟨_, _, _, rfl, rfl, atI_last, ?_⟩ | refine ⟨_, _, _, rfl, rfl, by assumption, ?_⟩ | refine ⟨_, _, _, _, rfl, ?_⟩ | refine And.intro rfl ?_ | refine And.intro ⟨_, rfl⟩ ?_ | refine ⟨_, .inl rfl, ?_⟩ | refine ⟨_, .inr rfl, ?_⟩ | refine t_go ?_ | refine f_go ?_ | refine d_go (fun _ => ?_) (fun _ => ?_) | refine n_go (fun _ => ?_) (fun _ => ?_) | refine c_go (fun _ => ?_) (fun _ => ?_) | refine And.intro (by walk_at "dsd") ?_ | fail)))
local macro_rules | `(tactic| walk_at "dgb") => `(tactic| (repeat' (first | refine ⟨_, rfl, ?_⟩ | refine ⟨_, _, rfl, ?_⟩ | refine ⟨_, _, rfl, rfl, ?_⟩ | refine ⟨_, _, _, rfl, ?_⟩ | refine ⟨_, _, _, rfl, rfl, rfl, ?_⟩ | refine ⟨_, _, _, rfl, rfl, atI_last, ?_⟩ | refine ⟨_, _, _, rfl, rfl, by assumption, ?_⟩ | refine ⟨_, _, _, _, rfl, ?_⟩ | refine And.intro rfl ?_ | refine And.intro ⟨_, rfl⟩ ?_ | refine ⟨_, .inl rfl, ?_⟩ | refine ⟨_, .inr rfl, ?_⟩ | refine t_go ?_ | refine f_go ?_ | refine d_go (fun _ => ?_) (fun _ => ?_) | refine n_go (fun _ => ?_) (fun _ => ?_) | refine c_go (fun _ => ?_) (fun _ => ?_) | refine nb_go (fun _ => ?_) (fun _ => ?_) | refine b_go (fun _ => ?_) (fun _ => ?_) | refine And.intro (by walk_at "dsd") ?_ | fail)))
local macro_rules | `(tactic| walk_at "dif") => `(tactic| ((repeat' split) <;> first | rfl | (exfalso; omega)))
/-- what the top has left of the error's class -/
structure Exn (K : PySem.W.Frag) (mg : PySem.Str → Option Value) (ax : Addr) : Prop where
  gC : mg "TooMany" = some (.ref ax)
  kC : PySem.W.keepIn K (.ref ax) = true
  q : PySem.W.excIn K ax [.type "ValueError", .type "Exception", .type "BaseException", .type "object"] "ValueError.__new__" = true
  sub : PySem.W.subIn K (.ref ax) (.type "BaseException") = some true
  ty : PySem.W.typeIn K (.ref ax) = some (.type "type")
  te : PySem.W.exmOne K (.ref ax) (.ref ax) = some true
theorem calm_subs {F : Fo} {p : Plan} (h : calm F p = true) {a : Plan} (ha : a ∈ subs p) : calm F a = true := by
  cases p <;> simp only [subs, List.mem_cons, List.not_mem_nil, or_false] at ha <;> simp only [calm, Bool.and_eq_true] at h <;>
    first
    | exact ha.elim
    | (subst ha; exact h.1)
    | (rcases ha with rfl | rfl <;> first | exact h.1.1 | exact h.1.2)
theorem calm_of {F : Fo} {p : Plan} (h : ∀ a ∈ subs p, calm F a = true) (hl : (mk F p).length ≤ 60) : calm F p = true := by
  cases p <;> simp only [calm, Bool.and_eq_true] <;> first | exact decide_eq_true hl | exact ⟨⟨h _ (by simp [subs]), h _ (by simp [subs])⟩, decide_eq_true hl⟩ | exact ⟨h _ (by simp [subs]), decide_eq_true hl⟩
theorem psr_use {X : Cx} {sts : List Stmt} {t : TS} {R : Prop} {D : Ends} {σ : L2.St} {H : Hp} (h : PSsR X sts t R) (g : R → t D σ H) : ∃ t, PSs X sts t ∧ t D σ H := ⟨t, h.pe, g h.r⟩
def spMd (K : PySem.W.Frag) (ad : Kd → Addr) (ax : Addr) (n : Nat) (C : Addr) : Sp := fun vs H Q E => ∃ (Hs : Hp) (pl : Plan) (F : Fo) (ms : D), ad (kd pl) = C ∧ Same Hs H ∧ Rl K Hs vs [ruleD ad pl, formsD F, ms] ∧ depth pl < n ∧ PlOk pl ∧ FOk F ∧ (ms = .int 60 ∨ (ms = .non ∧ calm F pl = true)) ∧
  (calm F pl = true → ∀ v Hs' H', Same H H' → Same Hs Hs' → Same Hs' H' → (∀ a, Hs a = none → H a ≠ none → Hs' a = none) → DR K Hs' v (formD (mk F pl)) → Q v H') ∧ (calm F pl = false → ∀ d H', Same H H' → E (.ref ax) d H')
theorem ref_ilist {K : PySem.W.Frag} {te : TE} {we : DE} (h : RefE K te we) : RefI K (iList K te) (wItL we) := by
  intro B Hs H σ ρ k R r hw hR
  refine h B Hs H σ ρ _ _ r hw fun v Hs1 H1 d ρ1 s1 r1 d1 q1 => ?_
  obtain ⟨l, rfl, q⟩ := q1
  obtain ⟨a, vs, rfl, h, g⟩ := d1.lst_inv
  exact ⟨a, rfl, ⟨vs, SqL.of (r1.same _ _ h)⟩, hR _ Hs1 H1 l ρ1 s1 r1 (itOk_list (SqL.of h) g) q⟩
section
variable {P : Program} {w0 : World} {K : PySem.W.Frag} {mg : PySem.Str → Option Value} {base : Heap} {ad : Kd → Addr} {ax : Addr}
theorem sc_made : FnScope ["self", "forms", "most", "told", "rule"] ["self", "forms", "most"] (defScope sRule_made) := ⟨rfl, rfl, rfl, by decide +kernel, rfl, by decide +kernel, by decide +kernel⟩
theorem MD_step (T : Txt K mg ad) (Z : Exn K mg ax) {C : Addr} (h : MdAt K C "made" "Rule.made" sRule_made) (c : Cls K C) {n : Nat} (ih : 0 < n → ∀ c, MX P w0 K mg base (n + 9) (ad c) "made" (spMd K ad ax n (ad c))) : MX P w0 K mg base (n + 10) C "made" (spMd K ad ax (n + 1) C) := by
  obtain ⟨f, fd, hm, F⟩ := h.ex
  refine ⟨f, fd, ["self", "forms", "most"], c, hm, ?_, F.bindsN (fun kV doc pm an cdv ct us hl => match us, hl with | [u1, u2, u3], _ => rfl)⟩
  refine F.ok sc_made (fun vs H Q E h => ?_) (fun cdv A outer s H vs Q E hr h => ?_)
  · obtain ⟨Hs, pl, F, ms, _, _, g, _⟩ := h
    exact g.1
  have hr8 : Room 8 _ := hr.mono (by omega)
  have hr1 : Room 1 _ := hr.mono (by omega)
  refine psr_use (rcons (rfor (fun pi => ps_set (i := 3) sc_made.nd rfl (Or.inl rfl) (pe_methD (k := 8) (dv 0).pe hr8 (pa_cons (dv 1).pe (pa_cons
      (K36R.pe_lcX (EX := E) (te := tMethX P w0 K mg base (n + 9) E "made" (tVar 4) (tCons (tVar 1) (tCons (tVar 2) tNil))) (own := [("rule", 4)]) rfl sc_made.nd rfl rfl (takes_of rfl rfl rfl rfl) pi (blkOk_by (by rfl)) (fun _ _ _ _ _ => pg_name (i := 4) sc_made.nd rfl (by first | exact Or.inl rfl | exact Or.inr rfl)) (fun _ _ _ _ _ => pts_nil)
        (fun _ _ _ _ _ => pe_methX (k := n + 9) (EX := E) (dv 4).pe hr passes_blkX (pa_cons (dv 1).pe (pa_cons (dv 2).pe pa_nil)))) pa_nil)))) (dilist (dmeth0 (k := 1) (dv 0) hr1)))
    (rcons (rif (fun pc => ps_if pc (pss_one (ps_raise rfl (takes_of rfl rfl rfl rfl) (pmk_own PySem.F.excBase_ValueError Z.q Z.gC Z.kC (raises_own Z.sub Z.ty) rfl))) pss_nil) (PWD.pt (tand (tnotN (dv 2) dnon) (tand1 (tgt (dlen T.len (dv 3)) (dv 2))))))
    (rone (rdata (sdret (dv 3)))))) (fun ⟨hi, hc, hret⟩ => ?_)
  obtain ⟨Hs, pl, Fo', ms, e0, sH, g, hd, hp, hF, hms, hcalm, hraise⟩ := h
  have r0 := start_rep (N := ["self", "forms", "most", "told", "rule"]) sc_made (ds := [ruleD ad pl, formsD Fo', ms]) rfl sH g
  obtain ⟨v0, e0', d0⟩ := r0.val 0 _ rfl
  obtain ⟨v1, e1, d1⟩ := r0.val 1 _ rfl
  obtain ⟨a, dx, fs, rfl, h1, hl⟩ := id d0.ins_inv
  refine ⟨.ref a, e0', ad (kd pl), a, dx, fs, _, rfl, sH _ _ h1, (hl _).2 (no_meth pl .drawn), DR_all T (kd pl), ?_⟩
  refine ⟨v1, e1, ?_⟩
  have hle : (subs pl).length ≤ 2 := by cases pl <;> simp [subs]
  refine lcX hi r0 (ρ0 := startD ["self", "forms", "most", "told", "rule"] [ruleD ad pl, formsD Fo', ms]) (l := (subs pl).map (ruleD ad)) ?_ (fun j => ∀ a, (subs pl)[j]? = some a → calm Fo' a = true) (fun j => (((subs pl)[j]?).map fun a => formD (mk Fo' a)).getD .non) (by rw [List.length_map]; omega) ?_ ?_
  · have m2 := IN_all (P := P) (w0 := w0) (base := base) T (kd pl)
    have l2 := no_meth (ad := ad) pl .inner
    simp only [mnm] at l2
    refine ⟨_, rfl, ?_⟩
    refine ⟨_, _, _, rfl, l2, m2, ?_⟩
    exact ⟨_, rfl, pl, rfl, rfl, _, rfl, rfl, rfl⟩
  · intro j x Hs' H' σ' Q' hx s1 s2 r3 hgood
    obtain ⟨b, hb, rfl⟩ := map_get hx
    have m := List.mem_of_getElem? hb
    have dl := subs_depth m
    obtain ⟨w4, f4, q4⟩ := r3.val 4 _ rfl
    obtain ⟨w1, f1, q1⟩ := r3.val 1 _ rfl
    obtain ⟨w2, f2, q2⟩ := r3.val 2 _ rfl
    obtain ⟨p, dx', fs', rfl, h1', hl'⟩ := id q4.ins_inv
    refine ⟨.ref p, f4, ad (kd b), p, dx', fs', _, rfl, r3.same _ _ h1', (hl' _).2 (no_meth b .made), ih (by omega) (kd b), ?_⟩
    refine ⟨w1, f1, w2, f2, ?_⟩
    refine ⟨Hs', b, Fo', ms, rfl, r3.same, Rl.cons q4 (Rl.cons q1 (Rl.cons q2 Rl.nil)), by omega, subs_ok hp m, hF, ?_, fun hcb v Hs3 H3 t1 t2 t3 t4 dr => ?_, fun hnb d H3 t => hraise ?_ d H3 (s1.trans t)⟩
    · rcases hms with z | ⟨z, hz⟩
      · exact .inl z
      · exact .inr ⟨z, calm_subs hz m⟩
    · refine hgood (fun a ha => ?_) v Hs3 H3 t2 t3 t1 t4 (by rw [hb]; exact dr)
      rw [hb] at ha; cases ha; exact hcb
    · cases q : calm Fo' pl with
      | false => rfl
      | true => rw [calm_subs q m] at hnb; cases hnb
  · intro hg p vs' Hs' H' s1 r3 n1 n2 h3 gl no
    have hall : ∀ a ∈ subs pl, calm Fo' a = true := fun a ha => by
      obtain ⟨j, hj, e⟩ := List.getElem_of_mem ha
      exact hg j (by rw [List.length_map]; exact hj) a (by rw [List.getElem?_eq_getElem hj, e])
    obtain ⟨s4, r4, d4⟩ := r3.settleNew n1 n2 h3 gl no
    have el : (List.range ((subs pl).map (ruleD ad)).length).map (fun j => (((subs pl)[j]?).map fun a => formD (mk Fo' a)).getD .non) = drInner Fo' pl := by
      unfold drInner
      cases pl <;> rfl
    rw [el] at d4
    refine spOf_call (E := E0) (k := fun d ρ' => d = formD (mk Fo' pl) ∧ ρ' = startD ["self", "forms", "most", "told", "rule"] [ruleD ad pl, formsD Fo', ms]) r4 (Rl.cons (d0.mono (s1.trans s4)) (Rl.cons (d1.mono (s1.trans s4)) (Rl.cons d4 Rl.nil))) ⟨_, _, _, rfl, pl, Fo', rfl, rfl, rfl, rfl, hp, hF, fun a ha => calm_len (hall a ha), rfl, rfl⟩ ?_
    rintro v Hs5 H5 d ρ' s5 r5 d5 ⟨rfl, rfl⟩
    have r6 := r5.setVal d5 3
    have s6 := (s1.trans s4).trans s5
    unfold gName tSeq tIfS
    dsimp only
    rcases hms with rfl | ⟨rfl, hcl⟩
    · refine hc ⟨Hs, H⟩ Hs5 H5 _ _ (fun b ρ1 => b = decide ((60 : Int) < ((mk Fo' pl).length : Int)) ∧ ρ1 = (startD ["self", "forms", "most", "told", "rule"] [ruleD ad pl, formsD Fo', .int 60]).set 3 (.val (formD (mk Fo' pl)))) _ r6 ?_ ?_
      · walk_at "dgo"
        first | exact ⟨rfl, rfl⟩ | exact ⟨by rw [List.length_map], rfl⟩ | exact rfl
      · rintro b Hs7 H7 ρ7 s7 r7 ⟨rfl, rfl⟩
        by_cases hlen : (mk Fo' pl).length ≤ 60
        · rw [if_neg (by simp; omega)]
          obtain ⟨v7, f7, q7⟩ := r7.val 3 _ rfl
          exact ⟨v7, f7, hcalm (calm_of hall hlen) v7 Hs7 H7 r7.ent (s6.trans s7) r7.same (fun a h1 h2 => r7.fr a h1 h2) q7⟩
        · rw [if_pos (by simp; omega)]
          refine hraise ?_ none H7 r7.ent
          cases q : calm Fo' pl with
          | false => rfl
          | true => exact absurd (calm_len q) hlen
    · refine hc ⟨Hs, H⟩ Hs5 H5 _ _ (fun b ρ1 => b = false ∧ ρ1 = (startD ["self", "forms", "most", "told", "rule"] [ruleD ad pl, formsD Fo', .non]).set 3 (.val (formD (mk Fo' pl)))) _ r6 ?_ ?_
      · walk_at "dgo"
        first | exact ⟨rfl, rfl⟩ | exact ⟨by rw [List.length_map], rfl⟩ | exact rfl
      · rintro b Hs7 H7 ρ7 s7 r7 ⟨rfl, rfl⟩
        rw [if_neg (by simp)]
        obtain ⟨v7, f7, q7⟩ := r7.val 3 _ rfl
        exact ⟨v7, f7, hcalm hcl v7 Hs7 H7 r7.ent (s6.trans s7) r7.same (fun a h1 h2 => r7.fr a h1 h2) q7⟩
end
end K36
set_option Elab.async false
set_option linter.all false
set_option maxRecDepth 100000
set_option maxHeartbeats 4000000
namespace K36
open PySem PySem.Spec PyProof.Rows L2
local macro_rules | `(tactic| walk_at "dfl") => `(tactic| first | refine sp3_go ?_ | refine sp2_go ?_ | refine sp1_go ?_ | refine sp4_go ?_ | refine ⟨_, _, _, rfl, rfl, rfl, rfl, ?_⟩ | refine ⟨_, _, rfl, rfl, rfl, rfl, ?_⟩ | refine ⟨_, _, _, rfl, by assumption, by assumption, rfl, ?_⟩ | refine ⟨_, _, _, rfl, by assumption, by assumption, by assumption, ?_⟩ | refine ⟨_, _, _, rfl, rfl, forms_get _ _, ?_⟩ | refine ⟨_, _, _, rfl, by assumption, by assumption, ?_⟩)
local macro_rules | `(tactic| walk_at "dgf") => `(tactic| (repeat' (first | walk_at "dfl" | refine ⟨_, rfl, ?_⟩ | refine ⟨_, _, rfl, ?_⟩ | refine ⟨_, _, rfl, rfl, ?_⟩ | refine ⟨_, _, _, rfl, ?_⟩ | refine ⟨_, _, _, rfl, rfl, rfl, ?_⟩ | refine ⟨_, _, _, rfl, rfl, atI_last, ?_⟩ | refine ⟨_, _, _, rfl, rfl, by assumption, ?_⟩ | refine ⟨_, _, _, _, rfl, ?_⟩ | refine And.intro rfl ?_ | refine And.intro ⟨_, rfl⟩ ?_ | refine ⟨_, .inl rfl, ?_⟩ | refine ⟨_, .inr rfl, ?_⟩ | refine t_go ?_ | refine f_go ?_ | refine d_go (fun _ => ?_) (fun _ => ?_) | refine n_go (fun _ => ?_) (fun _ => ?_) | refine c_go (fun _ => ?_) (fun _ => ?_) | refine And.intro (by walk_at "dsd") ?_ | fail)))
local macro_rules | `(tactic| walk_at "dsd") => `(tactic| first | omega | exact mulW (by omega) (by omega) | exact divW (by omega) (by omega) | assumption | ((try simp only [List.length_append, List.length_cons, List.length_nil, List.length_map, List.length_reverse, List.length_dropLast, List.length_drop, List.length_take]); omega))
local macro_rules | `(tactic| walk_at "dgo") => `(tactic| (repeat' (first | refine ⟨_, rfl, ?_⟩ | refine ⟨_, _, rfl, ?_⟩ | refine ⟨_, _, rfl, rfl, ?_⟩ | refine ⟨_, _, _, rfl, ?_⟩ | refine ⟨_, _, _, rfl, rfl, rfl, ?_⟩ | refine ⟨_, _, _, rfl, rfl, atI_last, ?_⟩ | refine ⟨_, _, _, rfl, rfl, by assumption, ?_⟩ | refine ⟨_, _, _, _, rfl, ?_⟩ | refine And.intro rfl ?_ | refine And.intro ⟨_, rfl⟩ ?_ | refine ⟨_, .inl rfl, ?_⟩ | refine ⟨_, .inr rfl, ?_⟩ | refine t_go ?_ | refine f_go ?_ | refine d_go (fun _ => ?_) (fun _ => ?_) | refine n_go (fun _ => ?_) (fun _ => ?_) | refine c_go (fun _ => ?_) (fun _ => ?_) | refine And.intro (by walk_at "dsd") ?_ | fail)))
local macro_rules | `(tactic| walk_at "dgb") => `(tactic| (repeat' (first | refine ⟨_, rfl, ?_⟩ | refine ⟨_, _, rfl, ?_⟩ | refine ⟨_, _, rfl, rfl, ?_⟩ | refine ⟨_, _, _, rfl, ?_⟩ | refine ⟨_, _, _, rfl, rfl, rfl, ?_⟩ | refine ⟨_, _, _, rfl, rfl, atI_last, ?_⟩ | refine ⟨_, _, _, rfl, rfl, by assumption, ?_⟩ | refine ⟨_, _, _, _, rfl, ?_⟩ | refine And.intro rfl ?_ | refine And.intro ⟨_, rfl⟩ ?_ | refine ⟨_, .inl rfl, ?_⟩ | refine ⟨_, .inr rfl, ?_⟩ | refine t_go ?_ | refine f_go ?_ | refine d_go (fun _ => ?_) (fun _ => ?_) | refine n_go (fun _ => ?_) (fun _ => ?_) | refine c_go (fun _ => ?_) (fun _ => ?_) | refine nb_go (fun _ => ?_) (fun _ => ?_) | refine b_go (fun _ => ?_) (fun _ => ?_) | refine And.intro (by walk_at "dsd") ?_ | fail)))
local macro_rules | `(tactic| walk_at "dif") => `(tactic| ((repeat' split) <;> first | rfl | (exfalso; omega)))
section
variable {P : Program} {w0 : World} {K : PySem.W.Frag} {mg : PySem.Str → Option Value} {base : Heap} {ad : Kd → Addr}
variable {ax : Addr}
theorem MD_all (T : Txt K mg ad) (Z : Exn K mg ax) : ∀ n c, MX P w0 K mg base (n + 10) (ad c) "made" (spMd K ad ax (n + 1) (ad c))
  | 0, c => MD_step (n := 0) T Z (at_made T c) (T.cls c) fun h => absurd h (Nat.lt_irrefl _)
  | n + 1, c => MD_step (n := n + 1) T Z (at_made T c) (T.cls c) fun _ c => MD_all T Z n c
def gMdC (ad : Kd → Addr) (n : Nat) (C : Addr) (self forms most : D) (k : D → Prop) : Prop := ∃ pl F, ad (kd pl) = C ∧ self = ruleD ad pl ∧ forms = formsD F ∧ most = .non ∧ depth pl < n ∧ PlOk pl ∧ FOk F ∧ calm F pl = true ∧ k (formD (mk F pl))
theorem md_calm {n : Nat} {C : Addr} {vs : List V} {H : Hp} {Q : VK} {E : XK} : spOf K (sp3 (gMdC ad n C)) vs H Q E → spMd K ad ax n C vs H Q (fun _ _ _ => False) := by
  rintro ⟨Hs, ds, k0, s, g, ⟨a, b, c, rfl, pl, F, e0, rfl, rfl, rfl, hd, hp, hF, hc, hk⟩, hQ⟩
  exact ⟨Hs, pl, F, .non, e0, s, g, hd, hp, hF, .inr ⟨rfl, hc⟩, fun _ v Hs' H' t1 t2 t3 t4 dr => hQ _ v Hs' H' hk t1 t2 t3 t4 dr, fun z => by rw [hc] at z; cases z⟩
theorem MC_all (T : Txt K mg ad) (Z : Exn K mg ax) (n : Nat) (c : Kd) : MD P w0 K mg base (n + 10) (ad c) "made" (spOf K (sp3 (gMdC ad (n + 1) (ad c)))) :=
  (MD_all T Z n c).calm fun vs H Q E h => md_calm h
/-! form -/
def spFm (K : PySem.W.Frag) (ad : Kd → Addr) (ax : Addr) (C : Addr) : Sp := fun vs H Q E => ∃ (Hs : Hp) (pl : Plan) (F : Fo), ad (kd pl) = C ∧ Same Hs H ∧ Rl K Hs vs [ruleD ad pl, formsD F] ∧ PlOk pl ∧ FOk F ∧
  (calm F pl = true → ∀ v Hs' H', Same H H' → Same Hs Hs' → Same Hs' H' → (∀ a, Hs a = none → H a ≠ none → Hs' a = none) → DR K Hs' v (formD (mk F pl)) → Q v H') ∧ (calm F pl = false → ∀ d H', Same H H' → E (.ref ax) d H')
theorem rpe {X : Cx} {st : Stmt} {t : TS} (h : PS X st t) : PSR X st t True := ⟨h, trivial⟩
theorem sc_Rule_form : FnScope ["self", "forms"] ["self", "forms"] (defScope sRule_form) := ⟨rfl, rfl, rfl, by decide +kernel, rfl, by decide +kernel, by decide +kernel⟩
theorem FM_all (T : Txt K mg ad) (Z : Exn K mg ax) (c : Kd) : MX P w0 K mg base 31 (ad c) "form" (spFm K ad ax (ad c)) := by
  obtain ⟨f, fd, hm, F⟩ := (at_form T c).ex
  refine ⟨f, fd, ["self", "forms"], T.cls c, hm, ?_, F.bindsN (fun kV doc pm an cdv ct us hl => match us, hl with | [u1, u2], _ => rfl)⟩
  refine F.ok sc_Rule_form (fun vs H Q E h => ?_) (fun cdv A outer s H vs Q E hr h => ?_)
  · obtain ⟨Hs, pl, F, _, _, g, _⟩ := h
    exact g.1
  obtain ⟨tk, hmost⟩ := T.c_MOST_STRETCHES
  have hr2 : Room 23 _ := hr.mono (by omega)
  have hr3 : Room (20 + 10) _ := hr.mono (by omega)
  refine psr_use (rcons (rexp (fun pe => ps_expr pe rfl) (dmeth (k := 23) (dv 0) hr2 (dcons (dv 1) dnil)))
    (rone (rpe (ps_ret (pe_methX (k := 20 + 10) (EX := E) (dv 0).pe hr3 (passes_call (W := fun cls d _ H => E cls d H) (takes_of rfl rfl rfl rfl) fun _ _ _ _ h => h) (pa_cons (dv 1).pe (pa_cons (dglobI hmost).pe pa_nil))))))) (fun ⟨h1, _⟩ => ?_)
  obtain ⟨Hs, pl, Fo', e0, sH, g, hp, hF, hcalm, hraise⟩ := h
  have r0 := start_rep (N := ["self", "forms"]) sc_Rule_form (ds := [ruleD ad pl, formsD Fo']) rfl sH g
  have m1 := LK_all (P := P) (w0 := w0) (base := base) T (at_look T (kd pl)) (T.cls (kd pl))
  have l1 := no_meth (ad := ad) pl .look_at
  simp only [mnm] at l1
  have hw := hp.wt
  unfold tSeq
  refine h1 ⟨Hs, H⟩ Hs H _ _ (fun d ρ1 => ρ1 = startD ["self", "forms"] [ruleD ad pl, formsD Fo']) _ r0 ?_ ?_
  · walk_at "dgf"
    exact ⟨pl, Fo', rfl, rfl, rfl, hw, rfl⟩
  · rintro v Hs5 H5 d ρ' s5 r5 d5 rfl
    obtain ⟨v0, e0', d0⟩ := r5.val 0 _ rfl
    obtain ⟨v1, e1, d1⟩ := r5.val 1 _ rfl
    obtain ⟨a, dx, fs, rfl, h1, hl⟩ := id d0.ins_inv
    dsimp only
    unfold tRet
    refine ⟨.ref a, e0', ad (kd pl), a, dx, fs, _, rfl, r5.same _ _ h1, (hl _).2 (no_meth pl .made), MD_all T Z 20 (kd pl), ?_⟩
    refine ⟨v1, e1, ?_⟩
    have dw := depth_weight pl
    exact ⟨Hs5, pl, Fo', .int 60, rfl, r5.same, Rl.cons d0 (Rl.cons d1 (Rl.cons (.int 60) Rl.nil)), by omega, hp, hF, .inl rfl, fun hc v Hs7 H7 t1 t2 t3 t4 dr => hcalm hc v Hs7 H7 (r5.ent.trans t1) (s5.trans t2) t3 (fun a q1 q2 => t4 a (r5.fr a q1 q2) (fun z => q2 (r5.ent.free z))) dr, fun hn d H7 t1 => hraise hn d H7 (r5.ent.trans t1)⟩
end
end K36
set_option Elab.async false
set_option linter.all false
set_option maxRecDepth 100000
set_option maxHeartbeats 4000000
namespace K36
open PySem PySem.Spec PyProof.Rows L2
local macro_rules | `(tactic| walk_at "dfl") => `(tactic| first | refine sp3_go ?_ | refine sp2_go ?_ | refine sp1_go ?_ | refine sp4_go ?_ | refine ⟨_, _, _, rfl, rfl, rfl, rfl, ?_⟩ | refine ⟨_, _, rfl, rfl, rfl, rfl, ?_⟩ | refine ⟨_, _, _, rfl, by assumption, by assumption, rfl, ?_⟩ | refine ⟨_, _, _, rfl, by assumption, by assumption, by assumption, ?_⟩ | refine ⟨_, _, _, rfl, rfl, forms_get _ _, ?_⟩ | refine ⟨_, _, _, rfl, by assumption, by assumption, ?_⟩)
local macro_rules | `(tactic| walk_at "dgf") => `(tactic| (repeat' (first | walk_at "dfl" | refine ⟨_, rfl, ?_⟩ | refine ⟨_, _, rfl, ?_⟩ | refine ⟨_, _, rfl, rfl, ?_⟩ | refine ⟨_, _, _, rfl, ?_⟩ | refine ⟨_, _, _, rfl, rfl, rfl, ?_⟩ | refine ⟨_, _, _, rfl, rfl, atI_last, ?_⟩ | refine ⟨_, _, _, rfl, rfl, by assumption, ?_⟩ | refine ⟨_, _, _, _, rfl, ?_⟩ | refine And.intro rfl ?_ | refine And.intro ⟨_, rfl⟩ ?_ | refine ⟨_, .inl rfl, ?_⟩ | refine ⟨_, .inr rfl, ?_⟩ | refine t_go ?_ | refine f_go ?_ | refine d_go (fun _ => ?_) (fun _ => ?_) | refine n_go (fun _ => ?_) (fun _ => ?_) | refine c_go (fun _ => ?_) (fun _ => ?_) | refine And.intro (by walk_at "dsd") ?_ | fail)))
local macro_rules | `(tactic| walk_at "dsd") => `(tactic| first | omega | exact mulW (by omega) (by omega) | exact divW (by omega) (by omega) | assumption | ((try simp only [List.length_append, List.length_cons, List.length_nil, List.length_map, List.length_reverse, List.length_dropLast, List.length_drop, List.length_take]); omega))
local macro_rules | `(tactic| walk_at "dgo") => `(tactic| (repeat' (first | refine ⟨_, rfl, ?_⟩ | refine ⟨_, _, rfl, ?_⟩ | refine ⟨_, _, rfl, rfl, ?_⟩ | refine ⟨_, _, _, rfl, ?_⟩ | refine ⟨_, _, _, rfl, rfl, rfl, ?_⟩ | refine ⟨_, _, _, rfl, rfl, atI_last, ?_⟩ | refine ⟨_, _, _, rfl, rfl, by assumption, ?_⟩ | refine ⟨_, _, _, _, rfl, ?_⟩ | refine And.intro rfl ?_ | refine And.intro ⟨_, rfl⟩ ?_ | refine ⟨_, .inl rfl, ?_⟩ | refine ⟨_, .inr rfl, ?_⟩ | refine t_go ?_ | refine f_go ?_ | refine d_go (fun _ => ?_) (fun _ => ?_) | refine n_go (fun _ => ?_) (fun _ => ?_) | refine c_go (fun _ => ?_) (fun _ => ?_) | refine And.intro (by walk_at "dsd") ?_ | fail)))
local macro_rules | `(tactic| walk_at "dgb") => `(tactic| (repeat' (first | refine ⟨_, rfl, ?_⟩ | refine ⟨_, _, rfl, ?_⟩ | refine ⟨_, _, rfl, rfl, ?_⟩ | refine ⟨_, _, _, rfl, ?_⟩ | refine ⟨_, _, _, rfl, rfl, rfl, ?_⟩ | refine ⟨_, _, _, rfl, rfl, atI_last, ?_⟩ | refine ⟨_, _, _, rfl, rfl, by assumption, ?_⟩ | refine ⟨_, _, _, _, rfl, ?_⟩ | refine And.intro rfl ?_ | refine And.intro ⟨_, rfl⟩ ?_ | refine ⟨_, .inl rfl, ?_⟩ | refine ⟨_, .inr rfl, ?_⟩ | refine t_go ?_ | refine f_go ?_ | refine d_go (fun _ => ?_) (fun _ => ?_) | refine n_go (fun _ => ?_) (fun _ => ?_) | refine c_go (fun _ => ?_) (fun _ => ?_) | refine nb_go (fun _ => ?_) (fun _ => ?_) | refine b_go (fun _ => ?_) (fun _ => ?_) | refine And.intro (by walk_at "dsd") ?_ | fail)))
local macro_rules | `(tactic| walk_at "dif") => `(tactic| ((repeat' split) <;> first | rfl | (exfalso; omega)))
section
variable {P : Program} {w0 : World} {K : PySem.W.Frag} {mg : PySem.Str → Option Value} {base : Heap} {ad : Kd → Addr}
variable {ax : Addr}
theorem sc_Each_priced : FnScope ["self", "x", "forms"] ["self", "x", "forms"] (defScope sEach_priced) := ⟨rfl, rfl, rfl, by decide +kernel, rfl, by decide +kernel, by decide +kernel⟩
theorem sc_Flat_priced : FnScope ["self", "x", "forms"] ["self", "x", "forms"] (defScope sFlat_priced) := ⟨rfl, rfl, rfl, by decide +kernel, rfl, by decide +kernel, by decide +kernel⟩
theorem sc_Named_priced : FnScope ["self", "x", "forms"] ["self", "x", "forms"] (defScope sNamed_priced) := ⟨rfl, rfl, rfl, by decide +kernel, rfl, by decide +kernel, by decide +kernel⟩
theorem sc_Sum_priced : FnScope ["self", "x", "forms", "first", "second"] ["self", "x", "forms"] (defScope sSum_priced) := ⟨rfl, rfl, rfl, by decide +kernel, rfl, by decide +kernel, by decide +kernel⟩
theorem sc_Cheaper_priced : FnScope ["self", "x", "forms", "first", "second"] ["self", "x", "forms"] (defScope sCheaper_priced) := ⟨rfl, rfl, rfl, by decide +kernel, rfl, by decide +kernel, by decide +kernel⟩
theorem sc_Dearer_priced : FnScope ["self", "x", "forms", "first", "second"] ["self", "x", "forms"] (defScope sDearer_priced) := ⟨rfl, rfl, rfl, by decide +kernel, rfl, by decide +kernel, by decide +kernel⟩
theorem sc_Only_priced : FnScope ["self", "x", "forms"] ["self", "x", "forms"] (defScope sOnly_priced) := ⟨rfl, rfl, rfl, by decide +kernel, rfl, by decide +kernel, by decide +kernel⟩
theorem sc_After_priced : FnScope ["self", "x", "forms"] ["self", "x", "forms"] (defScope sAfter_priced) := ⟨rfl, rfl, rfl, by decide +kernel, rfl, by decide +kernel, by decide +kernel⟩
theorem sc_Roomy_priced : FnScope ["self", "x", "forms"] ["self", "x", "forms"] (defScope sRoomy_priced) := ⟨rfl, rfl, rfl, by decide +kernel, rfl, by decide +kernel, by decide +kernel⟩
theorem sc_Fee_priced : FnScope ["self", "x", "forms", "told"] ["self", "x", "forms"] (defScope sFee_priced) := ⟨rfl, rfl, rfl, by decide +kernel, rfl, by decide +kernel, by decide +kernel⟩
def gPr (ad : Kd → Addr) (n : Nat) (c : Kd) (self x forms : D) (k : D → Prop) : Prop := ∃ pl F y, kd pl = c ∧ self = ruleD ad pl ∧ x = .int y ∧ forms = formsD F ∧ depth pl < n ∧ PlOk pl ∧ FOk F ∧ calm F pl = true ∧ (-(50 * Yb) ≤ y ∧ y ≤ 50 * Yb) ∧ k (optD (priced F pl y))
theorem cost_mul {f : List Row} {y : Int} (hf : IsForm f) (hb : BdY f) (hy : -(50 * Yb) ≤ y ∧ y ≤ 50 * Yb) : ∀ r ∈ f, CMulW r.st (y - r.lo) := fun r hr => by
  have := bdY_row hf hb hr
  have := yb1
  exact mulW (by omega) (by omega)
theorem PR_each (T : Txt K mg ad) {C : Addr} (h : MdAt K C "priced" "Each.priced" sEach_priced) (c : Cls K C) {n : Nat} : MD P w0 K mg base (n + 10) C "priced" (spOf K (sp3 (gPr ad (n + 1) .each))) :=
  MdAt.md3 (N := ["self", "x", "forms"]) h c (fun _ _ _ _ _ _ _ _ _ => rfl) sc_Each_priced fun f cdv A outer s H E hr => ⟨_, _, (sdcons (sdif (tchain2 (dfld (dv 0)) (dv 1) (dfld (dv 0))) (sdone (sdret (dmul (dfld (dv 0)) (dv 1)))) sdnil)
      (sdone (sdret dnon))), fun a b c k0 h => by
    obtain ⟨pl, F, y, hk, rfl, rfl, rfl, hd, hp, hF, hc, hy, hk0⟩ := h
    cases pl <;> first | cases hk | skip
    rename_i u lo hi
    have c1 := T.cls .each
    have n1 := T.noat .each "unit" (by decide)
    have n2 := T.noat .each "low" (by decide)
    have n3 := T.noat .each "high" (by decide)
    have y1 := yb1
    have h1 := hp.ok
    have aA := llA
    have aU := llU
    simp only [POk] at h1
    have hk1 : k0 (optD (if lo ≤ y ∧ y ≤ hi then some (u * y) else none)) := hk0
    walk_at "dgf"
    all_goals (refine Eq.mp (congrArg k0 ?_) hk1; (repeat' split) <;> first | rfl | (exfalso; omega))⟩
theorem PR_flat (T : Txt K mg ad) {C : Addr} (h : MdAt K C "priced" "Flat.priced" sFlat_priced) (c : Cls K C) {n : Nat} : MD P w0 K mg base (n + 10) C "priced" (spOf K (sp3 (gPr ad (n + 1) .flat))) :=
  MdAt.md3 (N := ["self", "x", "forms"]) h c (fun _ _ _ _ _ _ _ _ _ => rfl) sc_Flat_priced fun f cdv A outer s H E hr => ⟨_, _, (sdcons (sdif (tchain2 (dfld (dv 0)) (dv 1) (dfld (dv 0))) (sdone (sdret (dfld (dv 0)))) sdnil)
      (sdone (sdret dnon))), fun a b c k0 h => by
    obtain ⟨pl, F, y, hk, rfl, rfl, rfl, hd, hp, hF, hc, hy, hk0⟩ := h
    cases pl <;> first | cases hk | skip
    rename_i u lo hi
    have c1 := T.cls .flat
    have n1 := T.noat .flat "price" (by decide)
    have n2 := T.noat .flat "low" (by decide)
    have n3 := T.noat .flat "high" (by decide)
    have hk1 : k0 (optD (if lo ≤ y ∧ y ≤ hi then some u else none)) := hk0
    walk_at "dgf"
    all_goals (refine Eq.mp (congrArg k0 ?_) hk1; (repeat' split) <;> first | rfl | (exfalso; omega))⟩
theorem PR_named (T : Txt K mg ad) {C : Addr} (h : MdAt K C "priced" "Named.priced" sNamed_priced) (c : Cls K C) {n : Nat} : MD P w0 K mg base (n + 10) C "priced" (spOf K (sp3 (gPr ad (n + 1) .named))) :=
  MdAt.md3 (N := ["self", "x", "forms"]) h c (fun _ _ _ _ _ _ _ _ _ => rfl) sc_Named_priced fun f cdv A outer s H E hr => ⟨_, _, (sdone (sdret (dcall (D_cost_at T) (hr.mono (by first | decide | omega)) (dcons (ddix hr (dv 2) (dfld (dv 0))) (dcons (dv 1) dnil))))), fun a b c k0 h => by
    obtain ⟨pl, F, y, hk, rfl, rfl, rfl, hd, hp, hF, hc, hy, hk0⟩ := h
    cases pl <;> first | cases hk | skip
    rename_i m
    have c1 := T.cls .named
    have n1 := T.noat .named "name" (by decide)
    have g := hp.good hF
    have h1 := cost_mul g.form (hp.bd hF) hy
    walk_at "dgf"
    exact hk0⟩
theorem PR_sum (T : Txt K mg ad) {C : Addr} (h : MdAt K C "priced" "Sum.priced" sSum_priced) (c : Cls K C) {n : Nat} (ih : 0 < n → ∀ c, MD P w0 K mg base (n + 9) (ad c) "priced" (spOf K (sp3 (gPr ad n c)))) : MD P w0 K mg base (n + 10) C "priced" (spOf K (sp3 (gPr ad (n + 1) .sum))) :=
  MdAt.md3 (N := ["self", "x", "forms", "first", "second"]) h c (fun _ _ _ _ _ _ _ _ _ => rfl) sc_Sum_priced fun f cdv A outer s H E hr => ⟨_, _, (sdcons (sdset (i := 3) sc_Sum_priced.nd (dmeth (k := n + 9) (dfld (dv 0)) (hr.mono (by first | decide | omega)) (dcons (dv 1) (dcons (dv 2) dnil))))
      (sdcons (sdset (i := 4) sc_Sum_priced.nd (dmeth (k := n + 9) (dfld (dv 0)) (hr.mono (by first | decide | omega)) (dcons (dv 1) (dcons (dv 2) dnil))))
      (sdcons (sdif (PWD.pt (tor (tisN (dv 3) dnon) (tor1 (tisN (dv 4) dnon)))) (sdone (sdret dnon)) sdnil)
      (sdone (sdret (dadd (dv 3) (dv 4))))))), fun x1 x2 x3 k0 h => by
    obtain ⟨pl, F, y, hk, rfl, rfl, rfl, hd, hp, hF, hc, hy, hk0⟩ := h
    cases pl <;> first | cases hk | skip
    rename_i a b
    have c1 := T.cls .sum
    have n1 := T.noat .sum "one" (by decide)
    have n2 := T.noat .sum "other" (by decide)
    obtain ⟨pa, pb⟩ := hp.plus
    have ca := calm_subs hc (a := a) (by simp [subs])
    have cb := calm_subs hc (a := b) (by simp [subs])
    have da := subs_depth (p := .plus a b) (a := a) (by simp [subs])
    have db := subs_depth (p := .plus a b) (a := b) (by simp [subs])
    have ma := ih (by omega) (kd a)
    have mb := ih (by omega) (kd b)
    have la := no_meth (ad := ad) a .priced
    have lb := no_meth (ad := ad) b .priced
    simp only [mnm] at la lb
    have hk1 : k0 (optD (optSum (priced F a y) (priced F b y))) := hk0
    walk_at "dgf"
    generalize priced F a y = ua at hk1 ⊢
    generalize priced F b y = ub at hk1 ⊢
    cases ua <;> cases ub <;> (walk_at "dgf") <;> exact hk1⟩
theorem PR_cheaper (T : Txt K mg ad) {C : Addr} (h : MdAt K C "priced" "Cheaper.priced" sCheaper_priced) (c : Cls K C) {n : Nat} (ih : 0 < n → ∀ c, MD P w0 K mg base (n + 9) (ad c) "priced" (spOf K (sp3 (gPr ad n c)))) : MD P w0 K mg base (n + 10) C "priced" (spOf K (sp3 (gPr ad (n + 1) .cheaper))) :=
  MdAt.md3 (N := ["self", "x", "forms", "first", "second"]) h c (fun _ _ _ _ _ _ _ _ _ => rfl) sc_Cheaper_priced fun f cdv A outer s H E hr => ⟨_, _, (sdcons (sdset (i := 3) sc_Cheaper_priced.nd (dmeth (k := n + 9) (dfld (dv 0)) (hr.mono (by first | decide | omega)) (dcons (dv 1) (dcons (dv 2) dnil))))
      (sdcons (sdset (i := 4) sc_Cheaper_priced.nd (dmeth (k := n + 9) (dfld (dv 0)) (hr.mono (by first | decide | omega)) (dcons (dv 1) (dcons (dv 2) dnil))))
      (sdcons (sdif (tisN (dv 3) dnon) (sdone (sdret (dv 4))) sdnil)
      (sdcons (sdif (tisN (dv 4) dnon) (sdone (sdret (dv 3))) sdnil)
      (sdone (sdret (dmin rfl T.min (dv 3) (dv 4)))))))), fun x1 x2 x3 k0 h => by
    obtain ⟨pl, F, y, hk, rfl, rfl, rfl, hd, hp, hF, hc, hy, hk0⟩ := h
    cases pl <;> first | cases hk | skip
    rename_i a b
    have c1 := T.cls .cheaper
    have n1 := T.noat .cheaper "one" (by decide)
    have n2 := T.noat .cheaper "other" (by decide)
    obtain ⟨pa, pb⟩ := hp.or_
    have ca := calm_subs hc (a := a) (by simp [subs])
    have cb := calm_subs hc (a := b) (by simp [subs])
    have da := subs_depth (p := .or_ a b) (a := a) (by simp [subs])
    have db := subs_depth (p := .or_ a b) (a := b) (by simp [subs])
    have ma := ih (by omega) (kd a)
    have mb := ih (by omega) (kd b)
    have la := no_meth (ad := ad) a .priced
    have lb := no_meth (ad := ad) b .priced
    simp only [mnm] at la lb
    have hk1 : k0 (optD (optLeast (priced F a y) (priced F b y))) := hk0
    walk_at "dgf"
    generalize priced F a y = ua at hk1 ⊢
    generalize priced F b y = ub at hk1 ⊢
    cases ua <;> cases ub <;> (walk_at "dgf") <;> exact hk1⟩
theorem PR_dearer (T : Txt K mg ad) {C : Addr} (h : MdAt K C "priced" "Dearer.priced" sDearer_priced) (c : Cls K C) {n : Nat} (ih : 0 < n → ∀ c, MD P w0 K mg base (n + 9) (ad c) "priced" (spOf K (sp3 (gPr ad n c)))) : MD P w0 K mg base (n + 10) C "priced" (spOf K (sp3 (gPr ad (n + 1) .dearer))) :=
  MdAt.md3 (N := ["self", "x", "forms", "first", "second"]) h c (fun _ _ _ _ _ _ _ _ _ => rfl) sc_Dearer_priced fun f cdv A outer s H E hr => ⟨_, _, (sdcons (sdset (i := 3) sc_Dearer_priced.nd (dmeth (k := n + 9) (dfld (dv 0)) (hr.mono (by first | decide | omega)) (dcons (dv 1) (dcons (dv 2) dnil))))
      (sdcons (sdset (i := 4) sc_Dearer_priced.nd (dmeth (k := n + 9) (dfld (dv 0)) (hr.mono (by first | decide | omega)) (dcons (dv 1) (dcons (dv 2) dnil))))
      (sdcons (sdif (PWD.pt (tor (tisN (dv 3) dnon) (tor1 (tisN (dv 4) dnon)))) (sdone (sdret dnon)) sdnil)
      (sdone (sdret (dmax rfl T.max (dv 3) (dv 4))))))), fun x1 x2 x3 k0 h => by
    obtain ⟨pl, F, y, hk, rfl, rfl, rfl, hd, hp, hF, hc, hy, hk0⟩ := h
    cases pl <;> first | cases hk | skip
    rename_i a b
    have c1 := T.cls .dearer
    have n1 := T.noat .dearer "one" (by decide)
    have n2 := T.noat .dearer "other" (by decide)
    obtain ⟨pa, pb⟩ := hp.max_
    have ca := calm_subs hc (a := a) (by simp [subs])
    have cb := calm_subs hc (a := b) (by simp [subs])
    have da := subs_depth (p := .max_ a b) (a := a) (by simp [subs])
    have db := subs_depth (p := .max_ a b) (a := b) (by simp [subs])
    have ma := ih (by omega) (kd a)
    have mb := ih (by omega) (kd b)
    have la := no_meth (ad := ad) a .priced
    have lb := no_meth (ad := ad) b .priced
    simp only [mnm] at la lb
    have hk1 : k0 (optD (optGreatest (priced F a y) (priced F b y))) := hk0
    walk_at "dgf"
    generalize priced F a y = ua at hk1 ⊢
    generalize priced F b y = ub at hk1 ⊢
    cases ua <;> cases ub <;> (walk_at "dgf") <;> exact hk1⟩
theorem PR_only (T : Txt K mg ad) {C : Addr} (h : MdAt K C "priced" "Only.priced" sOnly_priced) (c : Cls K C) {n : Nat} (ih : 0 < n → ∀ c, MD P w0 K mg base (n + 9) (ad c) "priced" (spOf K (sp3 (gPr ad n c)))) : MD P w0 K mg base (n + 10) C "priced" (spOf K (sp3 (gPr ad (n + 1) .only))) :=
  MdAt.md3 (N := ["self", "x", "forms"]) h c (fun _ _ _ _ _ _ _ _ _ => rfl) sc_Only_priced fun f cdv A outer s H E hr => ⟨_, _, (sdcons (sdif (tchain2 (dfld (dv 0)) (dv 1) (dfld (dv 0))) (sdone (sdret (dmeth (k := n + 9) (dfld (dv 0)) (hr.mono (by first | decide | omega)) (dcons (dv 1) (dcons (dv 2) dnil))))) sdnil)
      (sdone (sdret dnon))), fun x1 x2 x3 k0 h => by
    obtain ⟨pl, F, y, hk, rfl, rfl, rfl, hd, hp, hF, hc, hy, hk0⟩ := h
    cases pl <;> first | cases hk | skip
    rename_i a lo hi
    have c1 := T.cls .only
    have n1 := T.noat .only "one" (by decide)
    have n2 := T.noat .only "low" (by decide)
    have n3 := T.noat .only "high" (by decide)
    have pa := hp.only
    have ca := calm_subs hc (a := a) (by simp [subs])
    have da := subs_depth (p := .only a lo hi) (a := a) (by simp [subs])
    have ma := ih (by omega) (kd a)
    have la := no_meth (ad := ad) a .priced
    simp only [mnm] at la
    have hk1 : k0 (optD (if lo ≤ y ∧ y ≤ hi then priced F a y else none)) := hk0
    walk_at "dgf"
    all_goals (refine Eq.mp (congrArg k0 ?_) hk1; (repeat' split) <;> first | rfl | (exfalso; omega))⟩
theorem PR_after (T : Txt K mg ad) {C : Addr} (h : MdAt K C "priced" "After.priced" sAfter_priced) (c : Cls K C) {n : Nat} (ih : 0 < n → ∀ c, MD P w0 K mg base (n + 9) (ad c) "priced" (spOf K (sp3 (gPr ad n c)))) : MD P w0 K mg base (n + 10) C "priced" (spOf K (sp3 (gPr ad (n + 1) .after))) :=
  MdAt.md3 (N := ["self", "x", "forms"]) h c (fun _ _ _ _ _ _ _ _ _ => rfl) sc_After_priced fun f cdv A outer s H E hr => ⟨_, _, (sdcons (sdif (tlt (dv 1) dint) (sdone (sdret dnon)) sdnil)
      (sdone (sdret (dmeth (k := n + 9) (dfld (dv 0)) (hr.mono (by first | decide | omega)) (dcons (dmax rfl T.max dint (dsub (dv 1) (dfld (dv 0)))) (dcons (dv 2) dnil)))))), fun x1 x2 x3 k0 h => by
    obtain ⟨pl, F, y, hk, rfl, rfl, rfl, hd, hp, hF, hc, hy, hk0⟩ := h
    cases pl <;> first | cases hk | skip
    rename_i a m
    have c1 := T.cls .after
    have n1 := T.noat .after "one" (by decide)
    have n2 := T.noat .after "count" (by decide)
    have pa := hp.after
    have ca := calm_subs hc (a := a) (by simp [subs])
    have da := subs_depth (p := .after a m) (a := a) (by simp [subs])
    have ma := ih (by omega) (kd a)
    have la := no_meth (ad := ad) a .priced
    simp only [mnm] at la
    have hm := hp.ok.2
    have y1 := yb1
    have aA := llA
    have hk1 : k0 (optD (if y < 0 then none else priced F a (pyMax 0 (y - m)))) := hk0
    have pm := pyMax_eq 0 (y - m)
    have pm2 : pyMax 0 (y - m) = (if y - m > 0 then y - m else 0) := rfl
    walk_at "dgf"
    all_goals first | (rw [if_pos (by omega)] at hk1; exact hk1) | (rw [if_neg (by omega), pm2] at hk1; exact hk1)⟩
theorem PR_fee (T : Txt K mg ad) {C : Addr} (h : MdAt K C "priced" "Fee.priced" sFee_priced) (c : Cls K C) {n : Nat} (ih : 0 < n → ∀ c, MD P w0 K mg base (n + 9) (ad c) "priced" (spOf K (sp3 (gPr ad n c)))) : MD P w0 K mg base (n + 10) C "priced" (spOf K (sp3 (gPr ad (n + 1) .fee))) :=
  MdAt.md3 (N := ["self", "x", "forms", "told"]) h c (fun _ _ _ _ _ _ _ _ _ => rfl) sc_Fee_priced fun f cdv A outer s H E hr => ⟨_, _, (sdcons (sdset (i := 3) sc_Fee_priced.nd (dmeth (k := n + 9) (dfld (dv 0)) (hr.mono (by first | decide | omega)) (dcons (dv 1) (dcons (dv 2) dnil))))
      (sdcons (sdif (PWD.pt (tor (tisN (dv 3) dnon) (tor1 (teq (dv 1) dint)))) (sdone (sdret (dv 3))) sdnil)
      (sdone (sdret (dadd (dv 3) (dfld (dv 0))))))), fun x1 x2 x3 k0 h => by
    obtain ⟨pl, F, y, hk, rfl, rfl, rfl, hd, hp, hF, hc, hy, hk0⟩ := h
    cases pl <;> first | cases hk | skip
    rename_i a m
    have c1 := T.cls .fee
    have n1 := T.noat .fee "one" (by decide)
    have n2 := T.noat .fee "price" (by decide)
    have pa := hp.fee
    have ca := calm_subs hc (a := a) (by simp [subs])
    have da := subs_depth (p := .fee a m) (a := a) (by simp [subs])
    have ma := ih (by omega) (kd a)
    have la := no_meth (ad := ad) a .priced
    simp only [mnm] at la
    have hk1 : k0 (optD (feeCost m y (priced F a y))) := hk0
    walk_at "dgf"
    generalize priced F a y = ua at hk1 ⊢
    cases ua
    · walk_at "dgf"
      exact hk1
    · rename_i v
      have hk2 : k0 (optD (if y = 0 then some v else some (v + m))) := hk1
      walk_at "dgf"
      all_goals first | (rw [if_pos (by assumption)] at hk2; exact hk2) | (rw [if_neg (by assumption)] at hk2; exact hk2)⟩
theorem PR_roomy (T : Txt K mg ad) {C : Addr} (h : MdAt K C "priced" "Roomy.priced" sRoomy_priced) (c : Cls K C) {n : Nat} (ih : 0 < n → ∀ c, MD P w0 K mg base (n + 9) (ad c) "made" (spOf K (sp3 (gMdC ad n (ad c))))) : MD P w0 K mg base (n + 10) C "priced" (spOf K (sp3 (gPr ad (n + 1) .roomy))) :=
  MdAt.md3 (N := ["self", "x", "forms"]) h c (fun _ _ _ _ _ _ _ _ _ => rfl) sc_Roomy_priced fun f cdv A outer s H E hr => ⟨_, _, (sdone (sdret (dcall (D_cost_at T) (hr.mono (by first | decide | omega)) (dcons (dcall (D_at_least T) (hr.mono (by first | decide | omega)) (dcons (dmeth (k := n + 9) (dfld (dv 0)) (hr.mono (by first | decide | omega)) (dcons (dv 2) (dcons dnon dnil))) dnil)) (dcons (dv 1) dnil))))), fun x1 x2 x3 k0 h => by
    obtain ⟨pl, F, y, hk, rfl, rfl, rfl, hd, hp, hF, hc, hy, hk0⟩ := h
    cases pl <;> first | cases hk | skip
    rename_i a 
    have c1 := T.cls .roomy
    have n1 := T.noat .roomy "one" (by decide)
    have pa := hp.roomy
    have ca := calm_subs hc (a := a) (by simp [subs])
    have da := subs_depth (p := .roomy a ) (a := a) (by simp [subs])
    have ma := ih (by omega) (kd a)
    have la := no_meth (ad := ad) a .made
    simp only [mnm] at la
    have fa := (pa.good hF).form
    have ba := pa.bd hF
    have br := laid_bdY (good_atLeast (pa.good hF)).2 (hp.good hF) hp.wt
    have ln := calm_len ca
    have cm := cost_mul (hp.good hF).form (hp.bd hF) hy
    walk_at "dgf"
    exact hk0⟩
end
end K36
set_option Elab.async false
set_option linter.all false
set_option maxRecDepth 100000
set_option maxHeartbeats 4000000
namespace K36
open PySem PySem.Spec PyProof.Rows L2
local macro_rules | `(tactic| walk_at "dfl") => `(tactic| first | refine sp3_go ?_ | refine sp2_go ?_ | refine sp1_go ?_ | refine sp4_go ?_ | refine ⟨_, _, _, rfl, rfl, rfl, rfl, ?_⟩ | refine ⟨_, _, rfl, rfl, rfl, rfl, ?_⟩ | refine ⟨_, _, _, rfl, by assumption, by assumption, rfl, ?_⟩ | refine ⟨_, _, _, rfl, by assumption, by assumption, by assumption, ?_⟩ | refine ⟨_, _, _, rfl, rfl, forms_get _ _, ?_⟩ | refine ⟨_, _, _, rfl, by assumption, by assumption, ?_⟩)
local macro_rules | `(tactic| walk_at "dgf") => `(tactic| (repeat' (first | walk_at "dfl" | refine ⟨_, rfl, ?_⟩ | refine ⟨_, _, rfl, ?_⟩ | refine ⟨_, _, rfl, rfl, ?_⟩ | refine ⟨_, _, _, rfl, ?_⟩ | refine ⟨_, _, _, rfl, rfl, rfl, ?_⟩ | refine ⟨_, _, _, rfl, rfl, atI_last, ?_⟩ | refine ⟨_, _, _, rfl, rfl, by assumption, ?_⟩ | refine ⟨_, _, _, _, rfl, ?_⟩ | refine And.intro rfl ?_ | refine And.intro ⟨_, rfl⟩ ?_ | refine ⟨_, .inl rfl, ?_⟩ | refine ⟨_, .inr rfl, ?_⟩ | refine t_go ?_ | refine f_go ?_ | refine d_go (fun _ => ?_) (fun _ => ?_) | refine n_go (fun _ => ?_) (fun _ => ?_) | refine c_go (fun _ => ?_) (fun _ => ?_) | refine And.intro (by walk_at "dsd") ?_ | fail)))
local macro_rules | `(tactic| walk_at "dsd") => `(tactic| first | omega | exact mulW (by omega) (by omega) | exact divW (by omega) (by omega) | assumption | ((try simp only [List.length_append, List.length_cons, List.length_nil, List.length_map, List.length_reverse, List.length_dropLast, List.length_drop, List.length_take]); omega))
local macro_rules | `(tactic| walk_at "dgo") => `(tactic| (repeat' (first | refine ⟨_, rfl, ?_⟩ | refine ⟨_, _, rfl, ?_⟩ | refine ⟨_, _, rfl, rfl, ?_⟩ | refine ⟨_, _, _, rfl, ?_⟩ | refine ⟨_, _, _, rfl, rfl, rfl, ?_⟩ | refine ⟨_, _, _, rfl, rfl, atI_last, ?_⟩ | refine ⟨_, _, _, rfl, rfl, by assumption, ?_⟩ | refine ⟨_, _, _, _, rfl, ?_⟩ | refine And.intro rfl ?_ | refine And.intro ⟨_, rfl⟩ ?_ | refine ⟨_, .inl rfl, ?_⟩ | refine ⟨_, .inr rfl, ?_⟩ | refine t_go ?_ | refine f_go ?_ | refine d_go (fun _ => ?_) (fun _ => ?_) | refine n_go (fun _ => ?_) (fun _ => ?_) | refine c_go (fun _ => ?_) (fun _ => ?_) | refine And.intro (by walk_at "dsd") ?_ | fail)))
local macro_rules | `(tactic| walk_at "dgb") => `(tactic| (repeat' (first | refine ⟨_, rfl, ?_⟩ | refine ⟨_, _, rfl, ?_⟩ | refine ⟨_, _, rfl, rfl, ?_⟩ | refine ⟨_, _, _, rfl, ?_⟩ | refine ⟨_, _, _, rfl, rfl, rfl, ?_⟩ | refine ⟨_, _, _, rfl, rfl, atI_last, ?_⟩ | refine ⟨_, _, _, rfl, rfl, by assumption, ?_⟩ | refine ⟨_, _, _, _, rfl, ?_⟩ | refine And.intro rfl ?_ | refine And.intro ⟨_, rfl⟩ ?_ | refine ⟨_, .inl rfl, ?_⟩ | refine ⟨_, .inr rfl, ?_⟩ | refine t_go ?_ | refine f_go ?_ | refine d_go (fun _ => ?_) (fun _ => ?_) | refine n_go (fun _ => ?_) (fun _ => ?_) | refine c_go (fun _ => ?_) (fun _ => ?_) | refine nb_go (fun _ => ?_) (fun _ => ?_) | refine b_go (fun _ => ?_) (fun _ => ?_) | refine And.intro (by walk_at "dsd") ?_ | fail)))
local macro_rules | `(tactic| walk_at "dif") => `(tactic| ((repeat' split) <;> first | rfl | (exfalso; omega)))
section
variable {P : Program} {w0 : World} {K : PySem.W.Frag} {mg : PySem.Str → Option Value} {base : Heap} {ad : Kd → Addr}
variable {ax : Addr}
theorem sc_Bands_priced : FnScope ["self", "x", "forms", "top", "unit"] ["self", "x", "forms"] (defScope sBands_priced) := ⟨rfl, rfl, rfl, by decide +kernel, rfl, by decide +kernel, by decide +kernel⟩
theorem sc_Steps_priced : FnScope ["self", "x", "forms", "told", "done", "top", "unit"] ["self", "x", "forms"] (defScope sSteps_priced) := ⟨rfl, rfl, rfl, by decide +kernel, rfl, by decide +kernel, by decide +kernel⟩
theorem sc_Blocks_priced : FnScope ["self", "x", "forms"] ["self", "x", "forms"] (defScope sBlocks_priced) := ⟨rfl, rfl, rfl, by decide +kernel, rfl, by decide +kernel, by decide +kernel⟩
theorem PR_bands (T : Txt K mg ad) {C : Addr} (h : MdAt K C "priced" "Bands.priced" sBands_priced) (c : Cls K C) {n : Nat} : MD P w0 K mg base (n + 10) C "priced" (spOf K (sp3 (gPr ad (n + 1) .bands))) :=
  MdAt.md3 (N := ["self", "x", "forms", "top", "unit"]) h c (fun _ _ _ _ _ _ _ _ _ => rfl) sc_Bands_priced fun f cdv A outer s H E hr => ⟨_, _, (sdcons (sdif (tlt (dv 1) dint) (sdone (sdret dnon)) sdnil)
      (sdcons (sdfor PassesOwn.never rfl (dilist (dfld (dv 0))) (gdtup rfl (gdcons (gdname (i := 3) sc_Bands_priced.nd) (gdcons (gdname (i := 4) sc_Bands_priced.nd) gdnil))) (sdone (sdif (tle (dv 1) (dv 3)) (sdone (sdret (dmul (dv 1) (dv 4)))) sdnil)))
      (sdone (sdret dnon)))), fun x1 x2 x3 k0 h => by
    obtain ⟨pl, F, y, hk, rfl, rfl, rfl, hd, hp, hF, hc, hy, hk0⟩ := h
    cases pl <;> first | cases hk | skip
    rename_i rows
    have c1 := T.cls .bands
    have n1 := T.noat .bands "rows" (by decide)
    have h1 : RowsOk LL rows := hp.ok
    have y1 := yb1
    have aU := llU
    have hk1 : k0 (optD (if y < 0 then none else bandAt rows y)) := hk0
    walk_at "dgf"
    · rw [if_pos (by assumption)] at hk1
      exact hk1
    rw [if_neg (by assumption)] at hk1
    walk_at "dgf"
    refine ⟨fun j ρ => ∃ s3 s4, ρ = [.val (ruleD ad (.bands rows)), .val (.int y), .val (formsD F), s3, s4] ∧ bandAt rows y = bandAt (rows.drop j) y, ⟨_, _, rfl, rfl⟩, fun j x ρ2 hx hI => ?_, fun ρ2 hI => ?_⟩
    · obtain ⟨⟨top, unit⟩, hr, rfl⟩ := map_get hx
      obtain ⟨s3, s4, rfl, e1⟩ := hI
      rw [drop_at hr] at e1
      have q := h1.2.2 (top, unit) (List.mem_of_getElem? hr)
      simp only at q
      simp only [bandAt] at e1
      walk_at "dgf"
      · rename_i hle
        have hle' : y ≤ top := hle
        rw [if_pos hle'] at e1
        rw [e1] at hk1
        exact hk1
      · rename_i hle
        have hle' : ¬ y ≤ top := hle
        rw [if_neg hle'] at e1
        exact e1
    · obtain ⟨s3, s4, rfl, e1⟩ := hI
      rw [List.length_map, List.drop_length] at e1
      rw [e1] at hk1
      exact hk1⟩
theorem PR_blocks (T : Txt K mg ad) {C : Addr} (h : MdAt K C "priced" "Blocks.priced" sBlocks_priced) (c : Cls K C) {n : Nat} : MD P w0 K mg base (n + 10) C "priced" (spOf K (sp3 (gPr ad (n + 1) .blocks))) :=
  MdAt.md3 (N := ["self", "x", "forms"]) h c (fun _ _ _ _ _ _ _ _ _ => rfl) sc_Blocks_priced fun f cdv A outer s H E hr => ⟨_, _, (sdcons (sdif (PWD.pt (tor (tlt (dv 1) dint) (tor1 (tgt (dv 1) (dmul (dfld (dv 0)) (dfld (dv 0))))))) (sdone (sdret dnon)) sdnil)
      (sdone (sdret (dmul (dfld (dv 0)) (dcall (D_up T) (hr.mono (by first | decide | omega)) (dcons (dv 1) (dcons (dfld (dv 0)) dnil))))))), fun x1 x2 x3 k0 h => by
    obtain ⟨pl, F, y, hk, rfl, rfl, rfl, hd, hp, hF, hc, hy, hk0⟩ := h
    cases pl <;> first | cases hk | skip
    rename_i s p m
    have c1 := T.cls .blocks
    have n1 := T.noat .blocks "size" (by decide)
    have n2 := T.noat .blocks "price" (by decide)
    have n3 := T.noat .blocks "many" (by decide)
    have h1 := hp.ok
    simp only [POk] at h1
    have y1 := yb1
    have aA := llA
    have aU := llU
    have hL := LL.hA
    have sA : s ≤ LL.A := by
      have : s * 1 ≤ s * m := Int.mul_le_mul_of_nonneg_left (by omega) (by omega)
      omega
    have hk1 : k0 (optD (if y < 0 ∨ y > s * m then none else some (p * up y s))) := hk0
    have ub : 0 ≤ y → y ≤ s * m → 0 ≤ up y s ∧ up y s ≤ m := fun a b => by
      have u1 := (up_iff (a := y) (b := s) (t := m) (by omega)).mpr (by rw [Int.mul_comm]; exact b)
      have u2 : ¬ up y s ≤ -1 := fun z => by
        have := (up_iff (a := y) (b := s) (t := -1) (by omega)).mp z
        omega
      omega
    walk_at "dgf"
    all_goals first
      | (rw [if_pos (by omega)] at hk1; walk_at "dgf"; exact hk1)
      | (have u := ub (by omega) (by omega)
         rw [if_neg (by omega)] at hk1
         walk_at "dgf"
         exact hk1)⟩
end
end K36
set_option Elab.async false
set_option linter.all false
set_option maxRecDepth 100000
set_option maxHeartbeats 4000000
namespace K36
open PySem PySem.Spec PyProof.Rows L2
local macro_rules | `(tactic| walk_at "dfl") => `(tactic| first | refine sp3_go ?_ | refine sp2_go ?_ | refine sp1_go ?_ | refine sp4_go ?_ | refine ⟨_, _, _, rfl, rfl, rfl, rfl, ?_⟩ | refine ⟨_, _, rfl, rfl, rfl, rfl, ?_⟩ | refine ⟨_, _, _, rfl, by assumption, by assumption, rfl, ?_⟩ | refine ⟨_, _, _, rfl, by assumption, by assumption, by assumption, ?_⟩ | refine ⟨_, _, _, rfl, rfl, forms_get _ _, ?_⟩ | refine ⟨_, _, _, rfl, by assumption, by assumption, ?_⟩)
local macro_rules | `(tactic| walk_at "dgf") => `(tactic| (repeat' (first | walk_at "dfl" | refine ⟨_, rfl, ?_⟩ | refine ⟨_, _, rfl, ?_⟩ | refine ⟨_, _, rfl, rfl, ?_⟩ | refine ⟨_, _, _, rfl, ?_⟩ | refine ⟨_, _, _, rfl, rfl, rfl, ?_⟩ | refine ⟨_, _, _, rfl, rfl, atI_last, ?_⟩ | refine ⟨_, _, _, rfl, rfl, by assumption, ?_⟩ | refine ⟨_, _, _, _, rfl, ?_⟩ | refine And.intro rfl ?_ | refine And.intro ⟨_, rfl⟩ ?_ | refine ⟨_, .inl rfl, ?_⟩ | refine ⟨_, .inr rfl, ?_⟩ | refine t_go ?_ | refine f_go ?_ | refine d_go (fun _ => ?_) (fun _ => ?_) | refine n_go (fun _ => ?_) (fun _ => ?_) | refine c_go (fun _ => ?_) (fun _ => ?_) | refine And.intro (by walk_at "dsd") ?_ | fail)))
local macro_rules | `(tactic| walk_at "dsd") => `(tactic| first | omega | exact mulW (by omega) (by omega) | exact divW (by omega) (by omega) | assumption | ((try simp only [List.length_append, List.length_cons, List.length_nil, List.length_map, List.length_reverse, List.length_dropLast, List.length_drop, List.length_take]); omega))
local macro_rules | `(tactic| walk_at "dgo") => `(tactic| (repeat' (first | refine ⟨_, rfl, ?_⟩ | refine ⟨_, _, rfl, ?_⟩ | refine ⟨_, _, rfl, rfl, ?_⟩ | refine ⟨_, _, _, rfl, ?_⟩ | refine ⟨_, _, _, rfl, rfl, rfl, ?_⟩ | refine ⟨_, _, _, rfl, rfl, atI_last, ?_⟩ | refine ⟨_, _, _, rfl, rfl, by assumption, ?_⟩ | refine ⟨_, _, _, _, rfl, ?_⟩ | refine And.intro rfl ?_ | refine And.intro ⟨_, rfl⟩ ?_ | refine ⟨_, .inl rfl, ?_⟩ | refine ⟨_, .inr rfl, ?_⟩ | refine t_go ?_ | refine f_go ?_ | refine d_go (fun _ => ?_) (fun _ => ?_) | refine n_go (fun _ => ?_) (fun _ => ?_) | refine c_go (fun _ => ?_) (fun _ => ?_) | refine And.intro (by walk_at "dsd") ?_ | fail)))
local macro_rules | `(tactic| walk_at "dgb") => `(tactic| (repeat' (first | refine ⟨_, rfl, ?_⟩ | refine ⟨_, _, rfl, ?_⟩ | refine ⟨_, _, rfl, rfl, ?_⟩ | refine ⟨_, _, _, rfl, ?_⟩ | refine ⟨_, _, _, rfl, rfl, rfl, ?_⟩ | refine ⟨_, _, _, rfl, rfl, atI_last, ?_⟩ | refine ⟨_, _, _, rfl, rfl, by assumption, ?_⟩ | refine ⟨_, _, _, _, rfl, ?_⟩ | refine And.intro rfl ?_ | refine And.intro ⟨_, rfl⟩ ?_ | refine ⟨_, .inl rfl, ?_⟩ | refine ⟨_, .inr rfl, ?_⟩ | refine t_go ?_ | refine f_go ?_ | refine d_go (fun _ => ?_) (fun _ => ?_) | refine n_go (fun _ => ?_) (fun _ => ?_) | refine c_go (fun _ => ?_) (fun _ => ?_) | refine nb_go (fun _ => ?_) (fun _ => ?_) | refine b_go (fun _ => ?_) (fun _ => ?_) | refine And.intro (by walk_at "dsd") ?_ | fail)))
local macro_rules | `(tactic| walk_at "dif") => `(tactic| ((repeat' split) <;> first | rfl | (exfalso; omega)))
section
variable {P : Program} {w0 : World} {K : PySem.W.Frag} {mg : PySem.Str → Option Value} {base : Heap} {ad : Kd → Addr}
variable {ax : Addr}
theorem lastTop_last : ∀ (ini : List (Int × Int)) (q : Int × Int) (t : Int), lastTop t (ini ++ [q]) = q.1
  | [], (a, b), t => rfl
  | (a, b) :: r, q, t => lastTop_last r q a
theorem tops_nonneg : ∀ {rows : List (Int × Int)} {a : Int}, TopsFrom a rows → ∀ q ∈ rows, a ≤ q.1
  | (t, u) :: r, a, h, q, hq => by
    rcases List.mem_cons.mp hq with rfl | hq
    · exact h.1
    · have := tops_nonneg h.2 q hq
      have := h.1
      omega
theorem PR_steps (T : Txt K mg ad) {C : Addr} (h : MdAt K C "priced" "Steps.priced" sSteps_priced) (c : Cls K C) {n : Nat} : MD P w0 K mg base (n + 10) C "priced" (spOf K (sp3 (gPr ad (n + 1) .steps))) :=
  MdAt.md3 (N := ["self", "x", "forms", "told", "done", "top", "unit"]) h c (fun _ _ _ _ _ _ _ _ _ => rfl) sc_Steps_priced fun f cdv A outer s H E hr => ⟨_, _, (sdcons (sdif (PWD.pt (tor (tlt (dv 1) dint) (tor1 (tgt (dv 1) (dix (dix (dfld (dv 0)) (dneg dint)) dint))))) (sdone (sdret dnon)) sdnil)
      (sdcons (sdset (i := 3) sc_Steps_priced.nd dint)
      (sdcons (sdset (i := 4) sc_Steps_priced.nd dint)
      (sdcons (sdfor PassesOwn.never rfl (dilist (dfld (dv 0))) (gdtup rfl (gdcons (gdname (i := 5) sc_Steps_priced.nd) (gdcons (gdname (i := 6) sc_Steps_priced.nd) gdnil))) (sdcons (sdaug (i := 3) sc_Steps_priced.nd (dmul (dv 6) (dsub (dmin rfl T.min (dv 1) (dv 5)) (dv 4))))
      (sdone (sdset (i := 4) sc_Steps_priced.nd (dmin rfl T.min (dv 1) (dv 5))))))
      (sdone (sdret (dv 3))))))), fun x1 x2 x3 k0 h => by
    obtain ⟨pl, F, y, hk, rfl, rfl, rfl, hd, hp, hF, hc, hy, hk0⟩ := h
    cases pl <;> first | cases hk | skip
    rename_i rows
    have c1 := T.cls .steps
    have n1 := T.noat .steps "rows" (by decide)
    have h1 : RowsOk LL rows := hp.ok
    have y1 := yb1
    have aA := llA
    have aU := llU
    have hL := LL.hA
    have tu := topsUp_of h1.2.1
    have hk1 : k0 (optD (if y < 0 ∨ y > lastTop 0 rows then none else some (stepSum y 0 0 rows))) := hk0
    obtain ⟨ini, q, hrows⟩ : ∃ ini q, rows = ini ++ [q] := ⟨rows.dropLast, rows.getLast h1.1, (List.dropLast_concat_getLast h1.1).symm⟩
    have ea : atI (rows.map twoD) (-1) = some (twoD q) := by rw [hrows, List.map_append]; exact atI_last
    have el : lastTop 0 rows = q.1 := by rw [hrows]; exact lastTop_last _ _ _
    rw [el] at hk1
    walk_at "dgf"
    all_goals first
      | (rw [if_pos (by omega)] at hk1; walk_at "dgf"; exact hk1)
      | skip
    rw [if_neg (by omega)] at hk1
    walk_at "dgf"
    refine ⟨fun j ρ => Hd (∃ told done s5 s6, ρ = [.val (ruleD ad (.steps rows)), .val (.int y), .val (formsD F), .val (.int told), .val (.int done), s5, s6] ∧ stepSum y 0 0 rows = stepSum y told done (rows.drop j) ∧ 0 ≤ done ∧ done ≤ LL.A), .mk ⟨0, 0, _, _, rfl, rfl, Int.le_refl _, by omega⟩, fun j x ρ2 hx hI => ?_, fun ρ2 hI => ?_⟩
    · obtain ⟨⟨top, unit⟩, hr, rfl⟩ := map_get hx
      obtain ⟨told, done, s5, s6, rfl, e1, b1, b2⟩ := hI.of
      rw [drop_at hr] at e1
      have m := List.mem_of_getElem? hr
      have q := h1.2.2 (top, unit) m
      have t0 := tops_nonneg h1.2.1 _ m
      simp only at q t0
      simp only [stepSum] at e1
      have pm : pyMin y top = (if top < y then top else y) := rfl
      have pm2 := pyMin_eq y top
      walk_at "dgf"
      exact .mk ⟨told + unit * (pyMin y top - done), pyMin y top, .val (.int top), .val (.int unit), rfl, e1, by omega, by omega⟩
    · obtain ⟨told, done, s5, s6, rfl, e1, b1, b2⟩ := hI.of
      rw [List.length_map, List.drop_length] at e1
      rw [e1] at hk1
      walk_at "dgf"
      exact hk1⟩
end
end K36
set_option Elab.async false
set_option linter.all false
set_option maxRecDepth 100000
set_option maxHeartbeats 4000000
namespace K36
open PySem PySem.Spec PyProof.Rows L2
local macro_rules | `(tactic| walk_at "dfl") => `(tactic| first | refine sp3_go ?_ | refine sp2_go ?_ | refine sp1_go ?_ | refine sp4_go ?_ | refine ⟨_, _, _, rfl, rfl, rfl, rfl, ?_⟩ | refine ⟨_, _, rfl, rfl, rfl, rfl, ?_⟩ | refine ⟨_, _, _, rfl, by assumption, by assumption, rfl, ?_⟩ | refine ⟨_, _, _, rfl, by assumption, by assumption, by assumption, ?_⟩ | refine ⟨_, _, _, rfl, rfl, forms_get _ _, ?_⟩ | refine ⟨_, _, _, rfl, by assumption, by assumption, ?_⟩)
local macro_rules | `(tactic| walk_at "dgf") => `(tactic| (repeat' (first | walk_at "dfl" | refine ⟨_, rfl, ?_⟩ | refine ⟨_, _, rfl, ?_⟩ | refine ⟨_, _, rfl, rfl, ?_⟩ | refine ⟨_, _, _, rfl, ?_⟩ | refine ⟨_, _, _, rfl, rfl, rfl, ?_⟩ | refine ⟨_, _, _, rfl, rfl, atI_last, ?_⟩ | refine ⟨_, _, _, rfl, rfl, by assumption, ?_⟩ | refine ⟨_, _, _, _, rfl, ?_⟩ | refine And.intro rfl ?_ | refine And.intro ⟨_, rfl⟩ ?_ | refine ⟨_, .inl rfl, ?_⟩ | refine ⟨_, .inr rfl, ?_⟩ | refine t_go ?_ | refine f_go ?_ | refine d_go (fun _ => ?_) (fun _ => ?_) | refine n_go (fun _ => ?_) (fun _ => ?_) | refine c_go (fun _ => ?_) (fun _ => ?_) | refine And.intro (by walk_at "dsd") ?_ | fail)))
local macro_rules | `(tactic| walk_at "dsd") => `(tactic| first | omega | exact mulW (by omega) (by omega) | exact divW (by omega) (by omega) | assumption | ((try simp only [List.length_append, List.length_cons, List.length_nil, List.length_map, List.length_reverse, List.length_dropLast, List.length_drop, List.length_take]); omega))
local macro_rules | `(tactic| walk_at "dgo") => `(tactic| (repeat' (first | refine ⟨_, rfl, ?_⟩ | refine ⟨_, _, rfl, ?_⟩ | refine ⟨_, _, rfl, rfl, ?_⟩ | refine ⟨_, _, _, rfl, ?_⟩ | refine ⟨_, _, _, rfl, rfl, rfl, ?_⟩ | refine ⟨_, _, _, rfl, rfl, atI_last, ?_⟩ | refine ⟨_, _, _, rfl, rfl, by assumption, ?_⟩ | refine ⟨_, _, _, _, rfl, ?_⟩ | refine And.intro rfl ?_ | refine And.intro ⟨_, rfl⟩ ?_ | refine ⟨_, .inl rfl, ?_⟩ | refine ⟨_, .inr rfl, ?_⟩ | refine t_go ?_ | refine f_go ?_ | refine d_go (fun _ => ?_) (fun _ => ?_) | refine n_go (fun _ => ?_) (fun _ => ?_) | refine c_go (fun _ => ?_) (fun _ => ?_) | refine And.intro (by walk_at "dsd") ?_ | fail)))
local macro_rules | `(tactic| walk_at "dgb") => `(tactic| (repeat' (first | refine ⟨_, rfl, ?_⟩ | refine ⟨_, _, rfl, ?_⟩ | refine ⟨_, _, rfl, rfl, ?_⟩ | refine ⟨_, _, _, rfl, ?_⟩ | refine ⟨_, _, _, rfl, rfl, rfl, ?_⟩ | refine ⟨_, _, _, rfl, rfl, atI_last, ?_⟩ | refine ⟨_, _, _, rfl, rfl, by assumption, ?_⟩ | refine ⟨_, _, _, _, rfl, ?_⟩ | refine And.intro rfl ?_ | refine And.intro ⟨_, rfl⟩ ?_ | refine ⟨_, .inl rfl, ?_⟩ | refine ⟨_, .inr rfl, ?_⟩ | refine t_go ?_ | refine f_go ?_ | refine d_go (fun _ => ?_) (fun _ => ?_) | refine n_go (fun _ => ?_) (fun _ => ?_) | refine c_go (fun _ => ?_) (fun _ => ?_) | refine nb_go (fun _ => ?_) (fun _ => ?_) | refine b_go (fun _ => ?_) (fun _ => ?_) | refine And.intro (by walk_at "dsd") ?_ | fail)))
local macro_rules | `(tactic| walk_at "dif") => `(tactic| ((repeat' split) <;> first | rfl | (exfalso; omega)))
section
variable {P : Program} {w0 : World} {K : PySem.W.Frag} {mg : PySem.Str → Option Value} {base : Heap} {ad : Kd → Addr}
variable {ax : Addr}
theorem PR_step (T : Txt K mg ad) {n : Nat} (ih : 0 < n → ∀ c, MD P w0 K mg base (n + 9) (ad c) "priced" (spOf K (sp3 (gPr ad n c)))) (mc : 0 < n → ∀ c, MD P w0 K mg base (n + 9) (ad c) "made" (spOf K (sp3 (gMdC ad n (ad c))))) : ∀ c, MD P w0 K mg base (n + 10) (ad c) "priced" (spOf K (sp3 (gPr ad (n + 1) c)))
  | .each => PR_each T (T.meth .each .priced) (T.cls _)
  | .flat => PR_flat T (T.meth .flat .priced) (T.cls _)
  | .bands => PR_bands T (T.meth .bands .priced) (T.cls _)
  | .steps => PR_steps T (T.meth .steps .priced) (T.cls _)
  | .blocks => PR_blocks T (T.meth .blocks .priced) (T.cls _)
  | .named => PR_named T (T.meth .named .priced) (T.cls _)
  | .sum => PR_sum T (T.meth .sum .priced) (T.cls _) ih
  | .cheaper => PR_cheaper T (T.meth .cheaper .priced) (T.cls _) ih
  | .dearer => PR_dearer T (T.meth .dearer .priced) (T.cls _) ih
  | .only => PR_only T (T.meth .only .priced) (T.cls _) ih
  | .after => PR_after T (T.meth .after .priced) (T.cls _) ih
  | .roomy => PR_roomy T (T.meth .roomy .priced) (T.cls _) mc
  | .fee => PR_fee T (T.meth .fee .priced) (T.cls _) ih
theorem PR_all (T : Txt K mg ad) (Z : Exn K mg ax) : ∀ n c, MD P w0 K mg base (n + 10) (ad c) "priced" (spOf K (sp3 (gPr ad (n + 1) c)))
  | 0, c => PR_step (n := 0) T (fun h => absurd h (Nat.lt_irrefl _)) (fun h => absurd h (Nat.lt_irrefl _)) c
  | n + 1, c => PR_step (n := n + 1) T (fun _ c => PR_all T Z n c) (fun _ c => MC_all T Z n c) c
end
end K36
set_option Elab.async false
set_option linter.all false
set_option maxRecDepth 100000
set_option maxHeartbeats 4000000
namespace K36
open PySem PySem.Spec PyProof.Rows L2
local macro_rules | `(tactic| walk_at "dfl") => `(tactic| first | refine sp3_go ?_ | refine sp2_go ?_ | refine sp1_go ?_ | refine sp4_go ?_ | refine ⟨_, _, _, rfl, rfl, rfl, rfl, ?_⟩ | refine ⟨_, _, rfl, rfl, rfl, rfl, ?_⟩ | refine ⟨_, _, _, rfl, by assumption, by assumption, rfl, ?_⟩ | refine ⟨_, _, _, rfl, by assumption, by assumption, by assumption, ?_⟩ | refine ⟨_, _, _, rfl, rfl, forms_get _ _, ?_⟩ | refine ⟨_, _, _, rfl, by assumption, by assumption, ?_⟩)
local macro_rules | `(tactic| walk_at "dgf") => `(tactic| (repeat' (first | walk_at "dfl" | refine ⟨_, rfl, ?_⟩ | refine ⟨_, _, rfl, ?_⟩ | refine ⟨_, _, rfl, rfl, ?_⟩ | refine ⟨_, _, _, rfl, ?_⟩ | refine ⟨_, _, _, rfl, rfl, rfl, ?_⟩ | refine ⟨_, _, _, rfl, rfl, atI_last, ?_⟩ | refine ⟨_, _, _, rfl, rfl, by assumption, ?_⟩ | refine ⟨_, _, _, _, rfl, ?_⟩ | refine And.intro rfl ?_ | refine And.intro ⟨_, rfl⟩ ?_ | refine ⟨_, .inl rfl, ?_⟩ | refine ⟨_, .inr rfl, ?_⟩ | refine t_go ?_ | refine f_go ?_ | refine d_go (fun _ => ?_) (fun _ => ?_) | refine n_go (fun _ => ?_) (fun _ => ?_) | refine c_go (fun _ => ?_) (fun _ => ?_) | refine And.intro (by walk_at "dsd") ?_ | fail)))
local macro_rules | `(tactic| walk_at "dsd") => `(tactic| first | omega | exact mulW (by omega) (by omega) | exact divW (by omega) (by omega) | assumption | ((try simp only [List.length_append, List.length_cons, List.length_nil, List.length_map, List.length_reverse, List.length_dropLast, List.length_drop, List.length_take]); omega))
local macro_rules | `(tactic| walk_at "dgo") => `(tactic| (repeat' (first | refine ⟨_, rfl, ?_⟩ | refine ⟨_, _, rfl, ?_⟩ | refine ⟨_, _, rfl, rfl, ?_⟩ | refine ⟨_, _, _, rfl, ?_⟩ | refine ⟨_, _, _, rfl, rfl, rfl, ?_⟩ | refine ⟨_, _, _, rfl, rfl, atI_last, ?_⟩ | refine ⟨_, _, _, rfl, rfl, by assumption, ?_⟩ | refine ⟨_, _, _, _, rfl, ?_⟩ | refine And.intro rfl ?_ | refine And.intro ⟨_, rfl⟩ ?_ | refine ⟨_, .inl rfl, ?_⟩ | refine ⟨_, .inr rfl, ?_⟩ | refine t_go ?_ | refine f_go ?_ | refine d_go (fun _ => ?_) (fun _ => ?_) | refine n_go (fun _ => ?_) (fun _ => ?_) | refine c_go (fun _ => ?_) (fun _ => ?_) | refine And.intro (by walk_at "dsd") ?_ | fail)))
local macro_rules | `(tactic| walk_at "dgb") => `(tactic| (repeat' (first | refine ⟨_, rfl, ?_⟩ | refine ⟨_, _, rfl, ?_⟩ | refine ⟨_, _, rfl, rfl, ?_⟩ | refine ⟨_, _, _, rfl, ?_⟩ | refine ⟨_, _, _, rfl, rfl, rfl, ?_⟩ | refine ⟨_, _, _, rfl, rfl, atI_last, ?_⟩ | refine ⟨_, _, _, rfl, rfl, by assumption, ?_⟩ | refine ⟨_, _, _, _, rfl, ?_⟩ | refine And.intro rfl ?_ | refine And.intro ⟨_, rfl⟩ ?_ | refine ⟨_, .inl rfl, ?_⟩ | refine ⟨_, .inr rfl, ?_⟩ | refine t_go ?_ | refine f_go ?_ | refine d_go (fun _ => ?_) (fun _ => ?_) | refine n_go (fun _ => ?_) (fun _ => ?_) | refine c_go (fun _ => ?_) (fun _ => ?_) | refine nb_go (fun _ => ?_) (fun _ => ?_) | refine b_go (fun _ => ?_) (fun _ => ?_) | refine And.intro (by walk_at "dsd") ?_ | fail)))
local macro_rules | `(tactic| walk_at "dif") => `(tactic| ((repeat' split) <;> first | rfl | (exfalso; omega)))
section
variable {P : Program} {w0 : World} {K : PySem.W.Frag} {mg : PySem.Str → Option Value} {base : Heap} {ad : Kd → Addr}
variable {ax : Addr}
theorem sc_Rule_cost : FnScope ["self", "x", "forms"] ["self", "x", "forms"] (defScope sRule_cost) := ⟨rfl, rfl, rfl, by decide +kernel, rfl, by decide +kernel, by decide +kernel⟩
def gCs (ad : Kd → Addr) (C : Addr) (self x forms : D) (k : D → Prop) : Prop := ∃ pl F y, ad (kd pl) = C ∧ self = ruleD ad pl ∧ x = .int y ∧ forms = formsD F ∧ PlOk pl ∧ FOk F ∧ calm F pl = true ∧ (-(50 * Yb) ≤ y ∧ y ≤ 50 * Yb) ∧ k (optD (priced F pl y))
theorem CO_step (T : Txt K mg ad) {C : Addr} (h : MdAt K C "cost" "Rule.cost" sRule_cost) (c : Cls K C) (Z : Exn K mg ax) : MD P w0 K mg base 31 C "cost" (spOf K (sp3 (gCs ad C))) :=
  MdAt.md3 (N := ["self", "x", "forms"]) h c (fun _ _ _ _ _ _ _ _ _ => rfl) sc_Rule_cost fun f cdv A outer s H E hr => ⟨_, _, (sdcons (sdexpr (dmeth (k := 23) (dv 0) (hr.mono (by first | decide | omega)) (dcons (dv 2) dnil)))
      (sdone (sdret (dmeth (k := 20 + 10) (dv 0) (hr.mono (by first | decide | omega)) (dcons (dv 1) (dcons (dv 2) dnil)))))), fun x1 x2 x3 k0 h => by
    obtain ⟨pl, F, y, e0, rfl, rfl, rfl, hp, hF, hc, hy, hk0⟩ := h
    have m1 := LK_all (P := P) (w0 := w0) (base := base) T (at_look T (kd pl)) (T.cls (kd pl))
    have m2 := PR_all (P := P) (w0 := w0) (base := base) T Z 20 (kd pl)
    have l1 := no_meth (ad := ad) pl .look_at
    have l2 := no_meth (ad := ad) pl .priced
    simp only [mnm] at l1 l2
    have hw := hp.wt
    have dw := depth_weight pl
    walk_at "dgf"
    refine ⟨pl, F, rfl, rfl, rfl, hw, ?_⟩
    walk_at "dgf"
    exact hk0⟩
end
end K36
set_option Elab.async false
set_option linter.all false
set_option maxRecDepth 100000
set_option maxHeartbeats 4000000
/-! list(reversed(a list)) -/
namespace K36V
open PySem PySem.Spec PyProof.Rows L2
section
variable {prog : Program} {w : World} {A : Around} {E : Value → Shared → Prop} {s : Shared}
theorem call_list_lri {it l : Addr} {items : Array Value} {Q : Value → Shared → Prop} (hh : A.handled = none) (hit : s.heap.IsRevIter it l ((items.size : Int) - 1)) (hl : s.heap.IsList l items) (hne : l ≠ it) (hn : items.size ≤ sizeLine)
    (hQ : ∀ (h' : Heap) (tk : Nat) (acc : Array Value) (c : Nat), (∀ b o, b ≠ it → s.heap.get? b = some o → h'.get? b = some o) → h'.get? s.heap.objs.size = some { cls := .type "list", dict := none, data := .seq acc c, slots := #[] } → ItemsOf (fun i v => items[items.size - 1 - i]? = some v) acc items.size → Q (.ref s.heap.objs.size) { s with heap := h', toks := tk }) :
    wpAny (model prog w) A (call (.type "list") [.ref it]) Q E s := by
  have W := (Walks.listRev (prog := prog) (w := w) (A := A.in1.in1) hh it l hne items).toS
  obtain ⟨oi, hoi, _⟩ := id hit
  obtain ⟨ol, hol, _⟩ := id hl
  have hSi : s.heap.objs.size ≠ it := Nat.ne_of_gt (Heap.lt_size hoi)
  have hSl : s.heap.objs.size ≠ l := Nat.ne_of_gt (Heap.lt_size hol)
  have hSf : s.heap.objs.size ∉ [it, l] := by simp only [List.mem_cons, List.not_mem_nil, or_false, not_or]; exact ⟨hSi, hSl⟩
  refine callType_codes (Q₁ := fun obj s₁ => obj = .ref s.heap.objs.size ∧ s₁ = { s with heap := s.heap.push { cls := .type "list", data := .seq #[] } }) PySem.F.called_list (PySem.F.typeCall_list_1 _) PySem.F.entry_list_init
    (code_list_new _ ⟨rfl, rfl⟩) fun obj s₁ h₁ => ?_
  obtain ⟨rfl, rfl⟩ := h₁
  have hS : (s.heap.push { cls := .type "list", data := .seq #[] }).get? s.heap.objs.size = some { cls := .type "list", data := .seq #[] } := Heap.get?_push_size _ rfl
  refine ⟨⟨_, hS, rfl⟩, PySem.F.args_list_init_2 _ _, ?_⟩
  show wpAny _ A.in1.in1 (do let old ← Builtin.List.listItems (.ref s.heap.objs.size); Builtin.List.listUpdate (.ref s.heap.objs.size) (fun _ => #[]); letGo old.toList.reverse; Builtin.List.listExtendWith (.ref s.heap.objs.size) (.ref it) .none) _ _ _
  refine wpAny_bind ?_
  unfold Builtin.List.listItems
  refine wpAny_bind (wpAny_seqItems hS rfl (wpAny_pure ?_))
  show wpAny _ A.in1.in1 (updateSeq s.heap.objs.size (fun _ => #[]) >>= fun _ => letGo (#[] : Array Value).toList.reverse >>= fun _ => Builtin.List.listExtendWith (.ref s.heap.objs.size) (.ref it) .none) _ _ _
  refine wpAny_bind (wpAny_updateSeq hS rfl ?_)
  have hS2 := Heap.get?_update_self (Obj.mapSeq (fun _ => (#[] : Array Value))) hS rfl
  refine wpAny_bind (wpAny_letGo ?_)
  have k1 : ∀ b o, s.heap.get? b = some o → (s.heap.push { cls := .type "list", data := .seq #[] }).get? b = some o := fun b o e => Heap.get?_push_of_some _ e
  have k2 : ∀ b o, s.heap.get? b = some o → ((s.heap.push { cls := .type "list", data := .seq #[] }).update s.heap.objs.size (Obj.mapSeq (fun _ => (#[] : Array Value)))).get? b = some o := fun b o e =>
    (Heap.get?_update_other _ _ (Ne.symm (Nat.ne_of_lt (Heap.lt_size e)))).trans (k1 b o e)
  have hit1 := hit.at (h' := (s.heap.push { cls := .type "list", data := .seq #[] }).update s.heap.objs.size (Obj.mapSeq (fun _ => (#[] : Array Value)))) fun o e => k2 _ o e
  have hl1 := hl.at (h' := (s.heap.push { cls := .type "list", data := .seq #[] }).update s.heap.objs.size (Obj.mapSeq (fun _ => (#[] : Array Value)))) fun o e => k2 _ o e
  have hT : ({ s with heap := (s.heap.push { cls := .type "list", data := .seq #[] }).update s.heap.objs.size (Obj.mapSeq (fun _ => (#[] : Array Value))) } : Shared).TypeIs (.ref it) "list_reverseiterator" := Heap.IsRevIter.typeIs (s := { s with heap := _ }) hit1
  have h1 : Builtin.List.listSameRef (.ref s.heap.objs.size) (.ref it) = false := by simp [Builtin.List.listSameRef, hSi]
  unfold Builtin.List.listExtendWith
  refine wpAny_bind (wpAny_typeOf hT ?_)
  rw [if_neg (by rw [h1]; decide)]
  refine wpAny_bind (wpAny_pyIter_revIter (s := { s with heap := _ }) hit1 ?_)
  refine wpAny_bind (wpAny_holding ?_)
  unfold Builtin.List.listLengthHint
  refine wpAny_bind (wpAny_specialOf hT RT.nolen_lri ?_)
  show wpAny _ A.in1.in1 (specialOf (Value.ref it) (Str.ofString "__length_hint__") >>= _) _ _ _
  refine wpAny_bind (wpAny_specialOf hT RT.hint_lri ?_)
  generalize hid : ("list_reverseiterator.__length_hint__" : String) = id0
  wp_delta
  rw [show splitId id0 = some ("list_reverseiterator", "__length_hint__") from by subst hid; decide +kernel]
  subst hid
  refine wpAny_bind (wpAny_isInstance (b := true) hT (by rw [isSubtype_type]; kernel_rfl) ?_)
  refine wpAny_pure ?_
  rw [if_neg (by decide)]
  have e0 : ((items.size : Nat) : Int) - 1 - ((0 : Nat) : Int) = (items.size : Int) - 1 := by omega
  refine wpAny_pure ⟨plainId_quiet PySem.F.plain_extend_loop _, codeAny_extend_loopS W hn _ hSf _ items.size 0 _ _ _ rfl (Nat.zero_le _) ⟨Nat.zero_le _, by rw [e0]; exact hit1, hl1⟩ hS2 (ItemsOf.nil _) fun s' acc' c' hm hS' hacc => ?_⟩
  refine ⟨rfl, ?_⟩
  rw [Moved.eq_with hm]
  refine hQ s'.heap s'.toks acc' c' (fun b o hb e => hm.heap b o (fun hmem => ?_) (k2 b o e)) hS' hacc
  rcases List.mem_cons.mp hmem with e' | hmem
  · exact absurd (Heap.lt_size e) (by rw [e']; exact Nat.lt_irrefl _)
  · exact hb (List.mem_singleton.mp hmem)
end
def tListRev (K : PySem.W.Frag) (te : TE) : TE := fun σ H Q => te σ H fun v H1 => ∃ a xs, v = .ref a ∧ SqL K H1 a xs ∧ ∀ p, H1 p = none → Q (.ref p) (upd H1 p (.lst xs.reverse))
section
variable {X : Cx}
theorem pe_listRev {e : Expr} {te : TE} {p p2 pos pos2 : Pos} (hc : X.calm = true) (hg : Gl X "list") (hm : X.mg "list" = none) (hg2 : Gl X "reversed") (hm2 : X.mg "reversed" = none) (he : PE X e te)
    (hs : starEach [e] X.env = (false, eval e X.env) :: starEach [] X.env := by rfl)
    (hs2 : starEach [.Call (.Name "reversed" p2) [e] [] pos2] X.env = (false, eval (.Call (.Name "reversed" p2) [e] [] pos2) X.env) :: starEach [] X.env := by rfl) :
    PE X (.Call (.Name "list" p) [.Call (.Name "reversed" p2) [e] [] pos2] [] pos) (tListRev X.K te) := by
  refine ⟨fun pins s σ H Q I h => ?_⟩
  refine Call_ (ld_blt I hg hm (show bootBuiltins "list" = some (.type "list") by decide +kernel) (PyProof.Rows.callWith_type1 (args_cons (Call_ (ld_blt I hg2 hm2 PyProof.Rows.boot_reversed (PyProof.Rows.callWith_type1 (args_cons (thn (he.run pins s σ H _ I h) fun u s1 ⟨v, H1, I1, r1, q1⟩ => args_nil ?_) hs) hs rfl))) hs2) hs2 rfl))
  obtain ⟨a, xs, ev, hq, q⟩ := q1
  subst ev
  obtain rfl : u = Value.ref a := r1
  obtain ⟨its, rv, p', hz⟩ := I1.list hq
  refine call_reversed_list p'.isList (args_nil ?_)
  have hl := p'.isList
  obtain ⟨ol, hol, _⟩ := id hl
  have hne : a ≠ s1.heap.objs.size := Nat.ne_of_lt (Heap.lt_size hol)
  have hn : its.toArray.size ≤ sizeLine := by rw [List.size_toArray, ← rv.length]; exact hz
  have hsz : (s1.heap.push (revObj a ((its.toArray.size : Int) - 1))).objs.size = s1.heap.objs.size + 1 := Heap.size_push _ _
  refine call_list_lri (s := { s1 with heap := s1.heap.push (revObj a ((its.toArray.size : Int) - 1)) }) (I1.ok.hd hc) ⟨_, Heap.get?_push_size _ rfl, rfl, rfl⟩ (hl.push _) hne hn fun h' tk acc c hk hS hi => ?_
  have hkp : ∀ b o, s1.heap.get? b = some o → h'.get? b = some o := fun b o e => hk b o (Nat.ne_of_lt (Heap.lt_size e)) (Heap.get?_push_of_some _ e)
  refine ⟨.ref _, upd H1 _ (.lst xs.reverse), I1.laid (t' := tk) hkp (Nat.le_trans (Nat.le_succ _) (Nat.le_of_eq hsz.symm)) (show ObjOk X.prog X.w _ _ _ (.lst xs.reverse) from ⟨by rw [List.length_reverse]; exact hz, acc.toList, c, RT.vals_rev rv hi, ?_⟩), rfl, q _ (I1.hok.fresh (Nat.le_trans (Nat.le_succ _) (Nat.le_of_eq hsz.symm)))⟩
  rw [Array.toArray_toList]
  exact hS
end
end K36V
set_option Elab.async false
set_option linter.all false
set_option maxRecDepth 100000
set_option maxHeartbeats 4000000
namespace K36
open PySem PySem.Spec PyProof.Rows L2
section
variable {X : Cx} {a b e : Expr} {ta tb te : TE} {wa wb we : DE} {pos p px p2 pos2 p1 : Pos}
theorem PED.weak {w : DE} (h : PED X e te we) (l : ∀ ρ k, w ρ k → we ρ k) : PED X e te w := ⟨h.pe, fun B Hs H σ ρ k Q r hw hQ => h.ref B Hs H σ ρ k Q r (l ρ k hw) hQ⟩
/-- a power of two written numbers -/
theorem dpowK {i j c : Int} {j1 j2} (h : i ^ j.toNat = c) (hc : CPow i j) : PED X (.BinOp (.Constant (.int i) j1 p1) .Pow (.Constant (.int j) j2 p2) pos) (tOp (rI CPow fun i j => .int (i ^ j.toNat)) (tC (.int i)) (tC (.int j))) (wC (.int c)) :=
  (dpow dint dint).weak fun ρ k q => ⟨i, j, rfl, rfl, hc, by show k (D.int (i ^ j.toNat)) ρ; rw [h]; exact q⟩
/-! ### isinstance, built-in classes -/
theorem disi {x : PySem.Str} {T n : String} {r : Bool} {C : D → Prop} (hc : ∀ K H v d, C d → DR K H v d → TyX K H v (.type n)) (hb : kitB n T = some r) (hmi : X.mg "isinstance" = none) (hmx : X.mg x = none) (hx : bootBuiltins x = some (.type T)) (ha : PED X a ta wa)
    (hgi : Gl X "isinstance" := by rfl) (hgx : Gl X x := by rfl) (hn : x ≠ "__name__" := by decide) (hdb : (x == ("__debug__" : PySem.Str)) = false := by decide)
    (hs : starEach [a, .Name x px] X.env = (false, eval a X.env) :: starEach [.Name x px] X.env := by rfl) (hs2 : starEach [.Name x px] X.env = (false, eval (.Name x px) X.env) :: starEach [] X.env := by rfl)
    (hpl : (backTo pos (starEach [.Name x px] X.env)).any (·.1) = false := by rfl) :
    PED X (.Call (.Name "isinstance" p) [a, .Name x px] [] pos) (tCB (rIsi X.K) (tCons ta (tCons (tC (.ty T)) tNil))) (fun ρ k => wa ρ fun d ρ1 => C d ∧ k (.bl r) ρ1) := by
  refine ⟨pe_callB call_isi hgi hmi (by decide +kernel) (pa_cons ha.pe (pa_cons (pe_bltn (v := .ty T) hgx hmx hx rfl hn hdb) pa_nil hs2) hs) (by decide) (by decide) hs hpl, ?_⟩
  intro B Hs H σ ρ k Q r0 hw hQ
  refine ha.ref B Hs H σ ρ _ _ r0 hw fun v Hs1 H1 d ρ1 s1 r1 d1 q1 => ?_
  obtain ⟨c, q⟩ := q1
  exact ⟨v, .ty T, .type n, .type T, r, rfl, .ty T, hc _ _ _ _ c (d1.mono r1.same), kit_ty hb, hQ _ Hs1 H1 _ ρ1 s1 r1 (.bl r) q⟩
def IsI (d : D) : Prop := ∃ i, d = .int i
def IsT (d : D) : Prop := ∃ l, d = .tup l
theorem tyx_int {K : PySem.W.Frag} {H : Hp} {v : V} {d : D} (c : IsI d) (h : DR K H v d) : TyX K H v (.type "int") := by
  obtain ⟨i, rfl⟩ := c
  rw [h.int_inv]
  exact .base (.int i)
theorem tyx_tup {K : PySem.W.Frag} {H : Hp} {v : V} {d : D} (c : IsT d) (h : DR K H v d) : TyX K H v (.type "tuple") := by
  obtain ⟨l, rfl⟩ := c
  obtain ⟨a, vs, rfl, h1, _⟩ := h.tup_inv
  exact .base (.tup h1)
theorem boot_int : bootBuiltins "int" = some (.type "int") := by decide +kernel
theorem boot_bool : bootBuiltins "bool" = some (.type "bool") := by decide +kernel
theorem boot_tupleN : bootBuiltins "tuple" = some (.type "tuple") := by decide +kernel
theorem kit_ii : kitB "int" "int" = some true := by decide +kernel
theorem kit_ib : kitB "int" "bool" = some false := by decide +kernel
theorem kit_tt : kitB "tuple" "tuple" = some true := by decide +kernel
/-! an own class -/
structure IsR (K : PySem.W.Frag) (mg : PySem.Str → Option Value) (ad : Kd → Addr) (x : PySem.Str) (cr : Addr) : Prop where
  g : mg x = some (.ref cr)
  ha : ∀ c, PySem.W.findIn K (.ref (ad c)) "__class__" = some (some (.builtin "object.__class__"))
  hn : PySem.W.specialIn K (.builtin "object.__class__") "__get__" = some (some (.builtin "getset_descriptor.__get__"))
  htk : PySem.W.takesIn K (.builtin "object.__class__") = some true
  hm : ∀ c, PySem.W.mroIn K (ad c) (.type "object") = some true
  is : ∀ c, PySem.W.kitOne K (.ref (ad c)) (.ref cr) = some true
theorem disR {x : PySem.Str} {ad : Kd → Addr} {cr : Addr} (R : IsR X.K X.mg ad x cr) (cl : ∀ c, Cls X.K (ad c)) (hmi : X.mg "isinstance" = none) (ha : PED X a ta wa)
    (hgi : Gl X "isinstance" := by rfl) (hgx : Gl X x := by rfl) (hdb : (x == ("__debug__" : PySem.Str)) = false := by decide)
    (hs : starEach [a, .Name x px] X.env = (false, eval a X.env) :: starEach [.Name x px] X.env := by rfl) (hs2 : starEach [.Name x px] X.env = (false, eval (.Name x px) X.env) :: starEach [] X.env := by rfl)
    (hpl : (backTo pos (starEach [.Name x px] X.env)).any (·.1) = false := by rfl) :
    PED X (.Call (.Name "isinstance" p) [a, .Name x px] [] pos) (tCB (rIsi X.K) (tCons ta (tCons (tC (.ref cr)) tNil))) (fun ρ k => wa ρ fun d ρ1 => (∃ c fs, d = .ins (ad c) fs) ∧ k (.bl true) ρ1) := by
  refine ⟨pe_callB call_isi hgi hmi (by decide +kernel) (pa_cons ha.pe (pa_cons (pe_glob (v := .ref cr) hgx R.g rfl hdb) pa_nil hs2) hs) (by decide) (by decide) hs hpl, ?_⟩
  intro B Hs H σ ρ k Q r0 hw hQ
  refine ha.ref B Hs H σ ρ _ _ r0 hw fun v Hs1 H1 d ρ1 s1 r1 d1 q1 => ?_
  obtain ⟨⟨c, fs, rfl⟩, q⟩ := q1
  obtain ⟨p, dx, gs, rfl, h1, _⟩ := d1.ins_inv
  exact ⟨.ref p, .ref cr, .ref (ad c), .ref cr, true, rfl, .own cr, .base (.ins (r1.same _ _ h1) (cl c) (R.ha c) R.hn R.htk (R.hm c)), R.is c, hQ _ Hs1 H1 _ ρ1 s1 r1 (.bl true) q⟩
/-! ### list(reversed(a list)) -/
theorem dlistRev (hc : X.calm = true) (hm : X.mg "list" = none) (hm2 : X.mg "reversed" = none) (ha : PED X a ta wa) (hg : Gl X "list" := by rfl) (hg2 : Gl X "reversed" := by rfl)
    (hs : starEach [a] X.env = (false, eval a X.env) :: starEach [] X.env := by rfl)
    (hs2 : starEach [.Call (.Name "reversed" p2) [a] [] pos2] X.env = (false, eval (.Call (.Name "reversed" p2) [a] [] pos2) X.env) :: starEach [] X.env := by rfl) :
    PLD X (.Call (.Name "list" p) [.Call (.Name "reversed" p2) [a] [] pos2] [] pos) (K36V.tListRev X.K ta) (fun ρ k => wa ρ fun d ρ1 => ∃ l, d = .lst l ∧ k l.reverse ρ1) := by
  refine ⟨K36V.pe_listRev hc hg hm hg2 hm2 ha.pe hs hs2, ?_⟩
  intro B Hs H σ ρ k Q r0 hw hQ
  refine ha.ref B Hs H σ ρ _ _ r0 hw fun v Hs1 H1 d ρ1 s1 r1 d1 q1 => ?_
  obtain ⟨l, rfl, q⟩ := q1
  obtain ⟨p, vs, rfl, h1, g1⟩ := d1.lst_inv
  have g2 : Rl X.K Hs1 vs.reverse l.reverse := by
    refine ⟨by rw [List.length_reverse, List.length_reverse, g1.1], fun i v d e1 e2 => ?_⟩
    have hi : i < vs.length := by
      have := (List.getElem?_eq_some_iff.mp e1).1
      rwa [List.length_reverse] at this
    rw [List.getElem?_reverse hi] at e1
    rw [List.getElem?_reverse (by rw [← g1.1]; exact hi), ← g1.1] at e2
    exact g1.2 _ v d e1 e2
  exact ⟨p, vs, rfl, SqL.of (r1.same _ _ h1), ref_new r1 g2 q fun p vs Hs' H' ds ρ' s' => hQ p vs Hs' H' ds ρ' (s1.trans s')⟩
/-! ### == of forms, or of nothing -/
def oformD : Option (List Row) → D
  | none => .non
  | some f => formD f
def rowP (r : Row) : PyData := .tuple [.int r.lo, .int r.hi, .int r.pr, .int r.st]
def oformP : Option (List Row) → PyData
  | none => .none
  | some f => .tuple (f.map rowP)
theorem dp_row {K : PySem.W.Frag} {H : Hp} {v : V} {r : Row} (h : DR K H v (rowD r)) : Dp K H v (rowP r) := by
  obtain ⟨a, vs, rfl, h1, g⟩ := DR.tup_inv h
  have e := Rl.ints (ns := [r.lo, r.hi, r.pr, r.st]) g
  subst e
  exact .tup (SqT.of h1) (.cons (.int _) (.cons (.int _) (.cons (.int _) (.cons (.int _) .nil))))
theorem dp_rows {K : PySem.W.Frag} {H : Hp} : ∀ {vs : List V} {f : List Row}, Rl K H vs (f.map rowD) → DpAll K H vs (f.map rowP)
  | vs, [], h => by rw [h.nil_inv]; exact .nil
  | vs, r :: f, h => by
    obtain ⟨v, us, rfl, h1, h2⟩ := Rl.cons_inv (ds := f.map rowD) h
    exact .cons (dp_row h1) (dp_rows h2)
theorem dp_oform {K : PySem.W.Frag} {H : Hp} {v : V} {f : Option (List Row)} (h : DR K H v (oformD f)) : Dp K H v (oformP f) := by
  cases f with
  | none => rw [DR.non_inv h]; exact .non
  | some f =>
    obtain ⟨a, vs, rfl, h1, g⟩ := DR.tup_inv h
    exact .tup (SqT.of h1) (dp_rows g)
theorem lay_rows : ∀ f : List Row, PyData.canLayAll0 (f.map rowP) = true ∧ PyData.depthAll (f.map rowP) ≤ 1
  | [] => ⟨by simp [PyData.canLayAll0], by simp [PyData.depthAll]⟩
  | r :: f => by
    obtain ⟨h1, h2⟩ := lay_rows f
    refine ⟨by simp [PyData.canLayAll0, rowP, PyData.canLay0, h1], ?_⟩
    simp [PyData.depthAll, rowP, PyData.depth]
    omega
theorem shaped_oform (f : Option (List Row)) : SeqAt.shaped (oformP f) = true := by
  cases f with
  | none => simp [SeqAt.shaped, oformP, PyData.canLay0, PyData.depth]
  | some f =>
    obtain ⟨h1, h2⟩ := lay_rows f
    simp [SeqAt.shaped, oformP, PyData.canLay0, PyData.depth, h1]
    omega
def rdEqF : RD2 := fun d e ρ k => ∃ f, d = oformD f ∧ e = oformD f ∧ k (.bl true) ρ
theorem ref_eqF {K : PySem.W.Frag} : RefR K (rEqD K) rdEqF := by
  intro B Hs H σ ρ x y d e k Q r dx dy hw hQ
  obtain ⟨f, rfl, rfl, q⟩ := hw
  refine ⟨oformP f, oformP f, dp_oform (dx.mono r.same), dp_oform (dy.mono r.same), shaped_oform f, shaped_oform f, ?_⟩
  rw [SeqAt.eqv_refl _ (SeqAt.canLay_of_shaped (shaped_oform f))]
  exact hQ _ Hs H _ ρ (Same.refl _) r (.bl true) q
theorem deqF {k : Nat} (hr : Room k X.A) (ha : PED X a ta wa) (hb : PED X b tb wb) : PED X (.Compare a [.Eq] [b] pos) (tOp (rEqD X.K) ta tb) (wOp rdEqF wa wb) := dcmp (op_eqD hr.units) ref_eqF ha hb (nomark _)
end
/-! ### which branch -/
theorem dt_go {P : Prop} [Decidable P] {A B : Prop} (hp : P) (h : A) : (decide P = true → A) ∧ (decide P = false → B) := ⟨fun _ => h, fun z => absurd hp (of_decide_eq_false z)⟩
theorem df_go {P : Prop} [Decidable P] {A B : Prop} (hp : ¬P) (h : B) : (decide P = true → A) ∧ (decide P = false → B) := ⟨fun z => absurd (of_decide_eq_true z) hp, fun _ => h⟩
theorem ndt_go {P : Prop} [Decidable P] {A B : Prop} (hp : P) (h : B) : ((!decide P) = true → A) ∧ ((!decide P) = false → B) := ⟨fun z => (by rw [decide_eq_true hp] at z; cases z), fun _ => h⟩
theorem ndf_go {P : Prop} [Decidable P] {A B : Prop} (hp : ¬P) (h : A) : ((!decide P) = true → A) ∧ ((!decide P) = false → B) := ⟨fun _ => h, fun z => (by rw [decide_eq_false hp] at z; cases z)⟩
end K36
set_option Elab.async false
set_option linter.all false
set_option maxRecDepth 100000
set_option maxHeartbeats 4000000
namespace K36
open PySem PySem.Spec PyProof.Rows L2
local macro_rules | `(tactic| walk_at "dfl") => `(tactic| first | refine sp3_go ?_ | refine sp2_go ?_ | refine sp1_go ?_ | refine sp4_go ?_ | refine ⟨_, _, _, rfl, rfl, rfl, rfl, ?_⟩ | refine ⟨_, _, rfl, rfl, rfl, rfl, ?_⟩ | refine ⟨_, _, _, rfl, by assumption, by assumption, rfl, ?_⟩ | refine ⟨_, _, _, rfl, by assumption, by assumption, by assumption, ?_⟩ | refine ⟨_, _, _, rfl, rfl, forms_get _ _, ?_⟩ | refine ⟨_, _, _, rfl, by assumption, by assumption, ?_⟩)
local macro_rules | `(tactic| walk_at "dgf") => `(tactic| (repeat' (first | walk_at "dfl" | refine ⟨_, rfl, ?_⟩ | refine ⟨_, _, rfl, ?_⟩ | refine ⟨_, _, rfl, rfl, ?_⟩ | refine ⟨_, _, _, rfl, ?_⟩ | refine ⟨_, _, _, rfl, rfl, rfl, ?_⟩ | refine ⟨_, _, _, rfl, rfl, atI_last, ?_⟩ | refine ⟨_, _, _, rfl, rfl, by assumption, ?_⟩ | refine ⟨_, _, _, _, rfl, ?_⟩ | refine And.intro rfl ?_ | refine And.intro ⟨_, rfl⟩ ?_ | refine ⟨_, .inl rfl, ?_⟩ | refine ⟨_, .inr rfl, ?_⟩ | refine t_go ?_ | refine f_go ?_ | refine d_go (fun _ => ?_) (fun _ => ?_) | refine n_go (fun _ => ?_) (fun _ => ?_) | refine c_go (fun _ => ?_) (fun _ => ?_) | refine And.intro (by walk_at "dsd") ?_ | fail)))
local macro_rules | `(tactic| walk_at "dsd") => `(tactic| first | omega | exact mulW (by omega) (by omega) | exact divW (by omega) (by omega) | assumption | ((try simp only [List.length_append, List.length_cons, List.length_nil, List.length_map, List.length_reverse, List.length_dropLast, List.length_drop, List.length_take]); omega))
local macro_rules | `(tactic| walk_at "dgo") => `(tactic| (repeat' (first | refine ⟨_, rfl, ?_⟩ | refine ⟨_, _, rfl, ?_⟩ | refine ⟨_, _, rfl, rfl, ?_⟩ | refine ⟨_, _, _, rfl, ?_⟩ | refine ⟨_, _, _, rfl, rfl, rfl, ?_⟩ | refine ⟨_, _, _, rfl, rfl, atI_last, ?_⟩ | refine ⟨_, _, _, rfl, rfl, by assumption, ?_⟩ | refine ⟨_, _, _, _, rfl, ?_⟩ | refine And.intro rfl ?_ | refine And.intro ⟨_, rfl⟩ ?_ | refine ⟨_, .inl rfl, ?_⟩ | refine ⟨_, .inr rfl, ?_⟩ | refine t_go ?_ | refine f_go ?_ | refine d_go (fun _ => ?_) (fun _ => ?_) | refine n_go (fun _ => ?_) (fun _ => ?_) | refine c_go (fun _ => ?_) (fun _ => ?_) | refine And.intro (by walk_at "dsd") ?_ | fail)))
local macro_rules | `(tactic| walk_at "dgb") => `(tactic| (repeat' (first | refine ⟨_, rfl, ?_⟩ | refine ⟨_, _, rfl, ?_⟩ | refine ⟨_, _, rfl, rfl, ?_⟩ | refine ⟨_, _, _, rfl, ?_⟩ | refine ⟨_, _, _, rfl, rfl, rfl, ?_⟩ | refine ⟨_, _, _, rfl, rfl, atI_last, ?_⟩ | refine ⟨_, _, _, rfl, rfl, by assumption, ?_⟩ | refine ⟨_, _, _, _, rfl, ?_⟩ | refine And.intro rfl ?_ | refine And.intro ⟨_, rfl⟩ ?_ | refine ⟨_, .inl rfl, ?_⟩ | refine ⟨_, .inr rfl, ?_⟩ | refine t_go ?_ | refine f_go ?_ | refine d_go (fun _ => ?_) (fun _ => ?_) | refine n_go (fun _ => ?_) (fun _ => ?_) | refine c_go (fun _ => ?_) (fun _ => ?_) | refine nb_go (fun _ => ?_) (fun _ => ?_) | refine b_go (fun _ => ?_) (fun _ => ?_) | refine And.intro (by walk_at "dsd") ?_ | fail)))
local macro_rules | `(tactic| walk_at "dif") => `(tactic| ((repeat' split) <;> first | rfl | (exfalso; omega)))
section
variable {P : Program} {w0 : World} {K : PySem.W.Frag} {mg : PySem.Str → Option Value} {base : Heap} {ad : Kd → Addr}
theorem sc__law_at : FnScope ["script", "k"] ["script", "k"] (defScope sLawAt) := ⟨rfl, rfl, rfl, by decide +kernel, rfl, by decide +kernel, by decide +kernel⟩
theorem sc__law_mix : FnScope ["cell", "k", "size", "odd", "big"] ["cell", "k", "size"] (defScope sLawMix) := ⟨rfl, rfl, rfl, by decide +kernel, rfl, by decide +kernel, by decide +kernel⟩
theorem sc__law_price : FnScope ["cell", "k", "most"] ["cell", "k"] (defScope sLawPrice) := ⟨rfl, rfl, rfl, by decide +kernel, rfl, by decide +kernel, by decide +kernel⟩
def IsScr (s : D) (ns : List Int) : Prop := s = .scr ns ∨ s = .lst (ns.map D.int)
def gAt (s i : D) (k : D → Prop) : Prop := ∃ ns j, IsScr s ns ∧ i = .int j ∧ (0 ≤ j ∧ j ≤ 1000) ∧ ∀ z : Int, k (.int z)
theorem D__law_at (T : Txt K mg ad) : DF P w0 K mg base 1 "_law_at" ["script", "k"] (spOf K (sp2 gAt)) :=
  T.f__law_at.df2 (N := ["script", "k"]) (fun _ _ _ _ _ _ _ _ => rfl) sc__law_at fun f cdv A outer s H E hr => ⟨_, _, (sdcons (sdif (tlt (dv 1) (dlen T.len (dv 0))) (sdone (sdret (dix (dv 0) (dv 1)))) sdnil)
      (sdone (sdret dint))), fun a b k0 h => by
    obtain ⟨ns, j, hs, rfl, h0, hk⟩ := h
    by_cases hj : j < ns.length
    · obtain ⟨z, hz⟩ : ∃ z, ns[j.toNat]? = some z := ⟨_, List.getElem?_eq_getElem (by omega)⟩
      have hx : atI (ns.map D.int) j = some (.int z) := by
        have e : j = ((j.toNat : Nat) : Int) := by omega
        rw [e]
        exact atI_nat (by rw [List.getElem?_map, hz]; rfl)
      rcases hs with rfl | rfl
      all_goals
        walk_at "dgo"
        all_goals first | exact hk z | (exfalso; simp only [List.length_map] at *; omega)
    · rcases hs with rfl | rfl
      all_goals
        walk_at "dgo"
        all_goals first | exact hk 0 | (exfalso; simp only [List.length_map] at *; omega)⟩
def gMix (c i n : D) (k : D → Prop) : Prop := ∃ cell j z, c = .int cell ∧ i = .int j ∧ n = .int z ∧ (0 ≤ j ∧ j ≤ 1000) ∧ (0 < z ∧ z ≤ 10000000000000000000000000000000000000000) ∧ ∀ r : Int, 0 ≤ r → r < z → k (.int r)
theorem ybig : 1000000000000000000000000000000000000000000000000000000000000000000000000000000000000000000000000000000000000000000000000000000000000000000 ≤ Yb := by unfold Yb; decide +kernel
theorem mulB {x y a b : Int} (hx : 0 ≤ x ∧ x ≤ a) (hy : 0 ≤ y ∧ y ≤ b) : 0 ≤ x * y ∧ x * y ≤ a * b := by
  refine ⟨Int.mul_nonneg hx.1 hy.1, ?_⟩
  exact Int.le_trans (Int.mul_le_mul_of_nonneg_right hx.2 hy.1) (Int.mul_le_mul_of_nonneg_left hy.2 (by omega))
theorem D__law_mix (T : Txt K mg ad) : DF P w0 K mg base 1 "_law_mix" ["cell", "k", "size"] (spOf K (sp3 gMix)) :=
  T.f__law_mix.df3 (N := ["cell", "k", "size", "odd", "big"]) (fun _ _ _ _ _ _ _ _ _ => rfl) sc__law_mix fun f cdv A outer s H E hr => ⟨_, _, (sdcons (sdset (i := 3) sc__law_mix.nd (dadd dint (dmul (dmul dint (dv 1)) (dv 1))))
      (sdcons (sdset (i := 4) sc__law_mix.nd (dadd (dmul (dadd (dmod (dv 0) (dpowK (c := 1000000000000000000000000000000000000000000000000000000000000) (by decide +kernel) ⟨by decide, by decide, by decide⟩)) dint) (dv 3)) (dmul dint (dv 1))))
      (sdone (sdret (dmod (ddiv (dmod (dmul (dv 4) (dv 4)) (dadd (dpowK (c := 1000000000000000000000000000000000000000000000000000000000000) (by decide +kernel) ⟨by decide, by decide, by decide⟩) dint)) dint) (dv 2)))))), fun a b c k0 h => by
    obtain ⟨cell, j, z, rfl, rfl, rfl, hj, hz, hk⟩ := h
    have y := ybig
    have m1 : CMulW 2 j := mulW (by omega) (by omega)
    have m2 : CMulW (2 * j) j := mulW (by omega) (by omega)
    have b2 := mulB (x := 2 * j) (y := j) (a := 2000) (b := 1000) (by omega) hj
    have c1 : 0 ≤ cell % 1000000000000000000000000000000000000000000000000000000000000 ∧ cell % 1000000000000000000000000000000000000000000000000000000000000 < 1000000000000000000000000000000000000000000000000000000000000 := ⟨Int.emod_nonneg _ (by decide), Int.emod_lt_of_pos _ (by decide)⟩
    have m3 : CMulW (cell % 1000000000000000000000000000000000000000000000000000000000000 + 1) (271828182845904523536028747135266249775724709369995 + 2 * j * j) := mulW (by omega) (by omega)
    have b3 := mulB (x := cell % 1000000000000000000000000000000000000000000000000000000000000 + 1) (y := 271828182845904523536028747135266249775724709369995 + 2 * j * j) (a := 1000000000000000000000000000000000000000000000000000000000000) (b := 1000000000000000000000000000000000000000000000000000) (by omega) (by omega)
    have m4 : CMulW 7907 j := mulW (by omega) (by omega)
    have m5 : CMulW ((cell % 1000000000000000000000000000000000000000000000000000000000000 + 1) * (271828182845904523536028747135266249775724709369995 + 2 * j * j) + 7907 * j) ((cell % 1000000000000000000000000000000000000000000000000000000000000 + 1) * (271828182845904523536028747135266249775724709369995 + 2 * j * j) + 7907 * j) := mulW (by omega) (by omega)
    walk_at "dgo"
    exact hk _ (Int.emod_nonneg _ (by omega)) (Int.emod_lt_of_pos _ hz.1)⟩
def gPrice (c i : D) (k : D → Prop) : Prop := ∃ cell j, c = .int cell ∧ i = .int j ∧ (0 ≤ j ∧ j ≤ 900) ∧ ∀ p : Int, -1000000000000000000000000000000000000000 ≤ p → p ≤ 1000000000000000000000000000000000000000 → k (.int p)
theorem D__law_price (T : Txt K mg ad) : DF P w0 K mg base 2 "_law_price" ["cell", "k"] (spOf K (sp2 gPrice)) :=
  T.f__law_price.df2 (N := ["cell", "k", "most"]) (fun _ _ _ _ _ _ _ _ => rfl) sc__law_price fun f cdv A outer s H E hr => ⟨_, _, (sdcons (sdset (i := 2) sc__law_price.nd (dix (PLD.asE (dlist (dcons dint (dcons (dpowK (c := 1000000000) (by decide +kernel) ⟨by decide, by decide, by decide⟩) (dcons (dpowK (c := 1000000000000000000000000000000000000000) (by decide +kernel) ⟨by decide, by decide, by decide⟩) dnil))))) (dcall (D__law_mix T) (hr.mono (by first | decide | omega)) (dcons (dv 0) (dcons (dadd (dv 1) dint) (dcons dint dnil))))))
      (sdone (sdret (dsub (dcall (D__law_mix T) (hr.mono (by first | decide | omega)) (dcons (dv 0) (dcons (dv 1) (dcons (dadd (dmul dint (dv 2)) dint) dnil)))) (dv 2))))), fun a b k0 h => by
    obtain ⟨cell, j, rfl, rfl, hj, hk⟩ := h
    have y := ybig
    walk_at "dgo"
    intro r h0 h1
    have : r = 0 ∨ r = 1 ∨ r = 2 := by omega
    rcases this with rfl | rfl | rfl
    all_goals
      walk_at "dgo"
      intro r h0 h1
      walk_at "dgo"
      exact hk _ (by omega) (by omega)⟩
end
end K36
set_option Elab.async false
set_option linter.all false
set_option maxRecDepth 100000
set_option maxHeartbeats 4000000
namespace K36
open PySem PySem.Spec PyProof.Rows L2
local macro_rules | `(tactic| walk_at "dfl") => `(tactic| first | refine sp3_go ?_ | refine sp2_go ?_ | refine sp1_go ?_ | refine sp4_go ?_ | refine ⟨_, _, _, rfl, rfl, rfl, rfl, ?_⟩ | refine ⟨_, _, rfl, rfl, rfl, rfl, ?_⟩ | refine ⟨_, _, _, rfl, by assumption, by assumption, rfl, ?_⟩ | refine ⟨_, _, _, rfl, by assumption, by assumption, by assumption, ?_⟩ | refine ⟨_, _, _, rfl, rfl, forms_get _ _, ?_⟩ | refine ⟨_, _, _, rfl, by assumption, by assumption, ?_⟩)
local macro_rules | `(tactic| walk_at "dgf") => `(tactic| (repeat' (first | walk_at "dfl" | refine ⟨_, rfl, ?_⟩ | refine ⟨_, _, rfl, ?_⟩ | refine ⟨_, _, rfl, rfl, ?_⟩ | refine ⟨_, _, _, rfl, ?_⟩ | refine ⟨_, _, _, rfl, rfl, rfl, ?_⟩ | refine ⟨_, _, _, rfl, rfl, atI_last, ?_⟩ | refine ⟨_, _, _, rfl, rfl, by assumption, ?_⟩ | refine ⟨_, _, _, _, rfl, ?_⟩ | refine And.intro rfl ?_ | refine And.intro ⟨_, rfl⟩ ?_ | refine ⟨_, .inl rfl, ?_⟩ | refine ⟨_, .inr rfl, ?_⟩ | refine t_go ?_ | refine f_go ?_ | refine d_go (fun _ => ?_) (fun _ => ?_) | refine n_go (fun _ => ?_) (fun _ => ?_) | refine c_go (fun _ => ?_) (fun _ => ?_) | refine And.intro (by walk_at "dsd") ?_ | fail)))
local macro_rules | `(tactic| walk_at "dsd") => `(tactic| first | omega | exact mulW (by omega) (by omega) | exact divW (by omega) (by omega) | assumption | ((try simp only [List.length_append, List.length_cons, List.length_nil, List.length_map, List.length_reverse, List.length_dropLast, List.length_drop, List.length_take]); omega))
local macro_rules | `(tactic| walk_at "dgo") => `(tactic| (repeat' (first | refine ⟨_, rfl, ?_⟩ | refine ⟨_, _, rfl, ?_⟩ | refine ⟨_, _, rfl, rfl, ?_⟩ | refine ⟨_, _, _, rfl, ?_⟩ | refine ⟨_, _, _, rfl, rfl, rfl, ?_⟩ | refine ⟨_, _, _, rfl, rfl, atI_last, ?_⟩ | refine ⟨_, _, _, rfl, rfl, by assumption, ?_⟩ | refine ⟨_, _, _, _, rfl, ?_⟩ | refine And.intro rfl ?_ | refine And.intro ⟨_, rfl⟩ ?_ | refine ⟨_, .inl rfl, ?_⟩ | refine ⟨_, .inr rfl, ?_⟩ | refine t_go ?_ | refine f_go ?_ | refine d_go (fun _ => ?_) (fun _ => ?_) | refine n_go (fun _ => ?_) (fun _ => ?_) | refine c_go (fun _ => ?_) (fun _ => ?_) | refine And.intro (by walk_at "dsd") ?_ | fail)))
local macro_rules | `(tactic| walk_at "dgb") => `(tactic| (repeat' (first | refine ⟨_, rfl, ?_⟩ | refine ⟨_, _, rfl, ?_⟩ | refine ⟨_, _, rfl, rfl, ?_⟩ | refine ⟨_, _, _, rfl, ?_⟩ | refine ⟨_, _, _, rfl, rfl, rfl, ?_⟩ | refine ⟨_, _, _, rfl, rfl, atI_last, ?_⟩ | refine ⟨_, _, _, rfl, rfl, by assumption, ?_⟩ | refine ⟨_, _, _, _, rfl, ?_⟩ | refine And.intro rfl ?_ | refine And.intro ⟨_, rfl⟩ ?_ | refine ⟨_, .inl rfl, ?_⟩ | refine ⟨_, .inr rfl, ?_⟩ | refine t_go ?_ | refine f_go ?_ | refine d_go (fun _ => ?_) (fun _ => ?_) | refine n_go (fun _ => ?_) (fun _ => ?_) | refine c_go (fun _ => ?_) (fun _ => ?_) | refine nb_go (fun _ => ?_) (fun _ => ?_) | refine b_go (fun _ => ?_) (fun _ => ?_) | refine And.intro (by walk_at "dsd") ?_ | fail)))
local macro_rules | `(tactic| walk_at "dif") => `(tactic| ((repeat' split) <;> first | rfl | (exfalso; omega)))
local macro_rules | `(tactic| walk_at "dgs") => `(tactic| (repeat' (first | refine dt_go (P := @Eq PySem.Str _ _) (by decide +kernel) ?_ | refine df_go (P := @Eq PySem.Str _ _) (by decide +kernel) ?_ | refine ndt_go (P := @Eq PySem.Str _ _) (by decide +kernel) ?_ | refine ndf_go (P := @Eq PySem.Str _ _) (by decide +kernel) ?_ | refine ⟨_, rfl, ?_⟩ | refine ⟨_, _, rfl, ?_⟩ | refine ⟨_, _, rfl, rfl, ?_⟩ | refine ⟨_, _, _, rfl, ?_⟩ | refine ⟨_, _, _, rfl, rfl, rfl, ?_⟩ | refine ⟨_, _, _, rfl, rfl, atI_last, ?_⟩ | refine ⟨_, _, _, rfl, rfl, by assumption, ?_⟩ | refine ⟨_, _, _, _, rfl, ?_⟩ | refine And.intro rfl ?_ | refine And.intro ⟨_, rfl⟩ ?_ | refine ⟨_, .inl rfl, ?_⟩ | refine ⟨_, .inr rfl, ?_⟩ | refine t_go ?_ | refine f_go ?_ | refine d_go (fun _ => ?_) (fun _ => ?_) | refine n_go (fun _ => ?_) (fun _ => ?_) | refine c_go (fun _ => ?_) (fun _ => ?_) | refine And.intro (by walk_at "dsd") ?_ | fail)))
local macro_rules | `(tactic| walk_at "dmx") => `(tactic| walk_at "dgs")
local macro_rules | `(tactic| walk_at "dgs1") => `(tactic| (first | refine dt_go (P := @Eq PySem.Str _ _) (by decide +kernel) ?_ | refine df_go (P := @Eq PySem.Str _ _) (by decide +kernel) ?_ | refine ndt_go (P := @Eq PySem.Str _ _) (by decide +kernel) ?_ | refine ndf_go (P := @Eq PySem.Str _ _) (by decide +kernel) ?_ | refine ⟨_, rfl, ?_⟩ | refine ⟨_, _, rfl, ?_⟩ | refine ⟨_, _, rfl, rfl, ?_⟩ | refine ⟨_, _, _, rfl, ?_⟩ | refine ⟨_, _, _, rfl, rfl, rfl, ?_⟩ | refine ⟨_, _, _, rfl, rfl, atI_last, ?_⟩ | refine ⟨_, _, _, rfl, rfl, by assumption, ?_⟩ | refine ⟨_, _, _, _, rfl, ?_⟩ | refine And.intro rfl ?_ | refine And.intro ⟨_, rfl⟩ ?_ | refine ⟨_, .inl rfl, ?_⟩ | refine ⟨_, .inr rfl, ?_⟩ | refine t_go ?_ | refine f_go ?_ | refine d_go (fun _ => ?_) (fun _ => ?_) | refine n_go (fun _ => ?_) (fun _ => ?_) | refine c_go (fun _ => ?_) (fun _ => ?_) | refine And.intro (by walk_at "dsd") ?_))
local macro_rules | `(tactic| walk_at "dgr") => `(tactic| (repeat' (first | refine dt_go (P := @Membership.mem PySem.Str _ _ _ _) (by decide +kernel) ?_ | refine df_go (P := @Membership.mem PySem.Str _ _ _ _) (by decide +kernel) ?_ | walk_at "dgs1" | refine ⟨_, ["plus", "or", "max"], rfl, rfl, ?_⟩ | refine ⟨_, ["plus", "or", "max", "only", "after", "fee"], rfl, rfl, ?_⟩ | refine ⟨_, ⟨_, rfl, rfl⟩, ?_⟩ | refine ⟨_, ⟨_, _, rfl, rfl⟩, ?_⟩ | refine ⟨_, ⟨_, _, _, rfl, rfl⟩, ?_⟩ | fail)))
local macro_rules | `(tactic| walk_at "dpr") => `(tactic| walk_at "dgs")
section
variable {P : Program} {w0 : World} {K : PySem.W.Frag} {mg : PySem.Str → Option Value} {base : Heap} {ad : Kd → Addr}
theorem sc__law_rows : FnScope ["cell", "scale", "rows", "top", "j"] ["cell", "scale"] (defScope sLawRows) := ⟨rfl, rfl, rfl, by decide +kernel, rfl, by decide +kernel, by decide +kernel⟩
theorem sc__law_leaf : FnScope ["cell", "scale", "kind", "price", "low", "high"] ["cell", "scale"] (defScope sLawLeaf) := ⟨rfl, rfl, rfl, by decide +kernel, rfl, by decide +kernel, by decide +kernel⟩
theorem sc__law_form : FnScope ["cell", "scale", "told", "low", "j", "high", "step"] ["cell", "scale"] (defScope sLawForm) := ⟨rfl, rfl, rfl, by decide +kernel, rfl, by decide +kernel, by decide +kernel⟩
def planD : Plan → D
  | .each u lo hi => .tup [.str "each", .int u, .int lo, .int hi]
  | .flat p lo hi => .tup [.str "flat", .int p, .int lo, .int hi]
  | .bands rows => .tup [.str "bands", twosD rows]
  | .steps rows => .tup [.str "steps", twosD rows]
  | .blocks s p m => .tup [.str "blocks", .int s, .int p, .int m]
  | .name n => .tup [.str "name", .str (nmS n)]
  | .plus a b => .tup [.str "plus", planD a, planD b]
  | .or_ a b => .tup [.str "or", planD a, planD b]
  | .max_ a b => .tup [.str "max", planD a, planD b]
  | .only a lo hi => .tup [.str "only", planD a, .int lo, .int hi]
  | .after a c => .tup [.str "after", planD a, .int c]
  | .fee a p => .tup [.str "fee", planD a, .int p]
  | .roomy a => .tup [.str "roomy", planD a]
theorem aBig : 1000000000000000000000000000000000000000000000 ≤ LL.A := by unfold LL; decide +kernel
theorem uBig : 100000000000000000000000000000000000000000 ≤ LL.U := by unfold LL; decide +kernel
theorem mBig : 100000000000000000000000000000000000000000000000000000000000000000000000000000000000 ≤ LL.M := by unfold LL; decide +kernel
theorem range_get {lo : Int} {n j : Nat} {x : D} (h : (rangeD lo n)[j]? = some x) : j < n ∧ x = .int (lo + (j : Int)) := by
  have hj : j < n := by
    have := (List.getElem?_eq_some_iff.mp h).1
    rwa [rangeD_length] at this
  rw [rangeD_get hj] at h
  exact ⟨hj, (Option.some.inj h).symm⟩
theorem tops_snoc : ∀ {rows : List (Int × Int)} {lo t p : Int}, TopsFrom lo rows → (∀ q ∈ rows, q.1 < t) → lo ≤ t → TopsFrom lo (rows ++ [(t, p)])
  | [], _, _, _, _, _, h => ⟨h, trivial⟩
  | (a, b) :: r, lo, t, p, h, g, _ => ⟨h.1, tops_snoc h.2 (fun q hq => g q (List.mem_cons_of_mem _ hq)) (by have := g (a, b) List.mem_cons_self; dsimp only at this; omega)⟩
def gRows (c s : D) (k : D → Prop) : Prop := ∃ cell sc, c = .int cell ∧ s = .int sc ∧ (0 < sc ∧ sc ≤ 100000000000000000000000000000000000000) ∧ ∀ rows, RowsOk LL rows → rows.length ≤ 3 → k (twosD rows)
theorem D__law_rows (T : Txt K mg ad) : DF P w0 K mg base 3 "_law_rows" ["cell", "scale"] (spOf K (sp2 gRows)) :=
  T.f__law_rows.df2 (N := ["cell", "scale", "rows", "top", "j"]) (fun _ _ _ _ _ _ _ _ => rfl) sc__law_rows fun f cdv A outer s H E hr => ⟨_, _, (sdcons (sdsetL (i := 2) sc__law_rows.nd (dlist dnil))
      (sdcons (sdset (i := 3) sc__law_rows.nd (ddiv (dmul (dcall (D__law_mix T) (hr.mono (by first | decide | omega)) (dcons (dv 0) (dcons dint (dcons (dv 1) dnil)))) (dcall (D__law_mix T) (hr.mono (by first | decide | omega)) (dcons (dv 0) (dcons dint (dcons dint dnil))))) dint))
      (sdcons (sdfor PassesOwn.never rfl (dirange1 T.range (dadd dint (dcall (D__law_mix T) (hr.mono (by first | decide | omega)) (dcons (dv 0) (dcons dint (dcons dint dnil)))))) (gdname (i := 4) sc__law_rows.nd) (sdcons (sdexpr (dappend 2 (dtup (dcons (dv 3) (dcons (dcall (D__law_price T) (hr.mono (by first | decide | omega)) (dcons (dv 0) (dcons (dadd dint (dv 4)) dnil))) dnil)))))
      (sdone (sdset (i := 3) sc__law_rows.nd (dadd (dadd (dv 3) dint) (dcall (D__law_mix T) (hr.mono (by first | decide | omega)) (dcons (dv 0) (dcons (dadd dint (dv 4)) (dcons (dv 1) dnil)))))))))
      (sdone (sdret (dvo 2)))))), fun a b k0 h => by
    obtain ⟨cell, sc, rfl, rfl, hs, hk⟩ := h
    have y := ybig
    walk_at "dmx"
    intro r1 a1 b1
    walk_at "dmx"
    intro r2 a2 b2
    have m := mulB (x := r1) (y := r2) (a := 100000000000000000000000000000000000000) (b := 2) (by omega) (by omega)
    walk_at "dmx"
    intro r3 a3 b3
    walk_at "dgs"
    refine ⟨fun i ρ => Hd (∃ (rows : List (Int × Int)) (top : Int) (s4 : Sl), ρ = [.val (.int cell), .val (.int sc), .own (rows.map twoD), .val (.int top), s4] ∧ rows.length = i ∧ TopsFrom 0 rows ∧
      (∀ q ∈ rows, q.1 < top ∧ -1000000000000000000000000000000000000000 ≤ q.2 ∧ q.2 ≤ 1000000000000000000000000000000000000000) ∧ 0 ≤ top ∧ top ≤ 1000000000000000000000000000000000000000 + (i : Int) * 1000000000000000000000000000000000000000),
      .mk ⟨[], _, _, rfl, rfl, trivial, fun q hq => (by cases hq), by omega, by omega⟩, fun j x ρ2 hx hI => ?_, fun ρ2 hI => ?_⟩
    · obtain ⟨hj, rfl⟩ := range_get hx
      obtain ⟨rows, top, s4, rfl, hl, ht, hq, t0, t1⟩ := hI.of
      have hj3 : j < 3 := by omega
      walk_at "dpr"
      intro p p0 p1
      walk_at "dmx"
      intro r4 a4 b4
      walk_at "dgs"
      refine .mk ⟨rows ++ [(top, p)], _, _, by rw [List.map_append]; rfl, by rw [List.length_append, hl]; rfl, tops_snoc ht (fun q h => (hq q h).1) t0, fun q h => ?_, by omega, by omega⟩
      rcases List.mem_append.mp h with h | h
      · have := hq q h; omega
      · rw [List.mem_singleton.mp h]; dsimp only; omega
    · obtain ⟨rows, top, s4, rfl, hl, ht, hq, t0, t1⟩ := hI.of
      rw [rangeD_length] at hl t1
      walk_at "dgs"
      have a := aBig
      have u := uBig
      refine hk rows ⟨fun z => by subst z; simp at hl; omega, ht, fun q h => ?_⟩ (by omega)
      have := hq q h
      omega⟩
def gLeaf (c s : D) (k : D → Prop) : Prop := ∃ cell sc, c = .int cell ∧ s = .int sc ∧ (0 < sc ∧ sc ≤ 100000000000000000000000000000000000000) ∧ ∀ pl, POk LL pl → small pl → weight pl = 1 → k (planD pl)
theorem D__law_leaf (T : Txt K mg ad) : DF P w0 K mg base 4 "_law_leaf" ["cell", "scale"] (spOf K (sp2 gLeaf)) :=
  T.f__law_leaf.df2 (N := ["cell", "scale", "kind", "price", "low", "high"]) (fun _ _ _ _ _ _ _ _ => rfl) sc__law_leaf fun f cdv A outer s H E hr => ⟨_, _, (sdcons (sdset (i := 2) sc__law_leaf.nd (dix (PLD.asE (dlist (dcons dstr (dcons dstr (dcons dstr (dcons dstr (dcons dstr (dcons dstr dnil)))))))) (dcall (D__law_mix T) (hr.mono (by first | decide | omega)) (dcons (dv 0) (dcons dint (dcons dint dnil))))))
      (sdcons (sdset (i := 3) sc__law_leaf.nd (dcall (D__law_price T) (hr.mono (by first | decide | omega)) (dcons (dv 0) (dcons dint dnil))))
      (sdcons (sdset (i := 4) sc__law_leaf.nd (dmul (dcall (D__law_mix T) (hr.mono (by first | decide | omega)) (dcons (dv 0) (dcons dint (dcons (dv 1) dnil)))) (dcall (D__law_mix T) (hr.mono (by first | decide | omega)) (dcons (dv 0) (dcons dint (dcons dint dnil))))))
      (sdcons (sdset (i := 5) sc__law_leaf.nd (dadd (dv 4) (dmul (dcall (D__law_mix T) (hr.mono (by first | decide | omega)) (dcons (dv 0) (dcons dint (dcons (dv 1) dnil)))) (dcall (D__law_mix T) (hr.mono (by first | decide | omega)) (dcons (dv 0) (dcons dint (dcons dint dnil)))))))
      (sdcons (sdif (PWD.pt (tor (teq (dv 2) dstr) (tor1 (teq (dv 2) dstr)))) (sdone (sdret (dtup (dcons (dv 2) (dcons (dcall (D__law_rows T) (hr.mono (by first | decide | omega)) (dcons (dv 0) (dcons (dv 1) dnil))) dnil))))) sdnil)
      (sdcons (sdif (teq (dv 2) dstr) (sdone (sdret (dtup (dcons (dv 2) (dcons (dadd dint (dcall (D__law_mix T) (hr.mono (by first | decide | omega)) (dcons (dv 0) (dcons dint (dcons (dv 1) dnil))))) (dcons (dv 3) (dcons (dadd dint (dcall (D__law_mix T) (hr.mono (by first | decide | omega)) (dcons (dv 0) (dcons dint (dcons dint dnil))))) dnil))))))) sdnil)
      (sdcons (sdif (teq (dv 2) dstr) (sdone (sdret (dtup (dcons (dv 2) (dcons (dix (PLD.asE (dlist (dcons dstr (dcons dstr (dcons dstr dnil))))) (dcall (D__law_mix T) (hr.mono (by first | decide | omega)) (dcons (dv 0) (dcons dint (dcons dint dnil))))) dnil))))) sdnil)
      (sdone (sdret (dtup (dcons (dv 2) (dcons (dv 3) (dcons (dv 4) (dcons (dv 5) dnil)))))))))))))), fun a b k0 h => by
    obtain ⟨cell, sc, rfl, rfl, hs, hk⟩ := h
    have y := ybig
    have aB := aBig
    have uB := uBig
    walk_at "dmx"
    intro r0 a0 b0
    have : r0 = 0 ∨ r0 = 1 ∨ r0 = 2 ∨ r0 = 3 ∨ r0 = 4 ∨ r0 = 5 := by omega
    rcases this with rfl | rfl | rfl | rfl | rfl | rfl
    all_goals
      walk_at "dpr"
      intro p p0 p1
      walk_at "dmx"
      intro r1 a1 b1
      walk_at "dmx"
      intro r2 a2 b2
      have m1 := mulB (x := r1) (y := r2) (a := 100000000000000000000000000000000000000) (b := 1) (by omega) (by omega)
      walk_at "dmx"
      intro r3 a3 b3
      walk_at "dmx"
      intro r4 a4 b4
      have m2 := mulB (x := r3) (y := r4) (a := 100000000000000000000000000000000000000) (b := 3) (by omega) (by omega)
      walk_at "dgs"
    · exact hk (.each p (r1 * r2) (r1 * r2 + r3 * r4)) ⟨⟨by omega, by omega⟩, by omega, by omega, by omega⟩ trivial rfl
    · exact hk (.flat p (r1 * r2) (r1 * r2 + r3 * r4)) ⟨⟨by omega, by omega⟩, by omega, by omega, by omega⟩ trivial rfl
    · intro rows hr hl
      walk_at "dgs"
      exact hk (.bands rows) hr (by show rows.length ≤ 10; omega) rfl
    · intro rows hr hl
      walk_at "dgs"
      exact hk (.steps rows) hr (by show rows.length ≤ 10; omega) rfl
    · intro r5 a5 b5
      walk_at "dmx"
      intro r6 a6 b6
      have m3 := mulB (x := 1 + r5) (y := 1 + r6) (a := 100000000000000000000000000000000000000) (b := 4) (by omega) (by omega)
      walk_at "dgs"
      exact hk (.blocks (1 + r5) p (1 + r6)) ⟨by omega, ⟨by omega, by omega⟩, by omega, by omega, by omega⟩ trivial rfl
    · intro r5 a5 b5
      have : r5 = 0 ∨ r5 = 1 ∨ r5 = 2 := by omega
      rcases this with rfl | rfl | rfl
      all_goals walk_at "dgs"
      · exact hk (.name .p) trivial trivial rfl
      · exact hk (.name .qq) trivial trivial rfl
      · exact hk (.name .ptop) trivial trivial rfl⟩
theorem form_snoc : ∀ {f : List Row} {b : Row}, IsForm f → b.ok → (∀ r ∈ f, r.hi + 2 ≤ b.lo) → IsForm (f ++ [b])
  | [], _, _, hb, _ => hb
  | [a], b, h, hb, g => ⟨h, ⟨by have := g a (by simp); omega, fun z => by have := g a (by simp); omega⟩, hb⟩
  | a :: c :: r, b, h, hb, g => ⟨h.1, h.2.1, form_snoc h.2.2 hb fun q hq => g q (List.mem_cons_of_mem _ hq)⟩
theorem good_rows {f : List Row} (hf : IsForm f) (h : ∀ r ∈ f, (-10000000000000000000000000000000000000000 ≤ r.lo ∧ r.hi ≤ 10000000000000000000000000000000000000000) ∧ (-1000000000000000000000000000000000000000 ≤ r.pr ∧ r.pr ≤ 1000000000000000000000000000000000000000) ∧ (-1000000000000000000000000000000000000000 ≤ r.st ∧ r.st ≤ 1000000000000000000000000000000000000000)) : Good LL 1 f := by
  refine ⟨hf, fun x c e => ?_⟩
  obtain ⟨r, hr, h1, h2, rfl⟩ := cost_mem e
  obtain ⟨⟨b1, b2⟩, ⟨b3, b4⟩, b5, b6⟩ := h r hr
  have a := aBig
  have m := mBig
  have d0 : 0 ≤ x - r.lo := by omega
  have d1 := Int.mul_le_mul_of_nonneg_right b6 d0
  have d2 := Int.mul_le_mul_of_nonneg_right b5 d0
  unfold Row.at_
  rw [show ((1 : Nat) : Int) = 1 from rfl, Int.one_mul, Int.one_mul]
  omega
def gForm (c s : D) (k : D → Prop) : Prop := ∃ cell sc, c = .int cell ∧ s = .int sc ∧ (0 < sc ∧ sc ≤ 100000000000000000000000000000000000000) ∧ ∀ f, Good LL 1 f → f.length ≤ 3 → k (formD f)
theorem D__law_form (T : Txt K mg ad) : DF P w0 K mg base 3 "_law_form" ["cell", "scale"] (spOf K (sp2 gForm)) :=
  T.f__law_form.df2 (N := ["cell", "scale", "told", "low", "j", "high", "step"]) (fun _ _ _ _ _ _ _ _ => rfl) sc__law_form fun f cdv A outer s H E hr => ⟨_, _, (sdcons (sdsetL (i := 2) sc__law_form.nd (dlist dnil))
      (sdcons (sdset (i := 3) sc__law_form.nd (dsub (dcall (D__law_mix T) (hr.mono (by first | decide | omega)) (dcons (dv 0) (dcons dint (dcons (dmul dint (dv 1)) dnil)))) (dv 1)))
      (sdcons (sdfor PassesOwn.never rfl (dirange1 T.range (dcall (D__law_mix T) (hr.mono (by first | decide | omega)) (dcons (dv 0) (dcons dint (dcons dint dnil))))) (gdname (i := 4) sc__law_form.nd) (sdcons (sdset (i := 5) sc__law_form.nd (dadd (dv 3) (dmul (dcall (D__law_mix T) (hr.mono (by first | decide | omega)) (dcons (dv 0) (dcons (dadd dint (dv 4)) (dcons (dv 1) dnil)))) (dcall (D__law_mix T) (hr.mono (by first | decide | omega)) (dcons (dv 0) (dcons (dadd dint (dv 4)) (dcons dint dnil)))))))
      (sdcons (sdset (i := 6) sc__law_form.nd dint)
      (sdcons (sdif (tlt (dv 3) (dv 5)) (sdone (sdset (i := 6) sc__law_form.nd (dcall (D__law_price T) (hr.mono (by first | decide | omega)) (dcons (dv 0) (dcons (dadd dint (dv 4)) dnil))))) sdnil)
      (sdcons (sdexpr (dappend 2 (dtup (dcons (dv 3) (dcons (dv 5) (dcons (dcall (D__law_price T) (hr.mono (by first | decide | omega)) (dcons (dv 0) (dcons (dadd dint (dv 4)) dnil))) (dcons (dv 6) dnil)))))))
      (sdone (sdset (i := 3) sc__law_form.nd (dadd (dadd (dv 5) dint) (dcall (D__law_mix T) (hr.mono (by first | decide | omega)) (dcons (dv 0) (dcons (dadd dint (dv 4)) (dcons (dv 1) dnil))))))))))))
      (sdone (sdret (dtupOf T.tuple (dvo 2))))))), fun a b k0 h => by
    obtain ⟨cell, sc, rfl, rfl, hs, hk⟩ := h
    have y := ybig
    walk_at "dmx"
    intro r1 a1 b1
    walk_at "dmx"
    intro r2 a2 b2
    walk_at "dgs"
    refine ⟨fun i ρ => Hd (∃ (f : List Row) (low : Int) (s4 s5 s6 : Sl), ρ = [.val (.int cell), .val (.int sc), .own (f.map rowD), .val (.int low), s4, s5, s6] ∧ f.length = i ∧ IsForm f ∧ (∀ r ∈ f, r.hi + 2 ≤ low) ∧
      (∀ r ∈ f, (-10000000000000000000000000000000000000000 ≤ r.lo ∧ r.hi ≤ 10000000000000000000000000000000000000000) ∧ (-1000000000000000000000000000000000000000 ≤ r.pr ∧ r.pr ≤ 1000000000000000000000000000000000000000) ∧ (-1000000000000000000000000000000000000000 ≤ r.st ∧ r.st ≤ 1000000000000000000000000000000000000000)) ∧
      -1000000000000000000000000000000000000000 ≤ low ∧ low ≤ 1000000000000000000000000000000000000000 + (i : Int) * 1000000000000000000000000000000000000000),
      .mk ⟨[], _, _, _, _, rfl, rfl, trivial, fun q hq => (by cases hq), fun q hq => (by cases hq), by omega, by omega⟩, fun j x ρ2 hx hI => ?_, fun ρ2 hI => ?_⟩
    · obtain ⟨hj, rfl⟩ := range_get hx
      obtain ⟨f, low, s4, s5, s6, rfl, hl, hf, hh, hb, t0, t1⟩ := hI.of
      have hj3 : j < 3 := by omega
      walk_at "dmx"
      intro r3 a3 b3
      walk_at "dmx"
      intro r4 a4 b4
      have m := mulB (x := r3) (y := r4) (a := 100000000000000000000000000000000000000) (b := 1) (by omega) (by omega)
      walk_at "dgs"
      · intro st q0 q1
        walk_at "dpr"
        intro pr p0 p1
        walk_at "dmx"
        intro r5 a5 b5
        walk_at "dgs"
        refine .mk ⟨f ++ [⟨low, low + r3 * r4, pr, st⟩], _, _, _, _, by rw [List.map_append]; rfl, by rw [List.length_append, hl]; rfl, form_snoc hf ⟨by dsimp only; omega, fun z => by dsimp only at z; omega⟩ hh, fun r h => ?_, fun r h => ?_, by omega, by omega⟩
        · rcases List.mem_append.mp h with h | h
          · have := hh r h; omega
          · rw [List.mem_singleton.mp h]; dsimp only; omega
        · rcases List.mem_append.mp h with h | h
          · exact hb r h
          · rw [List.mem_singleton.mp h]; dsimp only; omega
      · intro pr p0 p1
        walk_at "dmx"
        intro r5 a5 b5
        walk_at "dgs"
        refine .mk ⟨f ++ [⟨low, low + r3 * r4, pr, 0⟩], _, _, _, _, by rw [List.map_append]; rfl, by rw [List.length_append, hl]; rfl, form_snoc hf ⟨by dsimp only; omega, fun z => rfl⟩ hh, fun r h => ?_, fun r h => ?_, by omega, by omega⟩
        · rcases List.mem_append.mp h with h | h
          · have := hh r h; omega
          · rw [List.mem_singleton.mp h]; dsimp only; omega
        · rcases List.mem_append.mp h with h | h
          · exact hb r h
          · rw [List.mem_singleton.mp h]; dsimp only; omega
    · obtain ⟨f, low, s4, s5, s6, rfl, hl, hf, hh, hb, t0, t1⟩ := hI.of
      rw [rangeD_length] at hl
      walk_at "dgs"
      exact hk f (good_rows hf hb) (by omega)⟩
end
end K36
set_option Elab.async false
set_option linter.all false
set_option maxRecDepth 100000
set_option maxHeartbeats 4000000
namespace K36
open PySem PySem.Spec PyProof.Rows L2
local macro_rules | `(tactic| walk_at "dfl") => `(tactic| first | refine sp3_go ?_ | refine sp2_go ?_ | refine sp1_go ?_ | refine sp4_go ?_ | refine ⟨_, _, _, rfl, rfl, rfl, rfl, ?_⟩ | refine ⟨_, _, rfl, rfl, rfl, rfl, ?_⟩ | refine ⟨_, _, _, rfl, by assumption, by assumption, rfl, ?_⟩ | refine ⟨_, _, _, rfl, by assumption, by assumption, by assumption, ?_⟩ | refine ⟨_, _, _, rfl, rfl, forms_get _ _, ?_⟩ | refine ⟨_, _, _, rfl, by assumption, by assumption, ?_⟩)
local macro_rules | `(tactic| walk_at "dgf") => `(tactic| (repeat' (first | walk_at "dfl" | refine ⟨_, rfl, ?_⟩ | refine ⟨_, _, rfl, ?_⟩ | refine ⟨_, _, rfl, rfl, ?_⟩ | refine ⟨_, _, _, rfl, ?_⟩ | refine ⟨_, _, _, rfl, rfl, rfl, ?_⟩ | refine ⟨_, _, _, rfl, rfl, atI_last, ?_⟩ | refine ⟨_, _, _, rfl, rfl, by assumption, ?_⟩ | refine ⟨_, _, _, _, rfl, ?_⟩ | refine And.intro rfl ?_ | refine And.intro ⟨_, rfl⟩ ?_ | refine ⟨_, .inl rfl, ?_⟩ | refine ⟨_, .inr rfl, ?_⟩ | refine t_go ?_ | refine f_go ?_ | refine d_go (fun _ => ?_) (fun _ => ?_) | refine n_go (fun _ => ?_) (fun _ => ?_) | refine c_go (fun _ => ?_) (fun _ => ?_) | refine And.intro (by walk_at "dsd") ?_ | fail)))
local macro_rules | `(tactic| walk_at "dsd") => `(tactic| first | omega | exact mulW (by omega) (by omega) | exact divW (by omega) (by omega) | assumption | ((try simp only [List.length_append, List.length_cons, List.length_nil, List.length_map, List.length_reverse, List.length_dropLast, List.length_drop, List.length_take]); omega))
local macro_rules | `(tactic| walk_at "dgo") => `(tactic| (repeat' (first | refine ⟨_, rfl, ?_⟩ | refine ⟨_, _, rfl, ?_⟩ | refine ⟨_, _, rfl, rfl, ?_⟩ | refine ⟨_, _, _, rfl, ?_⟩ | refine ⟨_, _, _, rfl, rfl, rfl, ?_⟩ | refine ⟨_, _, _, rfl, rfl, atI_last, ?_⟩ | refine ⟨_, _, _, rfl, rfl, by assumption, ?_⟩ | refine ⟨_, _, _, _, rfl, ?_⟩ | refine And.intro rfl ?_ | refine And.intro ⟨_, rfl⟩ ?_ | refine ⟨_, .inl rfl, ?_⟩ | refine ⟨_, .inr rfl, ?_⟩ | refine t_go ?_ | refine f_go ?_ | refine d_go (fun _ => ?_) (fun _ => ?_) | refine n_go (fun _ => ?_) (fun _ => ?_) | refine c_go (fun _ => ?_) (fun _ => ?_) | refine And.intro (by walk_at "dsd") ?_ | fail)))
local macro_rules | `(tactic| walk_at "dgb") => `(tactic| (repeat' (first | refine ⟨_, rfl, ?_⟩ | refine ⟨_, _, rfl, ?_⟩ | refine ⟨_, _, rfl, rfl, ?_⟩ | refine ⟨_, _, _, rfl, ?_⟩ | refine ⟨_, _, _, rfl, rfl, rfl, ?_⟩ | refine ⟨_, _, _, rfl, rfl, atI_last, ?_⟩ | refine ⟨_, _, _, rfl, rfl, by assumption, ?_⟩ | refine ⟨_, _, _, _, rfl, ?_⟩ | refine And.intro rfl ?_ | refine And.intro ⟨_, rfl⟩ ?_ | refine ⟨_, .inl rfl, ?_⟩ | refine ⟨_, .inr rfl, ?_⟩ | refine t_go ?_ | refine f_go ?_ | refine d_go (fun _ => ?_) (fun _ => ?_) | refine n_go (fun _ => ?_) (fun _ => ?_) | refine c_go (fun _ => ?_) (fun _ => ?_) | refine nb_go (fun _ => ?_) (fun _ => ?_) | refine b_go (fun _ => ?_) (fun _ => ?_) | refine And.intro (by walk_at "dsd") ?_ | fail)))
local macro_rules | `(tactic| walk_at "dif") => `(tactic| ((repeat' split) <;> first | rfl | (exfalso; omega)))
local macro_rules | `(tactic| walk_at "dgs") => `(tactic| (repeat' (first | refine dt_go (P := @Eq PySem.Str _ _) (by decide +kernel) ?_ | refine df_go (P := @Eq PySem.Str _ _) (by decide +kernel) ?_ | refine ndt_go (P := @Eq PySem.Str _ _) (by decide +kernel) ?_ | refine ndf_go (P := @Eq PySem.Str _ _) (by decide +kernel) ?_ | refine ⟨_, rfl, ?_⟩ | refine ⟨_, _, rfl, ?_⟩ | refine ⟨_, _, rfl, rfl, ?_⟩ | refine ⟨_, _, _, rfl, ?_⟩ | refine ⟨_, _, _, rfl, rfl, rfl, ?_⟩ | refine ⟨_, _, _, rfl, rfl, atI_last, ?_⟩ | refine ⟨_, _, _, rfl, rfl, by assumption, ?_⟩ | refine ⟨_, _, _, _, rfl, ?_⟩ | refine And.intro rfl ?_ | refine And.intro ⟨_, rfl⟩ ?_ | refine ⟨_, .inl rfl, ?_⟩ | refine ⟨_, .inr rfl, ?_⟩ | refine t_go ?_ | refine f_go ?_ | refine d_go (fun _ => ?_) (fun _ => ?_) | refine n_go (fun _ => ?_) (fun _ => ?_) | refine c_go (fun _ => ?_) (fun _ => ?_) | refine And.intro (by walk_at "dsd") ?_ | fail)))
local macro_rules | `(tactic| walk_at "dmx") => `(tactic| walk_at "dgs")
local macro_rules | `(tactic| walk_at "dgs1") => `(tactic| (first | refine dt_go (P := @Eq PySem.Str _ _) (by decide +kernel) ?_ | refine df_go (P := @Eq PySem.Str _ _) (by decide +kernel) ?_ | refine ndt_go (P := @Eq PySem.Str _ _) (by decide +kernel) ?_ | refine ndf_go (P := @Eq PySem.Str _ _) (by decide +kernel) ?_ | refine ⟨_, rfl, ?_⟩ | refine ⟨_, _, rfl, ?_⟩ | refine ⟨_, _, rfl, rfl, ?_⟩ | refine ⟨_, _, _, rfl, ?_⟩ | refine ⟨_, _, _, rfl, rfl, rfl, ?_⟩ | refine ⟨_, _, _, rfl, rfl, atI_last, ?_⟩ | refine ⟨_, _, _, rfl, rfl, by assumption, ?_⟩ | refine ⟨_, _, _, _, rfl, ?_⟩ | refine And.intro rfl ?_ | refine And.intro ⟨_, rfl⟩ ?_ | refine ⟨_, .inl rfl, ?_⟩ | refine ⟨_, .inr rfl, ?_⟩ | refine t_go ?_ | refine f_go ?_ | refine d_go (fun _ => ?_) (fun _ => ?_) | refine n_go (fun _ => ?_) (fun _ => ?_) | refine c_go (fun _ => ?_) (fun _ => ?_) | refine And.intro (by walk_at "dsd") ?_))
local macro_rules | `(tactic| walk_at "dgr") => `(tactic| (repeat' (first | refine ⟨_, _, _, rfl, rfl, forms_get _ _, ?_⟩ | refine dt_go (P := @Membership.mem PySem.Str _ _ _ _) (by decide +kernel) ?_ | refine df_go (P := @Membership.mem PySem.Str _ _ _ _) (by decide +kernel) ?_ | walk_at "dgs1" | refine ⟨_, ["plus", "or", "max"], rfl, rfl, ?_⟩ | refine ⟨_, ["plus", "or", "max", "only", "after", "fee"], rfl, rfl, ?_⟩ | refine ⟨_, ⟨_, rfl, rfl⟩, ?_⟩ | refine ⟨_, ⟨_, _, rfl, rfl⟩, ?_⟩ | refine ⟨_, ⟨_, _, _, rfl, rfl⟩, ?_⟩ | fail)))
local macro_rules | `(tactic| walk_at "dpr") => `(tactic| walk_at "dgs")
section
variable {P : Program} {w0 : World} {K : PySem.W.Frag} {mg : PySem.Str → Option Value} {base : Heap} {ad : Kd → Addr}
theorem sc__law_folded : FnScope ["script", "first", "most", "numbers", "k", "kept"] ["script", "first", "most"] (defScope sLawFolded) := ⟨rfl, rfl, rfl, by decide +kernel, rfl, by decide +kernel, by decide +kernel⟩
theorem sc__law_turned : FnScope ["one", "kind", "cell", "scale", "low"] ["one", "kind", "cell", "scale"] (defScope sLawTurned) := ⟨rfl, rfl, rfl, by decide +kernel, rfl, by decide +kernel, by decide +kernel⟩
theorem sc__law_tree : FnScope ["numbers", "scale", "turns", "stack", "cell", "kind", "other"] ["numbers", "scale", "turns"] (defScope sLawTree) := ⟨rfl, rfl, rfl, by decide +kernel, rfl, by decide +kernel, by decide +kernel⟩
def gFold (s f m : D) (k : D → Prop) : Prop := ∃ ns, IsScr s ns ∧ f = .int 4 ∧ m = .int 9 ∧ ns.length ≤ 1000 ∧ ∀ ms : List Int, ms.length ≤ 9 → k (.lst (ms.map D.int))
theorem atI_ints {ms : List Int} {i : Int} (h0 : 0 ≤ i) (h1 : i < ms.length) : ∃ z, z ∈ ms ∧ atI (ms.map D.int) i = some (.int z) ∧ ixN (ms.map D.int).length i = some i.toNat := by
  obtain ⟨z, hz⟩ : ∃ z, ms[i.toNat]? = some z := ⟨_, List.getElem?_eq_getElem (by omega)⟩
  refine ⟨_, List.mem_of_getElem? hz, ?_, ?_⟩
  · have e : i = ((i.toNat : Nat) : Int) := by omega
    rw [e]
    exact atI_nat (by rw [List.getElem?_map, hz]; rfl)
  · unfold ixN
    rw [List.length_map, if_pos h0, if_pos (by omega)]
theorem D__law_folded (T : Txt K mg ad) : DF P w0 K mg base 1 "_law_folded" ["script", "first", "most"] (spOf K (sp3 gFold)) :=
  T.f__law_folded.df3 (N := ["script", "first", "most", "numbers", "k", "kept"]) (fun _ _ _ _ _ _ _ _ _ => rfl) sc__law_folded fun f cdv A outer s H E hr => ⟨_, _, (sdcons (sdsetL (i := 3) sc__law_folded.nd (dlist dnil))
      (sdcons (sdfor PassesOwn.never rfl (dirange2 T.range (dv 1) (dlen T.len (dv 0))) (gdname (i := 4) sc__law_folded.nd) (sdone (sdif (tlt (dlenO 3 T.len) (dv 2)) (sdone (sdexpr (dappend 3 (dmod (dix (dv 0) (dv 4)) (dpowK (c := 1000000000000000000000000000000000000000000000000000000000000) (by decide +kernel) ⟨by decide, by decide, by decide⟩))))) (sdcons (sdset (i := 5) sc__law_folded.nd (dadd (dmul (dixO 3 (dmod (dv 4) (dv 2))) dint) (dmod (dix (dv 0) (dv 4)) (dpowK (c := 1000000000000000000000000000000000000000000000000000000000000) (by decide +kernel) ⟨by decide, by decide, by decide⟩))))
      (sdone (sdsetIx 3 (dmod (dv 4) (dv 2)) (dmod (dv 5) (dpowK (c := 1000000000000000000000000000000000000000000000000000000000000) (by decide +kernel) ⟨by decide, by decide, by decide⟩))))))))
      (sdone (sdret (dvo 3))))), fun a b c k0 h => by
    obtain ⟨ns, hs, rfl, rfl, hn, hk⟩ := h
    have y := ybig
    rcases hs with rfl | rfl
    all_goals
      walk_at "dgs"
      refine ⟨fun i ρ => Hd (∃ (ms : List Int) (s4 s5 : Sl) (s0 : Sl), ρ = [s0, .val (.int 4), .val (.int 9), .own (ms.map D.int), s4, s5] ∧ (s0 = .val (.scr ns) ∨ s0 = .val (.lst (ns.map D.int))) ∧ ms.length ≤ 9 ∧ ∀ m ∈ ms, 0 ≤ m ∧ m < 1000000000000000000000000000000000000000000000000000000000000),
        .mk ⟨[], _, _, _, rfl, by first | exact .inl rfl | exact .inr rfl, by simp, fun q hq => (by cases hq)⟩, fun j x ρ2 hx hI => ?_, fun ρ2 hI => ?_⟩
      · obtain ⟨hj, rfl⟩ := range_get hx
        simp only [List.length_map] at hj
        obtain ⟨ms, s4, s5, s0, rfl, hs0, hl, hb⟩ := hI.of
        obtain ⟨w, hw, hw1, _⟩ := atI_ints (ms := ns) (i := 4 + (j : Int)) (by omega) (by omega)
        have c1 : 0 ≤ w % 1000000000000000000000000000000000000000000000000000000000000 ∧ w % 1000000000000000000000000000000000000000000000000000000000000 < 1000000000000000000000000000000000000000000000000000000000000 := ⟨Int.emod_nonneg _ (by decide), Int.emod_lt_of_pos _ (by decide)⟩
        by_cases h9 : ms.length < 9
        · rcases hs0 with rfl | rfl
          all_goals
            walk_at "dgs"
            all_goals first | (exfalso; simp only [List.length_map] at *; omega) | skip
            refine .mk ⟨ms ++ [w % 1000000000000000000000000000000000000000000000000000000000000], _, _, _, by rw [List.map_append]; rfl, by first | exact .inl rfl | exact .inr rfl, by rw [List.length_append]; simp; omega, fun m hm => ?_⟩
            rcases List.mem_append.mp hm with h | h
            · exact hb m h
            · rw [List.mem_singleton.mp h]; exact c1
        · obtain ⟨z, hz, hz1, hz2⟩ := atI_ints (ms := ms) (i := (4 + (j : Int)) % 9) (by omega) (by omega)
          have bz := hb z hz
          have m1 : CMulW z 10007 := mulW (by omega) (by omega)
          have c2 : 0 ≤ (z * 10007 + w % 1000000000000000000000000000000000000000000000000000000000000) % 1000000000000000000000000000000000000000000000000000000000000 ∧ (z * 10007 + w % 1000000000000000000000000000000000000000000000000000000000000) % 1000000000000000000000000000000000000000000000000000000000000 < 1000000000000000000000000000000000000000000000000000000000000 := ⟨Int.emod_nonneg _ (by decide), Int.emod_lt_of_pos _ (by decide)⟩
          rcases hs0 with rfl | rfl
          all_goals
            walk_at "dgs"
            all_goals first | (exfalso; simp only [List.length_map] at *; omega) | skip
            refine .mk ⟨ms.set ((4 + (j : Int)) % 9).toNat ((z * 10007 + w % 1000000000000000000000000000000000000000000000000000000000000) % 1000000000000000000000000000000000000000000000000000000000000), _, _, _, by rw [List.map_set]; rfl, by first | exact .inl rfl | exact .inr rfl, by rw [List.length_set]; exact hl, fun m hm => ?_⟩
            rcases List.mem_or_eq_of_mem_set hm with h | h
            · exact hb m h
            · rw [h]; exact c2
      · obtain ⟨ms, s4, s5, s0, rfl, hs0, hl, hb⟩ := hI.of
        walk_at "dgs"
        exact hk ms hl⟩
def gTurned (o t c s : D) (k : D → Prop) : Prop := ∃ pl tx cell sc, o = planD pl ∧ t = .str tx ∧ c = .int cell ∧ s = .int sc ∧ (0 < sc ∧ sc ≤ 100000000000000000000000000000000000000) ∧ tx ∈ (["only", "after", "fee", "roomy"] : List PySem.Str) ∧ POk LL pl ∧ small pl ∧
  ∀ pl', POk LL pl' → small pl' → weight pl' = weight pl + 1 → k (planD pl')
theorem D__law_turned (T : Txt K mg ad) : DF P w0 K mg base 3 "_law_turned" ["one", "kind", "cell", "scale"] (spOf K (sp4 gTurned)) :=
  T.f__law_turned.df4 (N := ["one", "kind", "cell", "scale", "low"]) (fun _ _ _ _ _ _ _ _ _ _ => rfl) sc__law_turned fun f cdv A outer s H E hr => ⟨_, _, (sdcons (sdif (teq (dv 1) dstr) (sdcons (sdset (i := 4) sc__law_turned.nd (dmul (dcall (D__law_mix T) (hr.mono (by first | decide | omega)) (dcons (dv 2) (dcons dint (dcons (dv 3) dnil)))) (dcall (D__law_mix T) (hr.mono (by first | decide | omega)) (dcons (dv 2) (dcons dint (dcons dint dnil))))))
      (sdone (sdret (dtup (dcons (dv 1) (dcons (dv 0) (dcons (dv 4) (dcons (dadd (dv 4) (dcall (D__law_mix T) (hr.mono (by first | decide | omega)) (dcons (dv 2) (dcons dint (dcons (dmul dint (dv 3)) dnil))))) dnil)))))))) sdnil)
      (sdcons (sdif (teq (dv 1) dstr) (sdone (sdret (dtup (dcons (dv 1) (dcons (dv 0) (dcons (dcall (D__law_mix T) (hr.mono (by first | decide | omega)) (dcons (dv 2) (dcons dint (dcons (dv 3) dnil)))) dnil)))))) sdnil)
      (sdcons (sdif (teq (dv 1) dstr) (sdone (sdret (dtup (dcons (dv 1) (dcons (dv 0) (dcons (dcall (D__law_price T) (hr.mono (by first | decide | omega)) (dcons (dv 2) (dcons dint dnil))) dnil)))))) sdnil)
      (sdone (sdret (dtup (dcons (dv 1) (dcons (dv 0) dnil)))))))), fun a b c d k0 h => by
    obtain ⟨pl, tx, cell, sc, rfl, rfl, rfl, rfl, hs, ht, hp, hsm, hk⟩ := h
    have y := ybig
    have aB := aBig
    have uB := uBig
    simp only [List.mem_cons, List.not_mem_nil, or_false] at ht
    rcases ht with rfl | rfl | rfl | rfl
    · walk_at "dmx"
      intro r1 a1 b1
      walk_at "dmx"
      intro r2 a2 b2
      have m1 := mulB (x := r1) (y := r2) (a := 100000000000000000000000000000000000000) (b := 1) (by omega) (by omega)
      walk_at "dmx"
      intro r3 a3 b3
      walk_at "dgs"
      exact hk (.only pl (r1 * r2) (r1 * r2 + r3)) hp ⟨hsm, by omega, by omega, by omega, by omega⟩ rfl
    · walk_at "dmx"
      intro r1 a1 b1
      walk_at "dgs"
      exact hk (.after pl r1) ⟨hp, by omega, by omega⟩ hsm rfl
    · walk_at "dpr"
      intro r1 a1 b1
      walk_at "dgs"
      exact hk (.fee pl r1) ⟨hp, by omega, by omega⟩ hsm rfl
    · walk_at "dgs"
      exact hk (.roomy pl) hp hsm rfl⟩
def wtot (l : List Plan) : Nat := (l.map weight).sum
theorem wtot_snoc (l : List Plan) (p : Plan) : wtot (l ++ [p]) = wtot l + weight p := by simp [wtot]
theorem pair_plan {tx : PySem.Str} {p q : Plan} (ht : tx ∈ (["plus", "or", "max"] : List PySem.Str)) (hp : POk LL p ∧ small p) (hq : POk LL q ∧ small q) : ∃ pl, planD pl = .tup [.str tx, planD p, planD q] ∧ (POk LL pl ∧ small pl) ∧ weight pl = weight p + weight q := by
  simp only [List.mem_cons, List.not_mem_nil, or_false] at ht
  rcases ht with rfl | rfl | rfl
  · exact ⟨.plus p q, rfl, ⟨⟨hp.1, hq.1⟩, hp.2, hq.2⟩, rfl⟩
  · exact ⟨.or_ p q, rfl, ⟨⟨hp.1, hq.1⟩, hp.2, hq.2⟩, rfl⟩
  · exact ⟨.max_ p q, rfl, ⟨⟨hp.1, hq.1⟩, hp.2, hq.2⟩, rfl⟩
def turnsL : List D := [.str "only", .str "after", .str "fee", .str "roomy"]
theorem turn_at (r : Int) : ∃ t, t ∈ (["only", "after", "fee", "roomy"] : List PySem.Str) ∧ atI [D.str "only", D.str "after", D.str "fee", D.str "roomy"] (r % (([D.str "only", D.str "after", D.str "fee", D.str "roomy"].length : Nat) : Int)) = some (.str t) := by
  show ∃ t, t ∈ (["only", "after", "fee", "roomy"] : List PySem.Str) ∧ atI [D.str "only", D.str "after", D.str "fee", D.str "roomy"] (r % 4) = some (.str t)
  have : r % 4 = 0 ∨ r % 4 = 1 ∨ r % 4 = 2 ∨ r % 4 = 3 := by omega
  rcases this with h | h | h | h <;> rw [h] <;> exact ⟨_, by simp, rfl⟩
theorem pair_at (r : Int) : ∃ t, t ∈ (["plus", "or", "max"] : List PySem.Str) ∧ atI [D.str "plus", D.str "or", D.str "max"] (r % 3) = some (.str t) := by
  have : r % 3 = 0 ∨ r % 3 = 1 ∨ r % 3 = 2 := by omega
  rcases this with h | h | h <;> rw [h] <;> exact ⟨_, by simp, rfl⟩
theorem four_at (r : Int) : ∃ t, t ∈ (["plus", "or", "max"] : List PySem.Str) ∧ atI [D.str "or", D.str "plus", D.str "max", D.str "or"] (r % 4) = some (.str t) := by
  have : r % 4 = 0 ∨ r % 4 = 1 ∨ r % 4 = 2 ∨ r % 4 = 3 := by omega
  rcases this with h | h | h | h <;> rw [h] <;> exact ⟨_, by simp, rfl⟩
def mTree (ρ : List Sl) : Nat := match ρ[3]? with
  | some (Sl.own l) => l.length
  | _ => 0
def gTree (n s t : D) (k : D → Prop) : Prop := ∃ ms sc, n = .lst ((ms : List Int).map D.int) ∧ s = .int sc ∧ t = .lst [D.str "only", D.str "after", D.str "fee", D.str "roomy"] ∧ ms.length ≤ 9 ∧ (0 < sc ∧ sc ≤ 100000000000000000000000000000000000000) ∧
  ∀ pl, POk LL pl → small pl → weight pl ≤ 9 → k (planD pl)
theorem D__law_tree (T : Txt K mg ad) : DF P w0 K mg base 5 "_law_tree" ["numbers", "scale", "turns"] (spOf K (sp3 gTree)) :=
  T.f__law_tree.df3 (N := ["numbers", "scale", "turns", "stack", "cell", "kind", "other"]) (fun _ _ _ _ _ _ _ _ _ => rfl) sc__law_tree fun f cdv A outer s H E hr => ⟨_, _, (sdcons (sdsetL (i := 3) sc__law_tree.nd (dlist dnil))
      (sdcons (sdfor PassesOwn.never rfl (dilist (dv 0)) (gdname (i := 4) sc__law_tree.nd) (sdcons (sdset (i := 5) sc__law_tree.nd (dcall (D__law_mix T) (hr.mono (by first | decide | omega)) (dcons (dv 4) (dcons dint (dcons dint dnil)))))
      (sdone (sdif (PWD.pt (tand (tgt (dv 5) dint) (tand1 (tgt (dlenO 3 T.len) dint)))) (sdone (sdexpr (dappend 3 (dcall (D__law_turned T) (hr.mono (by first | decide | omega)) (dcons (dpop 3) (dcons (dix (dv 2) (dmod (dv 5) (dlen T.len (dv 2)))) (dcons (dv 4) (dcons (dv 1) dnil)))))))) (sdone (sdif (PWD.pt (tand (tgt (dv 5) dint) (tand1 (tgt (dlenO 3 T.len) dint)))) (sdcons (sdset (i := 6) sc__law_tree.nd (dpop 3))
      (sdone (sdexpr (dappend 3 (dtup (dcons (dix (PLD.asE (dlist (dcons dstr (dcons dstr (dcons dstr dnil))))) (dmod (dv 5) dint)) (dcons (dpop 3) (dcons (dv 6) dnil)))))))) (sdone (sdexpr (dappend 3 (dcall (D__law_leaf T) (hr.mono (by first | decide | omega)) (dcons (dv 4) (dcons (dv 1) dnil))))))))))))
      (sdcons (sdwhile PassesOwn.never (tgt (dlenO 3 T.len) dint) (sdcons (sdset (i := 6) sc__law_tree.nd (dpop 3))
      (sdone (sdexpr (dappend 3 (dtup (dcons (dix (PLD.asE (dlist (dcons dstr (dcons dstr (dcons dstr (dcons dstr dnil)))))) (dmod (dlenO 3 T.len) dint)) (dcons (dpop 3) (dcons (dv 6) dnil)))))))))
      (sdone (sdret (dix (PLD.asE (dcat (dvo 3) (PLD.asE (dlist (dcons (dtup (dcons dstr (dcons dint (dcons dint (dcons (dv 1) dnil))))) dnil))))) dint)))))), fun a b c k0 h => by
    obtain ⟨ms, sc, rfl, rfl, rfl, hl, hs, hk⟩ := h
    have y := ybig
    have aB := aBig
    have uB := uBig
    walk_at "dgs"
    refine ⟨fun i ρ => Hd (∃ (L : List D) (pls : List Plan) (s4 s5 s6 : Sl), ρ = [.val (.lst (ms.map D.int)), .val (.int sc), .val (.lst [D.str "only", D.str "after", D.str "fee", D.str "roomy"]), .own L, s4, s5, s6] ∧ L = pls.map planD ∧ (∀ p ∈ pls, POk LL p ∧ small p) ∧ wtot pls ≤ i ∧ pls.length ≤ i),
      .mk ⟨_, [], _, _, _, rfl, rfl, fun q hq => (by cases hq), by simp [wtot], by simp⟩, fun j x ρ2 hx hI => ?_, fun ρ2 hI => ?_⟩
    · obtain ⟨cell, hc, rfl⟩ := map_get hx
      have hj : j < ms.length := (List.getElem?_eq_some_iff.mp hc).1
      obtain ⟨L, pls, s4, s5, s6, rfl, hL, hp, hw, hn⟩ := hI.of
      walk_at "dmx"
      intro r a1 b1
      obtain ⟨t1, ht1, hx1⟩ := turn_at r
      obtain ⟨t2, ht2, hx2⟩ := pair_at r
      have leaf : ∀ W : List Sl → Prop, (∀ s4 s5 s6 pl, POk LL pl → small pl → weight pl = 1 → W [.val (.lst (ms.map D.int)), .val (.int sc), .val (.lst [D.str "only", D.str "after", D.str "fee", D.str "roomy"]), .own (L ++ [planD pl]), s4, s5, s6]) → True := fun _ _ => trivial
      rcases List.eq_nil_or_concat pls with rfl | ⟨qs, p, rfl⟩
      · subst hL
        walk_at "dgs"
        all_goals first | (exfalso; simp only [List.length_map, List.length_nil] at *; omega) | skip
        all_goals
          intro pl h1 h2 h3
          walk_at "dgs"
          exact .mk ⟨_, [pl], _, _, _, rfl, rfl, fun q hq => by rw [List.mem_singleton.mp hq]; exact ⟨h1, h2⟩, by simp [wtot, h3], by simp⟩
      · have hpp := hp p (by simp)
        have hpp1 := hpp.1
        have hpp2 := hpp.2
        rw [List.concat_eq_append, List.map_append] at hL
        rw [List.concat_eq_append] at hp hw hn
        rw [wtot_snoc] at hw
        rw [List.length_append, List.length_singleton] at hn
        have hq : ∀ q ∈ qs, POk LL q ∧ small q := fun q h => hp q (List.mem_append.mpr (.inl h))
        have hL' : L = qs.map planD ++ [planD p] := hL
        subst hL'
        have wp := weight_pos p
        by_cases hr8 : 8 < r
        · walk_at "dgs"
          all_goals first | (exfalso; simp only [List.length_map, List.length_append, List.length_cons, List.length_nil] at *; omega) | skip
          refine ⟨_, _, _, _, rfl, rfl, rfl, rfl, by omega, ht1, hpp1, hpp2, fun pl h1 h2 h3 => ?_⟩
          walk_at "dgs"
          refine .mk ⟨_, qs ++ [pl], _, _, _, rfl, by rw [List.map_append]; rfl, fun q h => ?_, by rw [wtot_snoc]; omega, by rw [List.length_append, List.length_singleton]; omega⟩
          rcases List.mem_append.mp h with h | h
          · exact hq q h
          · rw [List.mem_singleton.mp h]; exact ⟨h1, h2⟩
        · by_cases hr5 : 5 < r ∧ 0 < qs.length
          · rcases List.eq_nil_or_concat qs with rfl | ⟨rs, q, rfl⟩
            · exact absurd hr5.2 (by simp)
            · rw [List.concat_eq_append] at hq hw hn hr5
              rw [wtot_snoc] at hw
              rw [List.length_append, List.length_singleton] at hn
              have hqq := hq q (by simp)
              have e : (rs.concat q).map planD = rs.map planD ++ [planD q] := by rw [List.concat_eq_append, List.map_append]; rfl
              rw [e]
              obtain ⟨pl, e1, h12, h3⟩ := pair_plan ht2 hqq hpp
              walk_at "dgs"
              all_goals first | (exfalso; simp only [List.length_map, List.length_append, List.length_cons, List.length_nil] at *; omega) | skip
              refine .mk ⟨_, rs ++ [pl], _, _, _, rfl, by rw [List.map_append, ← e1]; rfl, fun q h => ?_, by rw [wtot_snoc]; omega, by rw [List.length_append, List.length_singleton]; omega⟩
              rcases List.mem_append.mp h with h | h
              · exact hq _ (List.mem_append.mpr (.inl h))
              · rw [List.mem_singleton.mp h]; exact h12
          · walk_at "dgs"
            all_goals first | (exfalso; simp only [List.length_map, List.length_append, List.length_cons, List.length_nil] at *; omega) | skip
            all_goals
              intro pl h1 h2 h3
              walk_at "dgs"
              refine .mk ⟨_, qs ++ [p] ++ [pl], _, _, _, rfl, by rw [List.map_append, List.map_append]; rfl, fun q h => ?_, by rw [wtot_snoc, wtot_snoc]; omega, by simp only [List.length_append, List.length_singleton]; omega⟩
              rcases List.mem_append.mp h with h | h
              · exact hp q h
              · rw [List.mem_singleton.mp h]; exact ⟨h1, h2⟩
    · obtain ⟨L, pls, s4, s5, s6, rfl, hL, hp, hw, hn⟩ := hI.of
      rw [List.length_map] at hw hn
      walk_at "dgs"
      refine ⟨fun ρ => Hd (∃ (L : List D) (pls : List Plan) (s4 s5 s6 : Sl), ρ = [.val (.lst (ms.map D.int)), .val (.int sc), .val (.lst [D.str "only", D.str "after", D.str "fee", D.str "roomy"]), .own L, s4, s5, s6] ∧ L = pls.map planD ∧ (∀ p ∈ pls, POk LL p ∧ small p) ∧ wtot pls ≤ 9 ∧ pls.length ≤ 9), mTree,
        .mk ⟨_, pls, _, _, _, rfl, hL, hp, by omega, by omega⟩, fun ρ1 hI => ?_⟩
      obtain ⟨L, pls, s4, s5, s6, rfl, hL, hp, hw, hn⟩ := hI.of
      rcases List.eq_nil_or_concat pls with rfl | ⟨qs, p, rfl⟩
      · subst hL
        walk_at "dgs"
        all_goals first | (exfalso; simp only [List.length_map, List.length_nil] at *; omega) | skip
        exact hk (.each 1 0 sc) ⟨⟨by omega, by omega⟩, by omega, by omega, by omega⟩ trivial (by show (1 : Nat) ≤ 9; decide)
      · have hpp := hp p (by simp)
        rw [List.concat_eq_append, List.map_append] at hL
        rw [List.concat_eq_append] at hp hw hn
        rw [wtot_snoc] at hw
        rw [List.length_append, List.length_singleton] at hn
        have hq : ∀ q ∈ qs, POk LL q ∧ small q := fun q h => hp q (List.mem_append.mpr (.inl h))
        have hL' : L = qs.map planD ++ [planD p] := hL
        subst hL'
        rcases List.eq_nil_or_concat qs with rfl | ⟨rs, q, rfl⟩
        · walk_at "dgs"
          all_goals first | (exfalso; simp only [List.length_map, List.length_append, List.length_cons, List.length_nil] at *; omega) | skip
          exact hk p hpp.1 hpp.2 (by omega)
        · rw [List.concat_eq_append] at hq hw hn
          rw [wtot_snoc] at hw
          rw [List.length_append, List.length_singleton] at hn
          have hqq := hq q (by simp)
          have e : (rs.concat q).map planD = rs.map planD ++ [planD q] := by rw [List.concat_eq_append, List.map_append]; rfl
          rw [e]
          obtain ⟨t3, ht3, hx3⟩ := four_at (((rs.map planD ++ [planD q]).length : Nat) : Int)
          obtain ⟨pl, e1, h12, h3⟩ := pair_plan ht3 hqq hpp
          walk_at "dgs"
          all_goals first | (exfalso; simp only [List.length_map, List.length_append, List.length_cons, List.length_nil] at *; omega) | skip
          refine ⟨.mk ⟨_, rs ++ [pl], _, _, _, rfl, by rw [List.map_append, ← e1]; rfl, fun q h => ?_, by rw [wtot_snoc]; omega, by rw [List.length_append, List.length_singleton]; omega⟩, by simp [mTree]⟩
          rcases List.mem_append.mp h with h | h
          · exact hq _ (List.mem_append.mpr (.inl h))
          · rw [List.mem_singleton.mp h]; exact h12⟩
end
end K36
set_option Elab.async false
set_option linter.all false
set_option maxRecDepth 100000
set_option maxHeartbeats 4000000
namespace K36
open PySem PySem.Spec PyProof.Rows L2
local macro_rules | `(tactic| walk_at "dfl") => `(tactic| first | refine sp3_go ?_ | refine sp2_go ?_ | refine sp1_go ?_ | refine sp4_go ?_ | refine ⟨_, _, _, rfl, rfl, rfl, rfl, ?_⟩ | refine ⟨_, _, rfl, rfl, rfl, rfl, ?_⟩ | refine ⟨_, _, _, rfl, by assumption, by assumption, rfl, ?_⟩ | refine ⟨_, _, _, rfl, by assumption, by assumption, by assumption, ?_⟩ | refine ⟨_, _, _, rfl, rfl, forms_get _ _, ?_⟩ | refine ⟨_, _, _, rfl, by assumption, by assumption, ?_⟩)
local macro_rules | `(tactic| walk_at "dgf") => `(tactic| (repeat' (first | walk_at "dfl" | refine ⟨_, rfl, ?_⟩ | refine ⟨_, _, rfl, ?_⟩ | refine ⟨_, _, rfl, rfl, ?_⟩ | refine ⟨_, _, _, rfl, ?_⟩ | refine ⟨_, _, _, rfl, rfl, rfl, ?_⟩ | refine ⟨_, _, _, rfl, rfl, atI_last, ?_⟩ | refine ⟨_, _, _, rfl, rfl, by assumption, ?_⟩ | refine ⟨_, _, _, _, rfl, ?_⟩ | refine And.intro rfl ?_ | refine And.intro ⟨_, rfl⟩ ?_ | refine ⟨_, .inl rfl, ?_⟩ | refine ⟨_, .inr rfl, ?_⟩ | refine t_go ?_ | refine f_go ?_ | refine d_go (fun _ => ?_) (fun _ => ?_) | refine n_go (fun _ => ?_) (fun _ => ?_) | refine c_go (fun _ => ?_) (fun _ => ?_) | refine And.intro (by walk_at "dsd") ?_ | fail)))
local macro_rules | `(tactic| walk_at "dsd") => `(tactic| first | omega | exact mulW (by omega) (by omega) | exact divW (by omega) (by omega) | assumption | ((try simp only [List.length_append, List.length_cons, List.length_nil, List.length_map, List.length_reverse, List.length_dropLast, List.length_drop, List.length_take]); omega))
local macro_rules | `(tactic| walk_at "dgo") => `(tactic| (repeat' (first | refine ⟨_, rfl, ?_⟩ | refine ⟨_, _, rfl, ?_⟩ | refine ⟨_, _, rfl, rfl, ?_⟩ | refine ⟨_, _, _, rfl, ?_⟩ | refine ⟨_, _, _, rfl, rfl, rfl, ?_⟩ | refine ⟨_, _, _, rfl, rfl, atI_last, ?_⟩ | refine ⟨_, _, _, rfl, rfl, by assumption, ?_⟩ | refine ⟨_, _, _, _, rfl, ?_⟩ | refine And.intro rfl ?_ | refine And.intro ⟨_, rfl⟩ ?_ | refine ⟨_, .inl rfl, ?_⟩ | refine ⟨_, .inr rfl, ?_⟩ | refine t_go ?_ | refine f_go ?_ | refine d_go (fun _ => ?_) (fun _ => ?_) | refine n_go (fun _ => ?_) (fun _ => ?_) | refine c_go (fun _ => ?_) (fun _ => ?_) | refine And.intro (by walk_at "dsd") ?_ | fail)))
local macro_rules | `(tactic| walk_at "dgb") => `(tactic| (repeat' (first | refine ⟨_, rfl, ?_⟩ | refine ⟨_, _, rfl, ?_⟩ | refine ⟨_, _, rfl, rfl, ?_⟩ | refine ⟨_, _, _, rfl, ?_⟩ | refine ⟨_, _, _, rfl, rfl, rfl, ?_⟩ | refine ⟨_, _, _, rfl, rfl, atI_last, ?_⟩ | refine ⟨_, _, _, rfl, rfl, by assumption, ?_⟩ | refine ⟨_, _, _, _, rfl, ?_⟩ | refine And.intro rfl ?_ | refine And.intro ⟨_, rfl⟩ ?_ | refine ⟨_, .inl rfl, ?_⟩ | refine ⟨_, .inr rfl, ?_⟩ | refine t_go ?_ | refine f_go ?_ | refine d_go (fun _ => ?_) (fun _ => ?_) | refine n_go (fun _ => ?_) (fun _ => ?_) | refine c_go (fun _ => ?_) (fun _ => ?_) | refine nb_go (fun _ => ?_) (fun _ => ?_) | refine b_go (fun _ => ?_) (fun _ => ?_) | refine And.intro (by walk_at "dsd") ?_ | fail)))
local macro_rules | `(tactic| walk_at "dif") => `(tactic| ((repeat' split) <;> first | rfl | (exfalso; omega)))
local macro_rules | `(tactic| walk_at "dgs") => `(tactic| (repeat' (first | refine dt_go (P := @Eq PySem.Str _ _) (by decide +kernel) ?_ | refine df_go (P := @Eq PySem.Str _ _) (by decide +kernel) ?_ | refine ndt_go (P := @Eq PySem.Str _ _) (by decide +kernel) ?_ | refine ndf_go (P := @Eq PySem.Str _ _) (by decide +kernel) ?_ | refine ⟨_, rfl, ?_⟩ | refine ⟨_, _, rfl, ?_⟩ | refine ⟨_, _, rfl, rfl, ?_⟩ | refine ⟨_, _, _, rfl, ?_⟩ | refine ⟨_, _, _, rfl, rfl, rfl, ?_⟩ | refine ⟨_, _, _, rfl, rfl, atI_last, ?_⟩ | refine ⟨_, _, _, rfl, rfl, by assumption, ?_⟩ | refine ⟨_, _, _, _, rfl, ?_⟩ | refine And.intro rfl ?_ | refine And.intro ⟨_, rfl⟩ ?_ | refine ⟨_, .inl rfl, ?_⟩ | refine ⟨_, .inr rfl, ?_⟩ | refine t_go ?_ | refine f_go ?_ | refine d_go (fun _ => ?_) (fun _ => ?_) | refine n_go (fun _ => ?_) (fun _ => ?_) | refine c_go (fun _ => ?_) (fun _ => ?_) | refine And.intro (by walk_at "dsd") ?_ | fail)))
local macro_rules | `(tactic| walk_at "dmx") => `(tactic| walk_at "dgs")
local macro_rules | `(tactic| walk_at "dgs1") => `(tactic| (first | refine dt_go (P := @Eq PySem.Str _ _) (by decide +kernel) ?_ | refine df_go (P := @Eq PySem.Str _ _) (by decide +kernel) ?_ | refine ndt_go (P := @Eq PySem.Str _ _) (by decide +kernel) ?_ | refine ndf_go (P := @Eq PySem.Str _ _) (by decide +kernel) ?_ | refine ⟨_, rfl, ?_⟩ | refine ⟨_, _, rfl, ?_⟩ | refine ⟨_, _, rfl, rfl, ?_⟩ | refine ⟨_, _, _, rfl, ?_⟩ | refine ⟨_, _, _, rfl, rfl, rfl, ?_⟩ | refine ⟨_, _, _, rfl, rfl, atI_last, ?_⟩ | refine ⟨_, _, _, rfl, rfl, by assumption, ?_⟩ | refine ⟨_, _, _, _, rfl, ?_⟩ | refine And.intro rfl ?_ | refine And.intro ⟨_, rfl⟩ ?_ | refine ⟨_, .inl rfl, ?_⟩ | refine ⟨_, .inr rfl, ?_⟩ | refine t_go ?_ | refine f_go ?_ | refine d_go (fun _ => ?_) (fun _ => ?_) | refine n_go (fun _ => ?_) (fun _ => ?_) | refine c_go (fun _ => ?_) (fun _ => ?_) | refine And.intro (by walk_at "dsd") ?_))
local macro_rules | `(tactic| walk_at "dgr") => `(tactic| (repeat' (first | refine ⟨_, _, _, rfl, rfl, forms_get _ _, ?_⟩ | refine dt_go (P := @Membership.mem PySem.Str _ _ _ _) (by decide +kernel) ?_ | refine df_go (P := @Membership.mem PySem.Str _ _ _ _) (by decide +kernel) ?_ | walk_at "dgs1" | refine ⟨_, ["plus", "or", "max"], rfl, rfl, ?_⟩ | refine ⟨_, ["plus", "or", "max", "only", "after", "fee"], rfl, rfl, ?_⟩ | refine ⟨_, ⟨_, rfl, rfl⟩, ?_⟩ | refine ⟨_, ⟨_, _, rfl, rfl⟩, ?_⟩ | refine ⟨_, ⟨_, _, _, rfl, rfl⟩, ?_⟩ | fail)))
local macro_rules | `(tactic| walk_at "dpr") => `(tactic| walk_at "dgs")
section
variable {P : Program} {w0 : World} {K : PySem.W.Frag} {mg : PySem.Str → Option Value} {base : Heap} {ad : Kd → Addr}
theorem sc__law_rule : FnScope ["plan", "kind"] ["plan"] (defScope sLawRule) := ⟨rfl, rfl, rfl, by decide +kernel, rfl, by decide +kernel, by decide +kernel⟩
theorem sc__law_has_roomy : FnScope ["plan"] ["plan"] (defScope sLawHasRoomy) := ⟨rfl, rfl, rfl, by decide +kernel, rfl, by decide +kernel, by decide +kernel⟩
theorem sc__law_ends : FnScope ["plan", "forms", "kind", "told", "part", "row", "x"] ["plan", "forms"] (defScope sLawEnds) := ⟨rfl, rfl, rfl, by decide +kernel, rfl, by decide +kernel, by decide +kernel⟩
theorem ssdead {X : Cx} {sts : List Stmt} : PSsD X sts (fun _ _ _ => False) (fun _ _ => False) := ⟨⟨fun _ _ _ _ _ _ h => h.elim⟩, fun _ _ _ _ _ _ _ _ h _ => h.elim⟩
def gRule (ad : Kd → Addr) (n : Nat) (p : D) (k : D → Prop) : Prop := ∃ pl, p = planD pl ∧ depth pl < n ∧ k (ruleD ad pl)
theorem RU_step (T : Txt K mg ad) {n : Nat} (ih : DF P w0 K mg base (n + 2) "_law_rule" ["plan"] (spOf K (sp1 (gRule ad n)))) : DF P w0 K mg base (n + 2 + 1) "_law_rule" ["plan"] (spOf K (sp1 (gRule ad (n + 1)))) :=
  T.f__law_rule.df1 (N := ["plan", "kind"]) (fun _ _ _ _ _ _ _ => rfl) sc__law_rule fun f cdv A outer s H E hr => ⟨_, _, (sdcons (sdset (i := 1) sc__law_rule.nd (dix (dv 0) dint))
      (sdcons (sdif (teq (dv 1) dstr) (sdone (sdret (dmake (M_Each T) (hr.mono (by first | decide | omega)) (dcons (dix (dv 0) dint) (dcons (dix (dv 0) dint) (dcons (dix (dv 0) dint) dnil)))))) sdnil)
      (sdcons (sdif (teq (dv 1) dstr) (sdone (sdret (dmake (M_Flat T) (hr.mono (by first | decide | omega)) (dcons (dix (dv 0) dint) (dcons (dix (dv 0) dint) (dcons (dix (dv 0) dint) dnil)))))) sdnil)
      (sdcons (sdif (teq (dv 1) dstr) (sdone (sdret (dmake (M_Bands T) (hr.mono (by first | decide | omega)) (dcons (PLD.asE (dlistOf T.list (dix (dv 0) dint))) dnil)))) sdnil)
      (sdcons (sdif (teq (dv 1) dstr) (sdone (sdret (dmake (M_Steps T) (hr.mono (by first | decide | omega)) (dcons (PLD.asE (dlistOf T.list (dix (dv 0) dint))) dnil)))) sdnil)
      (sdcons (sdif (teq (dv 1) dstr) (sdone (sdret (dmake (M_Blocks T) (hr.mono (by first | decide | omega)) (dcons (dix (dv 0) dint) (dcons (dix (dv 0) dint) (dcons (dix (dv 0) dint) dnil)))))) sdnil)
      (sdcons (sdif (teq (dv 1) dstr) (sdone (sdret (dmake (M_Named T) (hr.mono (by first | decide | omega)) (dcons (dix (dv 0) dint) dnil)))) sdnil)
      (sdcons (sdif (teq (dv 1) dstr) (sdone (sdret (dmake (M_Sum T) (hr.mono (by first | decide | omega)) (dcons (dcall ih hr (dcons (dix (dv 0) dint) dnil)) (dcons (dcall ih hr (dcons (dix (dv 0) dint) dnil)) dnil))))) sdnil)
      (sdcons (sdif (teq (dv 1) dstr) (sdone (sdret (dmake (M_Cheaper T) (hr.mono (by first | decide | omega)) (dcons (dcall ih hr (dcons (dix (dv 0) dint) dnil)) (dcons (dcall ih hr (dcons (dix (dv 0) dint) dnil)) dnil))))) sdnil)
      (sdcons (sdif (teq (dv 1) dstr) (sdone (sdret (dmake (M_Dearer T) (hr.mono (by first | decide | omega)) (dcons (dcall ih hr (dcons (dix (dv 0) dint) dnil)) (dcons (dcall ih hr (dcons (dix (dv 0) dint) dnil)) dnil))))) sdnil)
      (sdcons (sdif (teq (dv 1) dstr) (sdone (sdret (dmake (M_Only T) (hr.mono (by first | decide | omega)) (dcons (dcall ih hr (dcons (dix (dv 0) dint) dnil)) (dcons (dix (dv 0) dint) (dcons (dix (dv 0) dint) dnil)))))) sdnil)
      (sdcons (sdif (teq (dv 1) dstr) (sdone (sdret (dmake (M_After T) (hr.mono (by first | decide | omega)) (dcons (dcall ih hr (dcons (dix (dv 0) dint) dnil)) (dcons (dix (dv 0) dint) dnil))))) sdnil)
      (sdcons (sdif (teq (dv 1) dstr) (sdone (sdret (dmake (M_Fee T) (hr.mono (by first | decide | omega)) (dcons (dcall ih hr (dcons (dix (dv 0) dint) dnil)) (dcons (dix (dv 0) dint) dnil))))) sdnil)
      (sdone (sdret (dmake (M_Roomy T) (hr.mono (by first | decide | omega)) (dcons (dcall ih hr (dcons (dix (dv 0) dint) dnil)) dnil))))))))))))))))), fun a k0 h => by
    obtain ⟨pl, rfl, hd, hk⟩ := h
    cases pl
    all_goals
      simp only [depth] at hd
      walk_at "dgr"
    all_goals first | exact hk | skip
    all_goals
      refine ⟨_, _, rfl, ⟨_, rfl, by omega, ?_⟩⟩
      walk_at "dgr"
    all_goals first | exact hk | skip
    all_goals
      refine ⟨_, _, rfl, ⟨_, rfl, by omega, ?_⟩⟩
      walk_at "dgr"
    all_goals exact hk⟩
theorem RU_all (T : Txt K mg ad) : ∀ n, DF P w0 K mg base (n + 2) "_law_rule" ["plan"] (spOf K (sp1 (gRule ad n)))
  | 0 => T.f__law_rule.df1 (N := ["plan", "kind"]) (fun _ _ _ _ _ _ _ => rfl) sc__law_rule fun f cdv A outer s H E hr => ⟨_, _, ssdead, fun a k0 ⟨_, _, h, _⟩ => absurd h (Nat.not_lt_zero _)⟩
  | n + 1 => RU_step T (RU_all T n)
def gRoomy (n : Nat) (p : D) (k : D → Prop) : Prop := ∃ pl, p = planD pl ∧ depth pl < n ∧ ∀ b, k (.bl b)
theorem HR_step (T : Txt K mg ad) {n : Nat} (ih : DF P w0 K mg base (n + 2) "_law_has_roomy" ["plan"] (spOf K (sp1 (gRoomy n)))) : DF P w0 K mg base (n + 2 + 1) "_law_has_roomy" ["plan"] (spOf K (sp1 (gRoomy (n + 1)))) :=
  T.f__law_has_roomy.df1 (N := ["plan"]) (fun _ _ _ _ _ _ _ => rfl) sc__law_has_roomy fun f cdv A outer s H E hr => ⟨_, _, (sdcons (sdif (teq (dix (dv 0) dint) dstr) (sdone (sdret dbl)) sdnil)
      (sdcons (sdif (PWD.pt (tand (tin (dix (dv 0) dint) (PLD.asE (dlist (dcons dstr (dcons dstr (dcons dstr dnil)))))) (tand1 (tval (dcall ih hr (dcons (dix (dv 0) dint) dnil)))))) (sdone (sdret dbl)) sdnil)
      (sdone (sdret (dand (din (dix (dv 0) dint) (PLD.asE (dlist (dcons dstr (dcons dstr (dcons dstr (dcons dstr (dcons dstr (dcons dstr dnil))))))))) (done1 (dcall ih hr (dcons (dix (dv 0) dint) dnil)))))))), fun a k0 h => by
    obtain ⟨pl, rfl, hd, hk⟩ := h
    cases pl
    all_goals
      simp only [depth] at hd
      walk_at "dgr"
    all_goals first | exact hk _ | skip
    all_goals
      intro b
      cases b <;> walk_at "dgr"
    all_goals first | exact hk _ | skip
    all_goals
      intro b
      cases b <;> walk_at "dgr"
    all_goals exact hk _⟩
theorem HR_all (T : Txt K mg ad) : ∀ n, DF P w0 K mg base (n + 2) "_law_has_roomy" ["plan"] (spOf K (sp1 (gRoomy n)))
  | 0 => T.f__law_has_roomy.df1 (N := ["plan"]) (fun _ _ _ _ _ _ _ => rfl) sc__law_has_roomy fun f cdv A outer s H E hr => ⟨_, _, ssdead, fun a k0 ⟨_, _, h, _⟩ => absurd h (Nat.not_lt_zero _)⟩
  | n + 1 => HR_step T (HR_all T n)
structure F3 (F : Fo) : Prop where
  good : ∀ n, Good LL 1 (F n)
  len : ∀ n, (F n).length ≤ 3
theorem F3.ok {F : Fo} (h : F3 F) : FOk F := ⟨h.good, fun n => Nat.le_trans (h.len n) (by decide)⟩
/-- the ends told of a plan of a weight -/
structure EOk (w : Nat) (ms : List Int) : Prop where
  len : ms.length + 1 ≤ 12 * 2 ^ (w - 1)
  bd : ∀ x ∈ ms, -((w : Int) * LL.A) ≤ x ∧ x ≤ (w : Int) * LL.A
theorem pw_sum {a b : Nat} (ha : 1 ≤ a) (hb : 1 ≤ b) : 2 ^ (a - 1) + 2 ^ (b - 1) ≤ 2 ^ (a + b - 1) := by
  have h1 : 2 ^ (a - 1) ≤ 2 ^ (a + b - 2) := Nat.pow_le_pow_right (by decide) (by omega)
  have h2 : 2 ^ (b - 1) ≤ 2 ^ (a + b - 2) := Nat.pow_le_pow_right (by decide) (by omega)
  have e : 2 ^ (a + b - 1) = 2 ^ (a + b - 2) * 2 := by rw [← Nat.pow_succ]; congr 1; omega
  omega
theorem pw_succ {a : Nat} (ha : 1 ≤ a) : 2 ^ (a + 1 - 1) = 2 ^ (a - 1) * 2 := by rw [← Nat.pow_succ]; congr 1; omega
theorem EOk.small {w : Nat} {ms : List Int} (h : EOk w ms) (hw : w ≤ 9) : ms.length < 3072 := by
  have := h.len
  have h2 : 2 ^ (w - 1) ≤ 2 ^ 8 := Nat.pow_le_pow_right (by decide) (by omega)
  omega
theorem EOk.wide {w : Nat} {ms : List Int} (h : EOk w ms) (hw : w ≤ 9) : ∀ x ∈ ms, -Yb ≤ x ∧ x ≤ Yb := fun x hx => by
  have hb := h.bd x hx
  have a := aBig
  have y := llA
  have h9 : (w : Int) * LL.A ≤ 9 * LL.A := Int.mul_le_mul_of_nonneg_right (by omega) (by omega)
  omega
theorem eok_one {ms : List Int} (hl : ms.length ≤ 11) (hb : ∀ x ∈ ms, -LL.A ≤ x ∧ x ≤ LL.A) : EOk 1 ms := ⟨by show ms.length + 1 ≤ 12 * 1; omega, fun x hx => by rw [show ((1 : Nat) : Int) = 1 from rfl, Int.one_mul]; exact hb x hx⟩
theorem EOk.pair {a b : Nat} {xs ys : List Int} (h : EOk a xs) (g : EOk b ys) (ha : 1 ≤ a) (hb : 1 ≤ b) : EOk (a + b) (xs ++ ys) := by
  have p := pw_sum ha hb
  have l1 := h.len
  have l2 := g.len
  have aB := aBig
  refine ⟨by rw [List.length_append]; omega, fun x hx => ?_⟩
  have e : ((a + b : Nat) : Int) * LL.A = (a : Int) * LL.A + (b : Int) * LL.A := by rw [Int.natCast_add, Int.add_mul]
  rw [e]
  have na : 0 ≤ (a : Int) * LL.A := Int.mul_nonneg (by omega) (by omega)
  have nb : 0 ≤ (b : Int) * LL.A := Int.mul_nonneg (by omega) (by omega)
  rcases List.mem_append.mp hx with q | q
  · have := h.bd x q; omega
  · have := g.bd x q; omega
theorem EOk.up {a : Nat} {xs : List Int} (h : EOk a xs) (ha : 1 ≤ a) : EOk (a + 1) xs := by
  have p := pw_succ ha
  have l1 := h.len
  have aB := aBig
  refine ⟨by omega, fun x hx => ?_⟩
  have e : ((a + 1 : Nat) : Int) * LL.A = (a : Int) * LL.A + LL.A := by rw [Int.natCast_add, Int.add_mul]; simp
  rw [e]
  have := h.bd x hx; omega
theorem EOk.two {a : Nat} {xs : List Int} {lo hi : Int} (h : EOk a xs) (ha : 1 ≤ a) (h1 : 0 ≤ lo ∧ lo ≤ LL.A) (h2 : 0 ≤ hi ∧ hi ≤ LL.A) : EOk (a + 1) (xs ++ [lo, hi]) := by
  have p := pw_succ ha
  have l1 := h.len
  have aB := aBig
  have p1 : 1 ≤ 2 ^ (a - 1) := Nat.one_le_two_pow
  refine ⟨by rw [List.length_append, List.length_cons, List.length_singleton]; omega, fun x hx => ?_⟩
  have e : ((a + 1 : Nat) : Int) * LL.A = (a : Int) * LL.A + LL.A := by rw [Int.natCast_add, Int.add_mul]; simp
  rw [e]
  have na : 0 ≤ (a : Int) * LL.A := Int.mul_nonneg (by omega) (by omega)
  rcases List.mem_append.mp hx with q | q
  · have := h.bd x q; omega
  · simp only [List.mem_cons, List.not_mem_nil, or_false] at q
    rcases q with rfl | rfl <;> omega
theorem EOk.aft {a : Nat} {xs : List Int} {c : Int} (h : EOk a xs) (ha : 1 ≤ a) (h1 : 0 ≤ c ∧ c ≤ LL.A) : EOk (a + 1) (xs ++ [c] ++ xs.map fun x => x + c) := by
  have p := pw_succ ha
  have l1 := h.len
  have aB := aBig
  refine ⟨by simp only [List.length_append, List.length_singleton, List.length_map]; omega, fun x hx => ?_⟩
  have e : ((a + 1 : Nat) : Int) * LL.A = (a : Int) * LL.A + LL.A := by rw [Int.natCast_add, Int.add_mul]; simp
  rw [e]
  have na : 0 ≤ (a : Int) * LL.A := Int.mul_nonneg (by omega) (by omega)
  simp only [List.mem_append, List.mem_singleton, List.mem_map] at hx
  rcases hx with (q | rfl) | ⟨z, q, rfl⟩
  · have := h.bd x q; omega
  · omega
  · have := h.bd z q; omega
def fstD : D → D
  | .tup (x :: _) => x
  | d => d
def addD (c : Int) : D → D
  | .int i => .int (i + c)
  | d => d
theorem fst_rows (rows : List (Int × Int)) : (rows.map twoD).map fstD = (rows.map (·.1)).map D.int := by
  rw [List.map_map, List.map_map]; rfl
theorem add_ints (ms : List Int) (c : Int) : (ms.map D.int).map (addD c) = (ms.map fun x => x + c).map D.int := by
  rw [List.map_map, List.map_map]; rfl
theorem rows_nn : ∀ {rows : List (Int × Int)} {lo : Int}, TopsFrom lo rows → ∀ q ∈ rows, lo ≤ q.1
  | [], _, _, q, h => by cases h
  | (t, p) :: r, lo, h, q, hq => by
    rcases List.mem_cons.mp hq with rfl | hq
    · exact h.1
    · have := rows_nn h.2 q hq
      have := h.1
      omega
def gEnds (n : Nat) (p f : D) (k : D → Prop) : Prop := ∃ pl F, p = planD pl ∧ f = formsD F ∧ depth pl < n ∧ POk LL pl ∧ small pl ∧ weight pl ≤ 9 ∧ F3 F ∧ ∀ ms : List Int, EOk (weight pl) ms → k (.lst (ms.map D.int))
theorem EN_step (T : Txt K mg ad) {n : Nat} (ih : DF P w0 K mg base (n + 2) "_law_ends" ["plan", "forms"] (spOf K (sp2 (gEnds n)))) : DF P w0 K mg base (n + 2 + 1) "_law_ends" ["plan", "forms"] (spOf K (sp2 (gEnds (n + 1)))) :=
  T.f__law_ends.df2 (N := ["plan", "forms", "kind", "told", "part", "row", "x"]) (fun _ _ _ _ _ _ _ _ => rfl) sc__law_ends fun f cdv A outer s H E hr => ⟨_, _, (sdcons (sdset (i := 2) sc__law_ends.nd (dix (dv 0) dint))
      (sdcons (sdif (teq (dv 2) dstr) (sdcons (sdsetL (i := 3) sc__law_ends.nd (dlist dnil))
      (sdcons (sdfor PassesOwn.never rfl (dituple (ddix hr (dv 1) (dix (dv 0) dint))) (gdname (i := 4) sc__law_ends.nd) (sdone (sdexpr (dextend 3 (PLD.asE (dlist (dcons (dix (dv 4) dint) (dcons (dix (dv 4) dint) dnil))))))))
      (sdone (sdret (dvo 3))))) sdnil)
      (sdcons (sdif (PWD.pt (tor (teq (dv 2) dstr) (tor1 (teq (dv 2) dstr)))) (sdone (sdret (PLD.asE (dlist (dcons (dix (dv 0) dint) (dcons (dix (dv 0) dint) dnil)))))) sdnil)
      (sdcons (sdif (teq (dv 2) dstr) (sdone (sdret (PLD.asE (dlist (dcons dint (dcons (dix (dv 0) dint) (dcons (dmul (dix (dv 0) dint) (dix (dv 0) dint)) dnil))))))) sdnil)
      (sdcons (sdif (PWD.pt (tor (teq (dv 2) dstr) (tor1 (teq (dv 2) dstr)))) (sdone (sdret (PLD.asE (dcat (PLD.asE (dlist (dcons dint dnil))) (PLD.asE (dlc (i := 5) (te := tOp (rIx K) (tVar 5) (tC (.int 0))) (we := wOp rdIx (wVar 5) (wC (.int 0))) rfl sc__law_ends.nd (dilist (dix (dv 0) dint)) (blkOk_by (by rfl)) (fun _ _ _ _ _ => pg_name (i := 5) sc__law_ends.nd rfl (by first | exact Or.inl rfl | exact Or.inr rfl)) (fun _ _ _ _ _ => (dix (dv 5) dint)))))))) sdnil)
      (sdcons (sdset (i := 3) sc__law_ends.nd (dcall ih hr (dcons (dix (dv 0) dint) (dcons (dv 1) dnil))))
      (sdcons (sdif (PWD.pt (tor (teq (dv 2) dstr) (tor (teq (dv 2) dstr) (tor1 (teq (dv 2) dstr))))) (sdone (sdset (i := 3) sc__law_ends.nd (PLD.asE (dcat (dv 3) (dcall ih hr (dcons (dix (dv 0) dint) (dcons (dv 1) dnil))))))) sdnil)
      (sdcons (sdif (teq (dv 2) dstr) (sdone (sdset (i := 3) sc__law_ends.nd (PLD.asE (dcat (dv 3) (PLD.asE (dlist (dcons (dix (dv 0) dint) (dcons (dix (dv 0) dint) dnil)))))))) sdnil)
      (sdcons (sdif (teq (dv 2) dstr) (sdone (sdset (i := 3) sc__law_ends.nd (PLD.asE (dcat (PLD.asE (dcat (dv 3) (PLD.asE (dlist (dcons (dix (dv 0) dint) dnil))))) (PLD.asE (dlc (i := 6) (te := tOp (rI0 fun i j => .int (i + j)) (tVar 6) (tOp (rIx K) (tVar 0) (tC (.int 2)))) (we := wOp (rdI fun i j => .int (i + j)) (wVar 6) (wOp rdIx (wVar 0) (wC (.int 2)))) rfl sc__law_ends.nd (dilist (dv 3)) (blkOk_by (by rfl)) (fun _ _ _ _ _ => pg_name (i := 6) sc__law_ends.nd rfl (by first | exact Or.inl rfl | exact Or.inr rfl)) (fun _ _ _ _ _ => (dadd (dv 6) (dix (dv 0) dint))))))))) sdnil)
      (sdone (sdret (dv 3)))))))))))), fun a b k0 h => by
    obtain ⟨pl, F, rfl, rfl, hd, hp, hs, hw, hF, hk⟩ := h
    have aB := aBig
    have yA := llA
    have uB := llU
    have y := ybig
    cases pl
    all_goals simp only [depth] at hd
    case each u lo hi =>
      walk_at "dgr"
      exact hk [lo, hi] (eok_one (by simp) fun x hx => by
        have := hp.2
        simp only [List.mem_cons, List.not_mem_nil, or_false] at hx
        rcases hx with rfl | rfl <;> omega)
    case flat u lo hi =>
      walk_at "dgr"
      exact hk [lo, hi] (eok_one (by simp) fun x hx => by
        have := hp.2
        simp only [List.mem_cons, List.not_mem_nil, or_false] at hx
        rcases hx with rfl | rfl <;> omega)
    case bands rows =>
      have hl : rows.length ≤ 10 := hs
      walk_at "dgr"
      refine ⟨fstD, fun x hx => ?_, ?_⟩
      · obtain ⟨q, _, rfl⟩ := List.mem_map.mp hx
        walk_at "dgr"
        rfl
      · walk_at "dgr"
        have z := hk (0 :: rows.map (·.1)) (eok_one (by simp; omega) fun x hx => by
          rcases List.mem_cons.mp hx with rfl | hx
          · omega
          · obtain ⟨q, hq, rfl⟩ := List.mem_map.mp hx
            have := rows_nn hp.2.1 q hq
            have := hp.2.2 q hq
            omega)
        rw [List.map_cons, ← fst_rows] at z
        exact z
    case steps rows =>
      have hl : rows.length ≤ 10 := hs
      walk_at "dgr"
      refine ⟨fstD, fun x hx => ?_, ?_⟩
      · obtain ⟨q, _, rfl⟩ := List.mem_map.mp hx
        walk_at "dgr"
        rfl
      · walk_at "dgr"
        have z := hk (0 :: rows.map (·.1)) (eok_one (by simp; omega) fun x hx => by
          rcases List.mem_cons.mp hx with rfl | hx
          · omega
          · obtain ⟨q, hq, rfl⟩ := List.mem_map.mp hx
            have := rows_nn hp.2.1 q hq
            have := hp.2.2 q hq
            omega)
        rw [List.map_cons, ← fst_rows] at z
        exact z
    case blocks s p m =>
      simp only [POk] at hp
      have hm : s * 1 ≤ s * m := Int.mul_le_mul_of_nonneg_left (by omega) (by omega)
      have m1 : CMulW s m := mulW (by omega) (by omega)
      walk_at "dgr"
      exact hk [0, s, s * m] (eok_one (by simp) fun x hx => by
        simp only [List.mem_cons, List.not_mem_nil, or_false] at hx
        rcases hx with rfl | rfl | rfl <;> omega)
    case name nm =>
      walk_at "dgr"
      refine ⟨fun j ρ => Hd (∃ (ms : List Int) (s4 s5 s6 : Sl), ρ = [.val (planD (.name nm)), .val (formsD F), .val (.str "name"), .own (ms.map D.int), s4, s5, s6] ∧ ms.length = 2 * j ∧ ∀ x ∈ ms, -LL.A ≤ x ∧ x ≤ LL.A),
        .mk ⟨[], _, _, _, rfl, rfl, fun q hq => (by cases hq)⟩, fun j x ρ2 hx hI => ?_, fun ρ2 hI => ?_⟩
      · obtain ⟨r, hr, rfl⟩ := map_get hx
        obtain ⟨ms, s4, s5, s6, rfl, hl, hb⟩ := hI.of
        have hj : j < (F nm).length := (List.getElem?_eq_some_iff.mp hr).1
        have h3 := hF.len nm
        have g := hF.good nm
        have hm := List.mem_of_getElem? hr
        have ok := g.form.ok_at r hm
        have b1 := (g.bd r.lo _ (cost_in g.form.asc hm (Int.le_refl _) ok.1)).1
        have b2 := (g.bd r.hi _ (cost_in g.form.asc hm ok.1 (Int.le_refl _))).1
        rw [show ((1 : Nat) : Int) = 1 from rfl, Int.one_mul] at b1 b2
        walk_at "dgr"
        refine .mk ⟨ms ++ [r.lo, r.hi], _, _, _, by rw [List.map_append]; rfl, by simp; omega, fun x h => ?_⟩
        rcases List.mem_append.mp h with h | h
        · exact hb x h
        · simp only [List.mem_cons, List.not_mem_nil, or_false] at h
          rcases h with rfl | rfl <;> omega
      · obtain ⟨ms, s4, s5, s6, rfl, hl, hb⟩ := hI.of
        rw [List.length_map] at hl
        have h3 := hF.len nm
        walk_at "dgr"
        exact hk ms (eok_one (by omega) hb)
    case plus a b =>
      simp only [weight] at hw
      have pa := hp.1
      have pb := hp.2
      have sa := hs.1
      have sb := hs.2
      have wa := weight_pos a
      have wb := weight_pos b
      walk_at "dgr"
      intro ms h1
      have l1 := h1.small (by omega)
      walk_at "dgr"
      intro ms2 h2
      have l2 := h2.small (by omega)
      walk_at "dgr"
      have z := hk (ms ++ ms2) (h1.pair h2 wa wb)
      rw [List.map_append] at z
      exact z
    case or_ a b =>
      simp only [weight] at hw
      have pa := hp.1
      have pb := hp.2
      have sa := hs.1
      have sb := hs.2
      have wa := weight_pos a
      have wb := weight_pos b
      walk_at "dgr"
      intro ms h1
      have l1 := h1.small (by omega)
      walk_at "dgr"
      intro ms2 h2
      have l2 := h2.small (by omega)
      walk_at "dgr"
      have z := hk (ms ++ ms2) (h1.pair h2 wa wb)
      rw [List.map_append] at z
      exact z
    case max_ a b =>
      simp only [weight] at hw
      have pa := hp.1
      have pb := hp.2
      have sa := hs.1
      have sb := hs.2
      have wa := weight_pos a
      have wb := weight_pos b
      walk_at "dgr"
      intro ms h1
      have l1 := h1.small (by omega)
      walk_at "dgr"
      intro ms2 h2
      have l2 := h2.small (by omega)
      walk_at "dgr"
      have z := hk (ms ++ ms2) (h1.pair h2 wa wb)
      rw [List.map_append] at z
      exact z
    case only a lo hi =>
      simp only [weight] at hw
      have pa : POk LL a := hp
      have sa := hs.1
      have wa := weight_pos a
      walk_at "dgr"
      intro ms h1
      have l1 := h1.small (by omega)
      walk_at "dgr"
      have z := hk (ms ++ [lo, hi]) (h1.two wa ⟨hs.2.1, hs.2.2.1⟩ ⟨hs.2.2.2.1, hs.2.2.2.2⟩)
      rw [List.map_append] at z
      exact z
    case after a c =>
      simp only [weight] at hw
      have pa : POk LL a := hp.1
      have sa : small a := hs
      have wa := weight_pos a
      walk_at "dgr"
      intro ms h1
      have l1 := h1.small (by omega)
      walk_at "dgr"
      refine ⟨addD c, fun x hx => ?_, ?_⟩
      · obtain ⟨q, _, rfl⟩ := List.mem_map.mp hx
        walk_at "dgr"
        rfl
      · walk_at "dgr"
        have z := hk (ms ++ [c] ++ ms.map fun x => x + c) (h1.aft wa hp.2)
        rw [List.map_append, List.map_append, ← add_ints] at z
        exact z
    case fee a p =>
      simp only [weight] at hw
      have pa : POk LL a := hp.1
      have sa : small a := hs
      walk_at "dgr"
      intro ms h1
      walk_at "dgr"
      exact hk ms (h1.up (weight_pos a))
    case roomy a =>
      simp only [weight] at hw
      have pa : POk LL a := hp
      have sa : small a := hs
      walk_at "dgr"
      intro ms h1
      walk_at "dgr"
      exact hk ms (h1.up (weight_pos a))⟩
theorem EN_all (T : Txt K mg ad) : ∀ n, DF P w0 K mg base (n + 2) "_law_ends" ["plan", "forms"] (spOf K (sp2 (gEnds n)))
  | 0 => T.f__law_ends.df2 (N := ["plan", "forms", "kind", "told", "part", "row", "x"]) (fun _ _ _ _ _ _ _ _ => rfl) sc__law_ends fun f cdv A outer s H E hr => ⟨_, _, ssdead, fun a b k0 ⟨_, _, _, _, h, _⟩ => absurd h (Nat.not_lt_zero _)⟩
  | n + 1 => EN_step T (EN_all T n)
end
end K36
set_option Elab.async false
set_option linter.all false
set_option maxRecDepth 100000
set_option maxHeartbeats 4000000
namespace K36
open PySem PySem.Spec PyProof.Rows L2
local macro_rules | `(tactic| walk_at "dfl") => `(tactic| first | refine sp3_go ?_ | refine sp2_go ?_ | refine sp1_go ?_ | refine sp4_go ?_ | refine ⟨_, _, _, rfl, rfl, rfl, rfl, ?_⟩ | refine ⟨_, _, rfl, rfl, rfl, rfl, ?_⟩ | refine ⟨_, _, _, rfl, by assumption, by assumption, rfl, ?_⟩ | refine ⟨_, _, _, rfl, by assumption, by assumption, by assumption, ?_⟩ | refine ⟨_, _, _, rfl, rfl, forms_get _ _, ?_⟩ | refine ⟨_, _, _, rfl, by assumption, by assumption, ?_⟩)
local macro_rules | `(tactic| walk_at "dgf") => `(tactic| (repeat' (first | walk_at "dfl" | refine ⟨_, rfl, ?_⟩ | refine ⟨_, _, rfl, ?_⟩ | refine ⟨_, _, rfl, rfl, ?_⟩ | refine ⟨_, _, _, rfl, ?_⟩ | refine ⟨_, _, _, rfl, rfl, rfl, ?_⟩ | refine ⟨_, _, _, rfl, rfl, atI_last, ?_⟩ | refine ⟨_, _, _, rfl, rfl, by assumption, ?_⟩ | refine ⟨_, _, _, _, rfl, ?_⟩ | refine And.intro rfl ?_ | refine And.intro ⟨_, rfl⟩ ?_ | refine ⟨_, .inl rfl, ?_⟩ | refine ⟨_, .inr rfl, ?_⟩ | refine t_go ?_ | refine f_go ?_ | refine d_go (fun _ => ?_) (fun _ => ?_) | refine n_go (fun _ => ?_) (fun _ => ?_) | refine c_go (fun _ => ?_) (fun _ => ?_) | refine And.intro (by walk_at "dsd") ?_ | fail)))
local macro_rules | `(tactic| walk_at "dsd") => `(tactic| first | omega | exact mulW (by omega) (by omega) | exact divW (by omega) (by omega) | assumption | ((try simp only [List.length_append, List.length_cons, List.length_nil, List.length_map, List.length_reverse, List.length_dropLast, List.length_drop, List.length_take]); omega))
local macro_rules | `(tactic| walk_at "dgo") => `(tactic| (repeat' (first | refine ⟨_, rfl, ?_⟩ | refine ⟨_, _, rfl, ?_⟩ | refine ⟨_, _, rfl, rfl, ?_⟩ | refine ⟨_, _, _, rfl, ?_⟩ | refine ⟨_, _, _, rfl, rfl, rfl, ?_⟩ | refine ⟨_, _, _, rfl, rfl, atI_last, ?_⟩ | refine ⟨_, _, _, rfl, rfl, by assumption, ?_⟩ | refine ⟨_, _, _, _, rfl, ?_⟩ | refine And.intro rfl ?_ | refine And.intro ⟨_, rfl⟩ ?_ | refine ⟨_, .inl rfl, ?_⟩ | refine ⟨_, .inr rfl, ?_⟩ | refine t_go ?_ | refine f_go ?_ | refine d_go (fun _ => ?_) (fun _ => ?_) | refine n_go (fun _ => ?_) (fun _ => ?_) | refine c_go (fun _ => ?_) (fun _ => ?_) | refine And.intro (by walk_at "dsd") ?_ | fail)))
local macro_rules | `(tactic| walk_at "dgb") => `(tactic| (repeat' (first | refine ⟨_, rfl, ?_⟩ | refine ⟨_, _, rfl, ?_⟩ | refine ⟨_, _, rfl, rfl, ?_⟩ | refine ⟨_, _, _, rfl, ?_⟩ | refine ⟨_, _, _, rfl, rfl, rfl, ?_⟩ | refine ⟨_, _, _, rfl, rfl, atI_last, ?_⟩ | refine ⟨_, _, _, rfl, rfl, by assumption, ?_⟩ | refine ⟨_, _, _, _, rfl, ?_⟩ | refine And.intro rfl ?_ | refine And.intro ⟨_, rfl⟩ ?_ | refine ⟨_, .inl rfl, ?_⟩ | refine ⟨_, .inr rfl, ?_⟩ | refine t_go ?_ | refine f_go ?_ | refine d_go (fun _ => ?_) (fun _ => ?_) | refine n_go (fun _ => ?_) (fun _ => ?_) | refine c_go (fun _ => ?_) (fun _ => ?_) | refine nb_go (fun _ => ?_) (fun _ => ?_) | refine b_go (fun _ => ?_) (fun _ => ?_) | refine And.intro (by walk_at "dsd") ?_ | fail)))
local macro_rules | `(tactic| walk_at "dif") => `(tactic| ((repeat' split) <;> first | rfl | (exfalso; omega)))
local macro_rules | `(tactic| walk_at "dgs") => `(tactic| (repeat' (first | refine dt_go (P := @Eq PySem.Str _ _) (by decide +kernel) ?_ | refine df_go (P := @Eq PySem.Str _ _) (by decide +kernel) ?_ | refine ndt_go (P := @Eq PySem.Str _ _) (by decide +kernel) ?_ | refine ndf_go (P := @Eq PySem.Str _ _) (by decide +kernel) ?_ | refine ⟨_, rfl, ?_⟩ | refine ⟨_, _, rfl, ?_⟩ | refine ⟨_, _, rfl, rfl, ?_⟩ | refine ⟨_, _, _, rfl, ?_⟩ | refine ⟨_, _, _, rfl, rfl, rfl, ?_⟩ | refine ⟨_, _, _, rfl, rfl, atI_last, ?_⟩ | refine ⟨_, _, _, rfl, rfl, by assumption, ?_⟩ | refine ⟨_, _, _, _, rfl, ?_⟩ | refine And.intro rfl ?_ | refine And.intro ⟨_, rfl⟩ ?_ | refine ⟨_, .inl rfl, ?_⟩ | refine ⟨_, .inr rfl, ?_⟩ | refine t_go ?_ | refine f_go ?_ | refine d_go (fun _ => ?_) (fun _ => ?_) | refine n_go (fun _ => ?_) (fun _ => ?_) | refine c_go (fun _ => ?_) (fun _ => ?_) | refine And.intro (by walk_at "dsd") ?_ | fail)))
local macro_rules | `(tactic| walk_at "dmx") => `(tactic| walk_at "dgs")
local macro_rules | `(tactic| walk_at "dgs1") => `(tactic| (first | refine dt_go (P := @Eq PySem.Str _ _) (by decide +kernel) ?_ | refine df_go (P := @Eq PySem.Str _ _) (by decide +kernel) ?_ | refine ndt_go (P := @Eq PySem.Str _ _) (by decide +kernel) ?_ | refine ndf_go (P := @Eq PySem.Str _ _) (by decide +kernel) ?_ | refine ⟨_, rfl, ?_⟩ | refine ⟨_, _, rfl, ?_⟩ | refine ⟨_, _, rfl, rfl, ?_⟩ | refine ⟨_, _, _, rfl, ?_⟩ | refine ⟨_, _, _, rfl, rfl, rfl, ?_⟩ | refine ⟨_, _, _, rfl, rfl, atI_last, ?_⟩ | refine ⟨_, _, _, rfl, rfl, by assumption, ?_⟩ | refine ⟨_, _, _, _, rfl, ?_⟩ | refine And.intro rfl ?_ | refine And.intro ⟨_, rfl⟩ ?_ | refine ⟨_, .inl rfl, ?_⟩ | refine ⟨_, .inr rfl, ?_⟩ | refine t_go ?_ | refine f_go ?_ | refine d_go (fun _ => ?_) (fun _ => ?_) | refine n_go (fun _ => ?_) (fun _ => ?_) | refine c_go (fun _ => ?_) (fun _ => ?_) | refine And.intro (by walk_at "dsd") ?_))
local macro_rules | `(tactic| walk_at "dgr") => `(tactic| (repeat' (first | refine isi_go ?_ | refine ist_go ?_ | refine ⟨_, _, _, rfl, rfl, forms_get _ _, ?_⟩ | refine dt_go (P := @Membership.mem PySem.Str _ _ _ _) (by decide +kernel) ?_ | refine df_go (P := @Membership.mem PySem.Str _ _ _ _) (by decide +kernel) ?_ | walk_at "dgs1" | refine ⟨_, ["plus", "or", "max"], rfl, rfl, ?_⟩ | refine ⟨_, ["plus", "or", "max", "only", "after", "fee"], rfl, rfl, ?_⟩ | refine ⟨_, ⟨_, rfl, rfl⟩, ?_⟩ | refine ⟨_, ⟨_, _, rfl, rfl⟩, ?_⟩ | refine ⟨_, ⟨_, _, _, rfl, rfl⟩, ?_⟩ | fail)))
local macro_rules | `(tactic| walk_at "dpr") => `(tactic| walk_at "dgs")
section
variable {P : Program} {w0 : World} {K : PySem.W.Frag} {mg : PySem.Str → Option Value} {base : Heap} {ad : Kd → Addr}
theorem sc__law_amounts : FnScope ["plan", "forms", "script", "scale", "told", "x", "cell"] ["plan", "forms", "script", "scale"] (defScope sLawAmounts) := ⟨rfl, rfl, rfl, by decide +kernel, rfl, by decide +kernel, by decide +kernel⟩
theorem sc__law_same : FnScope ["found", "due"] ["found", "due"] (defScope sLawSame) := ⟨rfl, rfl, rfl, by decide +kernel, rfl, by decide +kernel, by decide +kernel⟩
theorem sc__law_is_form : FnScope ["found", "k", "part", "number"] ["found"] (defScope sLawIsForm) := ⟨rfl, rfl, rfl, by decide +kernel, rfl, by decide +kernel, by decide +kernel⟩
theorem sc__law_apart : FnScope ["ahead", "part"] ["ahead", "part"] (defScope sLawApart) := ⟨rfl, rfl, rfl, by decide +kernel, rfl, by decide +kernel, by decide +kernel⟩
theorem sc__law_cost_in : FnScope ["form", "x", "part"] ["form", "x"] (defScope sLawCostIn) := ⟨rfl, rfl, rfl, by decide +kernel, rfl, by decide +kernel, by decide +kernel⟩
theorem sc__law_agree : FnScope ["rule", "forms", "made", "amounts", "x"] ["rule", "forms", "made", "amounts"] (defScope sLawAgree) := ⟨rfl, rfl, rfl, by decide +kernel, rfl, by decide +kernel, by decide +kernel⟩
theorem isi_go {i : Int} {A : Prop} (h : A) : IsI (.int i) ∧ A := ⟨⟨i, rfl⟩, h⟩
theorem ist_go {l : List D} {A : Prop} (h : A) : IsT (.tup l) ∧ A := ⟨⟨l, rfl⟩, h⟩
theorem cutD_map {α β : Type} (g : α → β) (xs : List α) (lo hi : Option Int) : cutD (xs.map g) lo hi = (cutD xs lo hi).map g := by
  unfold cutD
  rw [List.length_map, ← List.map_drop, ← List.map_take]
theorem cutD_mem {α : Type} {xs : List α} {lo hi : Option Int} {x : α} (h : x ∈ cutD xs lo hi) : x ∈ xs := List.mem_of_mem_drop (List.mem_of_mem_take h)
theorem cutD_len {α : Type} (xs : List α) (n : Nat) : (cutD xs none (some (n : Int))).length ≤ n := by
  unfold cutD HT.sIx
  rw [List.length_take]
  simp
  rw [if_neg (by omega)]
  omega
def gAmounts : SpN := fun ds k => ∃ pl F ns sc, ds = [planD pl, formsD F, .lst ((ns : List Int).map D.int), .int sc] ∧ POk LL pl ∧ small pl ∧ weight pl ≤ 9 ∧ F3 F ∧ ns.length ≤ 1000 ∧ (0 < sc ∧ sc ≤ 100000000000000000000000000000000000000) ∧
  ∀ ms : List Int, ms.length ≤ 2000 → (∀ x ∈ ms, -(2 * Yb) ≤ x ∧ x ≤ 2 * Yb) → k (ms.map D.int)
theorem gAmounts_len (ds : List D) (k : List D → Prop) (h : gAmounts ds k) : ds.length = 4 := by
  obtain ⟨_, _, _, _, rfl, _⟩ := h; rfl
theorem D__law_amounts (T : Txt K mg ad) : DF P w0 K mg base 12 "_law_amounts" ["plan", "forms", "script", "scale"] (spOfN K gAmounts) :=
  T.f__law_amounts.dfN (N := ["plan", "forms", "script", "scale", "told", "x", "cell"]) (fun kV doc pm an cdv ct us hl => match us, hl with | [u0, u1, u2, u3], _ => rfl) sc__law_amounts gAmounts_len fun f cdv A outer s H E hr => ⟨_, _, (sdcons (sdsetL (i := 4) sc__law_amounts.nd (dlist (dcons (dneg dint) (dcons dint (dcons dint dnil)))))
      (sdcons (sdfor PassesOwn.never rfl (dilist (PLD.asE (dslice (PLD.asE (dsortedSet rfl T.sorted T.set_ (dcall (EN_all T 9) (hr.mono (by decide)) (dcons (dv 0) (dcons (dv 1) dnil))))) dono (dosome dint)))) (gdname (i := 5) sc__law_amounts.nd) (sdone (sdexpr (dextend 4 (PLD.asE (dlist (dcons (dsub (dv 5) dint) (dcons (dv 5) (dcons (dadd (dv 5) dint) dnil)))))))))
      (sdcons (sdfor PassesOwn.never rfl (dilist (PLD.asE (dslice (dv 2) dono (dosome dint)))) (gdname (i := 6) sc__law_amounts.nd) (sdone (sdexpr (dappend 4 (dsub (dmod (dv 6) (dmul dint (dv 3))) (dv 3))))))
      (sdone (sdretL (dgive 4)))))), fun ds k0 h => by
    obtain ⟨pl, F, ns, sc, rfl, hp, hs, hw, hF, hn, hsc, hk⟩ := h
    have y := ybig
    have dw := depth_weight pl
    have hd : depth pl < 9 := by omega
    walk_at "dgr"
    intro es he
    have el := he.small hw
    have eb := he.wide hw
    walk_at "dgr"
    intro ms _ hm hl
    walk_at "dgr"
    have e1 := cutD_map D.int ms none (some 24)
    refine ⟨fun j ρ => Hd (∃ (qs : List Int) (s5 s6 : Sl), ρ = [.val (planD pl), .val (formsD F), .val (.lst (ns.map D.int)), .val (.int sc), .own (qs.map D.int), s5, s6] ∧ qs.length = 3 + 3 * j ∧ ∀ x ∈ qs, -(2 * Yb) ≤ x ∧ x ≤ 2 * Yb),
      .mk ⟨[-1, 0, 1], _, _, rfl, rfl, fun q hq => ?_⟩, fun j x ρ2 hx hI => ?_, fun ρ2 hI => ?_⟩
    · simp only [List.mem_cons, List.not_mem_nil, or_false] at hq
      rcases hq with rfl | rfl | rfl <;> omega
    · have hj : j < 24 := by
        have h1 := (List.getElem?_eq_some_iff.mp hx).1
        have h2 := cutD_len (ms.map D.int) 24
        exact Nat.lt_of_lt_of_le h1 h2
      have hxm := cutD_mem (List.mem_of_getElem? hx)
      obtain ⟨z, hz, rfl⟩ := List.mem_map.mp hxm
      have bz := eb z ((hm z).mp hz)
      obtain ⟨qs, s5, s6, rfl, hq, hb⟩ := hI.of
      walk_at "dgr"
      refine .mk ⟨qs ++ [z - 1, z, z + 1], _, _, by rw [List.map_append]; rfl, by simp; omega, fun x h => ?_⟩
      rcases List.mem_append.mp h with h | h
      · exact hb x h
      · simp only [List.mem_cons, List.not_mem_nil, or_false] at h
        rcases h with rfl | rfl | rfl <;> omega
    · obtain ⟨qs, s5, s6, rfl, hq, hb⟩ := hI.of
      have hql : qs.length ≤ 75 := by
        have h2 := cutD_len (ms.map D.int) 24
        have h3 : (cutD (ms.map D.int) none (some ((24 : Nat) : Int))).length = (cutD (ms.map D.int) none (some 24)).length := rfl
        omega
      walk_at "dgr"
      refine ⟨fun j ρ => Hd (∃ (qs : List Int) (s5 s6 : Sl), ρ = [.val (planD pl), .val (formsD F), .val (.lst (ns.map D.int)), .val (.int sc), .own (qs.map D.int), s5, s6] ∧ qs.length ≤ 75 + j ∧ ∀ x ∈ qs, -(2 * Yb) ≤ x ∧ x ≤ 2 * Yb),
        .mk ⟨qs, _, _, rfl, by omega, hb⟩, fun j x ρ2 hx hI => ?_, fun ρ2 hI => ?_⟩
      · have hj : j < 40 := by
          have h1 := (List.getElem?_eq_some_iff.mp hx).1
          have h2 := cutD_len (ns.map D.int) 40
          exact Nat.lt_of_lt_of_le h1 h2
        have hxm := cutD_mem (List.mem_of_getElem? hx)
        obtain ⟨z, hz, rfl⟩ := List.mem_map.mp hxm
        obtain ⟨qs, s5, s6, rfl, hq, hb⟩ := hI.of
        have m1 : CMulW 5 sc := mulW (by omega) (by omega)
        have c1 : 0 ≤ z % (5 * sc) ∧ z % (5 * sc) < 5 * sc := ⟨Int.emod_nonneg _ (by omega), Int.emod_lt_of_pos _ (by omega)⟩
        walk_at "dgr"
        refine .mk ⟨qs ++ [z % (5 * sc) - sc], _, _, by rw [List.map_append]; rfl, by simp; omega, fun x h => ?_⟩
        rcases List.mem_append.mp h with h | h
        · exact hb x h
        · rw [List.mem_singleton.mp h]; omega
      · obtain ⟨qs, s5, s6, rfl, hq, hb⟩ := hI.of
        have hql : qs.length ≤ 2000 := by
          have h2 := cutD_len (ns.map D.int) 40
          have h3 : (cutD (ns.map D.int) none (some ((40 : Nat) : Int))).length = (cutD (ns.map D.int) none (some 40)).length := rfl
          omega
        walk_at "dgr"
        exact hk qs hql hb⟩
def gSame (f d : D) (k : D → Prop) : Prop := ∃ c, f = optD c ∧ d = optD c ∧ k (.bl true)
theorem D__law_same (T : Txt K mg ad) : DF P w0 K mg base 1 "_law_same" ["found", "due"] (spOf K (sp2 gSame)) :=
  T.f__law_same.df2 (N := ["found", "due"]) (fun _ _ _ _ _ _ _ _ => rfl) sc__law_same fun f cdv A outer s H E hr => ⟨_, _, (sdcons (sdif (tisN (dv 1) dnon) (sdone (sdret (disN (dv 0) dnon))) sdnil)
      (sdone (sdret (dand (disi (C := IsI) (fun _ _ _ _ c h => tyx_int c h) kit_ii T.isinstance T.int_ boot_int (dv 0)) (dand (dnot (disi (C := IsI) (fun _ _ _ _ c h => tyx_int c h) kit_ib T.isinstance T.bool_ boot_bool (dv 0))) (done1 (deq (dv 0) (dv 1)))))))), fun a b k0 h => by
    obtain ⟨c, rfl, rfl, hk⟩ := h
    cases c with
    | none =>
      simp only [optD]
      walk_at "dgr"
      exact hk
    | some i =>
      simp only [optD]
      walk_at "dgr"
      all_goals first | exact hk | (refine Eq.mp (congrArg k0 ?_) hk; simp; done)⟩
def gCi (f x : D) (k : D → Prop) : Prop := ∃ fm y, f = formD fm ∧ x = .int y ∧ IsForm fm ∧ BdY fm ∧ (-(100 * Yb) ≤ y ∧ y ≤ 100 * Yb) ∧ k (optD (cost fm y))
theorem D__law_cost_in (T : Txt K mg ad) : DF P w0 K mg base 1 "_law_cost_in" ["form", "x"] (spOf K (sp2 gCi)) :=
  T.f__law_cost_in.df2 (N := ["form", "x", "part"]) (fun _ _ _ _ _ _ _ _ => rfl) sc__law_cost_in fun f cdv A outer s H E hr => ⟨_, _, (sdcons (sdfor PassesOwn.never rfl (dituple (dv 0)) (gdname (i := 2) sc__law_cost_in.nd) (sdone (sdif (PWD.pt (tand (tle (dix (dv 2) dint) (dv 1)) (tand1 (tle (dv 1) (dix (dv 2) dint))))) (sdone (sdret (dadd (dix (dv 2) dint) (dmul (dix (dv 2) dint) (dsub (dv 1) (dix (dv 2) dint)))))) sdnil)))
      (sdone (sdret dnon))), fun a b k0 h => by
    obtain ⟨f, y, rfl, rfl, hf, hbd, hy, hk⟩ := h
    have y1 := yb1
    walk_at "dgo"
    refine ⟨fun j ρ => (∃ s, ρ = [.val (formD f), .val (.int y), s]) ∧ cost (f.take j) y = none, ⟨⟨_, rfl⟩, rfl⟩, fun j x ρ2 hx hI => ?_, fun ρ2 hI => ?_⟩
    · obtain ⟨r, hr, rfl⟩ := map_get hx
      obtain ⟨⟨s, rfl⟩, hn⟩ := hI
      have br := bdY_row hf hbd (List.mem_of_getElem? hr)
      have hm : CMulW r.st (y - r.lo) := mulW (by omega) (by omega)
      have hs := cost_take_succ (y := y) hr
      rw [hn] at hs
      walk_at "dgo"
      · rw [if_pos ⟨by assumption, by assumption⟩] at hs
        have e := cost_of_take hs
        rw [e] at hk
        exact hk
      all_goals (rw [hs, if_neg (by omega)]; rfl)
    · obtain ⟨⟨s, rfl⟩, hn⟩ := hI
      rw [List.length_map, List.take_length] at hn
      rw [hn] at hk
      exact hk⟩
def gApart (x y : D) (k : D → Prop) : Prop := ∃ a b, x = rowD a ∧ y = rowD b ∧ apart a b ∧ CMulW a.st (b.lo - a.lo) ∧ k (.bl true)
theorem D__law_apart (T : Txt K mg ad) : DF P w0 K mg base 1 "_law_apart" ["ahead", "part"] (spOf K (sp2 gApart)) :=
  T.f__law_apart.df2 (N := ["ahead", "part"]) (fun _ _ _ _ _ _ _ _ => rfl) sc__law_apart fun f cdv A outer s H E hr => ⟨_, _, (sdcons (sdif (tle (dix (dv 1) dint) (dix (dv 0) dint)) (sdone (sdret dbl)) sdnil)
      (sdcons (sdif (tgt (dix (dv 1) dint) (dadd (dix (dv 0) dint) dint)) (sdone (sdret dbl)) sdnil)
      (sdone (sdret (dand (dlt (dix (dv 0) dint) (dix (dv 0) dint)) (done1 (dne (dadd (dix (dv 0) dint) (dmul (dix (dv 0) dint) (dsub (dix (dv 1) dint) (dix (dv 0) dint)))) (dix (dv 1) dint)))))))), fun x y k0 h => by
    obtain ⟨a, b, rfl, rfl, ⟨h1, h2⟩, hm, hk⟩ := h
    by_cases hg : b.lo = a.hi + 1
    · obtain ⟨h3, h4⟩ := h2 hg
      unfold Row.at_ at h4
      walk_at "dgr"
      all_goals first | exact hk | (exfalso; omega) | skip
      refine Eq.mp (congrArg k0 ?_) hk
      simp [h4]
    · walk_at "dgr"
      all_goals first | exact hk | (exfalso; omega) | skip⟩
def gIsF (f : D) (k : D → Prop) : Prop := ∃ fm, f = formD fm ∧ IsForm fm ∧ BdY fm ∧ fm.length ≤ 1000 ∧ k (.bl true)
theorem D__law_is_form (T : Txt K mg ad) : DF P w0 K mg base 2 "_law_is_form" ["found"] (spOf K (sp1 gIsF)) :=
  T.f__law_is_form.df1 (N := ["found", "k", "part", "number"]) (fun _ _ _ _ _ _ _ => rfl) sc__law_is_form fun f cdv A outer s H E hr => ⟨_, _, (sdcons (sdif (tnot (tval (disi (C := IsT) (fun _ _ _ _ c h => tyx_tup c h) kit_tt T.isinstance T.tuple boot_tupleN (dv 0)))) (sdone (sdret dbl)) sdnil)
      (sdcons (sdfor PassesOwn.never rfl (dirange1 T.range (dlen T.len (dv 0))) (gdname (i := 1) sc__law_is_form.nd) (sdcons (sdset (i := 2) sc__law_is_form.nd (dix (dv 0) (dv 1)))
      (sdcons (sdif (PWD.pt (tor (tnot (tval (disi (C := IsT) (fun _ _ _ _ c h => tyx_tup c h) kit_tt T.isinstance T.tuple boot_tupleN (dv 2)))) (tor1 (tne (dlen T.len (dv 2)) dint)))) (sdone (sdret dbl)) sdnil)
      (sdcons (sdfor PassesOwn.never rfl (dituple (dv 2)) (gdname (i := 3) sc__law_is_form.nd) (sdone (sdif (PWD.pt (tor (tnot (tval (disi (C := IsI) (fun _ _ _ _ c h => tyx_int c h) kit_ii T.isinstance T.int_ boot_int (dv 3)))) (tor1 (tval (disi (C := IsI) (fun _ _ _ _ c h => tyx_int c h) kit_ib T.isinstance T.bool_ boot_bool (dv 3)))))) (sdone (sdret dbl)) sdnil)))
      (sdcons (sdif (PWD.pt (tor (tlt (dix (dv 2) dint) (dix (dv 2) dint)) (tor1 (PWD.pt (tand (teq (dix (dv 2) dint) (dix (dv 2) dint)) (tand1 (tne (dix (dv 2) dint) dint))))))) (sdone (sdret dbl)) sdnil)
      (sdone (sdif (PWD.pt (tand (tgt (dv 1) dint) (tand1 (tnot (tval (dcall (D__law_apart T) (hr.mono (by first | decide | omega)) (dcons (dix (dv 0) (dsub (dv 1) dint)) (dcons (dv 2) dnil)))))))) (sdone (sdret dbl)) sdnil)))))))
      (sdone (sdret dbl)))), fun a k0 h => by
    obtain ⟨f, rfl, hf, hb, hl, hk⟩ := h
    walk_at "dgr"
    refine ⟨fun j ρ => Hd (∃ s1 s2 s3, ρ = [.val (formD f), s1, s2, s3]), .mk ⟨_, _, _, rfl⟩, fun j x ρ2 hx hI => ?_, fun ρ2 hI => ?_⟩
    · obtain ⟨hj, rfl⟩ := range_get hx
      obtain ⟨s1, s2, s3, rfl⟩ := hI.of
      have hj' : j < f.length := by simpa using hj
      obtain ⟨r, hr⟩ : ∃ r, f[j]? = some r := ⟨_, List.getElem?_eq_getElem hj'⟩
      have ir : atI (f.map rowD) (0 + (j : Int)) = some (rowD r) := by rw [Int.zero_add]; exact atI_row hr
      have ok := hf.ok_at r (List.mem_of_getElem? hr)
      have br := bdY_row hf hb (List.mem_of_getElem? hr)
      have y1 := yb1
      have inner : ∀ (W : List Sl → Prop) (i : Nat) (x : D), [D.int r.lo, D.int r.hi, D.int r.pr, D.int r.st][i]? = some x → ∃ z, x = .int z := fun _ i x hx => by
        have hm := List.mem_of_getElem? hx
        simp only [List.mem_cons, List.not_mem_nil, or_false] at hm
        rcases hm with h | h | h | h <;> exact ⟨_, h⟩
      by_cases hj0 : 0 < j
      · obtain ⟨q, hq⟩ : ∃ q, f[j - 1]? = some q := ⟨_, List.getElem?_eq_getElem (by omega)⟩
        have iq : atI (f.map rowD) (0 + (j : Int) - 1) = some (rowD q) := by
          have e : (0 + (j : Int) - 1) = ((j - 1 : Nat) : Int) := by omega
          rw [e]; exact atI_row hq
        have ap : apart q r := hf.apart_at hq (by rw [show j - 1 + 1 = j by omega]; exact hr)
        have bq := bdY_row hf hb (List.mem_of_getElem? hq)
        have mq : CMulW q.st (r.lo - q.lo) := mulW (by omega) (by omega)
        walk_at "dgr"
        all_goals first | (exfalso; simp at *; done) | skip
        refine ⟨fun i ρ => Hd (∃ s3, ρ = [.val (formD f), .val (.int (0 + (j : Int))), .val (rowD r), s3]), .mk ⟨_, rfl⟩, fun i x ρ3 hx' hI' => ?_, fun ρ3 hI' => ?_⟩
        · obtain ⟨z, rfl⟩ := inner (fun _ => True) i x hx'
          obtain ⟨s4, rfl⟩ := hI'.of
          walk_at "dgr"
          exact .mk ⟨_, rfl⟩
        · obtain ⟨s4, rfl⟩ := hI'.of
          have o1 := ok.1
          walk_at "dgr"
          all_goals first | exact .mk ⟨_, _, _, rfl⟩ | (exfalso; omega) | (exfalso; have := ok.2; omega)
      · walk_at "dgr"
        all_goals first | (exfalso; simp at *; done) | skip
        refine ⟨fun i ρ => Hd (∃ s3, ρ = [.val (formD f), .val (.int (0 + (j : Int))), .val (rowD r), s3]), .mk ⟨_, rfl⟩, fun i x ρ3 hx' hI' => ?_, fun ρ3 hI' => ?_⟩
        · obtain ⟨z, rfl⟩ := inner (fun _ => True) i x hx'
          obtain ⟨s4, rfl⟩ := hI'.of
          walk_at "dgr"
          exact .mk ⟨_, rfl⟩
        · obtain ⟨s4, rfl⟩ := hI'.of
          have o1 := ok.1
          walk_at "dgr"
          all_goals first | exact .mk ⟨_, _, _, rfl⟩ | (exfalso; omega) | (exfalso; have := ok.2; omega)
    · obtain ⟨s1, s2, s3, rfl⟩ := hI.of
      walk_at "dgr"
      exact hk⟩
def gAgree (ad : Kd → Addr) (r f m a : D) (k : D → Prop) : Prop := ∃ pl F ms, r = ruleD ad pl ∧ f = formsD F ∧ m = formD (mk F pl) ∧ a = .lst ((ms : List Int).map D.int) ∧ PlOk pl ∧ FOk F ∧ calm F pl = true ∧ (∀ x ∈ ms, -(50 * Yb) ≤ x ∧ x ≤ 50 * Yb) ∧ k (.bl true)
theorem D__law_agree (T : Txt K mg ad) {ax : Addr} (Z : Exn K mg ax) : DF P w0 K mg base 33 "_law_agree" ["rule", "forms", "made", "amounts"] (spOf K (sp4 (gAgree ad))) :=
  T.f__law_agree.df4 (N := ["rule", "forms", "made", "amounts", "x"]) (fun _ _ _ _ _ _ _ _ _ _ => rfl) sc__law_agree fun f cdv A outer s H E hr => ⟨_, _, (sdcons (sdfor PassesOwn.never rfl (dilist (dv 3)) (gdname (i := 4) sc__law_agree.nd) (sdone (sdif (tnot (tval (dcall (D__law_same T) (hr.mono (by first | decide | omega)) (dcons (dmeth (k := 31) (dv 0) (hr.mono (by first | decide | omega)) (dcons (dv 4) (dcons (dv 1) dnil))) (dcons (dcall (D__law_cost_in T) (hr.mono (by first | decide | omega)) (dcons (dv 2) (dcons (dv 4) dnil))) dnil))))) (sdone (sdret dbl)) sdnil)))
      (sdone (sdret dbl))), fun a b c d k0 h => by
    obtain ⟨pl, F, ms, rfl, rfl, rfl, rfl, hp, hF, hc, hb, hk⟩ := h
    have m1 := CO_step (P := P) (w0 := w0) (base := base) T (at_cost T (kd pl)) (T.cls (kd pl)) Z
    have l1 := no_meth (ad := ad) pl .cost
    simp only [mnm] at l1
    have y := yb1
    have hf : IsForm (mk F pl) := (hp.good hF).form
    have hbd := hp.bd hF
    walk_at "dgr"
    refine ⟨fun j ρ => Hd (∃ s4, ρ = [.val (ruleD ad pl), .val (formsD F), .val (formD (mk F pl)), .val (.lst (ms.map D.int)), s4]), .mk ⟨_, rfl⟩, fun j x ρ2 hx hI => ?_, fun ρ2 hI => ?_⟩
    · obtain ⟨z, hz, rfl⟩ := map_get hx
      obtain ⟨s4, rfl⟩ := hI.of
      have bz := hb z (List.mem_of_getElem? hz)
      have pg := (plan_good hF.good pl hp.ok).2 z
      walk_at "dgr"
      refine ⟨_, _, _, rfl, l1, m1, ?_⟩
      walk_at "dgr"
      refine ⟨pl, F, z, rfl, rfl, rfl, rfl, hp, hF, hc, bz, ?_⟩
      rw [← pg]
      walk_at "dgr"
      exact .mk ⟨_, rfl⟩
    · obtain ⟨s4, rfl⟩ := hI.of
      walk_at "dgr"
      exact hk⟩
end
end K36
set_option Elab.async false
set_option linter.all false
set_option maxRecDepth 100000
set_option maxHeartbeats 4000000
namespace K36
open PySem PySem.Spec PyProof.Rows L2
local macro_rules | `(tactic| walk_at "dfl") => `(tactic| first | refine sp3_go ?_ | refine sp2_go ?_ | refine sp1_go ?_ | refine sp4_go ?_ | refine ⟨_, _, _, rfl, rfl, rfl, rfl, ?_⟩ | refine ⟨_, _, rfl, rfl, rfl, rfl, ?_⟩ | refine ⟨_, _, _, rfl, by assumption, by assumption, rfl, ?_⟩ | refine ⟨_, _, _, rfl, by assumption, by assumption, by assumption, ?_⟩ | refine ⟨_, _, _, rfl, rfl, forms_get _ _, ?_⟩ | refine ⟨_, _, _, rfl, by assumption, by assumption, ?_⟩)
local macro_rules | `(tactic| walk_at "dgf") => `(tactic| (repeat' (first | walk_at "dfl" | refine ⟨_, rfl, ?_⟩ | refine ⟨_, _, rfl, ?_⟩ | refine ⟨_, _, rfl, rfl, ?_⟩ | refine ⟨_, _, _, rfl, ?_⟩ | refine ⟨_, _, _, rfl, rfl, rfl, ?_⟩ | refine ⟨_, _, _, rfl, rfl, atI_last, ?_⟩ | refine ⟨_, _, _, rfl, rfl, by assumption, ?_⟩ | refine ⟨_, _, _, _, rfl, ?_⟩ | refine And.intro rfl ?_ | refine And.intro ⟨_, rfl⟩ ?_ | refine ⟨_, .inl rfl, ?_⟩ | refine ⟨_, .inr rfl, ?_⟩ | refine t_go ?_ | refine f_go ?_ | refine d_go (fun _ => ?_) (fun _ => ?_) | refine n_go (fun _ => ?_) (fun _ => ?_) | refine c_go (fun _ => ?_) (fun _ => ?_) | refine And.intro (by walk_at "dsd") ?_ | fail)))
local macro_rules | `(tactic| walk_at "dsd") => `(tactic| first | omega | exact mulW (by omega) (by omega) | exact divW (by omega) (by omega) | assumption | ((try simp only [List.length_append, List.length_cons, List.length_nil, List.length_map, List.length_reverse, List.length_dropLast, List.length_drop, List.length_take]); omega))
local macro_rules | `(tactic| walk_at "dgo") => `(tactic| (repeat' (first | refine ⟨_, rfl, ?_⟩ | refine ⟨_, _, rfl, ?_⟩ | refine ⟨_, _, rfl, rfl, ?_⟩ | refine ⟨_, _, _, rfl, ?_⟩ | refine ⟨_, _, _, rfl, rfl, rfl, ?_⟩ | refine ⟨_, _, _, rfl, rfl, atI_last, ?_⟩ | refine ⟨_, _, _, rfl, rfl, by assumption, ?_⟩ | refine ⟨_, _, _, _, rfl, ?_⟩ | refine And.intro rfl ?_ | refine And.intro ⟨_, rfl⟩ ?_ | refine ⟨_, .inl rfl, ?_⟩ | refine ⟨_, .inr rfl, ?_⟩ | refine t_go ?_ | refine f_go ?_ | refine d_go (fun _ => ?_) (fun _ => ?_) | refine n_go (fun _ => ?_) (fun _ => ?_) | refine c_go (fun _ => ?_) (fun _ => ?_) | refine And.intro (by walk_at "dsd") ?_ | fail)))
local macro_rules | `(tactic| walk_at "dgb") => `(tactic| (repeat' (first | refine ⟨_, rfl, ?_⟩ | refine ⟨_, _, rfl, ?_⟩ | refine ⟨_, _, rfl, rfl, ?_⟩ | refine ⟨_, _, _, rfl, ?_⟩ | refine ⟨_, _, _, rfl, rfl, rfl, ?_⟩ | refine ⟨_, _, _, rfl, rfl, atI_last, ?_⟩ | refine ⟨_, _, _, rfl, rfl, by assumption, ?_⟩ | refine ⟨_, _, _, _, rfl, ?_⟩ | refine And.intro rfl ?_ | refine And.intro ⟨_, rfl⟩ ?_ | refine ⟨_, .inl rfl, ?_⟩ | refine ⟨_, .inr rfl, ?_⟩ | refine t_go ?_ | refine f_go ?_ | refine d_go (fun _ => ?_) (fun _ => ?_) | refine n_go (fun _ => ?_) (fun _ => ?_) | refine c_go (fun _ => ?_) (fun _ => ?_) | refine nb_go (fun _ => ?_) (fun _ => ?_) | refine b_go (fun _ => ?_) (fun _ => ?_) | refine And.intro (by walk_at "dsd") ?_ | fail)))
local macro_rules | `(tactic| walk_at "dif") => `(tactic| ((repeat' split) <;> first | rfl | (exfalso; omega)))
local macro_rules | `(tactic| walk_at "dgs") => `(tactic| (repeat' (first | refine dt_go (P := @Eq PySem.Str _ _) (by decide +kernel) ?_ | refine df_go (P := @Eq PySem.Str _ _) (by decide +kernel) ?_ | refine ndt_go (P := @Eq PySem.Str _ _) (by decide +kernel) ?_ | refine ndf_go (P := @Eq PySem.Str _ _) (by decide +kernel) ?_ | refine ⟨_, rfl, ?_⟩ | refine ⟨_, _, rfl, ?_⟩ | refine ⟨_, _, rfl, rfl, ?_⟩ | refine ⟨_, _, _, rfl, ?_⟩ | refine ⟨_, _, _, rfl, rfl, rfl, ?_⟩ | refine ⟨_, _, _, rfl, rfl, atI_last, ?_⟩ | refine ⟨_, _, _, rfl, rfl, by assumption, ?_⟩ | refine ⟨_, _, _, _, rfl, ?_⟩ | refine And.intro rfl ?_ | refine And.intro ⟨_, rfl⟩ ?_ | refine ⟨_, .inl rfl, ?_⟩ | refine ⟨_, .inr rfl, ?_⟩ | refine t_go ?_ | refine f_go ?_ | refine d_go (fun _ => ?_) (fun _ => ?_) | refine n_go (fun _ => ?_) (fun _ => ?_) | refine c_go (fun _ => ?_) (fun _ => ?_) | refine And.intro (by walk_at "dsd") ?_ | fail)))
local macro_rules | `(tactic| walk_at "dmx") => `(tactic| walk_at "dgs")
local macro_rules | `(tactic| walk_at "dgs1") => `(tactic| (first | refine dt_go (P := @Eq PySem.Str _ _) (by decide +kernel) ?_ | refine df_go (P := @Eq PySem.Str _ _) (by decide +kernel) ?_ | refine ndt_go (P := @Eq PySem.Str _ _) (by decide +kernel) ?_ | refine ndf_go (P := @Eq PySem.Str _ _) (by decide +kernel) ?_ | refine ⟨_, rfl, ?_⟩ | refine ⟨_, _, rfl, ?_⟩ | refine ⟨_, _, rfl, rfl, ?_⟩ | refine ⟨_, _, _, rfl, ?_⟩ | refine ⟨_, _, _, rfl, rfl, rfl, ?_⟩ | refine ⟨_, _, _, rfl, rfl, atI_last, ?_⟩ | refine ⟨_, _, _, rfl, rfl, by assumption, ?_⟩ | refine ⟨_, _, _, _, rfl, ?_⟩ | refine And.intro rfl ?_ | refine And.intro ⟨_, rfl⟩ ?_ | refine ⟨_, .inl rfl, ?_⟩ | refine ⟨_, .inr rfl, ?_⟩ | refine t_go ?_ | refine f_go ?_ | refine d_go (fun _ => ?_) (fun _ => ?_) | refine n_go (fun _ => ?_) (fun _ => ?_) | refine c_go (fun _ => ?_) (fun _ => ?_) | refine And.intro (by walk_at "dsd") ?_))
local macro_rules | `(tactic| walk_at "dgr") => `(tactic| (repeat' (first | refine isi_go ?_ | refine ist_go ?_ | refine ⟨_, _, _, rfl, rfl, forms_get _ _, ?_⟩ | refine dt_go (P := @Membership.mem PySem.Str _ _ _ _) (by decide +kernel) ?_ | refine df_go (P := @Membership.mem PySem.Str _ _ _ _) (by decide +kernel) ?_ | walk_at "dgs1" | refine ⟨_, ["plus", "or", "max"], rfl, rfl, ?_⟩ | refine ⟨_, ["plus", "or", "max", "only", "after", "fee"], rfl, rfl, ?_⟩ | refine ⟨_, ⟨_, rfl, rfl⟩, ?_⟩ | refine ⟨_, ⟨_, _, rfl, rfl⟩, ?_⟩ | refine ⟨_, ⟨_, _, _, rfl, rfl⟩, ?_⟩ | fail)))
local macro_rules | `(tactic| walk_at "dpr") => `(tactic| walk_at "dgs")
section
variable {P : Program} {w0 : World} {K : PySem.W.Frag} {mg : PySem.Str → Option Value} {base : Heap} {ad : Kd → Addr}
theorem sc__law_forms : FnScope ["script", "scale", "told", "j"] ["script", "scale"] (defScope sLawForms) := ⟨rfl, rfl, rfl, by decide +kernel, rfl, by decide +kernel, by decide +kernel⟩
theorem sc__law_form_or_none : FnScope ["rule", "forms", "made"] ["rule", "forms"] (defScope sLawFormOrNone) := ⟨rfl, rfl, rfl, by decide +kernel, rfl, by decide +kernel, by decide +kernel⟩
theorem rforD {X : Cx} {tg iter key val : Expr} {wi : TI} {w : DA} {g : TG} {tk tv : TE} {wk wv : DE} {st : Stmt} {t : TS} (mk : PI X tg iter wi → PG X tg g → PE X key tk → PE X val tv → PS X st t) (pi : PID X tg iter wi w) (pg : PG X tg g) (pk : PED X key tk wk) (pv : PED X val tv wv) :
    PSR X st t (RefI X.K wi w ∧ RefE X.K tk wk ∧ RefE X.K tv wv) := ⟨mk pi.pe pg pk.pe pv.pe, pi.ref, pk.ref, pv.ref⟩
theorem psr_nox {X : Cx} {sts : List Stmt} {t : TS} {R : Prop} {D : Ends} {σ : L2.St} {H : Hp} (h : PSsR X.nox sts t R) (g : R → t D σ H) : ∃ t, PSs X sts t ∧ t D σ H := ⟨t, h.pe.nox, g h.r⟩
def nms : List PySem.Str := ["p", "qq", "ptop"]
def frms (fs : List (List Row)) : List (PySem.Str × D) := nms.zip (fs.map formD)
def foOf (fs : List (List Row)) : Fo := fun n => match n with
  | .p => fs.getD 0 []
  | .qq => fs.getD 1 []
  | .ptop => fs.getD 2 []
theorem frms_new {fs : List (List Row)} {fr : List Row} {n : PySem.Str} (h : nms[fs.length]? = some n) : (frms fs).lookup n = none ∧ frms (fs ++ [fr]) = frms fs ++ [(n, formD fr)] := by
  match fs, h with
  | [], h => cases h; exact ⟨rfl, rfl⟩
  | [a], h => cases h; exact ⟨rfl, rfl⟩
  | [a, b], h => cases h; exact ⟨rfl, rfl⟩
  | a :: b :: c :: r, h => simp [nms] at h
theorem frms_len {fs : List (List Row)} (h : fs.length ≤ 3) : (frms fs).length = fs.length := by
  simp [frms, nms]
  omega
def gForms (s c : D) (k : D → Prop) : Prop := ∃ ns sc, IsScr s ns ∧ c = .int sc ∧ (0 < sc ∧ sc ≤ 100000000000000000000000000000000000000) ∧ ∀ F, F3 F → k (formsD F)
/-- a dict that grows, owned by no slot -/
structure DctAt (K : PySem.W.Frag) (B : Bs) (Hs H : Hp) (p : Addr) (ds : List (PySem.Str × D)) : Prop where
  n1 : Hs p = none
  n2 : B.h p = none
  ex : ∃ kvs : List (Key × V), H p = some (.dK kvs) ∧ kvs.map (·.1) = ds.map (fun p => Sum.inr p.1) ∧ ∀ (i : Nat) f v g d, kvs[i]? = some (f, v) → ds[i]? = some (g, d) → DR K Hs v d
theorem rep_off {K : PySem.W.Frag} {B : Bs} {Hs H : Hp} {σ : L2.St} {ρ : List Sl} {p : Addr} {o : HO} (r : Rep K B Hs H σ ρ) (h1 : Hs p = none) (h2 : B.h p = none) (no : ∀ (i : Nat) ds, ρ[i]? ≠ some (.own ds)) : Rep K B Hs (upd H p o) σ ρ :=
  ⟨same_upd_of r.same h1, same_upd_of r.ent h2, r.fr, r.len, r.val, fun i ds e => absurd e (no i ds), r.sep⟩
theorem no_own4 {a b : D} {s : Sl} (hs : ∀ l, s ≠ .own l) : ∀ (i : Nat) ds, [Sl.val a, Sl.val b, Sl.un, s][i]? ≠ some (.own ds) := by
  intro i ds h
  rcases i with _ | _ | _ | _ | i <;> simp at h
  exact hs _ h
theorem D__law_forms (T : Txt K mg ad) : DF P w0 K mg base 4 "_law_forms" ["script", "scale"] (spOf K (sp2 gForms)) := by
  obtain ⟨f, fd, F, hm⟩ := T.f__law_forms.ex
  refine ⟨f, fd, ?_, hm, F.kp, F.bindsN (fun kV doc pm an cdv ct us hl => match us, hl with | [u1, u2], _ => rfl)⟩
  refine F.ok sc__law_forms (fun vs H Q E h => ?_) (fun cdv A outer s H vs Q E hr h => ?_)
  · obtain ⟨Hs, ds, k0, _, g, ⟨a, b, rfl, _⟩, _⟩ := h
    exact g.1
  have hr1 : Room 1 _ := hr.mono (by decide)
  refine psr_nox (rcons (rpe (ps_set (i := 2) sc__law_forms.nd rfl (Or.inl rfl) pe_dnewK))
    (rcons (rforD (fun a b c d => ps_for PassesOwn.never rfl a b (pss_one (ps_dput (hu_of hr) (dv 2).pe c d rfl))) (dirange1 T.range dint) (pg_name (i := 3) sc__law_forms.nd rfl (by first | exact Or.inl rfl | exact Or.inr rfl))
      (dix (PLD.asE (dlist (dcons dstr (dcons dstr (dcons dstr dnil))))) (dv 3)) (dcall (D__law_form T) hr (dcons (dcall (D__law_at T) hr1 (dcons (dv 0) (dcons (dadd dint (dv 3)) dnil))) (dcons (dv 1) dnil))))
    (rone (rpe (ps_ret (dv 2).pe))))) (fun ⟨_, ⟨hi, hk, hv⟩, _⟩ => ?_)
  obtain ⟨Hs, ds, k0, sH, g, ⟨a, b, rfl, ns, sc, hscr, rfl, hsc, hk0⟩, hQ⟩ := h
  have r0 := start_rep (N := ["script", "scale", "told", "j"]) sc__law_forms (ds := [a, .int sc]) rfl sH g
  unfold tSeq tAsg gName
  dsimp only
  intro p hp
  have r1 : Rep K ⟨Hs, H⟩ Hs (upd H p (.dK [])) _ [Sl.val a, Sl.val (.int sc), Sl.un, Sl.un] := rep_off (r0.setAny (some (.ref p)) 2) (r0.same.free hp) hp (no_own4 fun l z => by cases z)
  refine hi ⟨Hs, upd H p (.dK [])⟩ Hs _ _ _ (fun l ρ => l = rangeD 0 3 ∧ ρ = [Sl.val a, Sl.val (.int sc), Sl.un, Sl.un]) _ r1.hide ?_ ?_
  · walk_at "dgs"
    first | exact ⟨rfl, rfl⟩ | exact rfl
  rintro J Hs1 H1 l ρ' s1 r2 ok ⟨rfl, rfl⟩
  have hpH : H1 p = some (.dK []) := r2.ent _ _ upd_same
  have n1 : Hs1 p = none := r2.fr p (r0.same.free hp) (by show upd H p (.dK []) p ≠ none; rw [upd_same]; simp)
  have r3 : Rep K ⟨Hs, H⟩ Hs1 H1 _ [Sl.val a, Sl.val (.int sc), Sl.un, Sl.un] := r1.grow s1 r2.same r2.ent r2.fr
  have hlen := r3.len
  refine ⟨fun i m σ H' => m = 3 - i ∧ i ≤ 3 ∧ ∃ (Hs2 : Hp) (s3 : Sl) (fs : List (List Row)), Same Hs1 Hs2 ∧ Rep K ⟨Hs, H⟩ Hs2 H' σ [Sl.val a, Sl.val (.int sc), Sl.un, s3] ∧ (∀ l, s3 ≠ .own l) ∧ σ[2]? = some (some (.ref p)) ∧ DctAt K ⟨Hs, H⟩ Hs2 H' p (frms fs) ∧ fs.length = i ∧ ∀ f ∈ fs, Good LL 1 f ∧ f.length ≤ 3,
    ⟨3, rfl, Nat.zero_le _, Hs1, .un, [], Same.refl _, r3, (fun l z => by cases z), List.getElem?_set_self (by rw [r0.len]; exact (by decide : 2 < 4)), ⟨n1, hp, [], hpH, rfl, fun i f v g d e => by simp at e⟩, rfl, fun f hf => by cases hf⟩, ?_⟩
  rintro i m σ2 H2 ⟨rfl, hi3, Hs2, s3, fs, t2, r4, hs3, e2, dc, hl, hg⟩
  obtain ⟨kvs, k1, k2, k3⟩ := dc.ex
  by_cases hlt : i < 3
  · refine .inr ⟨ok.go i H2 (t2.trans r4.same) (by rw [rangeD_length]; exact hlt), fun σ H' => ∃ (Hs2 : Hp) (s3 : Sl) (fs : List (List Row)), Same Hs1 Hs2 ∧ Rep K ⟨Hs, H⟩ Hs2 H' σ [Sl.val a, Sl.val (.int sc), Sl.un, s3] ∧ (∀ l, s3 ≠ .own l) ∧ σ[2]? = some (some (.ref p)) ∧ DctAt K ⟨Hs, H⟩ Hs2 H' p (frms fs) ∧ fs.length = i + 1 ∧ ∀ f ∈ fs, Good LL 1 f ∧ f.length ≤ 3,
      fun σ' H' h => ⟨3 - (i + 1), by omega, rfl, hlt, h⟩, fun x H' y => ?_⟩
    obtain ⟨e, d, e1, d1⟩ := ok.yld i H2 x H' (t2.trans r4.same) (by rw [rangeD_length]; exact hlt) y
    subst e
    obtain ⟨_, rfl⟩ := range_get e1
    have r5 := r4.setVal (d1.mono t2) 3
    have e3 : (σ2.set 3 (some x))[2]? = some (some (.ref p)) := by rw [List.getElem?_set_ne (by decide)]; exact e2
    refine hv ⟨Hs2, H'⟩ Hs2 H' _ _ (fun d ρ => ∃ f, Good LL 1 f ∧ f.length ≤ 3 ∧ d = formD f ∧ ρ = [Sl.val a, Sl.val (.int sc), Sl.un, Sl.val (.int (0 + (i : Int)))]) _ r5.hide ?_ ?_
    · walk_at "dgs"
      refine ⟨ns, _, hscr, rfl, by omega, fun z => ?_⟩
      walk_at "dgs"
      intro f hf hl3
      exact ⟨f, hf, hl3, rfl, rfl⟩
    rintro v Hs3 H3 d ρ3 s3' r6 dr3 ⟨fr, gf, lf, rfl, rfl⟩
    refine ⟨.ref p, e3, ?_⟩
    refine hk ⟨Hs3, H3⟩ Hs3 H3 _ _ (fun d ρ => ∃ n, nms[i]? = some n ∧ d = .str n ∧ ρ = [Sl.val a, Sl.val (.int sc), Sl.un, Sl.val (.int (0 + (i : Int)))]) _ r6.hide ?_ ?_
    · rcases i with _ | _ | _ | i
      · walk_at "dgs"
        first | exact ⟨_, rfl, rfl, rfl⟩ | exact rfl | exact ⟨rfl, rfl⟩
      · walk_at "dgs"
        first | exact ⟨_, rfl, rfl, rfl⟩ | exact rfl | exact ⟨rfl, rfl⟩
      · walk_at "dgs"
        first | exact ⟨_, rfl, rfl, rfl⟩ | exact rfl | exact ⟨rfl, rfl⟩
      · omega
    rintro y Hs4 H4 d ρ4 s4 r7 dr4 ⟨n, hn, rfl, rfl⟩
    have q1 : Hs3 p = none := r6.fr p dc.n1 (by show H' p ≠ none; rw [k1]; simp)
    have h3 : H3 p = some (.dK kvs) := r6.ent _ _ k1
    have h4 : H4 p = some (.dK kvs) := r7.ent _ _ h3
    have n4 : Hs4 p = none := r7.fr p q1 (by show H3 p ≠ none; rw [h3]; simp)
    obtain ⟨f1, f2⟩ := frms_new (fs := fs) (fr := fr) (by rw [hl]; exact hn)
    have hv0 : valV kvs (.inr n) = none := (valV_keys k2 k3).2 f1
    have kl : kvs.length = fs.length := by
      have := congrArg List.length k2
      rw [List.length_map, List.length_map] at this
      rw [this, frms_len (by omega)]
    rw [dr4.str_inv]
    refine ⟨p, _, rfl, DPut.k (k := .inr n) h4 (szMl (by omega)), ?_⟩
    rw [putK_new v hv0]
    have rg : Rep K ⟨Hs, H⟩ Hs4 H4 (σ2.set 3 (some x)) [Sl.val a, Sl.val (.int sc), Sl.un, Sl.val (.int (0 + (i : Int)))] := Rep.grow r5 (s3'.trans s4) r7.same (r6.ent.trans r7.ent) (fun a h1 h2 => r7.fr a (r6.fr a h1 h2) (fun z => h2 (r6.ent.free z)))
    refine ⟨Hs4, .val (.int (0 + (i : Int))), fs ++ [fr], (t2.trans s3').trans s4, rep_off rg n4 dc.n2 (no_own4 fun l z => by cases z), (fun l z => by cases z), e3, ⟨n4, dc.n2, _, upd_same, ?_, ?_⟩, by rw [List.length_append, hl]; rfl, fun f hf => ?_⟩
    · rw [f2, List.map_append, List.map_append, k2]; rfl
    · intro j f v' g d z1 z2
      rw [f2] at z2
      have fl : (frms fs).length = kvs.length := by rw [frms_len (by omega), kl]
      by_cases hj : j < kvs.length
      · rw [List.getElem?_append_left hj] at z1
        rw [List.getElem?_append_left (by rw [fl]; exact hj)] at z2
        exact (k3 j f v' g d z1 z2).mono (s3'.trans s4)
      · rw [List.getElem?_append_right (by omega)] at z1
        rw [List.getElem?_append_right (by omega), fl] at z2
        rcases Nat.eq_zero_or_pos (j - kvs.length) with z | z
        · rw [z] at z1 z2
          simp at z1 z2
          rw [← z1.2, ← z2.2]
          exact dr3.mono s4
        · rw [List.getElem?_eq_none (by simp; omega)] at z1
          cases z1
    · rcases List.mem_append.mp hf with h | h
      · exact hg f h
      · rw [List.mem_singleton.mp h]; exact ⟨gf, lf⟩
  · have e : fs.length = 3 := by omega
    have hi' : i = 3 := by omega
    subst hi'
    refine .inl ⟨?_, .ref p, e2, ?_⟩
    · have := ok.stop H2 (t2.trans r4.same)
      rw [rangeD_length] at this
      exact this
    have no := no_own4 (a := a) (b := .int sc) hs3
    have rS := r4.settleAny dc.n1 dc.n2 k1 (fun i ds h => absurd h (no i ds))
    have sU : Same Hs2 (upd Hs2 p (.dK kvs)) := same_upd dc.n1
    refine hQ (formsD (foOf fs)) (.ref p) _ H2 (hk0 _ ?_) r4.ent ((s1.trans t2).trans sU) rS.same rS.fr ?_
    · match fs, e, hg with
      | [x, y, z], _, hg => exact ⟨fun n => by cases n <;> exact (hg _ (by simp [foOf])).1, fun n => by cases n <;> exact (hg _ (by simp [foOf])).2⟩
    · have dd : DR K (upd Hs2 p (.dK kvs)) (.ref p) (.dct (frms fs)) := .dct upd_same k2 fun i f v g d z1 z2 => (k3 i f v g d z1 z2).mono sU
      match fs, e, dd with
      | [x, y, z], _, dd => exact dd
section
variable {X : Cx} {o e : Expr} {es : List Expr} {to : TE} {t : TA} {m : PySem.Str} {apos pos : Pos} {k : Nat} {EX : L2.St → XK}
def tMethXs (P : Program) (w : World) (K : PySem.W.Frag) (mg : PySem.Str → Option Value) (base : Heap) (k : Nat) (EX : L2.St → XK) (m : PySem.Str) (to : TE) (t : TA) : TE := fun σ H Q => to σ H fun x H1 => ∃ C a dx fs sp, x = .ref a ∧ H1 a = some (.ins C dx fs) ∧ fs.lookup m = none ∧ MX P w K mg base k C m sp ∧ t σ H1 fun vs H2 => sp (x :: vs) H2 Q (EX σ)
theorem pe_methXs {pl : Sem Bool} (he : PE X o to) (hr : Room k X.A) (hx : ∀ σ, PassesAt (L2.CX X.prog X.w) X σ (EX σ)) (ha : PA X (e :: es) t) (hst : starEach (e :: es) X.env = (false, eval e X.env) :: starEach es X.env := by rfl) (hpl : (backTo pos (starEach es X.env)).any (·.1) = false := by rfl)
    (ht : eval (.Call (.Attribute o m apos) (e :: es) [] pos) X.env = (do
      let ov ← eval o X.env
      standAt apos.atName
      let (f, first) ← holding [ov] (getMethod ov m pl)
      callWith pos f first (backTo pos (starEach (e :: es) X.env)) (backToKw pos (keywordEach [] X.env))) := by rfl) :
    PE X (.Call (.Attribute o m apos) (e :: es) [] pos) (tMethXs X.prog X.w X.K X.mg X.base k EX m to t) := by
  refine ⟨fun pins s σ H Q I h => ?_⟩
  refine PySem.W.methodCall_KW (pl := pl) (thn (he.run pins s σ H _ I h) fun u s1 ⟨x, H1, I1, rx, C, a, dx, fs, sp, ex, ea, l, md, q⟩ => ?_) ht
  subst ex
  obtain rfl : u = Value.ref a := rx
  obtain ⟨f, fd, ps, c, hm, F, hb⟩ := md.ex
  refine getmeth_ok I1 ea c hm l ?_
  refine PySem.W.callWith_K (first := [.ref a]) (h₀ := X.base) I.ok.mod.kin hm.kp (thn (ha.run pos pins s1 σ H1 _ I1 q) fun us s2 ⟨vs, H2, I2, r, q2⟩ => ⟨I2.kIn, ?_⟩) hst hpl
  exact run_fnS (us := .ref a :: us) (vs := .ref a :: vs) F hr hb (hx _) I2 (.cons rfl r) q2
end
theorem takesN {X : Cx} : Takes X (fun _ _ _ _ => False) := fun _ _ x => by
  obtain ⟨_, _, _, _, _, _, _, _, _, _, _, _, _, _, _, _, z⟩ := x
  exact z.elim
def gFon (ad : Kd → Addr) (r f : D) (k : D → Prop) : Prop := ∃ pl F, r = ruleD ad pl ∧ f = formsD F ∧ PlOk pl ∧ FOk F ∧ k (oformD (if calm F pl = true then some (mk F pl) else none))
theorem D__law_fon (T : Txt K mg ad) {ax : Addr} (Z : Exn K mg ax) : DF P w0 K mg base 32 "_law_form_or_none" ["rule", "forms"] (spOf K (sp2 (gFon ad))) := by
  obtain ⟨f, fd, F, hm⟩ := T.f__law_form_or_none.ex
  refine ⟨f, fd, ?_, hm, F.kp, F.bindsN (fun kV doc pm an cdv ct us hl => match us, hl with | [u1, u2], _ => rfl)⟩
  refine F.ok sc__law_form_or_none (fun vs H Q E h => ?_) (fun cdv A outer s H vs Q E hr h => ?_)
  · obtain ⟨Hs, ds, k0, _, g, ⟨a, b, rfl, _⟩, _⟩ := h
    exact g.1
  refine psr_nox (rcons (rpe (ps_set (i := 2) sc__law_form_or_none.nd rfl (Or.inl rfl) pe_non))
    (rcons (rpe (ps_try_only (tb := fun W => tAsg (tMethXs P w0 K mg base 31 (WE W) "form" (tVar 0) (tCons (tVar 1) tNil)) (gName 2)) (ts := fun _ _ _ => tAsg (tC .non) (gName 2)) (Wout := fun _ _ _ _ => False) rfl rfl ⟨rfl, by decide, Or.inl Z.gC⟩ takesN
      (fun W pn xe tk _ => pss_one (ps_set (i := 2) sc__law_form_or_none.nd rfl (Or.inl rfl) (pe_methXs (dv 0).pe hr (fun σ => passAt tk σ) (pa_cons (dv 1).pe pa_nil))))
      (fun _ _ _ _ _ _ _ => pss_one (ps_set (i := 2) sc__law_form_or_none.nd rfl (Or.inl rfl) pe_non))))
    (rone (rpe (ps_ret (dv 2).pe))))) (fun _ => ?_)
  obtain ⟨Hs, ds, k0, sH, g, ⟨a, b, rfl, pl, Fo', rfl, rfl, hp, hF, hk⟩, hQ⟩ := h
  have r0 := start_rep (N := ["rule", "forms", "made"]) sc__law_form_or_none (ds := [ruleD ad pl, formsD Fo']) rfl sH g
  have r1 := r0.setVal (DR.non (K := K) (H := Hs)) 2
  obtain ⟨v0, e0', d0⟩ := r1.val 0 _ rfl
  obtain ⟨v1, e1, d1⟩ := r1.val 1 _ rfl
  have hlen : 2 < ((L2.start ["rule", "forms", "made"] vs).set 2 (some .non)).length := by rw [r1.len]; exact (by decide : 2 < 3)
  obtain ⟨p, dx, fs, rfl, h1, hl⟩ := id d0.ins_inv
  unfold tSeq
  refine ⟨.ref p, e0', ad (kd pl), p, dx, fs, _, rfl, sH _ _ h1, (hl _).2 (no_meth pl .form), FM_all T Z (kd pl), ?_⟩
  refine ⟨v1, e1, ?_⟩
  refine ⟨Hs, pl, Fo', rfl, sH, Rl.cons d0 (Rl.cons d1 Rl.nil), hp, hF, fun hc v Hs' H' t1 t2 t3 t4 dr => ?_, fun hn d H' t1 => ?_⟩
  · rw [if_pos hc] at hk
    exact ⟨v, List.getElem?_set_self hlen, hQ _ v Hs' H' hk t1 t2 t3 t4 dr⟩
  · rw [if_neg (by rw [hn]; decide)] at hk
    refine ⟨true, Z.te, fun _ a ha => ?_, fun q => by cases q⟩
    exact ⟨.non, List.getElem?_set_self hlen, hQ .non .non Hs H' hk t1 (Same.refl _) (sH.trans t1) (fun _ q _ => q) .non⟩
end
end K36
set_option Elab.async false
set_option linter.all false
set_option maxRecDepth 100000
set_option maxHeartbeats 4000000
namespace K36
open PySem PySem.Spec PyProof.Rows L2
local macro_rules | `(tactic| walk_at "dfl") => `(tactic| first | refine sp3_go ?_ | refine sp2_go ?_ | refine sp1_go ?_ | refine sp4_go ?_ | refine ⟨_, _, _, rfl, rfl, rfl, rfl, ?_⟩ | refine ⟨_, _, rfl, rfl, rfl, rfl, ?_⟩ | refine ⟨_, _, _, rfl, by assumption, by assumption, rfl, ?_⟩ | refine ⟨_, _, _, rfl, by assumption, by assumption, by assumption, ?_⟩ | refine ⟨_, _, _, rfl, rfl, forms_get _ _, ?_⟩ | refine ⟨_, _, _, rfl, by assumption, by assumption, ?_⟩)
local macro_rules | `(tactic| walk_at "dgf") => `(tactic| (repeat' (first | walk_at "dfl" | refine ⟨_, rfl, ?_⟩ | refine ⟨_, _, rfl, ?_⟩ | refine ⟨_, _, rfl, rfl, ?_⟩ | refine ⟨_, _, _, rfl, ?_⟩ | refine ⟨_, _, _, rfl, rfl, rfl, ?_⟩ | refine ⟨_, _, _, rfl, rfl, atI_last, ?_⟩ | refine ⟨_, _, _, rfl, rfl, by assumption, ?_⟩ | refine ⟨_, _, _, _, rfl, ?_⟩ | refine And.intro rfl ?_ | refine And.intro ⟨_, rfl⟩ ?_ | refine ⟨_, .inl rfl, ?_⟩ | refine ⟨_, .inr rfl, ?_⟩ | refine t_go ?_ | refine f_go ?_ | refine d_go (fun _ => ?_) (fun _ => ?_) | refine n_go (fun _ => ?_) (fun _ => ?_) | refine c_go (fun _ => ?_) (fun _ => ?_) | refine And.intro (by walk_at "dsd") ?_ | fail)))
local macro_rules | `(tactic| walk_at "dsd") => `(tactic| first | omega | exact mulW (by omega) (by omega) | exact divW (by omega) (by omega) | assumption | ((try simp only [List.length_append, List.length_cons, List.length_nil, List.length_map, List.length_reverse, List.length_dropLast, List.length_drop, List.length_take]); omega))
local macro_rules | `(tactic| walk_at "dgo") => `(tactic| (repeat' (first | refine ⟨_, rfl, ?_⟩ | refine ⟨_, _, rfl, ?_⟩ | refine ⟨_, _, rfl, rfl, ?_⟩ | refine ⟨_, _, _, rfl, ?_⟩ | refine ⟨_, _, _, rfl, rfl, rfl, ?_⟩ | refine ⟨_, _, _, rfl, rfl, atI_last, ?_⟩ | refine ⟨_, _, _, rfl, rfl, by assumption, ?_⟩ | refine ⟨_, _, _, _, rfl, ?_⟩ | refine And.intro rfl ?_ | refine And.intro ⟨_, rfl⟩ ?_ | refine ⟨_, .inl rfl, ?_⟩ | refine ⟨_, .inr rfl, ?_⟩ | refine t_go ?_ | refine f_go ?_ | refine d_go (fun _ => ?_) (fun _ => ?_) | refine n_go (fun _ => ?_) (fun _ => ?_) | refine c_go (fun _ => ?_) (fun _ => ?_) | refine And.intro (by walk_at "dsd") ?_ | fail)))
local macro_rules | `(tactic| walk_at "dgb") => `(tactic| (repeat' (first | refine ⟨_, rfl, ?_⟩ | refine ⟨_, _, rfl, ?_⟩ | refine ⟨_, _, rfl, rfl, ?_⟩ | refine ⟨_, _, _, rfl, ?_⟩ | refine ⟨_, _, _, rfl, rfl, rfl, ?_⟩ | refine ⟨_, _, _, rfl, rfl, atI_last, ?_⟩ | refine ⟨_, _, _, rfl, rfl, by assumption, ?_⟩ | refine ⟨_, _, _, _, rfl, ?_⟩ | refine And.intro rfl ?_ | refine And.intro ⟨_, rfl⟩ ?_ | refine ⟨_, .inl rfl, ?_⟩ | refine ⟨_, .inr rfl, ?_⟩ | refine t_go ?_ | refine f_go ?_ | refine d_go (fun _ => ?_) (fun _ => ?_) | refine n_go (fun _ => ?_) (fun _ => ?_) | refine c_go (fun _ => ?_) (fun _ => ?_) | refine nb_go (fun _ => ?_) (fun _ => ?_) | refine b_go (fun _ => ?_) (fun _ => ?_) | refine And.intro (by walk_at "dsd") ?_ | fail)))
local macro_rules | `(tactic| walk_at "dif") => `(tactic| ((repeat' split) <;> first | rfl | (exfalso; omega)))
local macro_rules | `(tactic| walk_at "dgs") => `(tactic| (repeat' (first | refine dt_go (P := @Eq PySem.Str _ _) (by decide +kernel) ?_ | refine df_go (P := @Eq PySem.Str _ _) (by decide +kernel) ?_ | refine ndt_go (P := @Eq PySem.Str _ _) (by decide +kernel) ?_ | refine ndf_go (P := @Eq PySem.Str _ _) (by decide +kernel) ?_ | refine ⟨_, rfl, ?_⟩ | refine ⟨_, _, rfl, ?_⟩ | refine ⟨_, _, rfl, rfl, ?_⟩ | refine ⟨_, _, _, rfl, ?_⟩ | refine ⟨_, _, _, rfl, rfl, rfl, ?_⟩ | refine ⟨_, _, _, rfl, rfl, atI_last, ?_⟩ | refine ⟨_, _, _, rfl, rfl, by assumption, ?_⟩ | refine ⟨_, _, _, _, rfl, ?_⟩ | refine And.intro rfl ?_ | refine And.intro ⟨_, rfl⟩ ?_ | refine ⟨_, .inl rfl, ?_⟩ | refine ⟨_, .inr rfl, ?_⟩ | refine t_go ?_ | refine f_go ?_ | refine d_go (fun _ => ?_) (fun _ => ?_) | refine n_go (fun _ => ?_) (fun _ => ?_) | refine c_go (fun _ => ?_) (fun _ => ?_) | refine And.intro (by walk_at "dsd") ?_ | fail)))
local macro_rules | `(tactic| walk_at "dmx") => `(tactic| walk_at "dgs")
local macro_rules | `(tactic| walk_at "dgs1") => `(tactic| (first | refine dt_go (P := @Eq PySem.Str _ _) (by decide +kernel) ?_ | refine df_go (P := @Eq PySem.Str _ _) (by decide +kernel) ?_ | refine ndt_go (P := @Eq PySem.Str _ _) (by decide +kernel) ?_ | refine ndf_go (P := @Eq PySem.Str _ _) (by decide +kernel) ?_ | refine ⟨_, rfl, ?_⟩ | refine ⟨_, _, rfl, ?_⟩ | refine ⟨_, _, rfl, rfl, ?_⟩ | refine ⟨_, _, _, rfl, ?_⟩ | refine ⟨_, _, _, rfl, rfl, rfl, ?_⟩ | refine ⟨_, _, _, rfl, rfl, atI_last, ?_⟩ | refine ⟨_, _, _, rfl, rfl, by assumption, ?_⟩ | refine ⟨_, _, _, _, rfl, ?_⟩ | refine And.intro rfl ?_ | refine And.intro ⟨_, rfl⟩ ?_ | refine ⟨_, .inl rfl, ?_⟩ | refine ⟨_, .inr rfl, ?_⟩ | refine t_go ?_ | refine f_go ?_ | refine d_go (fun _ => ?_) (fun _ => ?_) | refine n_go (fun _ => ?_) (fun _ => ?_) | refine c_go (fun _ => ?_) (fun _ => ?_) | refine And.intro (by walk_at "dsd") ?_))
local macro_rules | `(tactic| walk_at "dgr") => `(tactic| (repeat' (first | refine ⟨_, .inr ⟨_, rfl, rfl⟩, ?_⟩ | refine And.intro ⟨_, _, rfl⟩ ?_ | refine isi_go ?_ | refine ist_go ?_ | refine ⟨_, _, _, rfl, rfl, forms_get _ _, ?_⟩ | refine dt_go (P := @Membership.mem PySem.Str _ _ _ _) (by decide +kernel) ?_ | refine df_go (P := @Membership.mem PySem.Str _ _ _ _) (by decide +kernel) ?_ | walk_at "dgs1" | refine ⟨_, ["plus", "or", "max"], rfl, rfl, ?_⟩ | refine ⟨_, ["plus", "or", "max", "only", "after", "fee"], rfl, rfl, ?_⟩ | refine ⟨_, ⟨_, rfl, rfl⟩, ?_⟩ | refine ⟨_, ⟨_, _, rfl, rfl⟩, ?_⟩ | refine ⟨_, ⟨_, _, _, rfl, rfl⟩, ?_⟩ | fail)))
local macro_rules | `(tactic| walk_at "dpr") => `(tactic| walk_at "dgs")
section
variable {P : Program} {w0 : World} {K : PySem.W.Frag} {mg : PySem.Str → Option Value} {base : Heap} {ad : Kd → Addr}
theorem sc_law : FnScope ["script", "scale", "books", "plan", "rule", "told", "which", "forms", "made", "amounts", "part"] ["script"] (defScope sLaw) := ⟨rfl, rfl, rfl, by decide +kernel, rfl, by decide +kernel, by decide +kernel⟩
theorem three_at (z : Int) : ∃ sc : Int, (0 < sc ∧ sc ≤ 100000000000000000000000000000000000000) ∧ atI [D.int 9, D.int 1000000, D.int 100000000000000000000000000000000000000] (z % 3) = some (.int sc) := by
  have : z % 3 = 0 ∨ z % 3 = 1 ∨ z % 3 = 2 := by omega
  rcases this with h | h | h <;> rw [h] <;> exact ⟨_, by decide, rfl⟩
def rF (pl : Plan) (F : Fo) : Option (List Row) := if calm F pl = true then some (mk F pl) else none
def sq (pl : Plan) (F0 F1 : Fo) : List (Option (List Row)) := [rF pl F0, rF pl F1, rF pl F0]
theorem row_bd {F : Fo} {pl : Plan} (hp : PlOk pl) (hF : FOk F) {r : Row} (hr : r ∈ mk F pl) : (-Yb ≤ r.lo ∧ r.lo ≤ Yb) ∧ (-Yb ≤ r.hi ∧ r.hi ≤ Yb) := by
  have g := hp.good hF
  have ok := g.form.ok_at r hr
  have b1 := ((g.mono hp.wt).bd r.lo _ (cost_in g.form.asc hr (Int.le_refl _) ok.1)).1
  have b2 := ((g.mono hp.wt).bd r.hi _ (cost_in g.form.asc hr ok.1 (Int.le_refl _))).1
  have a := llA
  rw [show ((20 : Nat) : Int) = 20 from rfl] at b1 b2
  omega
def gLaw (s : D) (k : D → Prop) : Prop := ∃ ns : List Int, s = .scr ns ∧ ns.length ≤ 63 ∧ k (.bl true)
theorem mk1 {x : PySem.Str} {st : Stmt} {N : List PySem.Str} {k : Nat} {p1 : PySem.Str} {g : D → (D → Prop) → Prop} {fl : Addr} {fdl : FuncData} (F : FunD K x x (defArgs st) (defBody st) (defScope st) [] [] fl fdl) (S : FnScope N [p1] (defScope st))
    (body : BodyOk P w0 K mg base N x st k fun w => ∀ a k0, g a k0 → w { nx := fun _ => k0 .non, rt := k0 } (startD N [a])) : FnOk P w0 K mg base CX0 (k + 1) fl fdl [p1] (spOf K (sp1 g)) :=
  mkFn F S (fun ds k ⟨_, e, _⟩ => by rw [e]; rfl) fun cdv A outer s H E hr => by
    obtain ⟨t, w, h1, h2⟩ := body fl cdv A outer s H E hr
    refine ⟨t, w, h1, fun ds k0 hs => ?_⟩
    obtain ⟨a, rfl, q⟩ := hs
    exact h2 a k0 q
theorem law_ok (T : Txt K mg ad) {ax cr : Addr} (Z : Exn K mg ax) (R : IsR K mg ad "Rule" cr) {fl : Addr} {fdl : FuncData} (F : FunD K "law" "law" (defArgs sLaw) (defBody sLaw) (defScope sLaw) [] [] fl fdl) : FnOk P w0 K mg base CX0 34 fl fdl ["script"] (spOf K (sp1 gLaw)) :=
  mk1 (N := ["script", "scale", "books", "plan", "rule", "told", "which", "forms", "made", "amounts", "part"]) F sc_law fun f cdv A outer s H E hr => ⟨_, _, (sdcons (sdset (i := 1) sc_law.nd (dix (PLD.asE (dlist (dcons dint (dcons (dpowK (c := 1000000) (by decide +kernel) ⟨by decide, by decide, by decide⟩) (dcons (dpowK (c := 100000000000000000000000000000000000000) (by decide +kernel) ⟨by decide, by decide, by decide⟩) dnil))))) (dmod (dcall (D__law_at T) (hr.mono (by first | decide | omega)) (dcons (dv 0) (dcons dint dnil))) dint)))
      (sdcons (sdset (i := 2) sc_law.nd (PLD.asE (dlist (dcons (dcall (D__law_forms T) (hr.mono (by first | decide | omega)) (dcons (dv 0) (dcons (dv 1) dnil))) (dcons (dcall (D__law_forms T) (hr.mono (by first | decide | omega)) (dcons (PLD.asE (dcat (PLD.asE (dlist (dcons (dcall (D__law_at T) (hr.mono (by first | decide | omega)) (dcons (dv 0) (dcons dint dnil))) dnil))) (PLD.asE (dlistRev rfl T.list T.reversed (PLD.asE (dslice (dv 0) (dosome dint) dono)))))) (dcons (dv 1) dnil))) dnil)))))
      (sdcons (sdset (i := 3) sc_law.nd (dcall (D__law_tree T) (hr.mono (by first | decide | omega)) (dcons (dcall (D__law_folded T) (hr.mono (by first | decide | omega)) (dcons (dv 0) (dcons dint (dcons dint dnil)))) (dcons (dv 1) (dcons (PLD.asE (dlist (dcons dstr (dcons dstr (dcons dstr (dcons dstr dnil)))))) dnil)))))
      (sdcons (sdset (i := 4) sc_law.nd (dcall (RU_all T 9) (hr.mono (by decide)) (dcons (dv 3) dnil)))
      (sdcons (sdif (tnot (tval (disR R (fun c => T.cls c) T.isinstance (dv 4)))) (sdone (sdret dbl)) sdnil)
      (sdcons (sdsetL (i := 5) sc_law.nd (dlist dnil))
      (sdcons (sdfor PassesOwn.never rfl (dilist (PLD.asE (dlist (dcons dint (dcons dint (dcons dint dnil)))))) (gdname (i := 6) sc_law.nd) (sdcons (sdset (i := 7) sc_law.nd (dix (dv 2) (dv 6)))
      (sdcons (sdset (i := 8) sc_law.nd (dcall (D__law_fon T Z) (hr.mono (by decide)) (dcons (dv 4) (dcons (dv 7) dnil))))
      (sdcons (sdexpr (dappend 5 (dv 8)))
      (sdone (sdif (tnotN (dv 8) dnon) (sdcons (sdif (PWD.pt (tor (tnot (tval (dcall (D__law_is_form T) (hr.mono (by first | decide | omega)) (dcons (dv 8) dnil)))) (tor1 (tgt (dlen T.len (dv 8)) dint)))) (sdone (sdret dbl)) sdnil)
      (sdcons (sdsetL (i := 9) sc_law.nd (dcallN (D__law_amounts T) (hr.mono (by first | decide | omega)) (dcons (dv 3) (dcons (dv 7) (dcons (PLD.asE (dslice (dv 0) dono (dosome dint))) (dcons (dv 1) dnil))))))
      (sdcons (sdif (tval (dcall (HR_all T 9) (hr.mono (by decide)) (dcons (dv 3) dnil))) (sdone (sdsetL (i := 9) sc_law.nd (dslice (dvo 9) dono (dosome dint)))) sdnil)
      (sdcons (sdfor PassesOwn.never rfl (dituple (dcatT (dsliceT (dv 8) dono (dosome dint)) (dsliceT (dv 8) (dosome (dneg dint)) dono))) (gdname (i := 10) sc_law.nd) (sdone (sdexpr (dextend 9 (PLD.asE (dlist (dcons (dsub (dix (dv 10) dint) dint) (dcons (dix (dv 10) dint) (dcons (dix (dv 10) dint) (dcons (dadd (dix (dv 10) dint) dint) dnil))))))))))
      (sdone (sdif (PWD.pt (tand (tlt (dlenO 5 T.len) dint) (tand1 (tnot (tval (dcall (D__law_agree T Z) hr (dcons (dv 4) (dcons (dv 7) (dcons (dv 8) (dcons (dvo 9) dnil)))))))))) (sdone (sdret dbl)) sdnil)))))) sdnil))))))
      (sdone (sdret (deqF hr (dixO 5 dint) (dixO 5 dint))))))))))), fun a k0 h => by
    obtain ⟨ns, rfl, hn, hk⟩ := h
    have y := yb1
    have hat : IsScr (.scr ns) ns := .inl rfl
    have hcl : (cutD (ns.map D.int) (some 1) none).length ≤ 63 := by
      have := cutD_length (ns.map D.int) (some 1) none
      rw [List.length_map] at this
      omega
    walk_at "dgr"
    refine ⟨ns, _, hat, rfl, by omega, fun z0 => ?_⟩
    obtain ⟨sc, hsc, hx⟩ := three_at z0
    walk_at "dgr"
    refine ⟨ns, _, hat, rfl, by omega, fun F0 hF0 => ?_⟩
    walk_at "dgr"
    refine ⟨ns, _, hat, rfl, by omega, fun z1 => ?_⟩
    walk_at "dgr"
    refine ⟨z1 :: (cutD ns (some 1) none).reverse, _, .inr (by rw [cutD_map, ← List.map_reverse]; rfl), rfl, by omega, fun F1 hF1 => ?_⟩
    walk_at "dgr"
    intro ms hms
    walk_at "dgr"
    intro pl hp hs hw
    have dw := depth_weight pl
    have hd : depth pl < 9 := by omega
    have ok : PlOk pl := ⟨hp, hs, by omega⟩
    walk_at "dgr"
    refine ⟨fun j ρ => Hd (∃ (L : List D) (s6 s7 s8 s9 s10 : Sl), ρ = [.val (.scr ns), .val (.int sc), .val (.lst [formsD F0, formsD F1]), .val (planD pl), .val (ruleD ad pl), .own L, s6, s7, s8, s9, s10] ∧ L = ((sq pl F0 F1).take j).map oformD),
      .mk ⟨_, _, _, _, _, _, rfl, rfl⟩, fun j x ρ2 hx hI => ?_, fun ρ2 hI => ?_⟩
    · obtain ⟨L, s6, s7, s8, s9, s10, rfl, hL⟩ := hI.of
      have hLl : L.length ≤ 3 := by
        rw [hL, List.length_map, List.length_take]
        show min j 3 ≤ 3
        omega
      obtain ⟨w, F, hF, rfl, hix, hnext⟩ : ∃ w F, F3 F ∧ x = .int w ∧ atI [formsD F0, formsD F1] w = some (formsD F) ∧ ((sq pl F0 F1).take (j + 1)).map oformD = L ++ [oformD (rF pl F)] := by
        rcases j with _ | _ | _ | j
        · cases hx; exact ⟨0, F0, hF0, rfl, rfl, by rw [hL]; rfl⟩
        · cases hx; exact ⟨1, F1, hF1, rfl, rfl, by rw [hL]; rfl⟩
        · cases hx; exact ⟨0, F0, hF0, rfl, rfl, by rw [hL]; rfl⟩
        · simp at hx
      have hFO := hF.ok
      by_cases hc : calm F pl = true
      · have er : rF pl F = some (mk F pl) := if_pos hc
        have el := calm_len hc
        have f1 : IsForm (mk F pl) := (ok.good hFO).form
        have f2 := ok.bd hFO
        rw [er] at hnext
        walk_at "dgr"
        rw [if_pos hc]
        refine ⟨fun _ => ?_, fun z => Bool.noConfusion (show true = false from z)⟩
        walk_at "dgr"
        · exfalso
          simp only [List.length_map] at *
          omega
        · refine ⟨pl, F, cutD ns none (some 12), sc, by rw [← cutD_map], hp, hs, hw, hF, ?_, hsc, fun qs hq hb => ?_⟩
          · have := cutD_length ns none (some 12)
            omega
          have hcut : (cutD ((mk F pl).map rowD) none (some 4)).length + (cutD ((mk F pl).map rowD) (some (-4)) none).length ≤ 1000000 := by
            have h2 := cutD_length ((mk F pl).map rowD) none (some 4)
            have h3 := cutD_length ((mk F pl).map rowD) (some (-4)) none
            rw [List.length_map] at h2 h3
            omega
          walk_at "dgr"
          intro b
          cases b
          all_goals
            walk_at "dgr"
            refine ⟨fun i ρ => Hd (∃ (q : List Int) (L9 : List D) (s10 : Sl), ρ = [.val (.scr ns), .val (.int sc), .val (.lst [formsD F0, formsD F1]), .val (planD pl), .val (ruleD ad pl), .own (L ++ [oformD (some (mk F pl))]), .val (.int w), .val (formsD F), .val (oformD (some (mk F pl))), .own L9, s10] ∧ L9 = q.map D.int ∧ q.length ≤ 2000 + 4 * i ∧ ∀ x ∈ q, -(50 * Yb) ≤ x ∧ x ≤ 50 * Yb),
              ?_, fun i x ρ3 hx' hI' => ?_, fun ρ3 hI' => ?_⟩
            · first
              | exact .mk ⟨qs, _, _, rfl, rfl, by omega, fun x hx => by have := hb x hx; omega⟩
              | exact .mk ⟨cutD qs none (some 20), _, _, rfl, cutD_map _ _ _ _, by have := cutD_length qs none (some 20); omega, fun x hx => by have := hb x (cutD_mem hx); omega⟩
            · obtain ⟨q, L9, s11, rfl, rfl, hql, hqb⟩ := hI'.of
              have hi : i < 120 := by
                have h1 := (List.getElem?_eq_some_iff.mp hx').1
                rw [List.length_append] at h1
                have h2 := cutD_length ((mk F pl).map rowD) none (some 4)
                have h3 := cutD_length ((mk F pl).map rowD) (some (-4)) none
                rw [List.length_map] at h2 h3
                omega
              obtain ⟨r, hr, rfl⟩ : ∃ r, r ∈ mk F pl ∧ x = rowD r := by
                have hm := List.mem_of_getElem? hx'
                rcases List.mem_append.mp hm with h | h <;>
                · obtain ⟨r, h1, h2⟩ := List.mem_map.mp (cutD_mem h)
                  exact ⟨r, h1, h2.symm⟩
              have br := row_bd ok hFO hr
              walk_at "dgr"
              refine .mk ⟨q ++ [r.lo - 1, r.lo, r.hi, r.hi + 1], _, _, rfl, by rw [List.map_append]; rfl, by simp; omega, fun x h => ?_⟩
              rcases List.mem_append.mp h with h | h
              · exact hqb x h
              · simp only [List.mem_cons, List.not_mem_nil, or_false] at h
                rcases h with rfl | rfl | rfl | rfl <;> omega
            · obtain ⟨q, L9, s11, rfl, rfl, hql, hqb⟩ := hI'.of
              walk_at "dgr"
              all_goals first | exact Hd.mk ⟨_, _, _, _, _, _, rfl, hnext.symm⟩ | skip
              all_goals first | refine (show gAgree ad _ _ _ _ _ from ⟨pl, F, q, rfl, rfl, rfl, rfl, ok, hFO, hc, hqb, ?_⟩) | skip
              all_goals
                walk_at "dgr"
              all_goals exact Hd.mk ⟨_, _, _, _, _, _, rfl, hnext.symm⟩
      · have er : rF pl F = none := if_neg hc
        rw [er] at hnext
        walk_at "dgr"
        rw [if_neg hc]
        refine ⟨fun z => Bool.noConfusion (show false = true from z), fun _ => ?_⟩
        walk_at "dgr"
        exact .mk ⟨_, _, _, _, _, _, rfl, hnext.symm⟩
    · obtain ⟨L, s6, s7, s8, s9, s10, rfl, hL⟩ := hI.of
      have hL' : L = [oformD (rF pl F0), oformD (rF pl F1), oformD (rF pl F0)] := hL
      subst hL'
      walk_at "dgr"
      exact hk⟩
theorem law_pre {H : Hp} {a : Addr} {ns : List Int} {E : XK} (hl : ns.length ≤ 63) (hS : SqL K H a (ns.map V.int)) : spOf K (sp1 gLaw) [.ref a] H (fun v _ => v = .bl true) E :=
  ⟨H, [.scr ns], fun d => d = .bl true, Same.refl _, Rl.cons (.scr hS) Rl.nil, ⟨_, rfl, ns, rfl, hl, rfl⟩, fun d v Hs' H' hk _ _ _ _ dr => by subst hk; exact dr.bl_inv⟩
end
end K36
set_option Elab.async false
set_option linter.all false
set_option maxRecDepth 100000
set_option maxHeartbeats 0
namespace K36
open PySem PySem.Spec PyProof.Rows L2
def adK (K : PySem.W.Frag) (c : Kd) : Addr := He.ga K (cnm c)
section
variable {K : PySem.W.Frag} {h : Heap} {mg : PySem.Str → Option Value}
theorem fn_at (X : K.In h) (G : h.Ns mainGlobals mg) (c : He.SaysD K36H.fas K36H.fns K) {x : PySem.Str} {st : Stmt} (i j : Nat) (hi : K36H.fns[i]? = some (K36H.dF x st)) (hj : K36H.fas[j]? = some (.glo x)) : FnAt K mg x st := by
  obtain ⟨fd, F⟩ := c.def_ i hi
  exact ⟨_, fd, F, He.glo_ok X G (c.fact j hj)⟩
theorem md_at (c : He.SaysD K36H.fas K36H.fns K) {x m q : PySem.Str} {st : Stmt} (i j : Nat) (hi : K36H.fns[i]? = some (K36H.dM x m q st)) (hj : K36H.fas[j]? = some (.meth x m)) : MdAt K (He.ga K x) m q st := by
  obtain ⟨fd, F⟩ := c.def_ i hi
  exact ⟨_, fd, He.meth_ok (c.fact j hj), F⟩
theorem in_at (X : K.In h) (G : h.Ns mainGlobals mg) (c : He.SaysD K36H.fas K36H.fns K) {x q : PySem.Str} {st : Stmt} (i j l : Nat) (hi : K36H.fns[i]? = some (K36H.dM x "__init__" q st)) (hj : K36H.fas[j]? = some (.mkr x)) (hl : K36H.fas[l]? = some (.glo x)) : InAt K mg x q (He.ga K x) st := by
  obtain ⟨fd, F⟩ := c.def_ i hi
  exact ⟨_, fd, He.mkr_ok (c.fact j hj), F, He.glo_ok X G (c.fact l hl)⟩
theorem txt_meth (c : He.SaysD K36H.fas K36H.fns K) : ∀ (k : Kd) (m : Mt), MdAt K (adK K k) (mnm m) (qnm k m) (stm k m)
  | .each, .inner => md_at (x := "Each") (m := "inner") (q := "Rule.inner") (st := sRule_inner) c 42 75 rfl rfl
  | .each, .own_names => md_at (x := "Each") (m := "own_names") (q := "Rule.own_names") (st := sRule_ownnames) c 43 76 rfl rfl
  | .each, .names => md_at (x := "Each") (m := "names") (q := "Rule.names") (st := sRule_names) c 44 77 rfl rfl
  | .each, .look_at => md_at (x := "Each") (m := "look_at") (q := "Rule.look_at") (st := sRule_lookat) c 45 78 rfl rfl
  | .each, .priced => md_at (x := "Each") (m := "priced") (q := "Each.priced") (st := sEach_priced) c 46 79 rfl rfl
  | .each, .drawn => md_at (x := "Each") (m := "drawn") (q := "Each.drawn") (st := sEach_drawn) c 47 80 rfl rfl
  | .each, .made => md_at (x := "Each") (m := "made") (q := "Rule.made") (st := sRule_made) c 48 81 rfl rfl
  | .each, .cost => md_at (x := "Each") (m := "cost") (q := "Rule.cost") (st := sRule_cost) c 49 82 rfl rfl
  | .each, .form => md_at (x := "Each") (m := "form") (q := "Rule.form") (st := sRule_form) c 50 83 rfl rfl
  | .flat, .inner => md_at (x := "Flat") (m := "inner") (q := "Rule.inner") (st := sRule_inner) c 52 89 rfl rfl
  | .flat, .own_names => md_at (x := "Flat") (m := "own_names") (q := "Rule.own_names") (st := sRule_ownnames) c 53 90 rfl rfl
  | .flat, .names => md_at (x := "Flat") (m := "names") (q := "Rule.names") (st := sRule_names) c 54 91 rfl rfl
  | .flat, .look_at => md_at (x := "Flat") (m := "look_at") (q := "Rule.look_at") (st := sRule_lookat) c 55 92 rfl rfl
  | .flat, .priced => md_at (x := "Flat") (m := "priced") (q := "Flat.priced") (st := sFlat_priced) c 56 93 rfl rfl
  | .flat, .drawn => md_at (x := "Flat") (m := "drawn") (q := "Flat.drawn") (st := sFlat_drawn) c 57 94 rfl rfl
  | .flat, .made => md_at (x := "Flat") (m := "made") (q := "Rule.made") (st := sRule_made) c 58 95 rfl rfl
  | .flat, .cost => md_at (x := "Flat") (m := "cost") (q := "Rule.cost") (st := sRule_cost) c 59 96 rfl rfl
  | .flat, .form => md_at (x := "Flat") (m := "form") (q := "Rule.form") (st := sRule_form) c 60 97 rfl rfl
  | .bands, .inner => md_at (x := "Bands") (m := "inner") (q := "Rule.inner") (st := sRule_inner) c 62 103 rfl rfl
  | .bands, .own_names => md_at (x := "Bands") (m := "own_names") (q := "Rule.own_names") (st := sRule_ownnames) c 63 104 rfl rfl
  | .bands, .names => md_at (x := "Bands") (m := "names") (q := "Rule.names") (st := sRule_names) c 64 105 rfl rfl
  | .bands, .look_at => md_at (x := "Bands") (m := "look_at") (q := "Rule.look_at") (st := sRule_lookat) c 65 106 rfl rfl
  | .bands, .priced => md_at (x := "Bands") (m := "priced") (q := "Bands.priced") (st := sBands_priced) c 66 107 rfl rfl
  | .bands, .drawn => md_at (x := "Bands") (m := "drawn") (q := "Bands.drawn") (st := sBands_drawn) c 67 108 rfl rfl
  | .bands, .made => md_at (x := "Bands") (m := "made") (q := "Rule.made") (st := sRule_made) c 68 109 rfl rfl
  | .bands, .cost => md_at (x := "Bands") (m := "cost") (q := "Rule.cost") (st := sRule_cost) c 69 110 rfl rfl
  | .bands, .form => md_at (x := "Bands") (m := "form") (q := "Rule.form") (st := sRule_form) c 70 111 rfl rfl
  | .steps, .inner => md_at (x := "Steps") (m := "inner") (q := "Rule.inner") (st := sRule_inner) c 72 115 rfl rfl
  | .steps, .own_names => md_at (x := "Steps") (m := "own_names") (q := "Rule.own_names") (st := sRule_ownnames) c 73 116 rfl rfl
  | .steps, .names => md_at (x := "Steps") (m := "names") (q := "Rule.names") (st := sRule_names) c 74 117 rfl rfl
  | .steps, .look_at => md_at (x := "Steps") (m := "look_at") (q := "Rule.look_at") (st := sRule_lookat) c 75 118 rfl rfl
  | .steps, .priced => md_at (x := "Steps") (m := "priced") (q := "Steps.priced") (st := sSteps_priced) c 76 119 rfl rfl
  | .steps, .drawn => md_at (x := "Steps") (m := "drawn") (q := "Steps.drawn") (st := sSteps_drawn) c 77 120 rfl rfl
  | .steps, .made => md_at (x := "Steps") (m := "made") (q := "Rule.made") (st := sRule_made) c 78 121 rfl rfl
  | .steps, .cost => md_at (x := "Steps") (m := "cost") (q := "Rule.cost") (st := sRule_cost) c 79 122 rfl rfl
  | .steps, .form => md_at (x := "Steps") (m := "form") (q := "Rule.form") (st := sRule_form) c 80 123 rfl rfl
  | .blocks, .inner => md_at (x := "Blocks") (m := "inner") (q := "Rule.inner") (st := sRule_inner) c 82 127 rfl rfl
  | .blocks, .own_names => md_at (x := "Blocks") (m := "own_names") (q := "Rule.own_names") (st := sRule_ownnames) c 83 128 rfl rfl
  | .blocks, .names => md_at (x := "Blocks") (m := "names") (q := "Rule.names") (st := sRule_names) c 84 129 rfl rfl
  | .blocks, .look_at => md_at (x := "Blocks") (m := "look_at") (q := "Rule.look_at") (st := sRule_lookat) c 85 130 rfl rfl
  | .blocks, .priced => md_at (x := "Blocks") (m := "priced") (q := "Blocks.priced") (st := sBlocks_priced) c 86 131 rfl rfl
  | .blocks, .drawn => md_at (x := "Blocks") (m := "drawn") (q := "Blocks.drawn") (st := sBlocks_drawn) c 87 132 rfl rfl
  | .blocks, .made => md_at (x := "Blocks") (m := "made") (q := "Rule.made") (st := sRule_made) c 88 133 rfl rfl
  | .blocks, .cost => md_at (x := "Blocks") (m := "cost") (q := "Rule.cost") (st := sRule_cost) c 89 134 rfl rfl
  | .blocks, .form => md_at (x := "Blocks") (m := "form") (q := "Rule.form") (st := sRule_form) c 90 135 rfl rfl
  | .named, .inner => md_at (x := "Named") (m := "inner") (q := "Rule.inner") (st := sRule_inner) c 92 141 rfl rfl
  | .named, .own_names => md_at (x := "Named") (m := "own_names") (q := "Named.own_names") (st := sNamed_ownnames) c 93 142 rfl rfl
  | .named, .names => md_at (x := "Named") (m := "names") (q := "Rule.names") (st := sRule_names) c 94 143 rfl rfl
  | .named, .look_at => md_at (x := "Named") (m := "look_at") (q := "Rule.look_at") (st := sRule_lookat) c 95 144 rfl rfl
  | .named, .priced => md_at (x := "Named") (m := "priced") (q := "Named.priced") (st := sNamed_priced) c 96 145 rfl rfl
  | .named, .drawn => md_at (x := "Named") (m := "drawn") (q := "Named.drawn") (st := sNamed_drawn) c 97 146 rfl rfl
  | .named, .made => md_at (x := "Named") (m := "made") (q := "Rule.made") (st := sRule_made) c 98 147 rfl rfl
  | .named, .cost => md_at (x := "Named") (m := "cost") (q := "Rule.cost") (st := sRule_cost) c 99 148 rfl rfl
  | .named, .form => md_at (x := "Named") (m := "form") (q := "Rule.form") (st := sRule_form) c 100 149 rfl rfl
  | .sum, .inner => md_at (x := "Sum") (m := "inner") (q := "Pair.inner") (st := sPair_inner) c 102 153 rfl rfl
  | .sum, .own_names => md_at (x := "Sum") (m := "own_names") (q := "Rule.own_names") (st := sRule_ownnames) c 103 154 rfl rfl
  | .sum, .names => md_at (x := "Sum") (m := "names") (q := "Rule.names") (st := sRule_names) c 104 155 rfl rfl
  | .sum, .look_at => md_at (x := "Sum") (m := "look_at") (q := "Rule.look_at") (st := sRule_lookat) c 105 156 rfl rfl
  | .sum, .priced => md_at (x := "Sum") (m := "priced") (q := "Sum.priced") (st := sSum_priced) c 106 157 rfl rfl
  | .sum, .drawn => md_at (x := "Sum") (m := "drawn") (q := "Sum.drawn") (st := sSum_drawn) c 107 158 rfl rfl
  | .sum, .made => md_at (x := "Sum") (m := "made") (q := "Rule.made") (st := sRule_made) c 108 159 rfl rfl
  | .sum, .cost => md_at (x := "Sum") (m := "cost") (q := "Rule.cost") (st := sRule_cost) c 109 160 rfl rfl
  | .sum, .form => md_at (x := "Sum") (m := "form") (q := "Rule.form") (st := sRule_form) c 110 161 rfl rfl
  | .cheaper, .inner => md_at (x := "Cheaper") (m := "inner") (q := "Pair.inner") (st := sPair_inner) c 112 166 rfl rfl
  | .cheaper, .own_names => md_at (x := "Cheaper") (m := "own_names") (q := "Rule.own_names") (st := sRule_ownnames) c 113 167 rfl rfl
  | .cheaper, .names => md_at (x := "Cheaper") (m := "names") (q := "Rule.names") (st := sRule_names) c 114 168 rfl rfl
  | .cheaper, .look_at => md_at (x := "Cheaper") (m := "look_at") (q := "Rule.look_at") (st := sRule_lookat) c 115 169 rfl rfl
  | .cheaper, .priced => md_at (x := "Cheaper") (m := "priced") (q := "Cheaper.priced") (st := sCheaper_priced) c 116 170 rfl rfl
  | .cheaper, .drawn => md_at (x := "Cheaper") (m := "drawn") (q := "Cheaper.drawn") (st := sCheaper_drawn) c 117 171 rfl rfl
  | .cheaper, .made => md_at (x := "Cheaper") (m := "made") (q := "Rule.made") (st := sRule_made) c 118 172 rfl rfl
  | .cheaper, .cost => md_at (x := "Cheaper") (m := "cost") (q := "Rule.cost") (st := sRule_cost) c 119 173 rfl rfl
  | .cheaper, .form => md_at (x := "Cheaper") (m := "form") (q := "Rule.form") (st := sRule_form) c 120 174 rfl rfl
  | .dearer, .inner => md_at (x := "Dearer") (m := "inner") (q := "Pair.inner") (st := sPair_inner) c 122 179 rfl rfl
  | .dearer, .own_names => md_at (x := "Dearer") (m := "own_names") (q := "Rule.own_names") (st := sRule_ownnames) c 123 180 rfl rfl
  | .dearer, .names => md_at (x := "Dearer") (m := "names") (q := "Rule.names") (st := sRule_names) c 124 181 rfl rfl
  | .dearer, .look_at => md_at (x := "Dearer") (m := "look_at") (q := "Rule.look_at") (st := sRule_lookat) c 125 182 rfl rfl
  | .dearer, .priced => md_at (x := "Dearer") (m := "priced") (q := "Dearer.priced") (st := sDearer_priced) c 126 183 rfl rfl
  | .dearer, .drawn => md_at (x := "Dearer") (m := "drawn") (q := "Dearer.drawn") (st := sDearer_drawn) c 127 184 rfl rfl
  | .dearer, .made => md_at (x := "Dearer") (m := "made") (q := "Rule.made") (st := sRule_made) c 128 185 rfl rfl
  | .dearer, .cost => md_at (x := "Dearer") (m := "cost") (q := "Rule.cost") (st := sRule_cost) c 129 186 rfl rfl
  | .dearer, .form => md_at (x := "Dearer") (m := "form") (q := "Rule.form") (st := sRule_form) c 130 187 rfl rfl
  | .only, .inner => md_at (x := "Only") (m := "inner") (q := "Turned.inner") (st := sTurned_inner) c 132 192 rfl rfl
  | .only, .own_names => md_at (x := "Only") (m := "own_names") (q := "Rule.own_names") (st := sRule_ownnames) c 133 193 rfl rfl
  | .only, .names => md_at (x := "Only") (m := "names") (q := "Rule.names") (st := sRule_names) c 134 194 rfl rfl
  | .only, .look_at => md_at (x := "Only") (m := "look_at") (q := "Rule.look_at") (st := sRule_lookat) c 135 195 rfl rfl
  | .only, .priced => md_at (x := "Only") (m := "priced") (q := "Only.priced") (st := sOnly_priced) c 136 196 rfl rfl
  | .only, .drawn => md_at (x := "Only") (m := "drawn") (q := "Only.drawn") (st := sOnly_drawn) c 137 197 rfl rfl
  | .only, .made => md_at (x := "Only") (m := "made") (q := "Rule.made") (st := sRule_made) c 138 198 rfl rfl
  | .only, .cost => md_at (x := "Only") (m := "cost") (q := "Rule.cost") (st := sRule_cost) c 139 199 rfl rfl
  | .only, .form => md_at (x := "Only") (m := "form") (q := "Rule.form") (st := sRule_form) c 140 200 rfl rfl
  | .after, .inner => md_at (x := "After") (m := "inner") (q := "Turned.inner") (st := sTurned_inner) c 142 206 rfl rfl
  | .after, .own_names => md_at (x := "After") (m := "own_names") (q := "Rule.own_names") (st := sRule_ownnames) c 143 207 rfl rfl
  | .after, .names => md_at (x := "After") (m := "names") (q := "Rule.names") (st := sRule_names) c 144 208 rfl rfl
  | .after, .look_at => md_at (x := "After") (m := "look_at") (q := "Rule.look_at") (st := sRule_lookat) c 145 209 rfl rfl
  | .after, .priced => md_at (x := "After") (m := "priced") (q := "After.priced") (st := sAfter_priced) c 146 210 rfl rfl
  | .after, .drawn => md_at (x := "After") (m := "drawn") (q := "After.drawn") (st := sAfter_drawn) c 147 211 rfl rfl
  | .after, .made => md_at (x := "After") (m := "made") (q := "Rule.made") (st := sRule_made) c 148 212 rfl rfl
  | .after, .cost => md_at (x := "After") (m := "cost") (q := "Rule.cost") (st := sRule_cost) c 149 213 rfl rfl
  | .after, .form => md_at (x := "After") (m := "form") (q := "Rule.form") (st := sRule_form) c 150 214 rfl rfl
  | .roomy, .inner => md_at (x := "Roomy") (m := "inner") (q := "Turned.inner") (st := sTurned_inner) c 152 219 rfl rfl
  | .roomy, .own_names => md_at (x := "Roomy") (m := "own_names") (q := "Rule.own_names") (st := sRule_ownnames) c 153 220 rfl rfl
  | .roomy, .names => md_at (x := "Roomy") (m := "names") (q := "Rule.names") (st := sRule_names) c 154 221 rfl rfl
  | .roomy, .look_at => md_at (x := "Roomy") (m := "look_at") (q := "Rule.look_at") (st := sRule_lookat) c 155 222 rfl rfl
  | .roomy, .priced => md_at (x := "Roomy") (m := "priced") (q := "Roomy.priced") (st := sRoomy_priced) c 156 223 rfl rfl
  | .roomy, .drawn => md_at (x := "Roomy") (m := "drawn") (q := "Roomy.drawn") (st := sRoomy_drawn) c 157 224 rfl rfl
  | .roomy, .made => md_at (x := "Roomy") (m := "made") (q := "Rule.made") (st := sRule_made) c 158 225 rfl rfl
  | .roomy, .cost => md_at (x := "Roomy") (m := "cost") (q := "Rule.cost") (st := sRule_cost) c 159 226 rfl rfl
  | .roomy, .form => md_at (x := "Roomy") (m := "form") (q := "Rule.form") (st := sRule_form) c 160 227 rfl rfl
  | .fee, .inner => md_at (x := "Fee") (m := "inner") (q := "Turned.inner") (st := sTurned_inner) c 162 231 rfl rfl
  | .fee, .own_names => md_at (x := "Fee") (m := "own_names") (q := "Rule.own_names") (st := sRule_ownnames) c 163 232 rfl rfl
  | .fee, .names => md_at (x := "Fee") (m := "names") (q := "Rule.names") (st := sRule_names) c 164 233 rfl rfl
  | .fee, .look_at => md_at (x := "Fee") (m := "look_at") (q := "Rule.look_at") (st := sRule_lookat) c 165 234 rfl rfl
  | .fee, .priced => md_at (x := "Fee") (m := "priced") (q := "Fee.priced") (st := sFee_priced) c 166 235 rfl rfl
  | .fee, .drawn => md_at (x := "Fee") (m := "drawn") (q := "Fee.drawn") (st := sFee_drawn) c 167 236 rfl rfl
  | .fee, .made => md_at (x := "Fee") (m := "made") (q := "Rule.made") (st := sRule_made) c 168 237 rfl rfl
  | .fee, .cost => md_at (x := "Fee") (m := "cost") (q := "Rule.cost") (st := sRule_cost) c 169 238 rfl rfl
  | .fee, .form => md_at (x := "Fee") (m := "form") (q := "Rule.form") (st := sRule_form) c 170 239 rfl rfl
theorem txt_init (X : K.In h) (G : h.Ns mainGlobals mg) (c : He.SaysD K36H.fas K36H.fns K) : ∀ k : Kd, InAt K mg (cnm k) (qni k) (adK K k) (sti k)
  | .each => in_at (x := "Each") (q := "Each.__init__") (st := sEach_init) X G c 51 74 42 rfl rfl rfl
  | .flat => in_at (x := "Flat") (q := "Flat.__init__") (st := sFlat_init) X G c 61 88 43 rfl rfl rfl
  | .bands => in_at (x := "Bands") (q := "Bands.__init__") (st := sBands_init) X G c 71 102 44 rfl rfl rfl
  | .steps => in_at (x := "Steps") (q := "Steps.__init__") (st := sSteps_init) X G c 81 114 45 rfl rfl rfl
  | .blocks => in_at (x := "Blocks") (q := "Blocks.__init__") (st := sBlocks_init) X G c 91 126 46 rfl rfl rfl
  | .named => in_at (x := "Named") (q := "Named.__init__") (st := sNamed_init) X G c 101 140 47 rfl rfl rfl
  | .sum => in_at (x := "Sum") (q := "Pair.__init__") (st := sPair_init) X G c 111 152 48 rfl rfl rfl
  | .cheaper => in_at (x := "Cheaper") (q := "Pair.__init__") (st := sPair_init) X G c 121 165 49 rfl rfl rfl
  | .dearer => in_at (x := "Dearer") (q := "Pair.__init__") (st := sPair_init) X G c 131 178 50 rfl rfl rfl
  | .only => in_at (x := "Only") (q := "Only.__init__") (st := sOnly_init) X G c 141 191 51 rfl rfl rfl
  | .after => in_at (x := "After") (q := "After.__init__") (st := sAfter_init) X G c 151 205 52 rfl rfl rfl
  | .roomy => in_at (x := "Roomy") (q := "Roomy.__init__") (st := sRoomy_init) X G c 161 218 53 rfl rfl rfl
  | .fee => in_at (x := "Fee") (q := "Fee.__init__") (st := sFee_init) X G c 171 230 54 rfl rfl rfl
theorem txt_cls (c : He.SaysD K36H.fas K36H.fns K) : ∀ k : Kd, Cls K (adK K k)
  | .each => He.cls_ok (x := "Each") (c.fact 73 rfl)
  | .flat => He.cls_ok (x := "Flat") (c.fact 87 rfl)
  | .bands => He.cls_ok (x := "Bands") (c.fact 101 rfl)
  | .steps => He.cls_ok (x := "Steps") (c.fact 113 rfl)
  | .blocks => He.cls_ok (x := "Blocks") (c.fact 125 rfl)
  | .named => He.cls_ok (x := "Named") (c.fact 139 rfl)
  | .sum => He.cls_ok (x := "Sum") (c.fact 151 rfl)
  | .cheaper => He.cls_ok (x := "Cheaper") (c.fact 164 rfl)
  | .dearer => He.cls_ok (x := "Dearer") (c.fact 177 rfl)
  | .only => He.cls_ok (x := "Only") (c.fact 190 rfl)
  | .after => He.cls_ok (x := "After") (c.fact 204 rfl)
  | .roomy => He.cls_ok (x := "Roomy") (c.fact 217 rfl)
  | .fee => He.cls_ok (x := "Fee") (c.fact 229 rfl)
theorem txt_noat (c : He.SaysD K36H.fas K36H.fns K) : ∀ (k : Kd) (f : PySem.Str), f ∈ flds k → NoAttr K (adK K k) f
  | .each, f, hf => by
    simp only [flds, List.mem_cons, List.not_mem_nil, or_false] at hf
    rcases hf with rfl | rfl | rfl
    · exact He.noat_ok (x := "Each") (c.fact 84 rfl)
    · exact He.noat_ok (x := "Each") (c.fact 85 rfl)
    · exact He.noat_ok (x := "Each") (c.fact 86 rfl)
  | .flat, f, hf => by
    simp only [flds, List.mem_cons, List.not_mem_nil, or_false] at hf
    rcases hf with rfl | rfl | rfl
    · exact He.noat_ok (x := "Flat") (c.fact 98 rfl)
    · exact He.noat_ok (x := "Flat") (c.fact 99 rfl)
    · exact He.noat_ok (x := "Flat") (c.fact 100 rfl)
  | .bands, f, hf => by
    simp only [flds, List.mem_cons, List.not_mem_nil, or_false] at hf
    rcases hf with rfl
    exact He.noat_ok (x := "Bands") (c.fact 112 rfl)
  | .steps, f, hf => by
    simp only [flds, List.mem_cons, List.not_mem_nil, or_false] at hf
    rcases hf with rfl
    exact He.noat_ok (x := "Steps") (c.fact 124 rfl)
  | .blocks, f, hf => by
    simp only [flds, List.mem_cons, List.not_mem_nil, or_false] at hf
    rcases hf with rfl | rfl | rfl
    · exact He.noat_ok (x := "Blocks") (c.fact 136 rfl)
    · exact He.noat_ok (x := "Blocks") (c.fact 137 rfl)
    · exact He.noat_ok (x := "Blocks") (c.fact 138 rfl)
  | .named, f, hf => by
    simp only [flds, List.mem_cons, List.not_mem_nil, or_false] at hf
    rcases hf with rfl
    exact He.noat_ok (x := "Named") (c.fact 150 rfl)
  | .sum, f, hf => by
    simp only [flds, List.mem_cons, List.not_mem_nil, or_false] at hf
    rcases hf with rfl | rfl
    · exact He.noat_ok (x := "Sum") (c.fact 162 rfl)
    · exact He.noat_ok (x := "Sum") (c.fact 163 rfl)
  | .cheaper, f, hf => by
    simp only [flds, List.mem_cons, List.not_mem_nil, or_false] at hf
    rcases hf with rfl | rfl
    · exact He.noat_ok (x := "Cheaper") (c.fact 175 rfl)
    · exact He.noat_ok (x := "Cheaper") (c.fact 176 rfl)
  | .dearer, f, hf => by
    simp only [flds, List.mem_cons, List.not_mem_nil, or_false] at hf
    rcases hf with rfl | rfl
    · exact He.noat_ok (x := "Dearer") (c.fact 188 rfl)
    · exact He.noat_ok (x := "Dearer") (c.fact 189 rfl)
  | .only, f, hf => by
    simp only [flds, List.mem_cons, List.not_mem_nil, or_false] at hf
    rcases hf with rfl | rfl | rfl
    · exact He.noat_ok (x := "Only") (c.fact 201 rfl)
    · exact He.noat_ok (x := "Only") (c.fact 202 rfl)
    · exact He.noat_ok (x := "Only") (c.fact 203 rfl)
  | .after, f, hf => by
    simp only [flds, List.mem_cons, List.not_mem_nil, or_false] at hf
    rcases hf with rfl | rfl
    · exact He.noat_ok (x := "After") (c.fact 215 rfl)
    · exact He.noat_ok (x := "After") (c.fact 216 rfl)
  | .roomy, f, hf => by
    simp only [flds, List.mem_cons, List.not_mem_nil, or_false] at hf
    rcases hf with rfl
    exact He.noat_ok (x := "Roomy") (c.fact 228 rfl)
  | .fee, f, hf => by
    simp only [flds, List.mem_cons, List.not_mem_nil, or_false] at hf
    rcases hf with rfl | rfl
    · exact He.noat_ok (x := "Fee") (c.fact 240 rfl)
    · exact He.noat_ok (x := "Fee") (c.fact 241 rfl)
theorem txt_of (X : K.In h) (G : h.Ns mainGlobals mg) (c : He.SaysD K36H.fas K36H.fns K) : Txt K mg (adK K) where
  f_down := fn_at (st := sDown) X G c 0 0 rfl rfl
  f_up := fn_at (st := sUp) X G c 1 1 rfl rfl
  f_line_at := fn_at (st := sLineAt) X G c 2 2 rfl rfl
  f_no_dearer := fn_at (st := sNoDearer) X G c 3 3 rfl rfl
  f_lower_line := fn_at (st := sLowerLine) X G c 4 4 rfl rfl
  f_drawn_on := fn_at (st := sDrawnOn) X G c 5 5 rfl rfl
  f_joins := fn_at (st := sJoins) X G c 6 6 rfl rfl
  f_begun := fn_at (st := sBegun) X G c 7 7 rfl rfl
  f_laid := fn_at (st := sLaid) X G c 8 8 rfl rfl
  f_cost_at := fn_at (st := sCostAt) X G c 9 9 rfl rfl
  f_clipped := fn_at (st := sClipped) X G c 10 10 rfl rfl
  f_plus := fn_at (st := sPlus) X G c 11 11 rfl rfl
  f_raised := fn_at (st := sRaised) X G c 12 12 rfl rfl
  f_within := fn_at (st := sWithin) X G c 13 13 rfl rfl
  f_without := fn_at (st := sWithout) X G c 14 14 rfl rfl
  f_freed := fn_at (st := sFreed) X G c 15 15 rfl rfl
  f_lines_over := fn_at (st := sLinesOver) X G c 16 16 rfl rfl
  f_side_by_side := fn_at (st := sSideBySide) X G c 17 17 rfl rfl
  f_least := fn_at (st := sLeast) X G c 18 18 rfl rfl
  f_greatest := fn_at (st := sGreatest) X G c 19 19 rfl rfl
  f_at_least := fn_at (st := sAtLeast) X G c 20 20 rfl rfl
  f__law_at := fn_at (st := sLawAt) X G c 21 21 rfl rfl
  f__law_mix := fn_at (st := sLawMix) X G c 22 22 rfl rfl
  f__law_price := fn_at (st := sLawPrice) X G c 23 23 rfl rfl
  f__law_rows := fn_at (st := sLawRows) X G c 24 24 rfl rfl
  f__law_leaf := fn_at (st := sLawLeaf) X G c 25 25 rfl rfl
  f__law_form := fn_at (st := sLawForm) X G c 26 26 rfl rfl
  f__law_forms := fn_at (st := sLawForms) X G c 27 27 rfl rfl
  f__law_folded := fn_at (st := sLawFolded) X G c 28 28 rfl rfl
  f__law_turned := fn_at (st := sLawTurned) X G c 29 29 rfl rfl
  f__law_tree := fn_at (st := sLawTree) X G c 30 30 rfl rfl
  f__law_rule := fn_at (st := sLawRule) X G c 31 31 rfl rfl
  f__law_ends := fn_at (st := sLawEnds) X G c 32 32 rfl rfl
  f__law_amounts := fn_at (st := sLawAmounts) X G c 33 33 rfl rfl
  f__law_same := fn_at (st := sLawSame) X G c 34 34 rfl rfl
  f__law_is_form := fn_at (st := sLawIsForm) X G c 35 35 rfl rfl
  f__law_apart := fn_at (st := sLawApart) X G c 36 36 rfl rfl
  f__law_cost_in := fn_at (st := sLawCostIn) X G c 37 37 rfl rfl
  f__law_form_or_none := fn_at (st := sLawFormOrNone) X G c 38 38 rfl rfl
  f__law_has_roomy := fn_at (st := sLawHasRoomy) X G c 39 39 rfl rfl
  f__law_agree := fn_at (st := sLawAgree) X G c 40 40 rfl rfl
  f_law := fn_at (st := sLaw) X G c 41 41 rfl rfl
  len := He.free_ok X G (c.fact 57 rfl)
  min := He.free_ok X G (c.fact 58 rfl)
  max := He.free_ok X G (c.fact 59 rfl)
  list := He.free_ok X G (c.fact 60 rfl)
  tuple := He.free_ok X G (c.fact 61 rfl)
  set_ := He.free_ok X G (c.fact 62 rfl)
  sorted := He.free_ok X G (c.fact 63 rfl)
  range := He.free_ok X G (c.fact 64 rfl)
  reversed := He.free_ok X G (c.fact 65 rfl)
  zip := He.free_ok X G (c.fact 66 rfl)
  isinstance := He.free_ok X G (c.fact 67 rfl)
  int_ := He.free_ok X G (c.fact 68 rfl)
  bool_ := He.free_ok X G (c.fact 69 rfl)
  c_MOST_STRETCHES := He.int_ok X G (c.fact 70 rfl)
  meth := txt_meth c
  init := txt_init X G c
  cls := txt_cls c
  noat := txt_noat c
theorem exn_of (X : K.In h) (G : h.Ns mainGlobals mg) (c : He.SaysD K36H.fas K36H.fns K) : Exn K mg (He.ga K "TooMany") := by
  have e := He.exc_ok (x := "TooMany") (c.fact 71 rfl)
  exact ⟨He.glo_ok X G (c.fact 56 rfl), e.2.1, e.1, e.2.2.1, e.2.2.2, He.exm_ok (c.fact 72 rfl)⟩
theorem isB_row {c : PySem.Str} (h : K36H.isB K = true) (hc : c ∈ K36H.ruleNames) : K36H.isRow K c = true := by
  have h1 := (Bool.and_eq_true_iff.mp (Bool.and_eq_true_iff.mp h).2).2
  exact List.all_eq_true.mp h1 c hc
theorem cnm_mem : ∀ k : Kd, cnm k ∈ K36H.ruleNames := fun k => by cases k <;> simp [cnm, K36H.ruleNames]
theorem isr_of (X : K.In h) (G : h.Ns mainGlobals mg) (c : He.SaysD K36H.fas K36H.fns K) (b : K36H.isB K = true) : IsR K mg (adK K) "Rule" (He.ga K "Rule") := by
  have b1 := Bool.and_eq_true_iff.mp b
  have b2 := Bool.and_eq_true_iff.mp b1.2
  have r := fun k => Bool.and_eq_true_iff.mp (isB_row b (cnm_mem k))
  exact ⟨He.glo_ok X G (c.fact 55 rfl), fun k => He.eqO_ok (r k).1, He.eqO_ok b1.1, of_decide_eq_true b2.1, fun k => of_decide_eq_true (Bool.and_eq_true_iff.mp (r k).2).1, fun k => of_decide_eq_true (Bool.and_eq_true_iff.mp (r k).2).2⟩
theorem law_fun (X : K.In h) (G : h.Ns mainGlobals mg) (c : He.SaysD K36H.fas K36H.fns K) {f : Addr} (hf : mg "law" = some (.ref f)) : ∃ fd, FunD K "law" "law" (defArgs sLaw) (defBody sLaw) (defScope sLaw) [] [] f fd := by
  obtain ⟨fd, F⟩ := c.def_ 41 (d := K36H.dF "law" sLaw) rfl
  have e := hf.symm.trans (He.glo_ok X G (c.fact 41 (f := .glo "law") rfl))
  cases e
  exact ⟨fd, F⟩
end
end K36
set_option Elab.async false
set_option linter.all false
set_option maxRecDepth 100000
set_option maxHeartbeats 0
open PySem PySem.W PySem.Calls PyProof.Rows
theorem PySem.Challenge.cw_offerhouse_k36_whole_cost_and_form_holds : PySem.Challenge.rw_offerhouse_k36_whole_cost_and_form.Holds := by
  w_on; o_law
  refine HandSHeadRun.head_any (r := OpenLaw.row PySem.Challenge.rw_offerhouse_k36_whole_cost_and_form) (q := view (OpenLaw.row PySem.Challenge.rw_offerhouse_k36_whole_cost_and_form).prog [69]) (H := K36H.hookR) (ob := K36H.ob) (M := 9000) (loose := K36H.names) (d := HandSHeadRun.topDef (OpenLaw.row PySem.Challenge.rw_offerhouse_k36_whole_cost_and_form).prog 69) (kwd := []) K36H.ob_eq
    (by kernel_rfl) (fun s => by kernel_rfl) K36H.run (by kernel_rfl) (by kernel_rfl) (by kernel_rfl) (by rfl) (by first | assumption | decide +kernel) (by decide +kernel) ⟨rfl, rfl, rfl, rfl, rfl, by decide +kernel⟩ ?hw ?hc
  case hw => w_witness2
  case hc =>
    refine L2.walk_ofE (l := PySem.Challenge.rw_offerhouse_k36_whole_cost_and_form) (n := 63) (k := 34) (x := "script") (CX := L2.CX0) rfl (by decide) (by kernel_rfl) ⟨rfl, by decide, by decide⟩ ?F (fun _ _ _ _ z => z)
    intro w mg fa h Y G hmg0
    obtain ⟨K, KX, c, b⟩ := Y
    have hmg : mg ("law" : PySem.Str) = some (.ref fa) := by
      have e : (HandSHeadRun.topDef (OpenLaw.row PySem.Challenge.rw_offerhouse_k36_whole_cost_and_form).prog 69).name = ("law" : PySem.Str) := by kernel_rfl
      rw [← e]
      exact hmg0
    obtain ⟨fd, F⟩ := K36.law_fun KX G c hmg
    have bd := L2.FunD.bindsA (ps := ["script"]) F fun _ _ _ _ _ _ us hl => match us, hl with | [_], _ => rfl
    have T := K36.txt_of KX G c
    have Z := K36.exn_of KX G c
    have R := K36.isr_of KX G c b
    exact ⟨K, fd, K36.spOf K (K36.sp1 K36.gLaw), KX, fun s v => bd s [v] rfl, fun H a ns hl _ hS => K36.law_pre hl hS, fun base _ _ => K36.law_ok T Z R F⟩
