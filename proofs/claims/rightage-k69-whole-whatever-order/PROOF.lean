import PyProof.Rows.All
import Wide.All
import OpenK.AllK
import Wide.FinOn
import HandS.Words
import HandS.Defaults
import HandS.HeadHook4
import KE.KStateDown
import HandS.ForMost
import HandS.Head0
import HandS.Head1
import HandS.Head2
import HandS.HeadEnd
import HandS.HeadHook1
import HandS.HeadHook2
import HandS.HeadHook3
import HandS.Zip
import KE.GoesMore
import HandS.Star
import OpenK.KOps
import KE.KxIndex
import PyProof.ReprRoads
import HandS.Style
import HandS.TupAny
import HandS.Deep
import HandS.IsInst
import HandS.SetKeys
import HandS.TupSets
import HandS.WideBits
import HandS.Finally
import HandS.Codes
import HandS.TryOnly
import KE.KxText
import KE.BitLaws
import PySem.Challenge.RW_rightage_k69_whole_whatever_order
set_option Elab.async false
set_option linter.all false
set_option maxRecDepth 100000
namespace My
open PySem PySem.Spec PyProof.Rows L2
def top (i : Nat) : Stmt := PySem.Challenge.pw_rightage_k69_whole_whatever_order.main.body.getD i (.Pass ⟨0, 0, 0, 0⟩)
abbrev sPIsNumber : Stmt := top 31
abbrev sPIsName : Stmt := top 32
abbrev sPIsRow : Stmt := top 33
abbrev sPKindsFault : Stmt := top 34
abbrev sPIsKind : Stmt := top 35
abbrev sPSourceFault : Stmt := top 36
abbrev sPPartFault : Stmt := top 37
abbrev sPAreHours : Stmt := top 38
abbrev sPWayFault : Stmt := top 39
abbrev sPWorldfault : Stmt := top 40
abbrev sPFirstAt : Stmt := top 41
abbrev sPFirstOf : Stmt := top 42
abbrev sPNearest : Stmt := top 49
abbrev sPChosen : Stmt := top 50
abbrev sPTable : Stmt := top 52
abbrev sPIsDeed : Stmt := top 102
abbrev sPWithoutOne : Stmt := top 103
abbrev sPWithOne : Stmt := top 104
abbrev sLDraws : Stmt := top 107
abbrev sLNext : Stmt := top 108
abbrev sLOne : Stmt := top 109
abbrev sLAlike : Stmt := top 110
abbrev sLKinds : Stmt := top 111
abbrev sLSource : Stmt := top 112
abbrev sLPart : Stmt := top 113
abbrev sLWay : Stmt := top 114
abbrev sLWorld : Stmt := top 115
abbrev sLIs : Stmt := top 116
abbrev sLName : Stmt := top 117
abbrev sLRowOf : Stmt := top 118
abbrev sLKindIn : Stmt := top 119
abbrev sLRising : Stmt := top 120
abbrev sLSourceWord : Stmt := top 121
abbrev sLPartWord : Stmt := top 122
abbrev sLWayWord : Stmt := top 123
abbrev sLWorldWord : Stmt := top 124
abbrev sLPut : Stmt := top 125
abbrev sLAfter : Stmt := top 126
abbrev sLDo : Stmt := top 127
abbrev sLPair : Stmt := top 128
abbrev sLGoes : Stmt := top 129
abbrev sLApart : Stmt := top 130
abbrev sPLaw : Stmt := top 131
abbrev sGInit : Stmt := inClass (top 51) 0
abbrev sGExpect : Stmt := inClass (top 51) 1
abbrev sGSettle : Stmt := inClass (top 51) 2
abbrev sGAgesAt : Stmt := inClass (top 51) 3
abbrev sGTryWay : Stmt := inClass (top 51) 4
abbrev sGMakeAll : Stmt := inClass (top 51) 5
abbrev sGNumberOf : Stmt := inClass (top 51) 6
abbrev sHInit : Stmt := inClass (top 105) 0
abbrev sHLook : Stmt := inClass (top 105) 1
abbrev sHBegin : Stmt := inClass (top 105) 2
abbrev sHChange : Stmt := inClass (top 105) 3
abbrev sHWayOf : Stmt := inClass (top 105) 4
abbrev sHBring : Stmt := inClass (top 105) 5
abbrev sHWay : Stmt := inClass (top 105) 6
abbrev sHStop : Stmt := inClass (top 105) 7
abbrev sHShut : Stmt := inClass (top 105) 8
abbrev sHHours : Stmt := inClass (top 105) 9
abbrev sHWindow : Stmt := inClass (top 105) 10
abbrev sHBack : Stmt := inClass (top 105) 11
abbrev sHDo : Stmt := inClass (top 105) 12
abbrev sHGoThrough : Stmt := inClass (top 105) 13
abbrev sHTried : Stmt := inClass (top 105) 14
abbrev sHWorld : Stmt := inClass (top 105) 16
abbrev sHLen : Stmt := inClass (top 105) 26
abbrev sHEq : Stmt := inClass (top 105) 27
end My

set_option Elab.async false
set_option linter.all false
set_option maxRecDepth 100000
set_option maxHeartbeats 0
namespace MyH
open PySem PySem.Spec PyProof.Rows L2 My
def dPIsNumber : He.DefD := { at_ := ("is_number", none), name := "is_number", qual := "is_number", params := defArgs sPIsNumber, body := defBody sPIsNumber, scope := defScope sPIsNumber, dfl := [] }
def dPIsName : He.DefD := { at_ := ("is_name", none), name := "is_name", qual := "is_name", params := defArgs sPIsName, body := defBody sPIsName, scope := defScope sPIsName, dfl := [] }
def dPIsRow : He.DefD := { at_ := ("is_row", none), name := "is_row", qual := "is_row", params := defArgs sPIsRow, body := defBody sPIsRow, scope := defScope sPIsRow, dfl := [] }
def dPKindsFault : He.DefD := { at_ := ("kinds_fault", none), name := "kinds_fault", qual := "kinds_fault", params := defArgs sPKindsFault, body := defBody sPKindsFault, scope := defScope sPKindsFault, dfl := [] }
def dPIsKind : He.DefD := { at_ := ("is_kind", none), name := "is_kind", qual := "is_kind", params := defArgs sPIsKind, body := defBody sPIsKind, scope := defScope sPIsKind, dfl := [] }
def dPSourceFault : He.DefD := { at_ := ("source_fault", none), name := "source_fault", qual := "source_fault", params := defArgs sPSourceFault, body := defBody sPSourceFault, scope := defScope sPSourceFault, dfl := [] }
def dPPartFault : He.DefD := { at_ := ("part_fault", none), name := "part_fault", qual := "part_fault", params := defArgs sPPartFault, body := defBody sPPartFault, scope := defScope sPPartFault, dfl := [] }
def dPAreHours : He.DefD := { at_ := ("are_hours", none), name := "are_hours", qual := "are_hours", params := defArgs sPAreHours, body := defBody sPAreHours, scope := defScope sPAreHours, dfl := [] }
def dPWayFault : He.DefD := { at_ := ("way_fault", none), name := "way_fault", qual := "way_fault", params := defArgs sPWayFault, body := defBody sPWayFault, scope := defScope sPWayFault, dfl := [] }
def dPWorldfault : He.DefD := { at_ := ("worldfault", none), name := "worldfault", qual := "worldfault", params := defArgs sPWorldfault, body := defBody sPWorldfault, scope := defScope sPWorldfault, dfl := [] }
def dPFirstAt : He.DefD := { at_ := ("first_at", none), name := "first_at", qual := "first_at", params := defArgs sPFirstAt, body := defBody sPFirstAt, scope := defScope sPFirstAt, dfl := [] }
def dPFirstOf : He.DefD := { at_ := ("first_of", none), name := "first_of", qual := "first_of", params := defArgs sPFirstOf, body := defBody sPFirstOf, scope := defScope sPFirstOf, dfl := [] }
def dPNearest : He.DefD := { at_ := ("nearest", none), name := "nearest", qual := "nearest", params := defArgs sPNearest, body := defBody sPNearest, scope := defScope sPNearest, dfl := [] }
def dPChosen : He.DefD := { at_ := ("chosen", none), name := "chosen", qual := "chosen", params := defArgs sPChosen, body := defBody sPChosen, scope := defScope sPChosen, dfl := [] }
def dPTable : He.DefD := { at_ := ("table_least", none), name := "table", qual := "table", params := defArgs sPTable, body := defBody sPTable, scope := defScope sPTable, dfl := [] }
def dPIsDeed : He.DefD := { at_ := ("is_deed", none), name := "is_deed", qual := "is_deed", params := defArgs sPIsDeed, body := defBody sPIsDeed, scope := defScope sPIsDeed, dfl := [] }
def dPWithoutOne : He.DefD := { at_ := ("without_one", none), name := "without_one", qual := "without_one", params := defArgs sPWithoutOne, body := defBody sPWithoutOne, scope := defScope sPWithoutOne, dfl := [] }
def dPWithOne : He.DefD := { at_ := ("with_one", none), name := "with_one", qual := "with_one", params := defArgs sPWithOne, body := defBody sPWithOne, scope := defScope sPWithOne, dfl := [] }
def dLDraws : He.DefD := { at_ := ("_law_draws", none), name := "_law_draws", qual := "_law_draws", params := defArgs sLDraws, body := defBody sLDraws, scope := defScope sLDraws, dfl := [] }
def dLNext : He.DefD := { at_ := ("_law_next", none), name := "_law_next", qual := "_law_next", params := defArgs sLNext, body := defBody sLNext, scope := defScope sLNext, dfl := [] }
def dLOne : He.DefD := { at_ := ("_law_one", none), name := "_law_one", qual := "_law_one", params := defArgs sLOne, body := defBody sLOne, scope := defScope sLOne, dfl := [] }
def dLAlike : He.DefD := { at_ := ("_law_alike", none), name := "_law_alike", qual := "_law_alike", params := defArgs sLAlike, body := defBody sLAlike, scope := defScope sLAlike, dfl := [] }
def dLKinds : He.DefD := { at_ := ("_law_kinds", none), name := "_law_kinds", qual := "_law_kinds", params := defArgs sLKinds, body := defBody sLKinds, scope := defScope sLKinds, dfl := [] }
def dLSource : He.DefD := { at_ := ("_law_source", none), name := "_law_source", qual := "_law_source", params := defArgs sLSource, body := defBody sLSource, scope := defScope sLSource, dfl := [] }
def dLPart : He.DefD := { at_ := ("_law_part", none), name := "_law_part", qual := "_law_part", params := defArgs sLPart, body := defBody sLPart, scope := defScope sLPart, dfl := [] }
def dLWay : He.DefD := { at_ := ("_law_way", none), name := "_law_way", qual := "_law_way", params := defArgs sLWay, body := defBody sLWay, scope := defScope sLWay, dfl := [] }
def dLWorld : He.DefD := { at_ := ("_law_world", none), name := "_law_world", qual := "_law_world", params := defArgs sLWorld, body := defBody sLWorld, scope := defScope sLWorld, dfl := [] }
def dLIs : He.DefD := { at_ := ("_law_is", none), name := "_law_is", qual := "_law_is", params := defArgs sLIs, body := defBody sLIs, scope := defScope sLIs, dfl := [] }
def dLName : He.DefD := { at_ := ("_law_name", none), name := "_law_name", qual := "_law_name", params := defArgs sLName, body := defBody sLName, scope := defScope sLName, dfl := [] }
def dLRowOf : He.DefD := { at_ := ("_law_row_of", none), name := "_law_row_of", qual := "_law_row_of", params := defArgs sLRowOf, body := defBody sLRowOf, scope := defScope sLRowOf, dfl := [] }
def dLKindIn : He.DefD := { at_ := ("_law_kind_in", none), name := "_law_kind_in", qual := "_law_kind_in", params := defArgs sLKindIn, body := defBody sLKindIn, scope := defScope sLKindIn, dfl := [] }
def dLRising : He.DefD := { at_ := ("_law_rising", none), name := "_law_rising", qual := "_law_rising", params := defArgs sLRising, body := defBody sLRising, scope := defScope sLRising, dfl := [] }
def dLSourceWord : He.DefD := { at_ := ("_law_source_word", none), name := "_law_source_word", qual := "_law_source_word", params := defArgs sLSourceWord, body := defBody sLSourceWord, scope := defScope sLSourceWord, dfl := [] }
def dLPartWord : He.DefD := { at_ := ("_law_part_word", none), name := "_law_part_word", qual := "_law_part_word", params := defArgs sLPartWord, body := defBody sLPartWord, scope := defScope sLPartWord, dfl := [] }
def dLWayWord : He.DefD := { at_ := ("_law_way_word", none), name := "_law_way_word", qual := "_law_way_word", params := defArgs sLWayWord, body := defBody sLWayWord, scope := defScope sLWayWord, dfl := [] }
def dLWorldWord : He.DefD := { at_ := ("_law_world_word", none), name := "_law_world_word", qual := "_law_world_word", params := defArgs sLWorldWord, body := defBody sLWorldWord, scope := defScope sLWorldWord, dfl := [] }
def dLPut : He.DefD := { at_ := ("_law_put", none), name := "_law_put", qual := "_law_put", params := defArgs sLPut, body := defBody sLPut, scope := defScope sLPut, dfl := [] }
def dLAfter : He.DefD := { at_ := ("_law_after", none), name := "_law_after", qual := "_law_after", params := defArgs sLAfter, body := defBody sLAfter, scope := defScope sLAfter, dfl := [] }
def dLDo : He.DefD := { at_ := ("_law_do", none), name := "_law_do", qual := "_law_do", params := defArgs sLDo, body := defBody sLDo, scope := defScope sLDo, dfl := [] }
def dLPair : He.DefD := { at_ := ("_law_pair", none), name := "_law_pair", qual := "_law_pair", params := defArgs sLPair, body := defBody sLPair, scope := defScope sLPair, dfl := [] }
def dLGoes : He.DefD := { at_ := ("_law_goes", none), name := "_law_goes", qual := "_law_goes", params := defArgs sLGoes, body := defBody sLGoes, scope := defScope sLGoes, dfl := [] }
def dLApart : He.DefD := { at_ := ("_law_apart", none), name := "_law_apart", qual := "_law_apart", params := defArgs sLApart, body := defBody sLApart, scope := defScope sLApart, dfl := [] }
def dPLaw : He.DefD := { at_ := ("law", none), name := "law", qual := "law", params := defArgs sPLaw, body := defBody sPLaw, scope := defScope sPLaw, dfl := [] }
def dGInit : He.DefD := { at_ := ("Growth", some "__init__"), name := "__init__", qual := "Growth.__init__", params := defArgs sGInit, body := defBody sGInit, scope := defScope sGInit, dfl := [] }
def dGExpect : He.DefD := { at_ := ("Growth", some "expect"), name := "expect", qual := "Growth.expect", params := defArgs sGExpect, body := defBody sGExpect, scope := defScope sGExpect, dfl := [] }
def dGSettle : He.DefD := { at_ := ("Growth", some "settle"), name := "settle", qual := "Growth.settle", params := defArgs sGSettle, body := defBody sGSettle, scope := defScope sGSettle, dfl := [] }
def dGAgesAt : He.DefD := { at_ := ("Growth", some "ages_at"), name := "ages_at", qual := "Growth.ages_at", params := defArgs sGAgesAt, body := defBody sGAgesAt, scope := defScope sGAgesAt, dfl := [] }
def dGTryWay : He.DefD := { at_ := ("Growth", some "try_way"), name := "try_way", qual := "Growth.try_way", params := defArgs sGTryWay, body := defBody sGTryWay, scope := defScope sGTryWay, dfl := [] }
def dGMakeAll : He.DefD := { at_ := ("Growth", some "make_all"), name := "make_all", qual := "Growth.make_all", params := defArgs sGMakeAll, body := defBody sGMakeAll, scope := defScope sGMakeAll, dfl := [] }
def dGNumberOf : He.DefD := { at_ := ("Growth", some "number_of"), name := "number_of", qual := "Growth.number_of", params := defArgs sGNumberOf, body := defBody sGNumberOf, scope := defScope sGNumberOf, dfl := [] }
def dHInit : He.DefD := { at_ := ("Hall", some "__init__"), name := "__init__", qual := "Hall.__init__", params := defArgs sHInit, body := defBody sHInit, scope := defScope sHInit, dfl := [] }
def dHLook : He.DefD := { at_ := ("Hall", some "look"), name := "look", qual := "Hall.look", params := defArgs sHLook, body := defBody sHLook, scope := defScope sHLook, dfl := [] }
def dHBegin : He.DefD := { at_ := ("Hall", some "begin"), name := "begin", qual := "Hall.begin", params := defArgs sHBegin, body := defBody sHBegin, scope := defScope sHBegin, dfl := [] }
def dHChange : He.DefD := { at_ := ("Hall", some "change"), name := "change", qual := "Hall.change", params := defArgs sHChange, body := defBody sHChange, scope := defScope sHChange, dfl := [] }
def dHWayOf : He.DefD := { at_ := ("Hall", some "way_of"), name := "way_of", qual := "Hall.way_of", params := defArgs sHWayOf, body := defBody sHWayOf, scope := defScope sHWayOf, dfl := [] }
def dHBring : He.DefD := { at_ := ("Hall", some "bring"), name := "bring", qual := "Hall.bring", params := defArgs sHBring, body := defBody sHBring, scope := defScope sHBring, dfl := [] }
def dHWay : He.DefD := { at_ := ("Hall", some "way"), name := "way", qual := "Hall.way", params := defArgs sHWay, body := defBody sHWay, scope := defScope sHWay, dfl := [] }
def dHStop : He.DefD := { at_ := ("Hall", some "stop"), name := "stop", qual := "Hall.stop", params := defArgs sHStop, body := defBody sHStop, scope := defScope sHStop, dfl := [] }
def dHShut : He.DefD := { at_ := ("Hall", some "shut"), name := "shut", qual := "Hall.shut", params := defArgs sHShut, body := defBody sHShut, scope := defScope sHShut, dfl := [] }
def dHHours : He.DefD := { at_ := ("Hall", some "hours"), name := "hours", qual := "Hall.hours", params := defArgs sHHours, body := defBody sHHours, scope := defScope sHHours, dfl := [] }
def dHWindow : He.DefD := { at_ := ("Hall", some "window"), name := "window", qual := "Hall.window", params := defArgs sHWindow, body := defBody sHWindow, scope := defScope sHWindow, dfl := [] }
def dHBack : He.DefD := { at_ := ("Hall", some "back"), name := "back", qual := "Hall.back", params := defArgs sHBack, body := defBody sHBack, scope := defScope sHBack, dfl := [] }
def dHDo : He.DefD := { at_ := ("Hall", some "do"), name := "do", qual := "Hall.do", params := defArgs sHDo, body := defBody sHDo, scope := defScope sHDo, dfl := [] }
def dHGoThrough : He.DefD := { at_ := ("Hall", some "go_through"), name := "go_through", qual := "Hall.go_through", params := defArgs sHGoThrough, body := defBody sHGoThrough, scope := defScope sHGoThrough, dfl := [] }
def dHTried : He.DefD := { at_ := ("Hall", some "tried"), name := "tried", qual := "Hall.tried", params := defArgs sHTried, body := defBody sHTried, scope := defScope sHTried, dfl := [], kwd := [("tell", .non)] }
def dHWorld : He.DefD := { at_ := ("Hall", some "world"), name := "world", qual := "Hall.world", params := defArgs sHWorld, body := defBody sHWorld, scope := defScope sHWorld, dfl := [] }
def dHLen : He.DefD := { at_ := ("Hall", some "__len__"), name := "__len__", qual := "Hall.__len__", params := defArgs sHLen, body := defBody sHLen, scope := defScope sHLen, dfl := [] }
def dHEq : He.DefD := { at_ := ("Hall", some "__eq__"), name := "__eq__", qual := "Hall.__eq__", params := defArgs sHEq, body := defBody sHEq, scope := defScope sHEq, dfl := [] }
def fn0 : List He.DefD := [dPIsNumber, dPIsName, dPIsRow, dPKindsFault, dPIsKind, dPSourceFault, dPPartFault, dPAreHours, dPWayFault, dPWorldfault, dPFirstAt, dPFirstOf, dPNearest, dPChosen, dPTable, dPIsDeed, dPWithoutOne, dPWithOne, dLDraws, dLNext, dLOne, dLAlike, dLKinds, dLSource, dLPart, dLWay, dLWorld, dLIs, dLName, dLRowOf]
def fn1 : List He.DefD := [dLKindIn, dLRising, dLSourceWord, dLPartWord, dLWayWord, dLWorldWord, dLPut, dLAfter, dLDo, dLPair, dLGoes, dLApart, dPLaw, dGInit, dGExpect, dGSettle, dGAgesAt, dGTryWay, dGMakeAll, dGNumberOf, dHInit, dHLook, dHBegin, dHChange, dHWayOf, dHBring, dHWay, dHStop, dHShut, dHHours]
def fn2 : List He.DefD := [dHWindow, dHBack, dHDo, dHGoThrough, dHTried, dHWorld, dHLen, dHEq]
def fn : List He.DefD := fn0 ++ fn1 ++ fn2
def fa0 : List He.Fa := [.glo "is_number", .glo "is_name", .glo "is_row", .glo "kinds_fault", .glo "is_kind", .glo "source_fault", .glo "part_fault", .glo "are_hours", .glo "way_fault", .glo "worldfault", .glo "first_at", .glo "first_of", .glo "nearest", .glo "chosen", .glo "is_deed", .glo "without_one", .glo "with_one", .glo "Growth", .glo "Hall", .glo "FORMS", .glo "_law_draws", .glo "_law_next", .glo "_law_one", .glo "_law_alike", .glo "_law_kinds", .glo "_law_source", .glo "_law_part", .glo "_law_way", .glo "_law_world", .glo "_law_is"]
def fa1 : List He.Fa := [.glo "_law_name", .glo "_law_row_of", .glo "_law_kind_in", .glo "_law_rising", .glo "_law_source_word", .glo "_law_part_word", .glo "_law_way_word", .glo "_law_world_word", .glo "_law_put", .glo "_law_after", .glo "_law_do", .glo "_law_pair", .glo "_law_goes", .glo "_law_apart", .glo "table_least", .glo "law", .free "isinstance", .free "len", .free "enumerate", .free "all", .free "min", .free "tuple", .free "range", .free "sorted", .free "repr", .free "zip", .free "int", .free "bool", .free "str", .free "list"]
def fa2 : List He.Fa := [.int "ROUND" 6, .int "KINDS" 4, .int "SOURCES" 6, .int "OLD" 20, .int "SINCE" 1000000, .int "MANY" 9, .int "WAYS" 8, .int "PARTS" 3, .int "WAIT" 6, .int "READY" 26, .int "DEEDS" 40, .str "LETTERS" "abcdefghijklmnopqrstuvwxyz", .str "OLDEST" "oldest", .str "YOUNGEST" "youngest", .str "BROUGHT" "brought", .str "MADE" "made", .str "WAITED" "waited", .cls "Growth", .mkr "Growth", .noat "Growth" "here", .noat "Growth" "size", .noat "Growth" "moments", .noat "Growth" "reasons", .noat "Growth" "pending", .noat "Growth" "ages", .meth "Growth" "expect", .meth "Growth" "settle", .meth "Growth" "ages_at", .meth "Growth" "try_way", .meth "Growth" "make_all"]
def fa3 : List He.Fa := [.meth "Growth" "number_of", .cls "Hall", .mkr "Hall", .noat "Hall" "states", .noat "Hall" "stand", .noat "Hall" "rows", .noat "Hall" "busy", .meth "Hall" "look", .meth "Hall" "begin", .meth "Hall" "change", .meth "Hall" "way_of", .meth "Hall" "bring", .meth "Hall" "way", .meth "Hall" "stop", .meth "Hall" "shut", .meth "Hall" "hours", .meth "Hall" "window", .meth "Hall" "back", .meth "Hall" "do", .meth "Hall" "go_through", .meth "Hall" "tried", .meth "Hall" "world", .meth "Hall" "__len__", .meth "Hall" "__eq__"]
def fa : List He.Fa := fa0 ++ fa1 ++ fa2 ++ fa3
def lo0 : List PySem.Str := ["_wall", "ROUND", "KINDS", "SOURCES", "OLD", "SINCE", "MANY", "WAYS", "PARTS", "WAIT", "READY", "ITEMS", "LATE", "SPENT", "DEEDS", "AgeError", "BadWorld", "BadWish", "NotNarrow", "Long", "Busy", "NothingBack", "NoDeed", "NoSource", "NoWay", "NoPart", "LETTERS", "OLDEST", "YOUNGEST", "is_number"]
def lo1 : List PySem.Str := ["is_name", "is_row", "kinds_fault", "is_kind", "source_fault", "part_fault", "are_hours", "way_fault", "worldfault", "first_at", "first_of", "handed_on", "bears", "BROUGHT", "MADE", "WAITED", "nearest", "chosen", "Growth", "table", "table_least", "NOUGHT", "divisor", "fraction", "plus", "total", "Sheet", "solved", "MAKE", "TAKE"]
def lo2 : List PySem.Str := ["NARROW_ROUND", "NARROW_KINDS", "NARROW_AGE", "NARROW_PARTS", "NARROW_WAIT", "is_narrow_way", "is_narrow", "want_fault", "look_want", "used_of", "made_of", "brought", "all_ages", "yields", "is_bettered", "best_ages", "makes_of", "takes_of", "using", "bars_of", "weight", "column_of", "come_by", "prices_by", "most", "most_mosts", "item_fault", "wishfault", "look_wish", "firsts_of"]
def lo3 : List PySem.Str := ["first_at_place", "first_wish", "FORMS", "is_deed", "without_one", "with_one", "Hall", "_law_draws", "_law_next", "_law_one", "_law_alike", "_law_kinds", "_law_source", "_law_part", "_law_way", "_law_world", "_law_is", "_law_name", "_law_row_of", "_law_kind_in", "_law_rising", "_law_source_word", "_law_part_word", "_law_way_word", "_law_world_word", "_law_put", "_law_after", "_law_do", "_law_pair", "_law_goes"]
def lo4 : List PySem.Str := ["_law_apart"]
def loose : List PySem.Str := lo0 ++ lo1 ++ lo2 ++ lo3 ++ lo4
def ts : List He.Tab := [((fun K => He.ga K "FORMS"), ["bring", "way", "stop", "shut", "hours", "window"])]
def formsV : List (Str × He.Dv) := [("bring", .int 2), ("way", .int 2), ("stop", .int 2), ("shut", .int 2), ("hours", .int 3), ("window", .int 5)]
def ex (K : PySem.W.Frag) : Bool := He.valsB K (He.ga K "FORMS") formsV && (He.eqO (PySem.W.findIn K (.ref (He.ga K "Hall")) "__ne__") (some (some (.builtin "object.__ne__"))) && (He.eqO (PySem.W.findIn K (.ref (He.ga K "Hall")) "__class__") (some (some (.builtin "object.__class__"))) &&
  (He.eqO (PySem.W.specialIn K (.builtin "object.__class__") "__get__") (some (some (.builtin "getset_descriptor.__get__"))) && (decide (PySem.W.takesIn K (.builtin "object.__class__") = some true) && (decide (PySem.W.mroIn K (He.ga K "Hall") (.type "object") = some true) && decide (PySem.W.kitOne K (.ref (He.ga K "Hall")) (.ref (He.ga K "Hall")) = some true))))))
abbrev R : PySem.W.OpenRow := PySem.W.OpenLaw.row PySem.Challenge.rw_rightage_k69_whole_whatever_order
/-! the part of the heap that is looked at: the module's names, their codes and class dicts, the methods and their codes -/
def hop (o : Obj) : List Addr := match o.data with
  | .func fd => He.refV fd.code ++ He.refV fd.kwdefaults
  | .cls cd => [cd.ns]
  | .dict es _ => es.toList.flatMap fun e => He.refV e.val
  | _ => []
def hops (g : Addr → Option Obj) (as : List Addr) : List Addr := as.flatMap fun a => match g a with
  | some o => hop o
  | none => []
def clsOnly (g : Addr → Option Obj) (as : List Addr) : List Addr := as.flatMap fun a => match g a with
  | some ⟨_, _, .cls cd, _⟩ => [cd.ns]
  | _ => []
def asM (g : Addr → Option Obj) : List Addr :=
  let l1 := hops g [mainGlobals]
  let l2 := clsOnly g l1
  let l3 := hops g l2
  mainGlobals :: (l1 ++ (l2 ++ (l3 ++ (hops g l1 ++ hops g l3))))
def frM (g : Addr → Option Obj) : PySem.W.Frag := He.frG g (asM g)
theorem frM_in {h : Heap} : (frM h.get?).In h := He.frG_in
abbrev AlM : Type := He.AlT × Bool
def obsM (fa : List He.Fa) (fn : List He.DefD) (ts : List He.Tab) (ex : PySem.W.Frag → Bool) (g : Addr → Option Obj) : AlM := (He.obsT fa fn ts (frM g), ex (frM g))
def valM (fn : List He.DefD) (ts : List He.Tab) (w : World) : AlM := (He.valT fn ts w, true)
structure SaysM (fa : List He.Fa) (fn : List He.DefD) (ts : List He.Tab) (ex : PySem.W.Frag → Bool) (w : World) (K : PySem.W.Frag) : Prop where
  t : He.SaysT fa fn ts w K
  more : ex K = true
def hookM (fa : List He.Fa) (fn : List He.DefD) (ts : List He.Tab) (ex : PySem.W.Frag → Bool) : PySem.W.Hook where
  α := AlM
  obs := fun s => obsM fa fn ts ex s.heap.get?
  val := fun w => valM fn ts w
  says := fun w h => ∃ K : PySem.W.Frag, K.In h ∧ SaysM fa fn ts ex w K
  of := fun _ _ e => ⟨_, frM_in, congrArg (fun z : AlM => z.1) e, congrArg (fun z : AlM => z.2) e⟩
  keeps := fun _ _ _ ⟨K, hK, c⟩ k => ⟨K, PySem.W.Frag.In.keeps hK k, c⟩
theorem obsM_eq {fa : List He.Fa} {fn : List He.DefD} {ts : List He.Tab} {ex : PySem.W.Frag → Bool} {g : Addr → Option Obj} {s : Shared} (h : ∀ a, g a = s.heap.get? a) : obsM fa fn ts ex g = (hookM fa fn ts ex).obs s := by
  have e : g = s.heap.get? := funext h
  rw [e] <;> rfl

abbrev hk : PySem.W.Hook := hookM fa fn ts ex
def ob (s : PySem.W.SharedT) : AlM := obsM fa fn ts ex (HandSHeadRun.getT s)
theorem ob_eq (s : PySem.W.SharedT) : ob s = hk.obs s.abs := obsM_eq (HandSHeadRun.getT_eq s)
abbrev RunAt (w : World) : Prop := HandSHeadRun.RunEq R (PySem.W.view R.prog [131]) hk ob 20000 loose w
theorem run0 (w : World) : RunAt (w.withFollow "special-get-raises" false) := by
  intro os
  kernel_rfl
theorem run1 (w : World) : RunAt (w.withFollow "special-get-raises" true) := by
  intro os
  kernel_rfl
theorem run (w : World) : RunAt w := PySem.W.byRow2 "special-get-raises" (P := RunAt) run0 run1 w
end MyH


set_option Elab.async false
set_option linter.all false
set_option maxRecDepth 100000
set_option maxHeartbeats 4000000
/-! enumerate over a tuple. -/
namespace My
open PySem PySem.Spec PyProof.Rows L2
open PySem.AutoSeq1 (wpAny_loadPart')

theorem mk_enumT (l : Addr) (items : Array Value) (n : Nat) (dct : Option Addr) (sl : Array (Option Value)) :
    Meets (Builtin.«enumerate.__new__» ⟨[.type "enumerate", .ref l], []⟩) (fun _ R s => s.heap.get? l = some { cls := .type "tuple", dict := dct, data := .seq items n, slots := sl } ∧
      R (.ok (.ret (.ref (s.heap.push { cls := .type "tuple_iterator", data := .fields #[.ref l, .int 0 0] }).objs.size)))
        { s with heap := (s.heap.push { cls := .type "tuple_iterator", data := .fields #[.ref l, .int 0 0] }).push { cls := .type "enumerate", data := .fields #[.none, .bool false, .ref s.heap.objs.size, rawInt 0, .none, .none] } }) :=
  .of_wp fun prog w A R s h => by
    obtain ⟨hp, g, d, tk, os⟩ := s
    obtain ⟨hl, h⟩ := h
    have hsub := sub_enumerate
    have hL : Heap.IsTuple (Shared.heap ⟨hp, g, d, tk, os⟩) l items := ⟨_, hl, rfl, n, rfl⟩
    wp_walk using wpAny_loadPart' hl
    refine wpAny_stack_any fun st => wpAny_pure ?_
    split
    · rename_i c _ _ _ _ _
      cases (c == Value.type "enumerate")
      · wp_walk using wpAny_loadPart' hl, wpAny_pyIter_tuple hL
        exact ⟨_, rfl, h⟩
      · wp_walk using wpAny_loadPart' hl, wpAny_pyIter_tuple hL
        exact ⟨_, rfl, h⟩
    · wp_walk using wpAny_loadPart' hl, wpAny_pyIter_tuple hL
      exact ⟨_, rfl, h⟩

theorem call_enumT {prog : Program} {w : World} {A : Around} {E : Value → Shared → Prop} {s : Shared} {l : Addr} {items : Array Value} {Q : Value → Shared → Prop} (hL : s.heap.IsTuple l items)
    (h : ∀ h', IsEnum h' (s.heap.objs.size + 1) s.heap.objs.size 0 .none → h'.IsTupleIter s.heap.objs.size l 0 → h'.objs.size = s.heap.objs.size + 2 →
      (∀ b o, s.heap.get? b = some o → h'.get? b = some o) → Q (.ref (s.heap.objs.size + 1)) { s with heap := h' }) :
    wpAny (model prog w) A (call (.type "enumerate") [.ref l]) Q E s := by
  obtain ⟨⟨c, dct, dt, sl⟩, hl, hc, n, hd⟩ := hL
  replace hc : c = .type "tuple" := hc
  replace hd : dt = .seq items n := hd
  subst hc hd
  refine callType_new PySem.F.called_enumerate (by decide) (PySem.F.typeCall_enumerate_1 _) (PySem.F.newCall_enumerate_1 _) (fun obj => PySem.F.args_object_init_2 obj _) PySem.F.entry_enumerate_new
    (mk_enumT l items n dct sl) ⟨hl, ?_⟩
  have hz : (s.heap.push { cls := .type "tuple_iterator", data := .fields #[.ref l, .int 0 0] }).objs.size = s.heap.objs.size + 1 := Heap.size_push ..
  show _ ∧ _
  rw [hz]
  have he : IsEnum ((s.heap.push { cls := .type "tuple_iterator", data := .fields #[.ref l, .int 0 0] }).push
      { cls := .type "enumerate", data := .fields #[.none, .bool false, .ref s.heap.objs.size, rawInt 0, .none, .none] }) (s.heap.objs.size + 1) s.heap.objs.size 0 .none := by
    have := Heap.get?_push_size (s.heap.push { cls := .type "tuple_iterator", data := .fields #[.ref l, .int 0 0] })
      (o := { cls := .type "enumerate", data := .fields #[.none, .bool false, .ref s.heap.objs.size, rawInt 0, .none, .none] }) rfl
    rw [hz] at this; exact this
  exact ⟨⟨_, he, rfl⟩, h _ he ⟨_, Heap.get?_push_of_some _ (Heap.get?_push_size _ rfl), rfl, rfl⟩ (by rw [Heap.size_push, hz]) fun b o x => Heap.get?_push_of_some _ (Heap.get?_push_of_some _ x)⟩

/-- the tuple at a, item by item in new pairs with their places -/
def IteT (K : PySem.W.Frag) (a : Addr) : It :=
  ⟨fun i H => ∃ (xs : List V) (x : V), SqT K H a xs ∧ xs[i]? = some x, fun i H v H' => ∃ T x, v = .ref T ∧ H T = none ∧ H' = upd H T (.tup [.int (i : Nat), x]) ∧ ∀ xs, SqT K H a xs → xs[i]? = some x, fun i H => ∃ xs : List V, SqT K H a xs ∧ xs.length ≤ i⟩
theorem turn_enumT {P : Program} {w : World} {K : PySem.W.Frag} {elts : List Expr} {kk : Nat} {tpos : Pos} (a e it : Addr) (hne : e ≠ it) (hea : e ≠ a) (hia : a ≠ it) :
    Turn P w K (.Tuple elts kk tpos) (IteT K a) [e, it] e (fun i h => (∃ old, IsEnum h e it ((i : Nat) : Int) old) ∧ h.IsTupleIter it a i) where
  mem := by simp
  obj := fun i h st b hb => by
    obtain ⟨⟨old, he⟩, ⟨o, ho, hc, hd⟩⟩ := st
    have e' : b = e ∨ b = it := by simpa using hb
    rcases e' with z | z
    · rw [z]; exact ⟨_, he, fun v q => nomatch q⟩
    · rw [z]; exact ⟨o, ho, fun v q => by rw [hd] at q; cases q⟩
  keep := fun i h h' st k => let ⟨⟨old, he⟩, hi⟩ := st; ⟨⟨old, k e (by simp) _ he⟩, hi.at fun o q => k it (by simp) o q⟩
  item := by
    intro X hP hw hK hc i pins s σ H E I hf st hg
    subst hP hw hK
    obtain ⟨⟨old, he⟩, hit⟩ := st
    obtain ⟨xs, x, hq, hx⟩ := hg
    obtain ⟨its, rv, p, hz⟩ := I.tuple hq
    obtain ⟨u, hu, ru⟩ := rv.get hx
    have hel : e < s.heap.objs.size := Heap.lt_size he
    have hil : it < s.heap.objs.size := by obtain ⟨_, q, _⟩ := hit; exact Heap.lt_size q
    have hT0 : s.heap.IsTuple a its.toArray := p
    have hlt : i < its.toArray.size := by
      have := (List.getElem?_eq_some_iff.mp hu).1
      simpa using this
    refine wpAny_pyNext_enum_itemD (Draws.tuple (A := X.A.in1) (I.ok.hd hc) it a hia its.toArray) he (i := i) ⟨hit, hT0⟩ hlt hne (by simp [hne, hea]) fun y h' tk hy ho hst hT hsz hk => ?_
    have hyu : y = u := by
      have h1 : its.toArray[i]? = some y := hy
      have h2 : its.toArray[i]? = some u := by simpa using hu
      exact Option.some.inj (h1.symm.trans h2)
    subst hyu
    obtain ⟨hit', _⟩ := hst
    refine ⟨_, rfl, wpAny_letOwnedTupleGo_enum (s := { s with heap := h', toks := tk + 1 }) ho fun h'' he' sb => ?_⟩
    have hT2 : h''.get? s.heap.objs.size = some { cls := .type "tuple", data := .seq #[.int i tk, y] } := (sb.2 _ (Nat.ne_of_gt hel)).trans hT
    have new : ObjOk X.prog X.w (upd H s.heap.objs.size (.tup [.int (i : Nat), x])) h'' s.heap.objs.size (.tup [.int (i : Nat), x]) :=
      ⟨by show 2 ≤ sizeLine; decide, [.int i tk, y], .cons ⟨_, rfl⟩ (.cons ru .nil), ⟨_, hT2, rfl, _, rfl⟩⟩
    have I1 : Inv X pins σ (upd H s.heap.objs.size (.tup [.int (i : Nat), x])) { s with heap := h'', toks := tk + 1 } :=
      I.turnedNew (ch := [e, it]) (fun b ob hb q => (sb.2 b (fun z => hb (by simp [z]))).trans (hk b ob (fun z => hb (by simp [z])) (fun z => hb (by simp [z])) q)) hf (Nat.le_refl _) new
    refine ⟨.ref s.heap.objs.size, _, I1, rfl, ⟨_, x, rfl, I.hok.fresh (Nat.le_refl _), rfl, fun ys hy => by rw [I.tuple_inj hy hq]; exact hx⟩, ⟨⟨y, ?_⟩, hit'.at fun o q => (sb.2 it (Ne.symm hne)).trans q⟩, fun b hb => ?_⟩
    · have e1 : ((i + 1 : Nat) : Int) = (i : Int) + 1 := by omega
      rw [e1]; exact he'
    · have hb' : b < s.heap.objs.size := by
        have e' : b = e ∨ b = it := by simpa using hb
        rcases e' with z | z
        · rw [z]; exact hel
        · rw [z]; exact hil
      rw [upd_ne (Nat.ne_of_lt hb')]
      exact (hf b hb).1
  done := by
    intro X hP hw hK hc i pins s σ H E I hf st hg
    subst hP hw hK
    obtain ⟨⟨old, he⟩, hit⟩ := st
    obtain ⟨xs, hq, hx⟩ := hg
    obtain ⟨its, rv, p, hz⟩ := I.tuple hq
    obtain ⟨f0, f1, f2, f3, f4, f5⟩ := hf it (by simp)
    have hl := rv.length
    have hT0 : s.heap.IsTuple a its.toArray := p
    have hT : s.TypeIs (.ref e) "enumerate" := ⟨_, he, rfl⟩
    unfold pyNext
    refine wpAny_bind (wpAny_attempt (wpAny_callSpecial?_slot (name := Str.ofString "__next__") hT PySem.F.slot_enumerate_next
      (wpAny_call_entry PySem.F.slot_enumerate_next hT PySem.F.entry_enumerate_next ?_ (PySem.F.args_enumerate_next_1 _))))
    show wpAny _ _ (field (.ref e) 2 >>= _) _ _ _
    refine wpAny_bind (wpAny_field he rfl (x := .ref it) rfl ?_)
    refine wpAny_bind (wpAny_nextOf_tuple_end (I.ok.hd hc) hit hT0 (by simp; omega) fun h' x he' hx' => ?_)
    obtain ⟨o, ho, hc'⟩ := hx'
    refine wpAny_bind (wpAny_isInstance (T := "StopIteration") (b := true) ⟨o, ho, hc'⟩ isSubtype_stop ?_)
    exact wpAny_pure ⟨rfl, I.turned (t' := s.toks) (fun b o hb q => he' b o hb q) f0 f1 f3 f4 f5⟩
  self := fun A i s Q E st h => let ⟨⟨_, he⟩, _⟩ := st; wpAny_pyIter_enum he h
def iEnT (K : PySem.W.Frag) (ta : TA) : TI := fun σ H R => ta σ H fun vs H1 => ∃ a xs, vs = [.ref a] ∧ SqT K H1 a xs ∧ R (IteT K a) H1
theorem pi_enumT {X : Cx} {e : Expr} {ta : TA} {p pos tpos : Pos} {elts : List Expr} {kk : Nat} (hg : Gl X "enumerate") (hm : X.mg "enumerate" = none) (ha : PA X [e] ta) (hs : starEach [e] X.env = [(false, eval e X.env)] := by rfl) :
    PI X (.Tuple elts kk tpos) (.Call (.Name "enumerate" p) [e] [] pos) (iEnT X.K ta) := by
  refine ⟨fun pins s σ H R I h => ?_⟩
  refine Call_ (ld_blt I hg hm boot_enumerate (PyProof.Rows.callWith_type1 (thn (ha.run pos pins s σ H _ I h) fun us s1 ⟨vs, H1, I1, r1, q1⟩ => ?_) hs rfl))
  obtain ⟨a, xs, ex, hq, q⟩ := q1
  subst ex
  cases r1 with
  | cons r rr =>
    cases rr
    cases r
    obtain ⟨its, rv, p', hz⟩ := I1.tuple hq
    have hal : a < s1.heap.objs.size := by
      obtain ⟨o, ho, _⟩ := id p'
      exact Heap.lt_size ho
    refine call_enumT (show s1.heap.IsTuple a its.toArray from p') fun h' he hit hsz hk => wpAny_pyIter_enum he ?_
    have I2 : Inv X pins σ H1 { s1 with heap := h' } := I1.kept (t' := s1.toks) hk
    refine ⟨s1.heap.objs.size + 1, [s1.heap.objs.size + 1, s1.heap.objs.size], _, _, H1, rfl, I2, turn_enumT a (s1.heap.objs.size + 1) s1.heap.objs.size (Nat.succ_ne_self _) (Nat.ne_of_gt (Nat.lt_succ_of_lt hal)) (Nat.ne_of_lt hal), ⟨⟨.none, he⟩, hit⟩, fun b hb => ?_, q⟩
    have e' : b = s1.heap.objs.size + 1 ∨ b = s1.heap.objs.size := by simpa using hb
    have hle : s1.heap.objs.size ≤ b := by
      rcases e' with z | z
      · rw [z]; exact Nat.le_add_right _ _
      · rw [z]; exact Nat.le_refl _
    exact I1.fpOk hle (I1.hok.fresh hle)

/-- a loop over enumerate of a tuple that stands still -/
theorem for_enumT {K : PySem.W.Frag} {a : Addr} {xs : List V} {g : TG} {tb : TS} {D : Ends} {σ : L2.St} {H : Hp} (Pv : Nat → L2.St → Hp → Prop) (h0 : Pv 0 σ H) (hl : ∀ i σ H, i ≤ xs.length → Pv i σ H → SqT K H a xs)
    (hs : ∀ (i : Nat) (x : V) (T : Addr) σ H, xs[i]? = some x → Pv i σ H → H T = none → g (.ref T) σ (upd H T (.tup [.int (i : Nat), x])) fun σ2 H2 => tb { D with nx := Pv (i + 1), ct := Pv (i + 1), bk := D.nx } σ2 H2) (hd : ∀ σ H, Pv xs.length σ H → D.nx σ H) :
    ∃ W : Nat → Nat → L2.St → Hp → Prop, (∃ m, W 0 m σ H) ∧ ∀ i m σ H, W i m σ H →
      ((IteT K a).stop i H ∧ D.nx σ H) ∨ ((IteT K a).go i H ∧ ∃ N : L2.St → Hp → Prop, (∀ σ' H', N σ' H' → ∃ m', m' < m ∧ W (i + 1) m' σ' H') ∧ ∀ x H', (IteT K a).yld i H x H' → g x σ H' fun σ2 H2 => tb { D with nx := N, ct := N, bk := D.nx } σ2 H2) := by
  refine ⟨fun i m σ H => m = xs.length - i ∧ i ≤ xs.length ∧ Pv i σ H, ⟨xs.length, rfl, Nat.zero_le _, h0⟩, ?_⟩
  rintro i m σ H ⟨rfl, hi, p⟩
  have q := hl i σ H hi p
  by_cases hlt : i < xs.length
  · refine .inr ⟨⟨xs, xs[i], q, List.getElem?_eq_getElem hlt⟩, Pv (i + 1), fun σ' H' p' => ⟨xs.length - (i + 1), by omega, rfl, hlt, p'⟩, fun x H' y => ?_⟩
    obtain ⟨T, x1, e1, nT, e2, fx⟩ := y
    subst e1 e2
    exact hs i x1 T σ H (fx xs q) p nT
  · have e : i = xs.length := by omega
    subst e
    exact .inl ⟨⟨xs, q, Nat.le_refl _⟩, hd σ H p⟩
end My

set_option Elab.async false
set_option linter.all false
set_option maxRecDepth 100000
set_option maxHeartbeats 4000000
/-! != and len by an own __eq__, __len__; repr of data; a text times a number -/
namespace My
open PySem PySem.Spec PyProof.Rows L2 Builtin

section
variable {M : Model} {prog : Program} {w : World} {A : Around} {E : Value → Shared → Prop} {s : Shared} {K : PySem.W.Frag} {x C f : Addr} {ox : Obj} {od : Option Obj}
theorem ifBound_ne {args : List Value} {Q : Option Value → Shared → Prop} (X : K.In s.heap) (I : PySem.W.InstAt s.heap x ox C od) (hs : PySem.W.findIn K (.ref C) "__ne__" = some (some (.builtin "object.__ne__")))
    (h : wpAny M A (call (.builtin "object.__ne__") (.ref x :: args)) (fun v => Q (some v)) E s) : wpAny M A (callSpecialIfBound? (.ref x) "__ne__" args) Q E s := by
  simp only [callSpecialIfBound?, bindSpecialIfBound?]
  refine wpAny_holding (wpAny_bind (wpAny_bind (wpAny_bind (I.type.here ((PySem.W.looks_findIn X hs).here ?_)))))
  refine wpAny_bind (wpAny_askSetting (wpAny_ite ?_))
  have fin : wpAny M A (call (.builtin "object.__ne__") ([.ref x] ++ args) >>= fun v => pure (some v)) Q E s := wpAny_bind (wpAny_mono h (fun v s' h' => wpAny_pure h') fun _ _ h' => h')
  split
  · exact wpAny_bind (wpAny_of_eq (PySem.F.cmp_object.ne.bind _) (wpAny_pure (by exact fin)))
  · exact wpAny_tryCatch (wpAny_bind (wpAny_of_eq (PySem.F.cmp_object.ne.bind _) (wpAny_pure (by exact fin))))
theorem body_ne {y : Addr} {Q : Fin → Shared → Prop} (hu : A.units < cLine) (X : K.In s.heap) (I : PySem.W.InstAt s.heap x ox C od) (hs : PySem.W.findIn K (.ref C) "__eq__" = some (some (.ref f))) (hf : PySem.W.isFn K (.ref f) = true)
    (h : wpAny M A (call (.ref f) [.ref x, .ref y]) (fun v s' => ∃ b, v = .bool b ∧ Q (.done (.ret (.bool (!b)))) s') E s) : wpAny M A (Builtin.«object.__ne__» ⟨[.ref x, .ref y], []⟩) Q E s := by
  unfold Builtin.«object.__ne__»
  repeat (first
    | with_reducible refine wpAny_cRoomFor hu ?_
    | (refine wpAny_bind (m := callSpecialIfBound? (.ref x) (Str.ofString "__eq__") [.ref y]) (PySem.W.ifBound_K X I hs hf (wpAny_mono h (fun r s' hr => by
          obtain ⟨b, rfl, hq⟩ := hr
          repeat (first | exact hq | exact wpAny_pure hq | exact wpAny_truthy_bool hq | (refine wpAny_bind (m := truthy (.bool _)) (wpAny_truthy_bool ?_)) | wp_step)) fun _ _ e => e)))
    | wp_step)
end

def rNeOwn (C : Addr) (sp : Sp) : R2 := fun x y H Q => ∃ a dx fs b dy gs, x = .ref a ∧ y = .ref b ∧ H a = some (.ins C dx fs) ∧ H b = some (.ins C dy gs) ∧ sp [x, y] H (fun v H' => ∃ k, v = .bl k ∧ Q (.bl (!k)) H') fun _ _ _ => False
theorem op_neOwn {X : Cx} {C f : Addr} {n : Nat} {sp : Sp} (hm : PySem.W.mroIn X.K C (.type "object") = some true) (hne : PySem.W.findIn X.K (.ref C) "__ne__" = some (some (.builtin "object.__ne__"))) (heq : PySem.W.findIn X.K (.ref C) "__eq__" = some (some (.ref f)))
    (hf : PySem.W.isFn X.K (.ref f) = true) (F : FnR X.prog X.w X.K X.mg X.base CX0 n f sp) (hr : Room (n + 1) X.A) : OpR X (compareOp .NotEq) (rNeOwn C sp) := by
  intro pins s σ H x y v u Q I rx ry h
  obtain ⟨a, dx, fs, b, dy, gs, rfl, rfl, ha, hb, q⟩ := h
  cases (show v = Value.ref a from rx)
  cases (show u = Value.ref b from ry)
  obtain ⟨mA, O, _⟩ := ins_get I.hok ha
  obtain ⟨od, J, _⟩ := O.look
  obtain ⟨mB, O2, _⟩ := ins_get I.hok hb
  obtain ⟨od2, J2, _⟩ := O2.look
  have hu0 := hr.units0
  have hu1 : X.A.in1.units < cLine := hr.in1.units0
  have XK := I.kIn
  have cl : wpAny (model X.prog X.w) X.A (call (.builtin "object.__ne__") [.ref a, .ref b]) (fun v s' => ∃ k : Bool, v = .bool k ∧ EP X pins σ Q (.bool k) s') X.xe s := by
    refine wpAny_call (codeAny_call_builtin PySem.F.cmp_object.ne.plain PySem.F.cmpEntry_ne (PySem.W.check_slot PySem.F.cmpKind_ne PySem.F.cmpSplit_ne (J.type.andThen (PySem.W.looks_mroIn XK hm)) (PySem.F.cmpArgs_ne _ _) ?_))
    refine body_ne hu1 XK J heq hf (wpAny_call (codeAny_mono (F X.A.in1 X.stack s H [.ref a, .ref b] [.ref a, .ref b] _ _ hr.in1 I.env0.in1 (.cons rfl (.cons rfl .nil)) q) fun r s' hq => ?_))
    cases r with
    | error e => exact hq.elim
    | ok fl =>
      cases fl with
      | ret u =>
        obtain ⟨v, H', I2, rv, k, ev, q2⟩ := I.after hq
        subst ev
        cases (show u = Value.bool k from rv)
        exact ⟨k, rfl, !k, rfl, .bl (!k), H', I2, rfl, q2⟩
      | next => exact False.elim hq
      | brk => exact False.elim hq
      | cont => exact False.elim hq
  have one : wpAny (model X.prog X.w) X.A (tryCompare (.ref a) "__ne__" (.ref b)) (fun r s' => ∃ k : Bool, r = some (.bool k) ∧ EP X pins σ Q (.bool k) s') X.xe s := by
    unfold tryCompare
    refine wpAny_bind (ifBound_ne XK J hne (wpAny_mono cl (fun v s' hv => ?_) fun _ _ e => e))
    obtain ⟨k, rfl, hq⟩ := hv
    exact wpAny_pure ⟨k, rfl, hq⟩
  show wpAny (model X.prog X.w) X.A (compareOp .NotEq (.ref a) (.ref b)) (EP X pins σ Q) X.xe s
  unfold compareOp
  unfold richCompare
  simp only [oneThing_ref]
  refine wpAny_holding (wpAny_bind (wpAny_cRoomFor hu0 ?_))
  refine wpAny_bind (J.type.here (wpAny_bind (J2.type.here ?_)))
  rw [show (Value.ref C != Value.ref C) = false from by simp]
  simp only [Bool.false_eq_true, if_false]
  refine wpAny_bind (wpAny_pure ?_)
  simp only [Bool.false_eq_true, if_false]
  refine wpAny_bind (wpAny_mono one (fun r s' z => ?_) fun _ _ e => e)
  obtain ⟨k, rfl, hq⟩ := z
  exact wpAny_pure hq

/-- len(o), o an instance with its own __len__ -/
def rLenOwn (C : Addr) (sp : Sp) : List V → Hp → VK → Prop := fun xs H Q => ∃ a dx fs, xs = [.ref a] ∧ H a = some (.ins C dx fs) ∧ sp [.ref a] H (fun v H' => ∃ n : Int, v = .int n ∧ 0 ≤ n ∧ n < 2 ^ 63 ∧ Q (.int n) H') fun _ _ _ => False
theorem call_lenOwn {X : Cx} {C f : Addr} {n : Nat} {sp : Sp} (hl : PySem.W.findIn X.K (.ref C) "__len__" = some (some (.ref f))) (hf : PySem.W.isFn X.K (.ref f) = true) (F : FnR X.prog X.w X.K X.mg X.base CX0 n f sp) (hr : Room (n + 1) X.A) :
    CallR X (.builtin "len") (rLenOwn C sp) := by
  intro pins s σ H xs us Q I r h
  obtain ⟨a, dx, fs, rfl, ha, q⟩ := h
  cases r with
  | cons r1 r2 =>
    cases r2
    rename_i u
    cases (show u = Value.ref a from r1)
    obtain ⟨mA, O, _⟩ := ins_get I.hok ha
    obtain ⟨od, J, _⟩ := O.look
    obtain ⟨m, hF⟩ := I.fr
    refine PySem.W.len_K hF I.ok.mod.kin J hl hf (wpAny_call (codeAny_mono (F X.A.in1 X.stack s H [.ref a] [.ref a] _ _ hr.in1 I.env0.in1 (.cons rfl .nil) q) fun r s' hq => ?_))
    cases r with
    | error e => exact hq.elim
    | ok fl =>
      cases fl with
      | ret u =>
        obtain ⟨v, H', I2, rv, k, ev, h0, h1, q2⟩ := I.after hq
        subst ev
        obtain ⟨t, rfl⟩ := rv
        exact ⟨⟨h0, h1⟩, .int k, H', I2.tok _, ⟨_, rfl⟩, q2⟩
      | next => exact False.elim hq
      | brk => exact False.elim hq
      | cont => exact False.elim hq

/-- repr(t), t data -/
def rReprD (K : PySem.W.Frag) : List V → Hp → VK → Prop := fun xs H Q => ∃ a d, xs = [.ref a] ∧ Dp K H (.ref a) d ∧ d.showable = true ∧ d.hasDict = false ∧ d.depth ≤ 60 ∧ d.shown.length ≤ sizeLine ∧ Q (.str d.shown) H
theorem call_reprD {X : Cx} (hg : X.A.guards = some []) (hu : X.A.units + 64 < cLine) : CallR X (.builtin "repr") (rReprD X.K) := by
  intro pins s σ H xs us Q I r h
  obtain ⟨a, d, rfl, hd, hs, hn, hz, hl, q⟩ := h
  cases r with
  | cons r1 r2 =>
    cases r2
    rename_i u
    cases (show u = Value.ref a from r1)
    obtain ⟨as, r⟩ := Dp.reads I d _ _ hd r1
    refine repr_of_reads' r hs (fun e => by rw [hn] at e; cases e) hg (by omega) (fun _ _ e => e) (fun h' u tk hk => ?_) hl
    exact ⟨.str d.shown, H, I.kept (t' := tk) hk, ⟨u, rfl⟩, q⟩

/-- s * n -/
def rMulS : R2 := fun x y H Q => ∃ (z : Str) (n : Int), x = .str z ∧ y = .int n ∧ z.length ≤ 16 ∧ 0 ≤ n ∧ n ≤ 1000 ∧ Q (.str (Txt.mul z n)) H
theorem op_mulS {X : Cx} : OpR X (binaryOp .Mult) rMulS := by
  intro pins s σ H x y v u Q I rx ry h
  obtain ⟨z, n, rfl, rfl, hz, h0, h1, q⟩ := h
  obtain ⟨t, rfl⟩ := rx
  obtain ⟨t', rfl⟩ := ry
  exact PySem.W.KXi.mul (n := z.length) rfl hz (by omega) (by omega) fun t2 k _ _ => ⟨.str _, H, I.tok _, ⟨_, rfl⟩, q⟩
end My

set_option Elab.async false
set_option linter.all false
set_option maxRecDepth 100000
set_option maxHeartbeats 4000000
/-! d.get of a written dict; a comprehension over zip; calls in short; the law's end where nothing is being shown -/
namespace My
open PySem PySem.Spec PyProof.Rows L2

/-- d.get(k, x), d a written dict of the module's -/
def tKGet2 (K : PySem.W.Frag) (d : Addr) (ty tx : TE) : TE := fun σ H Q => ty σ H fun y H2 => tx σ H2 fun z H3 => ∃ (x : Str) (r : Option Value) (o : Option V), y = .str x ∧ PySem.W.nsIn K d x = some r ∧ RelO o r ∧ Q (o.getD z) H3
theorem pe_kget2 {X : Cx} {d : Addr} {es : Array DictEntry} {n : Nat} {nm : Str} {np apos cpos : Pos} {e f : Expr} {ty tx : TE} (D : KDict X.K X.w d es n) (hg : Gl X nm) (hm : X.mg nm = some (.ref d)) (he : PE X e ty) (hf : PE X f tx)
    (m : M2 X (.Name nm np) "get" apos e f cpos) (hdb : (nm == ("__debug__" : Str)) = false := by decide) : PE X (.Call (.Attribute (.Name nm np) "get" apos) [e, f] [] cpos) (tKGet2 X.K d ty tx) := by
  refine ⟨fun pins s σ H Q I h => ?_⟩
  refine wpAny_Call_method m.base m.few m.line PySem.F.plainAttrs_dict PySem.F.slot_dict_get PySem.F.type_dict_get ((pe_glob (v := .ref d) hg hm rfl hdb).run pins s σ H (fun v H1 => v = .ref d ∧ H1 = H) I ⟨rfl, rfl⟩ |> fun z => thn z fun u s1 ⟨x, H1, I1, rx, ex, eh⟩ => ?_)
  subst ex eh
  obtain rfl : u = Value.ref d := rx
  have mo := PySem.W.mapOf_K (prog := X.prog) (w := X.w) I1.kIn D.at_ D.lit
  refine ⟨mo.typeIs, mo.noDict, ?_⟩
  rw [m.trees]
  refine Calls.callWith_builtin rfl (Calls.evalArgs_plain (Calls.spliced_cons (thn (he.run pins s1 σ H1 _ I1 h) fun iv s2 ⟨y, H2, I2, ry, q2⟩ =>
    Calls.spliced_cons (thn (hf.run pins s2 σ H2 _ I2 q2) fun fv s3 ⟨z, H3, I3, rz, x, r, o, ey, er, ro, q3⟩ => Calls.spliced_nil ?_))))
  subst ey
  obtain ⟨t, rfl⟩ := ry
  have mo3 := PySem.W.mapOf_K (prog := X.prog) (w := X.w) I3.kIn D.at_ D.lit
  refine call_meetsIn PySem.F.slot_dict_get mo3.typeIs PySem.F.entry_dict_get (PySem.F.args_dict_get_3 _ _ _) (meets_dict_get_default (PySem.strKind X.prog X.w) d (k := x) (PySem.strKind_is X.prog X.w x t) D.low fv) ⟨_, mo3, ?_⟩
  rw [PySem.W.find_K D.at_ er]
  refine ⟨o.getD z, H3, I3.tok _, ?_, q3⟩
  cases o with
  | none => cases r with
    | none => exact rz
    | some _ => exact ro.elim
  | some v => cases r with
    | none => exact ro.elim
    | some _ => exact ro

/-- a comprehension over zip of two tuples -/
theorem lc_zipT {K : PySem.W.Frag} {a b : Addr} {xs ys : List V} {g : TG} {tt : TT} {te : TE} {vs : List Nat} {σ : L2.St} {H1 : Hp} {D : Addr} {Qd : Hp → Prop} (hl : xs.length = ys.length) (Pv : Nat → Hp → Prop) (h0 : Pv 0 (upd H1 D (.lst []))) (hq : ∀ i H, Pv i H → SqT K H a xs ∧ SqT K H b ys)
    (hs : ∀ i x y (T : Addr) H, xs[i]? = some x → ys[i]? = some y → Pv i H → H T = none → g (.ref T) (wipe σ vs) (upd H T (.tup [x, y])) fun σ2 H2 => wipe σ2 vs = wipe σ vs ∧ tt σ2 H2 fun b H3 =>
      if b = true then te σ2 H3 fun y H4 => ∃ acc, H4 D = some (.lst acc) ∧ acc.length < sizeLine ∧ Pv (i + 1) (upd H4 D (.lst (acc ++ [y]))) else Pv (i + 1) H3) (hd : ∀ H, Pv xs.length H → Qd H) :
    ∃ W : Nat → Nat → Hp → Prop, (∃ m, W 0 m (upd H1 D (.lst []))) ∧ ∀ i m H, W i m H →
      ((RZ.ItzT K a b).stop i H ∧ Qd H) ∨ ((RZ.ItzT K a b).go i H ∧ ∃ Nx : Hp → Prop, (∀ H', Nx H' → ∃ m', m' < m ∧ W (i + 1) m' H') ∧ ∀ x H', (RZ.ItzT K a b).yld i H x H' → g x (wipe σ vs) H' fun σ2 H2 => wipe σ2 vs = wipe σ vs ∧ tt σ2 H2 fun b H3 =>
        if b = true then te σ2 H3 fun y H4 => ∃ acc, H4 D = some (.lst acc) ∧ acc.length < sizeLine ∧ Nx (upd H4 D (.lst (acc ++ [y]))) else Nx H3) := by
  refine ⟨fun i m H => m = xs.length - i ∧ i ≤ xs.length ∧ Pv i H, ⟨xs.length, rfl, Nat.zero_le _, h0⟩, ?_⟩
  rintro i m H ⟨rfl, hi, p⟩
  obtain ⟨qx, qy⟩ := hq i H p
  by_cases hlt : i < xs.length
  · have hx : xs[i]? = some xs[i] := List.getElem?_eq_getElem hlt
    have hlt2 : i < ys.length := by omega
    have hy : ys[i]? = some ys[i] := List.getElem?_eq_getElem hlt2
    refine .inr ⟨⟨xs, ys, xs[i], ys[i], qx, qy, hx, hy⟩, Pv (i + 1), fun H' p' => ⟨xs.length - (i + 1), by omega, rfl, hlt, p'⟩, fun x H' y => ?_⟩
    obtain ⟨T, x1, x2, e1, nT, e2, f1, f2⟩ := y
    subst e1 e2
    exact hs i x1 x2 T H (f1 xs qx) (f2 ys qy) p nT
  · have e : i = xs.length := by omega
    subst e
    exact .inl ⟨⟨xs, ys, qx, qy, .inl (Nat.le_refl _)⟩, hd H p⟩

/-! ### calls in short: a def by its name, a method by its class's -/
abbrev N0 : XK := fun _ _ _ => False
/-- the def that stands at the module's name x keeps the promise sp -/
def GFn (P : Program) (w : World) (K : PySem.W.Frag) (mg : Str → Option Value) (base : Heap) (k : Nat) (x : Str) (sp : Sp) : Prop := ∃ f, mg x = some (.ref f) ∧ PySem.W.keepIn K (.ref f) = true ∧ FnR P w K mg base CX0 k f sp
/-- the method m of the class at C -/
def MFn (P : Program) (w : World) (K : PySem.W.Frag) (mg : Str → Option Value) (base : Heap) (k : Nat) (C : Addr) (m : Str) (sp : Sp) : Prop := ∃ f, Meth K C m f ∧ FnR P w K mg base CX0 k f sp
/-- the class at C (the module's name x) makes instances by an __init__ -/
def CFn (P : Program) (w : World) (K : PySem.W.Frag) (mg : Str → Option Value) (base : Heap) (k : Nat) (C : Addr) (x : Str) (sp : Sp) : Prop := ∃ f, mg x = some (.ref C) ∧ Mk K C f ∧ FnR P w K mg base CX0 k f sp
def tF (sp : Sp) (t : TA) : TE := fun σ H Q => t σ H fun vs H1 => sp vs H1 Q N0
section
variable {X : Cx} {k : Nat} {sp : Sp} {x m : Str} {p pos apos : Pos} {e o : Expr} {es : List Expr} {t : TA} {ta : TE} {C : Addr}
theorem cf (F : GFn X.prog X.w X.K X.mg X.base k x sp) (hr : Room k X.A) (hg : Gl X x) (ha : PA X (e :: es) t) (hd : (x == ("__debug__" : Str)) = false := by decide)
    (he : starEach (e :: es) X.env = (false, eval e X.env) :: starEach es X.env := by rfl) (hpl : (backTo pos (starEach es X.env)).any (·.1) = false := by rfl) : PE X (.Call (.Name x p) (e :: es) [] pos) (tF sp t) := by
  obtain ⟨f, hm, hk, F⟩ := F
  refine ⟨fun pins s σ H Q I h => ?_⟩
  refine wpAny_Call_Name_kw (ld_glob I hg hm ?_ hd)
  refine PySem.W.callWith_K (h₀ := X.base) I.ok.mod.kin hk (thn (ha.run pos pins s σ H _ I h) fun us s1 ⟨vs, H1, I1, r, q⟩ => ⟨I1.kIn, ?_⟩) he hpl
  exact wpAny_call (run_fnR F hr pass0 I1 r q)
theorem cm {pl : Sem Bool} (he : PE X o ta) (c : Cls X.K C) (F : MFn X.prog X.w X.K X.mg X.base k C m sp) (hr : Room k X.A) (ha : PA X (e :: es) t)
    (hst : starEach (e :: es) X.env = (false, eval e X.env) :: starEach es X.env := by rfl) (hpl : (backTo pos (starEach es X.env)).any (·.1) = false := by rfl)
    (ht : eval (.Call (.Attribute o m apos) (e :: es) [] pos) X.env = (do
      let ov ← eval o X.env
      standAt apos.atName
      let (f, first) ← holding [ov] (getMethod ov m pl)
      callWith pos f first (backTo pos (starEach (e :: es) X.env)) (backToKw pos (keywordEach [] X.env))) := by rfl) :
    PE X (.Call (.Attribute o m apos) (e :: es) [] pos) (tMethR C m sp N0 ta t) := by
  obtain ⟨f, hm, F⟩ := F
  exact pe_methR he c hm F hr pass0 ha hst hpl ht
def tM0 (C : Addr) (m : Str) (sp : Sp) (ta : TE) : TE := fun σ H Q => ta σ H fun x H1 => ∃ a dx fs, x = .ref a ∧ H1 a = some (.ins C dx fs) ∧ fs.lookup m = none ∧ sp [x] H1 Q N0
theorem cm0 {pl : Sem Bool} (he : PE X o ta) (c : Cls X.K C) (F : MFn X.prog X.w X.K X.mg X.base k C m sp) (hr : Room k X.A)
    (ht : eval (.Call (.Attribute o m apos) [] [] pos) X.env = (do
      let ov ← eval o X.env
      standAt apos.atName
      let (f, first) ← holding [ov] (getMethod ov m pl)
      callWith pos f first (backTo pos (starEach [] X.env)) (backToKw pos (keywordEach [] X.env))) := by rfl) :
    PE X (.Call (.Attribute o m apos) [] [] pos) (My.tM0 C m sp ta) := by
  obtain ⟨f, hm, F⟩ := F
  refine ⟨fun pins s σ H Q I h => ?_⟩
  refine PySem.W.methodCall_KW (pl := pl) (thn (he.run pins s σ H _ I h) fun u s1 ⟨x, H1, I1, rx, a, dx, fs, ex, ea, l, q⟩ => ?_) ht
  subst ex
  obtain rfl : u = Value.ref a := rx
  refine getmeth_ok I1 ea c hm l ?_
  exact PySem.W.callWith_K0 (first := [.ref a]) I1.kIn hm.kp (wpAny_call (run_fnR (us := [.ref a]) (vs := [.ref a]) F hr pass0 I1 (.cons rfl .nil) q))
theorem cn (F : CFn X.prog X.w X.K X.mg X.base k C x sp) (hr : Room (k + 1) X.A) (hg : Gl X x) (ha : PA X (e :: es) t) (hdb : (x == ("__debug__" : Str)) = false := by decide)
    (he : starEach (e :: es) X.env = (false, eval e X.env) :: starEach es X.env := by rfl) (hpl : (backTo pos (starEach es X.env)).any (·.1) = false := by rfl) : PE X (.Call (.Name x p) (e :: es) [] pos) (StX.tMakeR C sp N0 t) := by
  obtain ⟨f, hm, M, F⟩ := F
  exact StX.pe_makeR M F hr hg hm pass0 ha hdb he hpl
/-- a module's constant -/
theorem gi {i : Int} (hg : Gl X x) (h : ∃ tk, X.mg x = some (.int i tk)) (hdb : (x == ("__debug__" : Str)) = false := by decide) : PE X (.Name x pos) (tC (.int i)) := by
  obtain ⟨tk, h⟩ := h
  exact pe_glob hg h ⟨tk, rfl⟩ hdb
theorem gs {z : Str} (hg : Gl X x) (h : ∃ tk, X.mg x = some (.str z tk)) (hdb : (x == ("__debug__" : Str)) = false := by decide) : PE X (.Name x pos) (tC (.str z)) := by
  obtain ⟨tk, h⟩ := h
  exact pe_glob hg h ⟨tk, rfl⟩ hdb
end
theorem GFn.mono {P : Program} {w : World} {K : PySem.W.Frag} {mg : Str → Option Value} {base : Heap} {j k : Nat} {x : Str} {sp : Sp} (F : GFn P w K mg base j x sp) (h : j ≤ k) : GFn P w K mg base k x sp := let ⟨f, a, b, c⟩ := F; ⟨f, a, b, c.mono h⟩
theorem MFn.mono {P : Program} {w : World} {K : PySem.W.Frag} {mg : Str → Option Value} {base : Heap} {j k : Nat} {C : Addr} {x : Str} {sp : Sp} (F : MFn P w K mg base j C x sp) (h : j ≤ k) : MFn P w K mg base k C x sp := let ⟨f, a, c⟩ := F; ⟨f, a, c.mono h⟩

/-- a def by its body: the derivation over X.nox, the reading -/
theorem okF {P : Program} {w : World} {K : PySem.W.Frag} {mg : Str → Option Value} {base : Heap} {x qual : Str} {params : Arguments} {body : List Stmt} {scope : Scope} {f : Addr} {fd : FuncData} {N ps : List Str} {k : Nat} {sp : Sp} (F : FunD K x qual params body scope [] [] f fd) (S : FnScope N ps scope)
    (hb : Binds K fd ps []) (len : ∀ vs H Q E, sp vs H Q E → vs.length = ps.length)
    (hbody : ∀ (cdv : Value) (A : Around) (outer : List Env) (s : Shared) (H : Hp) (vs : List V) (Q : VK) (E : XK), Room k (A.deeper (envOfC qual scope s.heap.objs.size f cdv)) → sp vs H Q E →
      ∃ t, PSs (cxOf CX0 P w K mg base N qual scope f cdv A outer s H E).nox body t ∧ t { nx := fun _ H' => Q .non H', rt := Q } (start N vs) H) : FnR P w K mg base CX0 (k + 1) f sp := by
  have G := F.ok (P := P) (w := w) (mg := mg) (base := base) (CX := CX0) S len fun cdv A outer s H vs Q E hr h => by
    obtain ⟨t, d, q⟩ := hbody cdv A outer s H vs Q E hr h
    exact ⟨t, d.nox, q⟩
  exact (G.raw hb .nil).imp fun vs H Q E h => by rw [List.append_nil]; exact h

/-! ### the law's own frame: nothing is being shown (guards) -/
/-- FnR where the around's guards are known to be none -/
def FnG (P : Program) (w : World) (K : PySem.W.Frag) (mg : Str → Option Value) (base : Heap) (k : Nat) (f : Addr) (fd : FuncData) (x : Str) (sp : Sp) : Prop :=
  ∀ (A : Around) (outer : List Env) (s : Shared) (H : Hp) (u : Value) (v : V) (Q : VK), A.guards = some [] → Room k A → Env0 P w K mg base A outer s H → RelV v u → BindsTo s fd ⟨[u], []⟩ [(x, u)] → sp [v] H Q N0 →
    codeAny (model P w) A (.call (.ref f) ⟨[u], []⟩) (CR CX0 outer P w H s Q N0) s
theorem okG {P : Program} {w : World} {K : PySem.W.Frag} {mg : Str → Option Value} {base : Heap} {x qual : Str} {params : Arguments} {body : List Stmt} {scope : Scope} {f : Addr} {fd : FuncData} {N : List Str} {a : Str} {k : Nat} {sp : Sp} (F : FunD K x qual params body scope [] [] f fd) (S : FnScope N [a] scope)
    (hbody : ∀ (cdv : Value) (A : Around) (outer : List Env) (s : Shared) (H : Hp) (v : V) (Q : VK), A.guards = some [] → Room k (A.deeper (envOfC qual scope s.heap.objs.size f cdv)) → sp [v] H Q N0 →
      ∃ t, PSs (cxOf CX0 P w K mg base N qual scope f cdv A outer s H N0).nox body t ∧ t { nx := fun _ H' => Q .non H', rt := Q } (start N [v]) H) : FnG P w K mg base (k + 1) f fd a sp := by
  intro A outer s H u v Q hg hr e0 rv hb hsp
  obtain ⟨oc, od, dV, kV, doc, pm, an, cdv, ct, osl, rfl, lk, hcd, _, _⟩ := F.ex
  have KX : K.In s.heap := e0.mod.kin.keeps fun b o e => (e0.bs b o e).1
  have lim : s.heap.NoLimit := e0.mod.nolimit.keeps fun b o e => (e0.bs b o e).1
  have hkind : ∀ y ∈ [(a, u)], scope.names.lookup y.1 = some .local ∨ (scope.names.lookup y.1 = some .cell ∧ ((cellsFrom (s.heap.objs.size + 1) scope.names []).lookup y.1).isSome = true) := fun ⟨n, v⟩ hy => by
    rcases S.par n (by cases List.mem_singleton.mp hy; exact List.mem_singleton.mpr rfl) with q | q
    · exact .inl q
    · exact .inr ⟨q, PySem.W.cellsFrom_some _ _ _ (.inl q)⟩
  refine codeAny_call_function hr.depth (KX _ _ lk) rfl S.co S.gen rfl (PySem.W.codeRec_of KX hcd) (hb _ _ _ _ ?_)
  refine wpAny_newFunctionEnv_cells S.kind hkind fun env he s1 xx => ?_
  subst he
  refine ⟨lim.keeps xx.toInCall.keep, codeAny_func ?_⟩
  obtain ⟨t, ht, hq⟩ := hbody cdv A outer s H v Q hg (hr.deeper _) hsp
  have I : Inv (cxOf CX0 P w K mg base N qual scope f cdv A outer s H N0) [] (start N [v]) H s1 := inv_start (us := [u]) S hr.hd e0 rfl (.cons rv .nil) xx
  refine wpAny_mono (ht.nox.run [] s1 (start N [v]) H _ I hq) (fun fl s' hs => ?_) fun e s' hs => hs
  have fin : ∀ {σ' : L2.St} {H' : Hp} {v : V} {u : Value}, Inv (cxOf CX0 P w K mg base N qual scope f cdv A outer s H N0) [] σ' H' s' → RelV v u → Q v H' → CE outer P w H s Q u s' :=
    fun {σ' H' v u} J rv q => ⟨v, H', J.os, J.bare, J.base, J.hok, rv, q⟩
  cases fl with
  | ret u =>
    obtain ⟨v, σ', H', J, rv, q⟩ := hs
    exact fin J rv q
  | next =>
    obtain ⟨σ', H', J, q⟩ := hs
    exact fin (v := V.non) (u := Value.none) J rfl q
  | brk =>
    obtain ⟨_, _, _, q⟩ := hs
    exact False.elim q
  | cont =>
    obtain ⟨_, _, _, q⟩ := hs
    exact False.elim q

theorem law_callG {P : Program} {w : World} {K : PySem.W.Frag} {mg mb : Str → Option Value} {k : Nat} {fa a : Addr} {fd : FuncData} {x : Str} {sp : Sp} {s1 : Shared} {vs : List Value} {ns : List Int}
    (KX : K.In s1.heap) (hns : s1.heap.Ns mainGlobals mg) (hb : s1.heap.Ns builtinsNs mb) (hbb : ∀ x : Str, x ≠ "__name__" → mb x = bootBuiltins x) (hlim : s1.heap.NoLimit) (hg : s1.gens = #[])
    (ha : s1.heap.get? a = some { cls := .type "list", data := .seq vs.toArray }) (hi : IntsAre vs ns) (hl : ns.length ≤ sizeLine) (hr : Room k callerA)
    (F : ∀ base : Heap, K.In base → base.Ns mainGlobals mg → FnG P w K mg base k fa fd x sp) (hbind : ∀ (s : Shared) (u : Value), BindsTo s fd ⟨[u], []⟩ [(x, u)])
    (hsp : ∀ H : Hp, Only H → SqL K H a (ns.map V.int) → sp [.ref a] H (fun v _ => v = .bl true) N0) :
    codeAny (model P w) callerA (.call (.ref fa) ⟨[.ref a], []⟩) (fun r s' => r = .ok (.ret (.bool true)) ∧ OldK s1.heap s'.heap ∧ s'.os = s1.os ∧ AllBare s'.gens) s1 := by
  have rv := vals_ints hi
  have lenV := hi.length
  have core : ∀ H : Hp, Only H → SqL K H a (ns.map V.int) → HOk P w H s1.heap → (∀ b, H b ≠ none → b = a) → (H a ≠ none → K.lookup a = none) →
      codeAny (model P w) callerA (.call (.ref fa) ⟨[.ref a], []⟩) (fun r s' => r = .ok (.ret (.bool true)) ∧ OldK s1.heap s'.heap ∧ s'.os = s1.os ∧ AllBare s'.gens) s1 := by
    intro H hO hS hok hA hK
    have noA : ∀ {b : Addr} {o : Obj} {es : Array DictEntry} {ep : Nat}, s1.heap.get? b = some o → o.data = .dict es ep → H b = none := fun {b o es ep} e d => by
      cases q : H b with
      | none => rfl
      | some u =>
        have e' : b = a := hA b (by rw [q]; simp)
        subst e'
        rw [ha] at e; cases e
        have d' : Data.seq vs.toArray _ = Data.dict es ep := d
        cases d'
    have nsK : ∀ {b : Addr} {m : Str → Option Value}, s1.heap.Ns b m → (hidT s1.heap H).Ns b m := fun {b m} ⟨o, es, ep, e, d, r⟩ => ⟨o, es, ep, hidT_get e (noA e d), d, r⟩
    have hKb : K.In (hidT s1.heap H) := fun b o e => hidT_get (KX b o e) (by
      cases q : H b with
      | none => rfl
      | some u =>
        have e' : b = a := hA b (by rw [q]; simp)
        subst e'
        rw [hK (by rw [q]; simp)] at e; cases e)
    have hM : Mod K mg (hidT s1.heap H) := ⟨hKb, nsK hns, ⟨mb, nsK hb, hbb⟩, let ⟨mc, h1, h2⟩ := hlim; ⟨mc, nsK h1, h2⟩⟩
    have e0 : Env0 P w K mg (hidT s1.heap H) callerA [] s1 H := ⟨rfl, hM, fun b o e => of_hidT e, Nat.le_of_eq (hidT_size _ _), trivial, fun b hb => absurd (show b ∈ ([] : List Addr) from hb) (by simp), hok, .of_eq hg⟩
    refine codeAny_mono ((F _ hKb (nsK hns)) callerA [] s1 H (.ref a) (.ref a) _ rfl hr e0 rfl (hbind s1 (.ref a)) (hsp H hO hS)) fun r s' h => ?_
    cases r with
    | error e => exact h.elim
    | ok fl =>
      cases fl with
      | next => exact False.elim h
      | brk => exact False.elim h
      | cont => exact False.elim h
      | ret u =>
        obtain ⟨v, H', os, bare, un, hok', r', q⟩ := h
        have q' : v = .bl true := q
        subst q'
        obtain rfl : u = Value.bool true := r'
        refine ⟨rfl, OldK.of_keep fun b o e => ?_, os, bare⟩
        cases q : H b with
        | none => exact un.keep b o e q (by intro z; exact absurd (show b ∈ ([] : List Addr) from z) (by simp)) (by simp)
        | some u =>
          rcases hO b with z | ⟨ob, xs, z⟩
          · rw [q] at z; cases z
          · have z2 := un.frzs b ob _ z
            obtain ⟨e1, _⟩ := hok b _ z
            obtain ⟨e2, _⟩ := hok' b _ z2
            rw [e] at e1; cases e1
            exact e2
  cases hk : K.lookup a with
  | some o =>
    have e := KX a o hk
    rw [ha] at e
    cases e
    refine core (fun _ => none) (fun _ => .inl rfl) (.inr ⟨_, vs.toArray, _, hk, rfl, rfl, rfl, by rw [List.size_toArray, lenV]; exact hl, by simpa using rv⟩) (fun b u z => by have z' : (none : Option HO) = some u := z; cases z') (fun b z => absurd rfl z) fun z => absurd rfl z
  | none =>
    refine core (fun b => if b = a then some (.frz { cls := .type "list", data := .seq vs.toArray } (.lst (ns.map V.int))) else none) (fun b => ?_) (.inl (.inr ⟨{ cls := .type "list", data := .seq vs.toArray }, if_pos rfl⟩)) (fun b u z => ?_) (fun b z => ?_) fun _ => hk
    · by_cases hb : b = a
      · exact .inr ⟨_, _, if_pos hb⟩
      · exact .inl (if_neg hb)
    · by_cases hb : b = a
      · have z' := (if_pos hb).symm.trans z
        cases z'
        subst hb
        exact ⟨ha, by rw [List.length_map]; exact hl, vs, _, rv, ha⟩
      · have z' := (if_neg hb).symm.trans z
        cases z'
    · by_cases hb : b = a
      · exact hb
      · exact absurd (if_neg hb) z
/-- the law row's walk by a promise that leans on the guards -/
theorem walk_ofG {l : PySem.W.OpenLaw} {n k : Nat} {q : Program} {loose : List Str} {XP : (Str → Option Value) → Heap → Prop} {YP : World → Heap → Prop} {d : DefRec} {x : Str}
    (hn : l.most = some n) (hn2 : n ≤ sizeLine) (hdf : d.params.defaults = []) (hr : Room k callerA)
    (F : ∀ (w : World) (mg : Str → Option Value) (fa : Addr) (h : Heap), YP w h → h.Ns mainGlobals mg → mg d.name = some (.ref fa) →
      ∃ (K : PySem.W.Frag) (fd : FuncData) (sp : Sp), K.In h ∧ (∀ (s : Shared) (u : Value), BindsTo s fd ⟨[u], []⟩ [(x, u)]) ∧
        (∀ (H : Hp) (a : Addr) (ns : List Int), ns.length ≤ n → Only H → SqL K H a (ns.map V.int) → sp [.ref a] H (fun v _ => v = .bl true) N0) ∧
        ∀ base : Heap, K.In base → base.Ns mainGlobals mg → FnG l.prog w K mg base k fa fd x sp) :
    PySem.W.WalkO q loose XP YP l.row.toRowW d [] (fun f vs => PySem.call f vs) := by
  refine Att.attach_call hn hdf fun w s0 s1 mg mb fa o pm cd doc a vs ns G Y ho hd hcd hmg hobj hints hlen hg => ?_
  obtain ⟨K, fd, sp, KX, hb, hsp, hF⟩ := F w mg fa _ Y G.T.g hmg
  exact law_callG KX G.T.g G.T.b G.T.builtins G.T.nolimit hg hobj hints (Nat.le_trans hlen hn2) hr hF hb fun H hO hS => hsp H a ns hlen hO hS
end My

set_option Elab.async false
set_option linter.all false
set_option maxRecDepth 100000
set_option maxHeartbeats 4000000
/-! A layer over HandS: values as data, mutable objects as handles into a store; the readings have no heap in them. -/
namespace My
open PySem PySem.Spec PyProof.Rows L2

inductive D where
  | non | bl (b : Bool) | int (i : Int) | str (x : Str) | tup (l : List D) | lst (l : List D)
  /-- the script -/
  | scr (l : List Int)
  /-- a handle: the k-th object of the store -/
  | h (k : Nat)
/-- an object of the store -/
inductive O where
  | lst (l : List D) | dK (kvs : List (Key × D)) | dT (kvs : List (List Key × D)) | ins (C : Addr) (fs : List (Str × D))
abbrev S := List O
abbrev DS := List (Option D)
/-- where the store's objects are, the tracked heap -/
structure Cn where
  am : List Addr
  /-- lists in the making, that no value is -/
  hid : List Addr
  H : Hp
def Cn.ok (c : Cn) (a : Addr) : Prop := a ∉ c.am ∧ a ∉ c.hid
section
variable (K : PySem.W.Frag)
mutual
inductive Rl (c : Cn) : D → V → Prop
  | non : Rl c .non .non
  | bl (b : Bool) : Rl c (.bl b) (.bl b)
  | int (i : Int) : Rl c (.int i) (.int i)
  | str (x : Str) : Rl c (.str x) (.str x)
  | tup {a : Addr} {l : List D} {xs : List V} : c.H a = some (.tup xs) → c.ok a → Rls c l xs → Rl c (.tup l) (.ref a)
  | lst {a : Addr} {l : List D} {xs : List V} : c.H a = some (.lst xs) → c.ok a → Rls c l xs → Rl c (.lst l) (.ref a)
  | scr {a : Addr} {l : List Int} : SqL K c.H a (l.map V.int) → (∀ o, c.H a = some o → c.ok a ∨ SqL K (fun _ => none) a (l.map V.int)) → Rl c (.scr l) (.ref a)
  | h {k : Nat} {a : Addr} : c.am[k]? = some a → Rl c (.h k) (.ref a)
inductive Rls (c : Cn) : List D → List V → Prop
  | nil : Rls c [] []
  | cons {d : D} {v : V} {l : List D} {xs : List V} : Rl c d v → Rls c l xs → Rls c (d :: l) (v :: xs)
end
end
structure Step (c c' : Cn) : Prop where
  ext : ∃ new, c'.am = c.am ++ new ∧ ∀ a ∈ new, c.H a = none
  keep : ∀ a o, c.H a = some o → a ∉ c.am → c'.H a = some o
  there : ∀ a o, c.H a = some o → ∃ o', c'.H a = some o'
  hid : (∀ a ∈ c.hid, a ∈ c'.hid) ∧ ∀ a ∈ c'.hid, a ∈ c.hid ∨ c.H a = none
theorem Step.refl (c : Cn) : Step c c := ⟨⟨[], by simp, by simp⟩, fun _ _ h _ => h, fun _ o h => ⟨o, h⟩, fun _ h => h, fun _ h => .inl h⟩
theorem Step.notin {c c' : Cn} (s : Step c c') {a : Addr} {o : HO} (h : c.H a = some o) (n : a ∉ c.am) : a ∉ c'.am := by
  obtain ⟨new, e, f⟩ := s.ext
  rw [e]
  intro m
  rcases List.mem_append.mp m with m | m
  · exact n m
  · rw [f a m] at h; cases h
theorem Step.ok {c c' : Cn} (s : Step c c') {a : Addr} {o : HO} (h : c.H a = some o) (n : c.ok a) : c'.ok a := ⟨s.notin h n.1, fun m => by
  rcases s.hid.2 a m with m | m
  · exact n.2 m
  · rw [h] at m; cases m⟩
theorem Step.trans {c c1 c2 : Cn} (a : Step c c1) (b : Step c1 c2) : Step c c2 := by
  refine ⟨?_, fun x o h n => b.keep x o (a.keep x o h n) (a.notin h n), fun x o h => let ⟨o1, h1⟩ := a.there x o h; b.there x o1 h1, fun x h => b.hid.1 x (a.hid.1 x h), fun x h => ?_⟩
  obtain ⟨n1, e1, f1⟩ := a.ext
  obtain ⟨n2, e2, f2⟩ := b.ext
  refine ⟨n1 ++ n2, by rw [e2, e1, List.append_assoc], fun x hx => ?_⟩
  rcases List.mem_append.mp hx with hx | hx
  · exact f1 x hx
  · cases q : c.H x with
    | none => rfl
    | some o =>
      obtain ⟨o', h'⟩ := a.there x o q
      rw [f2 x hx] at h'; cases h'
  · rcases b.hid.2 x h with m | m
    · exact a.hid.2 x m
    · cases q : c.H x with
      | none => exact .inr rfl
      | some o =>
        obtain ⟨o', h'⟩ := a.there x o q
        rw [m] at h'; cases h'
theorem Step.am_get {c c' : Cn} (s : Step c c') {k : Nat} {a : Addr} (h : c.am[k]? = some a) : c'.am[k]? = some a := by
  obtain ⟨new, e, _⟩ := s.ext
  rw [e, List.getElem?_append_left (List.getElem?_eq_some_iff.mp h).1]
  exact h
/-- a fresh object that is no handle's -/
theorem Step.fresh {c : Cn} {p : Addr} {o : HO} (n : c.H p = none) : Step c ⟨c.am, c.hid, upd c.H p o⟩ := by
  refine ⟨⟨[], by simp, by simp⟩, fun a u h _ => ?_, fun a u h => ?_, fun _ h => h, fun _ h => .inl h⟩
  · show upd c.H p o a = some u
    rw [upd_ne (ne_of_none h n)]; exact h
  · exact ⟨u, by show upd c.H p o a = some u; rw [upd_ne (ne_of_none h n)]; exact h⟩
/-- a fresh object that gets a handle -/
theorem Step.freshH {c : Cn} {p : Addr} {o : HO} (n : c.H p = none) : Step c ⟨c.am ++ [p], c.hid, upd c.H p o⟩ := by
  refine ⟨⟨[p], rfl, fun a h => by rw [List.mem_singleton.mp h]; exact n⟩, fun a u h _ => ?_, fun a u h => ?_, fun _ h => h, fun _ h => .inl h⟩
  · show upd c.H p o a = some u
    rw [upd_ne (ne_of_none h n)]; exact h
  · exact ⟨u, by show upd c.H p o a = some u; rw [upd_ne (ne_of_none h n)]; exact h⟩
/-- a handle's object is written -/
theorem Step.write {c : Cn} {p : Addr} {o : HO} (m : p ∈ c.am) : Step c ⟨c.am, c.hid, upd c.H p o⟩ := by
  refine ⟨⟨[], by simp, by simp⟩, fun a u h n => ?_, fun a u h => ?_, fun _ h => h, fun _ h => .inl h⟩
  · show upd c.H p o a = some u
    rw [upd_ne (fun e => n (by rw [e]; exact m))]; exact h
  · by_cases e : a = p
    · exact ⟨o, by show upd c.H p o a = some o; rw [e, upd_same]⟩
    · exact ⟨u, by show upd c.H p o a = some u; rw [upd_ne e]; exact h⟩
section
variable {K : PySem.W.Frag} {c c' : Cn}
theorem sql_k {K : PySem.W.Frag} {H : Hp} {a : Addr} {xs : List V} (h : SqL K (fun _ => none) a xs) : SqL K H a xs := by
  rcases h with (h | ⟨o, h⟩) | h
  · cases h
  · cases h
  · exact .inr h
mutual
theorem Rl.mono (s : Step c c') : ∀ {d : D} {v : V}, Rl K c d v → Rl K c' d v
  | _, _, .non => .non
  | _, _, .bl b => .bl b
  | _, _, .int i => .int i
  | _, _, .str x => .str x
  | _, _, .tup h n r => .tup (s.keep _ _ h n.1) (s.ok h n) (Rls.mono s r)
  | _, _, .lst h n r => .lst (s.keep _ _ h n.1) (s.ok h n) (Rls.mono s r)
  | _, _, .scr (a := a) (l := l) h n => by
    cases q : c.H a with
    | none =>
      have h2 : SqL K (fun _ => none) a (List.map V.int l) := by
        rcases h with (h | ⟨o, h⟩) | h
        · rw [q] at h; cases h
        · rw [q] at h; cases h
        · exact .inr h
      exact .scr (sql_k h2) fun _ _ => .inr h2
    | some o =>
      rcases n o q with n | n
      · have k := s.keep a o q n.1
        refine .scr ?_ fun _ _ => .inl (s.ok q n)
        rcases h with (h | ⟨o', h⟩) | h
        · exact .inl (.inl (s.keep a _ h n.1))
        · exact .inl (.inr ⟨o', s.keep a _ h n.1⟩)
        · exact .inr h
      · exact .scr (sql_k n) fun _ _ => .inr n
  | _, _, .h e => .h (s.am_get e)
theorem Rls.mono (s : Step c c') : ∀ {l : List D} {xs : List V}, Rls K c l xs → Rls K c' l xs
  | _, _, .nil => .nil
  | _, _, .cons a b => .cons (Rl.mono s a) (Rls.mono s b)
end
theorem Rls.length : ∀ {l : List D} {xs : List V}, Rls K c l xs → l.length = xs.length
  | _, _, .nil => rfl
  | _, _, .cons _ t => congrArg (· + 1) (Rls.length t)
theorem Rls.get : ∀ {l : List D} {xs : List V} {i : Nat} {d : D}, Rls K c l xs → l[i]? = some d → ∃ v, xs[i]? = some v ∧ Rl K c d v
  | _, _, _, _, .nil, e => by simp at e
  | _, _, 0, _, .cons r _, e => by simp at e; subst e; exact ⟨_, rfl, r⟩
  | _, _, i + 1, d, .cons _ t, e => by
    obtain ⟨v, h1, h2⟩ := Rls.get (i := i) (d := d) t (by simpa using e)
    exact ⟨v, by simpa using h1, h2⟩
theorem Rls.getV : ∀ {l : List D} {xs : List V} {i : Nat} {v : V}, Rls K c l xs → xs[i]? = some v → ∃ d, l[i]? = some d ∧ Rl K c d v
  | _, _, _, _, .nil, e => by simp at e
  | _, _, 0, _, .cons r _, e => by simp at e; subst e; exact ⟨_, rfl, r⟩
  | _, _, i + 1, v, .cons _ t, e => by
    obtain ⟨d, h1, h2⟩ := Rls.getV (i := i) (v := v) t (by simpa using e)
    exact ⟨d, by simpa using h1, h2⟩
theorem Rls.append : ∀ {l m : List D} {xs ys : List V}, Rls K c l xs → Rls K c m ys → Rls K c (l ++ m) (xs ++ ys)
  | _, _, _, _, .nil, s => s
  | _, _, _, _, .cons r t, s => .cons r (Rls.append t s)
theorem Rls.take : ∀ {l : List D} {xs : List V} (n : Nat), Rls K c l xs → Rls K c (l.take n) (xs.take n)
  | _, _, 0, _ => .nil
  | _, _, _ + 1, .nil => .nil
  | _, _, n + 1, .cons r t => .cons r (Rls.take n t)
theorem Rls.drop : ∀ {l : List D} {xs : List V} (n : Nat), Rls K c l xs → Rls K c (l.drop n) (xs.drop n)
  | _, _, 0, r => r
  | _, _, _ + 1, .nil => .nil
  | _, _, n + 1, .cons _ t => Rls.drop n t
theorem Rls.reverse : ∀ {l : List D} {xs : List V}, Rls K c l xs → Rls K c l.reverse xs.reverse
  | _, _, .nil => .nil
  | _, _, .cons r t => by rw [List.reverse_cons, List.reverse_cons]; exact (Rls.reverse t).append (.cons r .nil)
theorem Rls.set {d : D} {v : V} (r : Rl K c d v) : ∀ {l : List D} {xs : List V} (i : Nat), Rls K c l xs → Rls K c (l.set i d) (xs.set i v)
  | _, _, _, .nil => .nil
  | _, _, 0, .cons _ t => .cons r t
  | _, _, i + 1, .cons q t => .cons q (Rls.set r i t)

/-! ### the store -/
def RF (c : Cn) : List (Str × D) → List (Str × V) → Prop := Paired fun p q => p.1 = q.1 ∧ Rl K c p.2 q.2
def RKv {κ : Type} (K : PySem.W.Frag) (c : Cn) : List (κ × D) → List (κ × V) → Prop := Paired fun p q => p.1 = q.1 ∧ Rl K c p.2 q.2
end
section
variable (K : PySem.W.Frag)
inductive OR (c : Cn) (a : Addr) : O → Prop
  | lst {l : List D} {xs : List V} : c.H a = some (.lst xs) → Rls K c l xs → OR c a (.lst l)
  | dK {kvs : List (Key × D)} {ws : List (Key × V)} : c.H a = some (.dK ws) → RKv K c kvs ws → OR c a (.dK kvs)
  | dT {kvs : List (List Key × D)} {ws : List (List Key × V)} : c.H a = some (.dT ws) → RKv K c kvs ws → OR c a (.dT kvs)
  | ins {C dx : Addr} {fs : List (Str × D)} {ws : List (Str × V)} : c.H a = some (.ins C dx ws) → RKv K c fs ws → OR c a (.ins C fs)
structure Ab (c : Cn) (M : S) : Prop where
  len : c.am.length = M.length
  nd : c.am.Nodup
  hid : ∀ a ∈ c.hid, (∃ o, c.H a = some o) ∧ a ∉ c.am
  at_ : ∀ (k : Nat) (a : Addr) (o : O), c.am[k]? = some a → M[k]? = some o → OR K c a o
structure Sl (c : Cn) (σ : L2.St) (ds : DS) : Prop where
  len : σ.length = ds.length
  at_ : ∀ (i : Nat) (d : D), ds[i]? = some (some d) → ∃ v, σ[i]? = some (some v) ∧ Rl K c d v
end
section
variable {K : PySem.W.Frag} {c c' : Cn} {M : S} {σ : L2.St} {ds : DS}
theorem RKv.mono {κ : Type} (s : Step c c') {l : List (κ × D)} {w : List (κ × V)} (r : RKv K c l w) : RKv K c' l w := Paired.mapP r fun _ _ h => ⟨h.1, Rl.mono s h.2⟩
theorem Sl.mono (s : Step c c') (h : Sl K c σ ds) : Sl K c' σ ds := ⟨h.len, fun i d e => let ⟨v, a, b⟩ := h.at_ i d e; ⟨v, a, b.mono s⟩⟩
theorem OR.there {a : Addr} {o : O} (h : OR K c a o) : ∃ u, c.H a = some u ∧ (∀ xs, u ≠ .tup xs) := by
  cases h with
  | lst e _ => exact ⟨_, e, fun _ z => nomatch z⟩
  | dK e _ => exact ⟨_, e, fun _ z => nomatch z⟩
  | dT e _ => exact ⟨_, e, fun _ z => nomatch z⟩
  | ins e _ => exact ⟨_, e, fun _ z => nomatch z⟩
theorem Ab.am_some (A : Ab K c M) {a : Addr} (m : a ∈ c.am) : ∃ u, c.H a = some u ∧ (∀ xs, u ≠ .tup xs) := by
  obtain ⟨k, hk, e⟩ := List.mem_iff_getElem.mp m
  have hk2 : k < M.length := by rw [← A.len]; exact hk
  exact (A.at_ k a M[k] (by rw [List.getElem?_eq_getElem hk, e]) (List.getElem?_eq_getElem hk2)).there
theorem Ab.ok (A : Ab K c M) {a : Addr} (n : c.H a = none) : c.ok a := by
  refine ⟨fun m => ?_, fun m => ?_⟩
  · obtain ⟨u, h, _⟩ := A.am_some m
    rw [n] at h; cases h
  · obtain ⟨⟨u, h⟩, _⟩ := A.hid a m
    rw [n] at h; cases h
theorem upd_some {H : Hp} {p a : Addr} {o : HO} (h : ∃ u, H a = some u) : ∃ u, upd H p o a = some u := by
  by_cases e : a = p
  · exact ⟨o, by rw [e, upd_same]⟩
  · rw [upd_ne e]; exact h
theorem OR.mono (s : Step c c') {a : Addr} {o : O} (h : OR K c a o) (k : ∀ u, c.H a = some u → c'.H a = some u) : OR K c' a o := by
  cases h with
  | lst e r => exact .lst (k _ e) (r.mono s)
  | dK e r => exact .dK (k _ e) (RKv.mono s r)
  | dT e r => exact .dT (k _ e) (RKv.mono s r)
  | ins e r => exact .ins (k _ e) (RKv.mono s r)
/-- a fresh object that is no handle's -/
theorem Ab.fresh (A : Ab K c M) {p : Addr} {o : HO} (n : c.H p = none) : Ab K ⟨c.am, c.hid, upd c.H p o⟩ M :=
  ⟨A.len, A.nd, fun a h => ⟨upd_some (A.hid a h).1, (A.hid a h).2⟩, fun k a u e1 e2 => (A.at_ k a u e1 e2).mono (Step.fresh n) fun w h => by
    show upd c.H p o a = some w
    rw [upd_ne (ne_of_none h n)]; exact h⟩
/-- a fresh object that gets a handle -/
theorem Ab.freshH (A : Ab K c M) {p : Addr} {o : HO} {u : O} (n : c.H p = none) (r : OR K ⟨c.am ++ [p], c.hid, upd c.H p o⟩ p u) : Ab K ⟨c.am ++ [p], c.hid, upd c.H p o⟩ (M ++ [u]) := by
  refine ⟨by simp [A.len], ?_, fun a h => ⟨upd_some (A.hid a h).1, fun z => ?_⟩, fun k a w e1 e2 => ?_⟩
  · refine List.nodup_append.mpr ⟨A.nd, List.nodup_cons.mpr ⟨by simp, List.nodup_nil⟩, ?_⟩
    intro x hx y hy e
    rw [List.mem_singleton.mp hy] at e
    subst e
    exact (A.ok n).1 hx
  · rcases List.mem_append.mp z with z | z
    · exact (A.hid a h).2 z
    · rw [List.mem_singleton.mp z] at h
      exact (A.ok n).2 h
  · by_cases hk : k < c.am.length
    · have hk2 : k < M.length := by rw [← A.len]; exact hk
      have e1' : c.am[k]? = some a := by rw [← e1]; exact (List.getElem?_append_left hk).symm
      have e2' : M[k]? = some w := by rw [← e2]; exact (List.getElem?_append_left hk2).symm
      exact (A.at_ k a w e1' e2').mono (Step.freshH n) fun w h => by
        show upd c.H p o a = some w
        rw [upd_ne (ne_of_none h n)]; exact h
    · have hk1 : c.am.length ≤ k := Nat.le_of_not_lt hk
      have hk2 : M.length ≤ k := by rw [← A.len]; exact hk1
      have e1' : [p][k - c.am.length]? = some a := by rw [← List.getElem?_append_right hk1]; exact e1
      have e2' : [u][k - M.length]? = some w := by rw [← List.getElem?_append_right hk2]; exact e2
      rcases Nat.eq_zero_or_pos (k - c.am.length) with z | z
      · rw [z] at e1'
        rw [← A.len, z] at e2'
        simp at e1' e2'
        subst e1' e2'
        exact r
      · rw [List.getElem?_eq_none (by rw [List.length_singleton]; exact z)] at e1'; cases e1'
/-- a handle's object is written -/
theorem Ab.write (A : Ab K c M) {p : Addr} {o : HO} {u : O} {j : Nat} (m : c.am[j]? = some p) (r : OR K ⟨c.am, c.hid, upd c.H p o⟩ p u) : Ab K ⟨c.am, c.hid, upd c.H p o⟩ (M.set j u) := by
  have mp : p ∈ c.am := List.mem_of_getElem? m
  refine ⟨by simp [A.len], A.nd, fun a h => ⟨upd_some (A.hid a h).1, (A.hid a h).2⟩, fun k a w e1 e2 => ?_⟩
  by_cases e : k = j
  · subst e
    rw [m] at e1; cases e1
    have hk : k < M.length := by rw [← A.len]; exact (List.getElem?_eq_some_iff.mp m).1
    rw [List.getElem?_set_self hk] at e2; cases e2
    exact r
  · rw [List.getElem?_set_ne (fun z => e z.symm)] at e2
    have hne : a ≠ p := fun z => by
      subst z
      obtain ⟨h1, g1⟩ := List.getElem?_eq_some_iff.mp e1
      obtain ⟨h2, g2⟩ := List.getElem?_eq_some_iff.mp m
      exact e ((List.getElem_inj A.nd).mp (g1.trans g2.symm))
    exact (A.at_ k a w e1 e2).mono (Step.write mp) fun v h => by
      show upd c.H p o a = some v
      rw [upd_ne hne]; exact h
/-- a handle's address and object -/
theorem Ab.h (A : Ab K c M) {k : Nat} {v : V} (r : Rl K c (.h k) v) {o : O} (e : M[k]? = some o) : ∃ a, v = .ref a ∧ c.am[k]? = some a ∧ OR K c a o := by
  cases r with
  | h q => exact ⟨_, rfl, q, A.at_ k _ o q e⟩
theorem Sl.set (h : Sl K c σ ds) {i : Nat} {d : D} {v : V} (r : Rl K c d v) : Sl K c (σ.set i (some v)) (ds.set i (some d)) := by
  refine ⟨by simp [h.len], fun j e q => ?_⟩
  by_cases z : j = i
  · subst z
    by_cases hj : j < ds.length
    · rw [List.getElem?_set_self hj] at q
      cases q
      exact ⟨v, by rw [List.getElem?_set_self (by rw [h.len]; exact hj)], r⟩
    · rw [List.getElem?_eq_none (by simpa using hj)] at q; cases q
  · rw [List.getElem?_set_ne (fun w => z w.symm)] at q
    obtain ⟨w, a, b⟩ := h.at_ j e q
    exact ⟨w, by rw [List.getElem?_set_ne (fun w => z w.symm)]; exact a, b⟩
theorem Sl.unset (h : Sl K c σ ds) (i : Nat) : Sl K c (σ.set i none) (ds.set i none) := by
  refine ⟨by simp [h.len], fun j e q => ?_⟩
  by_cases z : j = i
  · subst z
    by_cases hj : j < ds.length
    · rw [List.getElem?_set_self hj] at q; cases q
    · rw [List.getElem?_eq_none (by simpa using hj)] at q; cases q
  · rw [List.getElem?_set_ne (fun w => z w.symm)] at q
    obtain ⟨w, a, b⟩ := h.at_ j e q
    exact ⟨w, by rw [List.getElem?_set_ne (fun w => z w.symm)]; exact a, b⟩
def dw (ds : DS) : List Nat → DS
  | [] => ds
  | v :: vs => (dw ds vs).set v none
theorem Sl.wipe (h : Sl K c σ ds) : ∀ vs, Sl K c (wipe σ vs) (dw ds vs)
  | [] => h
  | v :: vs => (Sl.wipe h vs).unset v
end
end My

set_option Elab.async false
set_option linter.all false
set_option maxRecDepth 100000
set_option maxHeartbeats 4000000
namespace My
open PySem PySem.Spec PyProof.Rows L2

abbrev KD := D → S → Prop
abbrev DE := DS → S → KD → Prop
abbrev DT := DS → S → (Bool → S → Prop) → Prop
abbrev DA := DS → S → (List D → S → Prop) → Prop
structure DEnds where
  nx : DS → S → Prop
  rt : KD
  bk : DS → S → Prop := fun _ _ => False
  ct : DS → S → Prop := fun _ _ => False
abbrev DSt := DEnds → DS → S → Prop
abbrev DR2 := D → D → S → KD → Prop
abbrev DRL := List D → S → KD → Prop

/-! ### readings over data lie over the readings over the heap -/
def SE (K : PySem.W.Frag) (te : TE) (t : DE) : Prop := ∀ σ ds c M, Sl K c σ ds → Ab K c M → ∀ (Qd : KD) (Q : VK), t ds M Qd → (∀ d M' v c', Step c c' → Ab K c' M' → Rl K c' d v → Qd d M' → Q v c'.H) → te σ c.H Q
def ST (K : PySem.W.Frag) (tt : TT) (t : DT) : Prop := ∀ σ ds c M, Sl K c σ ds → Ab K c M → ∀ (Qd : Bool → S → Prop) (Q : Bool → Hp → Prop), t ds M Qd → (∀ b M' c', Step c c' → Ab K c' M' → Qd b M' → Q b c'.H) → tt σ c.H Q
def SA (K : PySem.W.Frag) (ta : TA) (t : DA) : Prop := ∀ σ ds c M, Sl K c σ ds → Ab K c M → ∀ (Qd : List D → S → Prop) (Q : List V → Hp → Prop), t ds M Qd → (∀ l M' vs c', Step c c' → Ab K c' M' → Rls K c' l vs → Qd l M' → Q vs c'.H) → ta σ c.H Q
structure EndOk (K : PySem.W.Frag) (c : Cn) (Dd : DEnds) (E : Ends) : Prop where
  nx : ∀ σ ds c' M, Step c c' → Sl K c' σ ds → Ab K c' M → Dd.nx ds M → E.nx σ c'.H
  bk : ∀ σ ds c' M, Step c c' → Sl K c' σ ds → Ab K c' M → Dd.bk ds M → E.bk σ c'.H
  ct : ∀ σ ds c' M, Step c c' → Sl K c' σ ds → Ab K c' M → Dd.ct ds M → E.ct σ c'.H
  rt : ∀ v d c' M, Step c c' → Rl K c' d v → Ab K c' M → Dd.rt d M → E.rt v c'.H
theorem EndOk.step {K : PySem.W.Frag} {c c1 : Cn} {Dd : DEnds} {E : Ends} (h : EndOk K c Dd E) (s : Step c c1) : EndOk K c1 Dd E :=
  ⟨fun σ ds c' M s' => h.nx σ ds c' M (s.trans s'), fun σ ds c' M s' => h.bk σ ds c' M (s.trans s'), fun σ ds c' M s' => h.ct σ ds c' M (s.trans s'), fun v d c' M s' => h.rt v d c' M (s.trans s')⟩
def SS (K : PySem.W.Frag) (ts : TS) (t : DSt) : Prop := ∀ σ ds c M, Sl K c σ ds → Ab K c M → ∀ (Dd : DEnds) (E : Ends), t Dd ds M → EndOk K c Dd E → ts E σ c.H

def PD (X : Cx) (e : Expr) (t : DE) : Prop := ∃ te, PE X e te ∧ SE X.K te t
def PDT (X : Cx) (e : Expr) (t : DT) : Prop := ∃ te, PT X e te ∧ ST X.K te t
def PDW (X : Cx) (e : Expr) (t : DT) : Prop := ∃ te, PW X e te ∧ ST X.K te t
def PDA (X : Cx) (es : List Expr) (t : DA) : Prop := ∃ te, PA X es te ∧ SA X.K te t
def PDS (X : Cx) (st : Stmt) (t : DSt) : Prop := ∃ te, PS X st te ∧ SS X.K te t
def PDSs (X : Cx) (st : List Stmt) (t : DSt) : Prop := ∃ te, PSs X st te ∧ SS X.K te t
def PDC (X : Cx) (op : CmpOp) (a b : Expr) (t : DE) : Prop := ∃ te, PC X op a b te ∧ SE X.K te t
/-- an operation on two values -/
def SR (K : PySem.W.Frag) (r : R2) (t : DR2) : Prop := ∀ x y v w c M, Rl K c x v → Rl K c y w → Ab K c M → ∀ (Qd : KD) (Q : VK), t x y M Qd → (∀ d M' u c', Step c c' → Ab K c' M' → Rl K c' d u → Qd d M' → Q u c'.H) → r v w c.H Q
/-- a call on values -/
def SC (K : PySem.W.Frag) (r : List V → Hp → VK → Prop) (t : DRL) : Prop := ∀ l vs c M, Rls K c l vs → Ab K c M → ∀ (Qd : KD) (Q : VK), t l M Qd → (∀ d M' u c', Step c c' → Ab K c' M' → Rl K c' d u → Qd d M' → Q u c'.H) → r vs c.H Q

/-! ### the readings -/
def dVar (i : Nat) : DE := fun ds M Q => ∃ d, ds[i]? = some (some d) ∧ Q d M
def dC (d : D) : DE := fun _ M Q => Q d M
def dOp (t : DR2) (ta tb : DE) : DE := fun ds M Q => ta ds M fun x M1 => tb ds M1 fun y M2 => t x y M2 Q
def dUn (t : D → S → KD → Prop) (ta : DE) : DE := fun ds M Q => ta ds M fun x M1 => t x M1 Q
def dNil : DA := fun _ M Q => Q [] M
def dCons (ta : DE) (tr : DA) : DA := fun ds M Q => ta ds M fun x M1 => tr ds M1 fun l M2 => Q (x :: l) M2
def dTup (t : DA) : DE := fun ds M Q => t ds M fun l M1 => l.length ≤ 1000 ∧ Q (.tup l) M1
def dLst (t : DA) : DE := fun ds M Q => t ds M fun l M1 => l.length ≤ 1000 ∧ Q (.lst l) M1
/-- a list that will be changed: a new object of the store -/
def dNew (t : DA) : DE := fun ds M Q => t ds M fun l M1 => l.length ≤ 1000 ∧ Q (.h M1.length) (M1 ++ [.lst l])
def dTest (t : DE) : DT := fun ds M Q => t ds M fun x M1 => ∃ b, x = .bl b ∧ Q b M1
def dAnd (t u : DT) : DT := fun ds M Q => t ds M fun c M1 => if c = true then u ds M1 Q else Q false M1
def dOr (t u : DT) : DT := fun ds M Q => t ds M fun c M1 => if c = true then Q true M1 else u ds M1 Q
def dNot (t : DT) : DT := fun ds M Q => t ds M fun c M1 => Q (!c) M1
def dAndV (ta tb : DE) : DE := fun ds M Q => ta ds M fun x M1 => ∃ c, x = .bl c ∧ if c = true then tb ds M1 Q else Q (.bl false) M1
def dOrV (ta tb : DE) : DE := fun ds M Q => ta ds M fun x M1 => ∃ c, x = .bl c ∧ if c = true then Q (.bl true) M1 else tb ds M1 Q
def dNotV (ta : DE) : DE := fun ds M Q => ta ds M fun x M1 => ∃ c, x = .bl c ∧ Q (.bl (!c)) M1
def dIf (t : DT) (ta tb : DE) : DE := fun ds M Q => t ds M fun c M1 => if c = true then ta ds M1 Q else tb ds M1 Q
def isN : D → Bool
  | .non => true
  | _ => false
def dIsN (ta : DE) : DE := fun ds M Q => ta ds M fun x M1 => Q (.bl (isN x)) M1
def dNotN (ta : DE) : DE := fun ds M Q => ta ds M fun x M1 => Q (.bl (!isN x)) M1
def dChain (r r' : DR2) (ta tb tc : DE) : DE := fun ds M Q => ta ds M fun x M1 => tb ds M1 fun y M2 => r x y M2 fun z M3 => ∃ k, z = .bl k ∧ if k = true then tc ds M3 fun w M4 => r' y w M4 Q else Q (.bl false) M3
def dCB (r : DRL) (t : DA) : DE := fun ds M Q => t ds M fun l M1 => r l M1 Q
def dNext : DSt := fun E ds M => E.nx ds M
def dSeq (t u : DSt) : DSt := fun E ds M => t { E with nx := u E } ds M
def dDrop (te : DE) : DSt := fun E ds M => te ds M fun _ M1 => E.nx ds M1
def dRet (te : DE) : DSt := fun E ds M => te ds M E.rt
def dRetN : DSt := fun E _ M => E.rt .non M
def dIfS (c : DT) (t u : DSt) : DSt := fun E ds M => c ds M fun b M1 => if b = true then t E ds M1 else u E ds M1
def dNever : DSt := fun _ _ _ => False

section
variable {K : PySem.W.Frag}
theorem se_var {i : Nat} : SE K (tVar i) (dVar i) := fun σ ds c M hs hA Qd Q ⟨d, e, q⟩ k => let ⟨v, a, b⟩ := hs.at_ i d e; ⟨v, a, k d M v c (Step.refl c) hA b q⟩
theorem se_c {d : D} {v : V} (r : ∀ c, Rl K c d v) : SE K (tC v) (dC d) := fun σ ds c M hs hA Qd Q q k => k d M v c (Step.refl c) hA (r c) q
theorem se_op {r : R2} {t : DR2} {ta tb : TE} {da db : DE} (hr : SR K r t) (ha : SE K ta da) (hb : SE K tb db) : SE K (tOp r ta tb) (dOp t da db) := fun σ ds c M hs hA Qd Q q k =>
  ha σ ds c M hs hA _ _ q fun x M1 v c1 s1 A1 r1 q1 => hb σ ds c1 M1 (hs.mono s1) A1 _ _ q1 fun y M2 w c2 s2 A2 r2 q2 =>
    hr x y v w c2 M2 (r1.mono s2) r2 A2 _ _ q2 fun d M' u c' s' A' r' q' => k d M' u c' ((s1.trans s2).trans s') A' r' q'
theorem sa_nil : SA K tNil dNil := fun σ ds c M hs hA Qd Q q k => k [] M [] c (Step.refl c) hA .nil q
theorem sa_cons {ta : TE} {da : DE} {tr : TA} {dr : DA} (ha : SE K ta da) (hr : SA K tr dr) : SA K (tCons ta tr) (dCons da dr) := fun σ ds c M hs hA Qd Q q k =>
  ha σ ds c M hs hA _ _ q fun x M1 v c1 s1 A1 r1 q1 => hr σ ds c1 M1 (hs.mono s1) A1 _ _ q1 fun l M2 vs c2 s2 A2 r2 q2 => k (x :: l) M2 (v :: vs) c2 (s1.trans s2) A2 (.cons (r1.mono s2) r2) q2
theorem szT {n : Nat} (h : n ≤ 1000) : n ≤ sizeLine := Nat.le_trans h (by decide)
theorem se_tup {t : TA} {d : DA} (h : SA K t d) : SE K (tTup t) (dTup d) := fun σ ds c M hs hA Qd Q q k =>
  h σ ds c M hs hA _ _ q fun l M1 vs c1 s1 A1 r1 ⟨z, q1⟩ => ⟨by rw [← r1.length]; exact szT z, fun p hp => k _ M1 _ ⟨c1.am, c1.hid, upd c1.H p (.tup vs)⟩ (s1.trans (Step.fresh hp)) (A1.fresh hp) (.tup upd_same (A1.ok hp) (r1.mono (Step.fresh hp))) q1⟩
theorem se_lst {t : TA} {d : DA} (h : SA K t d) : SE K (tLst t) (dLst d) := fun σ ds c M hs hA Qd Q q k =>
  h σ ds c M hs hA _ _ q fun l M1 vs c1 s1 A1 r1 ⟨z, q1⟩ => ⟨by rw [← r1.length]; exact szT z, fun p hp => k _ M1 _ ⟨c1.am, c1.hid, upd c1.H p (.lst vs)⟩ (s1.trans (Step.fresh hp)) (A1.fresh hp) (.lst upd_same (A1.ok hp) (r1.mono (Step.fresh hp))) q1⟩
theorem am_last (am : List Addr) (p : Addr) (n : Nat) (h : am.length = n) : (am ++ [p])[n]? = some p := by
  rw [List.getElem?_append_right (by omega), ← h]; simp
theorem se_new {t : TA} {d : DA} (h : SA K t d) : SE K (tLst t) (dNew d) := fun σ ds c M hs hA Qd Q q k =>
  h σ ds c M hs hA _ _ q fun l M1 vs c1 s1 A1 r1 ⟨z, q1⟩ => ⟨by rw [← r1.length]; exact szT z, fun p hp =>
    k _ _ _ ⟨c1.am ++ [p], c1.hid, upd c1.H p (.lst vs)⟩ (s1.trans (Step.freshH hp)) (A1.freshH hp (.lst upd_same (r1.mono (Step.freshH hp)))) (.h (am_last _ _ _ A1.len)) q1⟩
theorem st_test {t : TE} {d : DE} (h : SE K t d) : ST K (tTest t) (dTest d) := fun σ ds c M hs hA Qd Q q k => h σ ds c M hs hA _ _ q fun x M1 v c1 s1 A1 r1 ⟨b, e, q1⟩ => by
  subst e; cases r1; exact ⟨b, rfl, k b M1 c1 s1 A1 q1⟩
theorem st_B {t : TE} {d : DE} (h : SE K t d) : ST K (tB t) (dTest d) := fun σ ds c M hs hA Qd Q q k => h σ ds c M hs hA _ _ q fun x M1 v c1 s1 A1 r1 ⟨b, e, q1⟩ => by
  subst e; cases r1; exact ⟨b, rfl, k b M1 c1 s1 A1 q1⟩
theorem st_and {t u : TT} {d e : DT} (h1 : ST K t d) (h2 : ST K u e) : ST K (tAnd t u) (dAnd d e) := fun σ ds c M hs hA Qd Q q k => h1 σ ds c M hs hA _ _ q fun b M1 c1 s1 A1 q1 => by
  cases b with
  | true => exact h2 σ ds c1 M1 (hs.mono s1) A1 _ _ q1 fun b M' c' s' A' q' => k b M' c' (s1.trans s') A' q'
  | false => exact k false M1 c1 s1 A1 q1
theorem st_or {t u : TT} {d e : DT} (h1 : ST K t d) (h2 : ST K u e) : ST K (tOr t u) (dOr d e) := fun σ ds c M hs hA Qd Q q k => h1 σ ds c M hs hA _ _ q fun b M1 c1 s1 A1 q1 => by
  cases b with
  | false => exact h2 σ ds c1 M1 (hs.mono s1) A1 _ _ q1 fun b M' c' s' A' q' => k b M' c' (s1.trans s') A' q'
  | true => exact k true M1 c1 s1 A1 q1
theorem st_not {t : TT} {d : DT} (h : ST K t d) : ST K (tNot t) (dNot d) := fun σ ds c M hs hA Qd Q q k => h σ ds c M hs hA _ _ q fun b M1 c1 s1 A1 q1 => k _ M1 c1 s1 A1 q1
theorem se_andV {ta tb : TE} {da db : DE} (h1 : SE K ta da) (h2 : SE K tb db) : SE K (tAndV ta tb) (dAndV da db) := fun σ ds c M hs hA Qd Q q k => h1 σ ds c M hs hA _ _ q fun x M1 v c1 s1 A1 r1 ⟨b, e, q1⟩ => by
  subst e; cases r1
  refine ⟨b, rfl, ?_⟩
  cases b with
  | true => exact h2 σ ds c1 M1 (hs.mono s1) A1 _ _ q1 fun b M' v c' s' A' r' q' => k b M' v c' (s1.trans s') A' r' q'
  | false => exact k _ M1 _ c1 s1 A1 (.bl false) q1
theorem se_orV {ta tb : TE} {da db : DE} (h1 : SE K ta da) (h2 : SE K tb db) : SE K (tOrV ta tb) (dOrV da db) := fun σ ds c M hs hA Qd Q q k => h1 σ ds c M hs hA _ _ q fun x M1 v c1 s1 A1 r1 ⟨b, e, q1⟩ => by
  subst e; cases r1
  refine ⟨b, rfl, ?_⟩
  cases b with
  | false => exact h2 σ ds c1 M1 (hs.mono s1) A1 _ _ q1 fun b M' v c' s' A' r' q' => k b M' v c' (s1.trans s') A' r' q'
  | true => exact k _ M1 _ c1 s1 A1 (.bl true) q1
theorem se_notV {ta : TE} {da : DE} (h1 : SE K ta da) : SE K (tNotV ta) (dNotV da) := fun σ ds c M hs hA Qd Q q k => h1 σ ds c M hs hA _ _ q fun x M1 v c1 s1 A1 r1 ⟨b, e, q1⟩ => by
  subst e; cases r1
  exact ⟨b, rfl, k _ M1 _ c1 s1 A1 (.bl _) q1⟩
theorem se_if {t : TT} {d : DT} {ta tb : TE} {da db : DE} (h : ST K t d) (h1 : SE K ta da) (h2 : SE K tb db) : SE K (tIf t ta tb) (dIf d da db) := fun σ ds c M hs hA Qd Q q k => h σ ds c M hs hA _ _ q fun b M1 c1 s1 A1 q1 => by
  cases b with
  | true => exact h1 σ ds c1 M1 (hs.mono s1) A1 _ _ q1 fun b M' v c' s' A' r' q' => k b M' v c' (s1.trans s') A' r' q'
  | false => exact h2 σ ds c1 M1 (hs.mono s1) A1 _ _ q1 fun b M' v c' s' A' r' q' => k b M' v c' (s1.trans s') A' r' q'
theorem rl_isN {c : Cn} {d : D} {v : V} (r : Rl K c d v) : decide (v = .non) = isN d := by cases r <;> simp [isN]
theorem se_isN {ta : TE} {da : DE} (h : SE K ta da) : SE K (tIsN ta) (dIsN da) := fun σ ds c M hs hA Qd Q q k => h σ ds c M hs hA _ _ q fun x M1 v c1 s1 A1 r1 q1 => by
  rw [rl_isN r1]; exact k _ M1 _ c1 s1 A1 (.bl _) q1
theorem se_notN {ta : TE} {da : DE} (h : SE K ta da) : SE K (tNotN ta) (dNotN da) := fun σ ds c M hs hA Qd Q q k => h σ ds c M hs hA _ _ q fun x M1 v c1 s1 A1 r1 q1 => by
  rw [rl_isN r1]; exact k _ M1 _ c1 s1 A1 (.bl _) q1
theorem se_cb {r : List V → Hp → VK → Prop} {t : DRL} {ta : TA} {da : DA} (hr : SC K r t) (ha : SA K ta da) : SE K (tCB r ta) (dCB t da) := fun σ ds c M hs hA Qd Q q k =>
  ha σ ds c M hs hA _ _ q fun l M1 vs c1 s1 A1 r1 q1 => hr l vs c1 M1 r1 A1 _ _ q1 fun d M' u c' s' A' r' q' => k d M' u c' (s1.trans s') A' r' q'
theorem ss_next : SS K tNext dNext := fun σ ds c M hs hA Dd E q k => k.nx σ ds c M (Step.refl c) hs hA q
theorem ss_seq {t u : TS} {d e : DSt} (h1 : SS K t d) (h2 : SS K u e) : SS K (tSeq t u) (dSeq d e) := fun σ ds c M hs hA Dd E q k =>
  h1 σ ds c M hs hA _ _ q ⟨fun σ' ds' c' M' s' hs' A' q' => h2 σ' ds' c' M' hs' A' Dd E q' (k.step s'), k.bk, k.ct, k.rt⟩
theorem ss_drop {te : TE} {de : DE} (h : SE K te de) : SS K (tDrop te) (dDrop de) := fun σ ds c M hs hA Dd E q k =>
  h σ ds c M hs hA _ _ q fun d M1 v c1 s1 A1 r1 q1 => k.nx σ ds c1 M1 s1 (hs.mono s1) A1 q1
theorem ss_ret {te : TE} {de : DE} (h : SE K te de) : SS K (tRet te) (dRet de) := fun σ ds c M hs hA Dd E q k =>
  h σ ds c M hs hA _ _ q fun d M1 v c1 s1 A1 r1 q1 => k.rt v d c1 M1 s1 r1 A1 q1
theorem ss_retN : SS K tRetN dRetN := fun σ ds c M hs hA Dd E q k => k.rt .non .non c M (Step.refl c) .non hA q
theorem ss_ifS {tc : TT} {dc : DT} {t u : TS} {d e : DSt} (hc : ST K tc dc) (h1 : SS K t d) (h2 : SS K u e) : SS K (tIfS tc t u) (dIfS dc d e) := fun σ ds c M hs hA Dd E q k =>
  hc σ ds c M hs hA _ _ q fun b M1 c1 s1 A1 q1 => by
    cases b with
    | true => exact h1 σ ds c1 M1 (hs.mono s1) A1 Dd E q1 (k.step s1)
    | false => exact h2 σ ds c1 M1 (hs.mono s1) A1 Dd E q1 (k.step s1)
theorem ss_never : SS K tNever dNever := fun σ ds c M hs hA Dd E q k => q.elim
end
section
variable {X : Cx} {a b e : Expr} {es : List Expr} {ta tb tc : DE} {tt uu : DT} {t : DA} {pos : Pos} {st : Stmt} {rest : List Stmt} {s1 s2 : DSt}
theorem d_var {i : Nat} {x : Str} (hN : X.N[i]? = some x) (hv : Vis X.env.scope x) (hd : (x == ("__debug__" : Str)) = false := by decide) (hcd : (x == ("__classdict__" : Str)) = false := by decide) : PD X (.Name x pos) (dVar i) := ⟨_, pe_var hN hv hd hcd, se_var⟩
theorem d_int {i j} : PD X (.Constant (.int i) j pos) (dC (.int i)) := ⟨_, pe_int, se_c fun _ => .int i⟩
theorem d_bl {i j} : PD X (.Constant (.bool i) j pos) (dC (.bl i)) := ⟨_, pe_bl, se_c fun _ => .bl i⟩
theorem d_non {j} : PD X (.Constant .none j pos) (dC .non) := ⟨_, pe_non, se_c fun _ => .non⟩
theorem d_str {i j} : PD X (.Constant (.str i) j pos) (dC (.str i)) := ⟨_, pe_str, se_c fun _ => .str i⟩
theorem d_gi {x : Str} {i : Int} (hg : Gl X x) (h : ∃ tk, X.mg x = some (.int i tk)) (hdb : (x == ("__debug__" : Str)) = false := by decide) : PD X (.Name x pos) (dC (.int i)) := ⟨_, gi hg h hdb, se_c fun _ => .int i⟩
theorem d_gs {x : Str} {i : Str} (hg : Gl X x) (h : ∃ tk, X.mg x = some (.str i tk)) (hdb : (x == ("__debug__" : Str)) = false := by decide) : PD X (.Name x pos) (dC (.str i)) := ⟨_, gs hg h hdb, se_c fun _ => .str i⟩
theorem d_op {op : Operator} {r : R2} {t : DR2} (ho : OpR X (binaryOp op) r) (hr : SR X.K r t) (ha : PD X a ta) (hb : PD X b tb) : PD X (.BinOp a op b pos) (dOp t ta tb) :=
  let ⟨_, pa, sa⟩ := ha; let ⟨_, pb, sb⟩ := hb; ⟨_, pe_op ho pa pb, se_op hr sa sb⟩
theorem d_cmp {op : CmpOp} {r : R2} {t : DR2} (ho : OpR X (compareOp op) r) (hr : SR X.K r t) (ha : PD X a ta) (hb : PD X b tb) (hm : behindInMarks op b = false := by first | exact nobehind _ (by decide) (by decide) | rfl) : PD X (.Compare a [op] [b] pos) (dOp t ta tb) :=
  let ⟨_, pa, sa⟩ := ha; let ⟨_, pb, sb⟩ := hb; ⟨_, pe_cmpR ho pa pb hm, se_op hr sa sb⟩
theorem d_pa_nil : PDA X [] dNil := ⟨_, pa_nil, sa_nil⟩
theorem d_pa_cons (ha : PD X e ta) (hr : PDA X es t) (hs : starEach (e :: es) X.env = (false, eval e X.env) :: starEach es X.env := by rfl) : PDA X (e :: es) (dCons ta t) :=
  let ⟨_, pa, sa⟩ := ha; let ⟨_, pb, sb⟩ := hr; ⟨_, pa_cons pa pb hs, sa_cons sa sb⟩
theorem d_tup {x1} (h : PDA X es t) : PD X (.Tuple es x1 pos) (dTup t) := let ⟨_, p, s⟩ := h; ⟨_, pe_tup p, se_tup s⟩
theorem d_lst (h : PDA X es t) : PD X (.List es pos) (dLst t) := let ⟨_, p, s⟩ := h; ⟨_, pe_lst p, se_lst s⟩
theorem d_new (h : PDA X es t) : PD X (.List es pos) (dNew t) := let ⟨_, p, s⟩ := h; ⟨_, pe_lst p, se_new s⟩
theorem d_tval (h : PD X e ta) (he : ∀ whole, isTrue e X.env whole = (do let v ← whole; standAt e.pos; holding [v] (truthy v)) := by intro _; rfl) : PDT X e (dTest ta) := let ⟨_, p, s⟩ := h; ⟨_, pt_val p he, st_B s⟩
theorem d_tcmp {op : CmpOp} {r : R2} {t : DR2} (ho : OpR X (compareOp op) r) (hr : SR X.K r t) (ha : PD X a ta) (hb : PD X b tb) (hm : behindInMarks op b = false := by first | exact nobehind _ (by decide) (by decide) | rfl) : PDT X (.Compare a [op] [b] pos) (dTest (dOp t ta tb)) :=
  let ⟨_, pa, sa⟩ := ha; let ⟨_, pb, sb⟩ := hb; ⟨_, pt_cmpR ho pa pb hm, st_test (se_op hr sa sb)⟩
theorem d_tpc {op : CmpOp} {t : DE} (h : PDC X op a b t) (hm : behindInMarks op b = false := by first | exact nobehind _ (by decide) (by decide) | rfl) : PDT X (.Compare a [op] [b] pos) (dTest t) := let ⟨_, p, s⟩ := h; ⟨_, pt_cmp p hm, st_B s⟩
theorem d_pc {op : CmpOp} {t : DE} (h : PDC X op a b t) (hm : behindInMarks op b = false := by first | exact nobehind _ (by decide) (by decide) | rfl) : PD X (.Compare a [op] [b] pos) t := let ⟨_, p, s⟩ := h; ⟨_, pe_cmp p hm, s⟩
theorem d_isN {j pos'} (h : PD X a ta) : PDC X .Is a (.Constant .none j pos') (dIsN ta) := let ⟨_, p, s⟩ := h; ⟨_, pc_isN p, se_isN s⟩
theorem d_notN {j pos'} (h : PD X a ta) : PDC X .IsNot a (.Constant .none j pos') (dNotN ta) := let ⟨_, p, s⟩ := h; ⟨_, pc_notN p, se_notN s⟩
theorem d_tw (h : PDW X e tt) : PDT X e tt := let ⟨_, p, s⟩ := h; ⟨_, p.pt, s⟩
theorem d_and1 (h : PDT X a tt) : PDW X (.BoolOp .And [a] pos) tt := let ⟨_, p, s⟩ := h; ⟨_, pw_and1 p, s⟩
theorem d_or1 (h : PDT X a tt) : PDW X (.BoolOp .Or [a] pos) tt := let ⟨_, p, s⟩ := h; ⟨_, pw_or1 p, s⟩
theorem d_and (h : PDT X a tt) (h2 : PDW X (.BoolOp .And (b :: es) pos) uu) : PDW X (.BoolOp .And (a :: b :: es) pos) (dAnd tt uu) := let ⟨_, p, s⟩ := h; let ⟨_, p2, s2⟩ := h2; ⟨_, pw_and p p2, st_and s s2⟩
theorem d_or (h : PDT X a tt) (h2 : PDW X (.BoolOp .Or (b :: es) pos) uu) : PDW X (.BoolOp .Or (a :: b :: es) pos) (dOr tt uu) := let ⟨_, p, s⟩ := h; let ⟨_, p2, s2⟩ := h2; ⟨_, pw_or p p2, st_or s s2⟩
theorem d_not (h : PDT X a tt) : PDT X (.UnaryOp .Not a pos) (dNot tt) := let ⟨_, p, s⟩ := h; ⟨_, pt_not p, st_not s⟩
theorem d_one {op} (h : PD X a ta) : PD X (.BoolOp op [a] pos) ta := let ⟨_, p, s⟩ := h; ⟨_, pe_one p, s⟩
theorem d_andV (h : PD X a ta) (h2 : PD X (.BoolOp .And (b :: es) pos) tb) : PD X (.BoolOp .And (a :: b :: es) pos) (dAndV ta tb) := let ⟨_, p, s⟩ := h; let ⟨_, p2, s2⟩ := h2; ⟨_, pe_and p p2, se_andV s s2⟩
theorem d_orV (h : PD X a ta) (h2 : PD X (.BoolOp .Or (b :: es) pos) tb) : PD X (.BoolOp .Or (a :: b :: es) pos) (dOrV ta tb) := let ⟨_, p, s⟩ := h; let ⟨_, p2, s2⟩ := h2; ⟨_, pe_or p p2, se_orV s s2⟩
theorem d_notV (h : PD X a ta) : PD X (.UnaryOp .Not a pos) (dNotV ta) := let ⟨_, p, s⟩ := h; ⟨_, pe_not p, se_notV s⟩
theorem d_ifExp {c : Expr} (hc : PDT X c tt) (ha : PD X a ta) (hb : PD X b tb) : PD X (.IfExp c a b pos) (dIf tt ta tb) := let ⟨_, p, s⟩ := hc; let ⟨_, p1, s1⟩ := ha; let ⟨_, p2, s2⟩ := hb; ⟨_, pe_ifExp p p1 p2, se_if s s1 s2⟩
theorem d_nil : PDSs X [] dNext := ⟨_, pss_nil, ss_next⟩
theorem d_seq (h1 : PDS X st s1) (h2 : PDSs X rest s2) : PDSs X (st :: rest) (dSeq s1 s2) := let ⟨_, p, s⟩ := h1; let ⟨_, p2, s2⟩ := h2; ⟨_, pss_cons p p2, ss_seq s s2⟩
theorem d_single (h1 : PDS X st s1) : PDSs X [st] s1 := let ⟨_, p, s⟩ := h1; ⟨_, pss_one p, s⟩
theorem d_pass : PDS X (.Pass pos) dNext := ⟨_, ps_pass, ss_next⟩
theorem d_expr (h : PD X e ta) (hs : swapsWith e none pos.line X.env = pure false := by rfl) : PDS X (.Expr e pos) (dDrop ta) := let ⟨_, p, s⟩ := h; ⟨_, ps_expr p hs, ss_drop s⟩
theorem d_ret (h : PD X e ta) : PDS X (.Return (some e) pos) (dRet ta) := let ⟨_, p, s⟩ := h; ⟨_, ps_ret p, ss_ret s⟩
theorem d_retN : PDS X (.Return none pos) dRetN := ⟨_, ps_retN, ss_retN⟩
theorem d_if {c : Expr} {x y : List Stmt} (hc : PDT X c tt) (h1 : PDSs X x s1) (h2 : PDSs X y s2) : PDS X (.If c x y pos) (dIfS tt s1 s2) := let ⟨_, p, s⟩ := hc; let ⟨_, p1, s1⟩ := h1; let ⟨_, p2, s2⟩ := h2; ⟨_, ps_if p p1 p2, ss_ifS s s1 s2⟩
theorem d_never : PDS X st dNever := ⟨_, ps_never, ss_never⟩
theorem d_nevers : PDSs X rest dNever := ⟨tNever, pss_never, ss_never⟩
theorem d_callB {id : String} {r : List V → Hp → VK → Prop} {u : DRL} {x : Str} {p : Pos} (hc : CallR X (.builtin id) r) (hr : SC X.K r u) (hg : Gl X x) (hm : X.mg x = none) (hv : bootBuiltins x = some (.builtin id)) (ha : PDA X (e :: es) t) (hn : x ≠ "__name__" := by decide) (hdb : (x == ("__debug__" : Str)) = false := by decide)
    (he : starEach (e :: es) X.env = (false, eval e X.env) :: starEach es X.env := by rfl) (hpl : (backTo pos (starEach es X.env)).any (·.1) = false := by rfl) : PD X (.Call (.Name x p) (e :: es) [] pos) (dCB u t) := let ⟨_, p, s⟩ := ha; ⟨_, pe_callB hc hg hm hv p hn hdb he hpl, se_cb hr s⟩
theorem d_callT {T : String} {r : List V → Hp → VK → Prop} {u : DRL} {x : Str} {p : Pos} (hc : CallR X (.type T) r) (hr : SC X.K r u) (hg : Gl X x) (hm : X.mg x = none) (hv : bootBuiltins x = some (.type T)) (ha : PDA X (e :: es) t) (hn : x ≠ "__name__" := by decide) (hdb : (x == ("__debug__" : Str)) = false := by decide)
    (he : starEach (e :: es) X.env = (false, eval e X.env) :: starEach es X.env := by rfl) (hpl : (backTo pos (starEach es X.env)).any (·.1) = false := by rfl) : PD X (.Call (.Name x p) (e :: es) [] pos) (dCB u t) := let ⟨_, p, s⟩ := ha; ⟨_, pe_callTy hc hg hm hv p hn hdb he hpl, se_cb hr s⟩
end
end My

set_option Elab.async false
set_option linter.all false
set_option maxRecDepth 100000
set_option maxHeartbeats 4000000
namespace My
open PySem PySem.Spec PyProof.Rows L2

/-! ### operations on data -/
section
variable {K : PySem.W.Frag}
/-- two ints in, a value out -/
def oI (C : Int → Int → Prop) (g : Int → Int → D) : DR2
  | .int i, .int j, M, Q => C i j ∧ Q (g i j) M
  | _, _, _, _ => False
def oI0 (g : Int → Int → D) : DR2
  | .int i, .int j, M, Q => Q (g i j) M
  | _, _, _, _ => False
theorem sr_I {C : Int → Int → Prop} {g : Int → Int → V} {f : Int → Int → D} (h : ∀ i j c, Rl K c (f i j) (g i j)) : SR K (rI C g) (oI C f) := by
  intro x y v w c M rx ry A Qd Q q k
  cases rx <;> cases ry <;> first | exact q.elim | skip
  exact ⟨_, _, rfl, rfl, q.1, k _ M _ c (Step.refl c) A (h _ _ c) q.2⟩
theorem sr_I0 {g : Int → Int → V} {f : Int → Int → D} (h : ∀ i j c, Rl K c (f i j) (g i j)) : SR K (rI0 g) (oI0 f) := by
  intro x y v w c M rx ry A Qd Q q k
  cases rx <;> cases ry <;> first | exact q.elim | skip
  exact ⟨_, _, rfl, rfl, k _ M _ c (Step.refl c) A (h _ _ c) q⟩
theorem SR.or {r r' : R2} {t t' : DR2} (h : SR K r t) (h' : SR K r' t') : SR K (fun x y H Q => r x y H Q ∨ r' x y H Q) (fun x y M Q => t x y M Q ∨ t' x y M Q) := by
  intro x y v w c M rx ry A Qd Q q k
  rcases q with q | q
  · exact .inl (h x y v w c M rx ry A Qd Q q k)
  · exact .inr (h' x y v w c M rx ry A Qd Q q k)
theorem SR.imp {r : R2} {t t' : DR2} (h : SR K r t) (i : ∀ x y M Q, t' x y M Q → t x y M Q) : SR K r t' := fun x y v w c M rx ry A Qd Q q k => h x y v w c M rx ry A Qd Q (i _ _ _ _ q) k
/-- a + b -/
def oAddS : DR2
  | .str a, .str b, M, Q => a.length + b.length ≤ 100000 ∧ Q (.str (a ++ b)) M
  | _, _, _, _ => False
def oAddT : DR2
  | .tup a, .tup b, M, Q => a.length + b.length ≤ 1000 ∧ Q (.tup (a ++ b)) M
  | _, _, _, _ => False
def oAddL : DR2
  | .lst a, .lst b, M, Q => a.length + b.length ≤ 1000 ∧ Q (.lst (a ++ b)) M
  | _, _, _, _ => False
def oAdd : DR2
  | .int i, .int j, M, Q => Q (.int (i + j)) M
  | .str a, .str b, M, Q => a.length + b.length ≤ 100000 ∧ Q (.str (a ++ b)) M
  | .tup a, .tup b, M, Q => a.length + b.length ≤ 1000 ∧ Q (.tup (a ++ b)) M
  | .lst a, .lst b, M, Q => a.length + b.length ≤ 1000 ∧ Q (.lst (a ++ b)) M
  | _, _, _, _ => False
theorem szS {n : Nat} (h : n ≤ 100000) : n ≤ sizeLine := Nat.le_trans h (by decide)
theorem sr_addS : SR K (fun x y H Q => ∃ i j, x = V.str i ∧ y = .str j ∧ i.length + j.length ≤ sizeLine ∧ Q (.str (i ++ j)) H) oAddS := by
  intro x y v w c M rx ry A Qd Q q k
  cases rx <;> cases ry <;> first | exact q.elim | skip
  exact ⟨_, _, rfl, rfl, szS q.1, k _ M _ c (Step.refl c) A (.str _) q.2⟩
theorem nil_of_len {α β : Type} {a : List α} {b : List β} (h : a.length = b.length) (e : b = []) : a = [] := by
  subst e; exact List.length_eq_zero_iff.mp h
theorem sr_addT : SR K (rCatA K) oAddT := by
  intro x y v w c M rx ry A Qd Q q k
  cases rx <;> cases ry <;> first | exact q.elim | skip
  rename_i a l xs h1 n1 r1 b m ys h2 n2 r2
  obtain ⟨z, q⟩ := q
  refine ⟨a, b, xs, ys, rfl, rfl, .of h1, .of h2, by rw [← r1.length, ← r2.length]; exact szT z, fun e => ?_, fun _ e => ?_, fun _ _ p hp => ?_⟩
  · have e' := nil_of_len r1.length e
    subst e'
    exact k _ M _ c (Step.refl c) A (.tup h2 n2 r2) q
  · have e' := nil_of_len r2.length e
    subst e'
    rw [List.append_nil] at q
    exact k _ M _ c (Step.refl c) A (.tup h1 n1 r1) q
  · exact k _ M _ ⟨c.am, c.hid, upd c.H p (.tup (xs ++ ys))⟩ (Step.fresh hp) (A.fresh hp) (.tup upd_same (A.ok hp) ((r1.append r2).mono (Step.fresh hp))) q
theorem sr_addL : SR K rCat oAddL := by
  intro x y v w c M rx ry A Qd Q q k
  cases rx <;> cases ry <;> first | exact q.elim | skip
  rename_i a l xs h1 n1 r1 b m ys h2 n2 r2
  obtain ⟨z, q⟩ := q
  refine ⟨a, b, xs, ys, rfl, rfl, h1, h2, by rw [← r1.length, ← r2.length]; exact szT z, fun p hp => ?_⟩
  exact k _ M _ ⟨c.am, c.hid, upd c.H p (.lst (xs ++ ys))⟩ (Step.fresh hp) (A.fresh hp) (.lst upd_same (A.ok hp) ((r1.append r2).mono (Step.fresh hp))) q
theorem oAdd_or (x y : D) (M : S) (Q : KD) (h : oAdd x y M Q) : oI0 (fun i j => .int (i + j)) x y M Q ∨ oAddS x y M Q ∨ oAddT x y M Q ∨ oAddL x y M Q := by
  cases x <;> cases y <;> first | exact h.elim | exact .inl h | exact .inr (.inl h) | exact .inr (.inr (.inl h)) | exact .inr (.inr (.inr h))
end
section
variable {X : Cx} {a b e : Expr} {es : List Expr} {ta tb tc : DE} {t : DA} {pos : Pos}
theorem d_add (ha : PD X a ta) (hb : PD X b tb) : PD X (.BinOp a .Add b pos) (dOp oAdd ta tb) :=
  d_op (op_add.or (op_add_str.or (op_catA.or op_cat))) (((sr_I0 fun i j c => Rl.int _).or (sr_addS.or (sr_addT.or sr_addL))).imp oAdd_or) ha hb
theorem d_sub (ha : PD X a ta) (hb : PD X b tb) : PD X (.BinOp a .Sub b pos) (dOp (oI0 fun i j => .int (i - j)) ta tb) := d_op op_sub (sr_I0 fun i j c => Rl.int _) ha hb
theorem d_mul (ha : PD X a ta) (hb : PD X b tb) : PD X (.BinOp a .Mult b pos) (dOp (oI CMul fun i j => .int (i * j)) ta tb) := d_op op_mul (sr_I fun i j c => Rl.int _) ha hb
theorem d_fdiv (ha : PD X a ta) (hb : PD X b tb) : PD X (.BinOp a .FloorDiv b pos) (dOp (oI CDivN fun i j => .int (i.fdiv j)) ta tb) := d_op op_fdivN (sr_I fun i j c => Rl.int _) ha hb
theorem d_mod (ha : PD X a ta) (hb : PD X b tb) : PD X (.BinOp a .Mod b pos) (dOp (oI (fun _ j => 0 < j) fun i j => .int (i % j)) ta tb) := d_op op_mod (sr_I fun i j c => Rl.int _) ha hb
theorem d_pow (ha : PD X a ta) (hb : PD X b tb) : PD X (.BinOp a .Pow b pos) (dOp (oI CPow fun i j => .int (i ^ j.toNat)) ta tb) := d_op op_pow (sr_I fun i j c => Rl.int _) ha hb
theorem d_shl (ha : PD X a ta) (hb : PD X b tb) : PD X (.BinOp a .LShift b pos) (dOp (oI CPow fun i j => .int (i * 2 ^ j.toNat)) ta tb) := d_op op_shl (sr_I fun i j c => Rl.int _) ha hb
theorem d_shr (ha : PD X a ta) (hb : PD X b tb) : PD X (.BinOp a .RShift b pos) (dOp (oI (fun _ j => 0 ≤ j) fun i j => .int (i / 2 ^ j.toNat)) ta tb) := d_op op_shr (sr_I fun i j c => Rl.int _) ha hb
theorem d_band (ha : PD X a ta) (hb : PD X b tb) : PD X (.BinOp a .BitAnd b pos) (dOp (oI0 fun i j => .int (Builtin.bitAnd i j)) ta tb) := d_op op_and (sr_I0 fun i j c => Rl.int _) ha hb
theorem d_bor (ha : PD X a ta) (hb : PD X b tb) : PD X (.BinOp a .BitOr b pos) (dOp (oI0 fun i j => .int (Builtin.bitOr i j)) ta tb) := d_op op_or (sr_I0 fun i j c => Rl.int _) ha hb
end
/-! ### comparisons -/
section
variable {K : PySem.W.Frag}
/-- p on ints, q on texts -/
def oC (p : Int → Int → Bool) (q : Str → Str → Bool) : DR2
  | .int i, .int j, M, Q => Q (.bl (p i j)) M
  | .str a, .str b, M, Q => Q (.bl (q a b)) M
  | _, _, _, _ => False
theorem sr_C {p : Int → Int → Bool} {q : Str → Str → Bool} : SR K (fun x y H Q => rI0 (fun i j => .bl (p i j)) x y H Q ∨ ∃ i j, x = V.str i ∧ y = .str j ∧ Q (.bl (q i j)) H) (oC p q) := by
  intro x y v w c M rx ry A Qd Q hq k
  cases rx <;> cases ry <;> first | exact hq.elim | skip
  · exact .inl ⟨_, _, rfl, rfl, k _ M _ c (Step.refl c) A (.bl _) hq⟩
  · exact .inr ⟨_, _, rfl, rfl, k _ M _ c (Step.refl c) A (.bl _) hq⟩
abbrev sLt (a b : Str) : Bool := decide (a.cps.toList < b.cps.toList)
abbrev oLt : DR2 := oC (fun i j => decide (i < j)) fun a b => sLt a b
abbrev oLe : DR2 := oC (fun i j => decide (i ≤ j)) fun a b => !sLt b a
abbrev oGt : DR2 := oC (fun i j => decide (j < i)) fun a b => sLt b a
abbrev oGe : DR2 := oC (fun i j => decide (j ≤ i)) fun a b => !sLt a b
mutual
def py : D → PyData
  | .non => .none
  | .bl b => .bool b
  | .int i => .int i
  | .str x => .str x
  | .tup l => .tuple (pys l)
  | .lst l => .list (pys l)
  | .scr _ => .none
  | .h _ => .none
def pys : List D → List PyData
  | [] => []
  | d :: l => py d :: pys l
end
mutual
def plain : D → Bool
  | .tup l => plains l
  | .lst l => plains l
  | .scr _ => false
  | .h _ => false
  | _ => true
def plains : List D → Bool
  | [] => true
  | d :: l => plain d && plains l
end
mutual
theorem rl_dp {c : Cn} : ∀ (d : D) (v : V), Rl K c d v → plain d = true → Dp K c.H v (py d)
  | .non, _, r, _ => by cases r; exact .non
  | .bl b, _, r, _ => by cases r; exact .bl b
  | .int i, _, r, _ => by cases r; exact .int i
  | .str x, _, r, _ => by cases r; exact .str x
  | .tup l, _, r, p => by
    cases r with
    | tup h _ r => exact .tup (.of h) (rls_dp l _ r p)
  | .lst l, _, r, p => by
    cases r with
    | lst h _ r => exact .lst (.of h) (rls_dp l _ r p)
  | .scr _, _, _, p => absurd (show false = true from p) Bool.false_ne_true
  | .h _, _, _, p => absurd (show false = true from p) Bool.false_ne_true
theorem rls_dp {c : Cn} : ∀ (l : List D) (xs : List V), Rls K c l xs → plains l = true → DpAll K c.H xs (pys l)
  | [], _, r, _ => by cases r; exact .nil
  | d :: l, _, r, p => by
    have p' : (plain d && plains l) = true := p
    rw [Bool.and_eq_true] at p'
    cases r with
    | cons a b => exact .cons (rl_dp d _ a p'.1) (rls_dp l _ b p'.2)
end
theorem pys_map : ∀ l : List D, pys l = l.map py
  | [] => rfl
  | d :: l => congrArg (py d :: ·) (pys_map l)
theorem plains_all : ∀ l : List D, plains l = l.all plain
  | [] => rfl
  | d :: l => congrArg (plain d && ·) (plains_all l)
def sh (d : D) : Bool := plain d && SeqAt.shaped (py d)
def oEqG (neg : Bool) : DR2 := fun x y M Q => sh x = true ∧ sh y = true ∧ Q (.bl (if neg then !PyData.eqv (py x) (py y) else PyData.eqv (py x) (py y))) M
def oEq : DR2
  | .int i, .int j, M, Q => Q (.bl (decide (i = j))) M
  | .str i, .str j, M, Q => Q (.bl (decide (i = j))) M
  | .bl i, .bl j, M, Q => Q (.bl (decide (i = j))) M
  | x, y, M, Q => oEqG false x y M Q
def oNe : DR2
  | .int i, .int j, M, Q => Q (.bl (!decide (i = j))) M
  | .str i, .str j, M, Q => Q (.bl (!decide (i = j))) M
  | .bl i, .bl j, M, Q => Q (.bl (!decide (i = j))) M
  | x, y, M, Q => oEqG true x y M Q
def oEqS : DR2
  | .int i, .int j, M, Q => Q (.bl (decide (i = j))) M
  | .str i, .str j, M, Q => Q (.bl (decide (i = j))) M
  | .bl i, .bl j, M, Q => Q (.bl (decide (i = j))) M
  | _, _, _, _ => False
def oNeS : DR2
  | .int i, .int j, M, Q => Q (.bl (!decide (i = j))) M
  | .str i, .str j, M, Q => Q (.bl (!decide (i = j))) M
  | .bl i, .bl j, M, Q => Q (.bl (!decide (i = j))) M
  | _, _, _, _ => False
theorem sr_eqS : SR K rEq oEqS := by
  intro x y v w c M rx ry A Qd Q q k
  cases rx <;> cases ry <;> first | exact q.elim | skip
  · exact ⟨rfl, k _ M _ c (Step.refl c) A (by simp only [V.bl.injEq]; exact .bl _) q⟩
  · exact ⟨rfl, k _ M _ c (Step.refl c) A (by simp only [V.int.injEq]; exact .bl _) q⟩
  · exact ⟨rfl, k _ M _ c (Step.refl c) A (by simp only [V.str.injEq]; exact .bl _) q⟩
theorem sr_neS : SR K rNe oNeS := by
  intro x y v w c M rx ry A Qd Q q k
  cases rx <;> cases ry <;> first | exact q.elim | skip
  · exact ⟨rfl, k _ M _ c (Step.refl c) A (by simp only [V.bl.injEq]; exact .bl _) q⟩
  · exact ⟨rfl, k _ M _ c (Step.refl c) A (by simp only [V.int.injEq]; exact .bl _) q⟩
  · exact ⟨rfl, k _ M _ c (Step.refl c) A (by simp only [V.str.injEq]; exact .bl _) q⟩
theorem sh_plain {d : D} (h : sh d = true) : plain d = true := (Bool.and_eq_true_iff.mp h).1
theorem sh_shaped {d : D} (h : sh d = true) : SeqAt.shaped (py d) = true := (Bool.and_eq_true_iff.mp h).2
theorem sr_eqG : SR K (rEqD K) (oEqG false) := by
  intro x y v w c M rx ry A Qd Q ⟨h1, h2, q⟩ k
  exact ⟨py x, py y, rl_dp x _ rx (sh_plain h1), rl_dp y _ ry (sh_plain h2), sh_shaped h1, sh_shaped h2, k _ M _ c (Step.refl c) A (.bl _) q⟩
theorem sr_neG : SR K (rNeD K) (oEqG true) := by
  intro x y v w c M rx ry A Qd Q ⟨h1, h2, q⟩ k
  exact ⟨py x, py y, rl_dp x _ rx (sh_plain h1), rl_dp y _ ry (sh_plain h2), sh_shaped h1, sh_shaped h2, k _ M _ c (Step.refl c) A (.bl _) q⟩
theorem oEq_or (x y : D) (M : S) (Q : KD) (h : oEq x y M Q) : oEqS x y M Q ∨ oEqG false x y M Q := by
  cases x <;> cases y <;> first | exact .inl h | exact .inr h
theorem oNe_or (x y : D) (M : S) (Q : KD) (h : oNe x y M Q) : oNeS x y M Q ∨ oEqG true x y M Q := by
  cases x <;> cases y <;> first | exact .inl h | exact .inr h
/-- a flat value -/
def fl : D → Option V
  | .non => some .non
  | .bl b => some (.bl b)
  | .int i => some (.int i)
  | .str x => some (.str x)
  | _ => none
theorem rl_fl {c : Cn} {d : D} {v w : V} (r : Rl K c d v) (h : fl d = some w) : v = w ∧ flatV v = true := by
  cases r <;> first | (cases h; exact ⟨rfl, rfl⟩) | cases h
theorem rls_fl {c : Cn} : ∀ {l : List D} {xs ws : List V}, Rls K c l xs → l.mapM fl = some ws → xs = ws ∧ xs.all flatV = true
  | _, _, _, .nil, h => by
    simp at h
    subst h; exact ⟨rfl, rfl⟩
  | _, _, _, .cons r t, h => by
    rw [List.mapM_cons] at h
    obtain ⟨w, hw, h⟩ := Option.bind_eq_some_iff.mp h
    obtain ⟨ws, hws, h⟩ := Option.bind_eq_some_iff.mp h
    cases h
    obtain ⟨e1, f1⟩ := rl_fl r hw
    obtain ⟨e2, f2⟩ := rls_fl t hws
    subst e1 e2
    exact ⟨rfl, by rw [List.all_cons, f1, f2]; rfl⟩
/-- x in y, y a row of flat values -/
def inL (neg : Bool) (x : D) (l : List D) (M : S) (Q : KD) : Prop := ∃ w ws, fl x = some w ∧ l.mapM fl = some ws ∧ Q (.bl (if neg then !inV w ws else inV w ws)) M
def oIn (neg : Bool) (x y : D) (M : S) (Q : KD) : Prop := match y with
  | .str z => ∃ a, x = .str ⟨#[a]⟩ ∧ Q (.bl (if neg then !decide (a ∈ z.cps.toList) else decide (a ∈ z.cps.toList))) M
  | .tup l => inL neg x l M Q
  | .lst l => inL neg x l M Q
  | .h k => ∃ l, M[k]? = some (.lst l) ∧ inL neg x l M Q
  | _ => False
theorem sr_in (neg : Bool) : SR K (fun x y H Q => (∃ (c : Nat) (z : Str), x = .str ⟨#[c]⟩ ∧ y = .str z ∧ Q (.bl (if neg then !decide (c ∈ z.cps.toList) else decide (c ∈ z.cps.toList))) H) ∨ rIn K neg x y H Q) (oIn neg) := by
  intro x y v w c M rx ry A Qd Q q k
  cases ry with
  | str z =>
    obtain ⟨a, e, q⟩ := q
    subst e
    cases rx
    exact .inl ⟨_, _, rfl, rfl, k _ M _ c (Step.refl c) A (.bl _) q⟩
  | tup h n r =>
    obtain ⟨w, ws, h1, h2, q⟩ := q
    obtain ⟨e1, f1⟩ := rl_fl rx h1
    obtain ⟨e2, f2⟩ := rls_fl r h2
    subst e1 e2
    exact .inr ⟨_, _, rfl, .inr (.of h), f1, f2, k _ M _ c (Step.refl c) A (.bl _) q⟩
  | lst h n r =>
    obtain ⟨w, ws, h1, h2, q⟩ := q
    obtain ⟨e1, f1⟩ := rl_fl rx h1
    obtain ⟨e2, f2⟩ := rls_fl r h2
    subst e1 e2
    exact .inr ⟨_, _, rfl, .inl (.of h), f1, f2, k _ M _ c (Step.refl c) A (.bl _) q⟩
  | @h kk a e =>
    obtain ⟨l, h0, w, ws, h1, h2, q⟩ := q
    cases A.at_ kk a _ e h0 with
    | lst h r =>
      obtain ⟨e1, f1⟩ := rl_fl rx h1
      obtain ⟨e2, f2⟩ := rls_fl r h2
      subst e1 e2
      exact .inr ⟨_, _, rfl, .inl (.of h), f1, f2, k _ M _ c (Step.refl c) A (.bl _) q⟩
  | _ => exact q.elim
end
section
variable {X : Cx} {a b e : Expr} {es : List Expr} {ta tb tc : DE} {t : DA} {pos : Pos}
abbrev ofC (p : Int → Int → Bool) (q : Str → Str → Bool) : R2 := fun x y H Q => rI0 (fun i j => .bl (p i j)) x y H Q ∨ ∃ i j, x = V.str i ∧ y = .str j ∧ Q (.bl (q i j)) H
theorem op_ltA : OpR X (compareOp .Lt) (ofC (fun i j => decide (i < j)) fun a b => sLt a b) := op_lt.or op_lt_str
theorem op_leA : OpR X (compareOp .LtE) (ofC (fun i j => decide (i ≤ j)) fun a b => !sLt b a) := op_le.or op_le_str
theorem op_gtA : OpR X (compareOp .Gt) (ofC (fun i j => decide (j < i)) fun a b => sLt b a) := op_gt.or op_gt_str
theorem op_geA : OpR X (compareOp .GtE) (ofC (fun i j => decide (j ≤ i)) fun a b => !sLt a b) := op_ge.or op_ge_str
theorem d_lt (ha : PD X a ta) (hb : PD X b tb) : PD X (.Compare a [.Lt] [b] pos) (dOp oLt ta tb) := d_cmp op_ltA sr_C ha hb
theorem d_le (ha : PD X a ta) (hb : PD X b tb) : PD X (.Compare a [.LtE] [b] pos) (dOp oLe ta tb) := d_cmp op_leA sr_C ha hb
theorem d_gt (ha : PD X a ta) (hb : PD X b tb) : PD X (.Compare a [.Gt] [b] pos) (dOp oGt ta tb) := d_cmp op_gtA sr_C ha hb
theorem d_ge (ha : PD X a ta) (hb : PD X b tb) : PD X (.Compare a [.GtE] [b] pos) (dOp oGe ta tb) := d_cmp op_geA sr_C ha hb
theorem d_eq (hu : X.A.units + 64 < cLine) (ha : PD X a ta) (hb : PD X b tb) : PD X (.Compare a [.Eq] [b] pos) (dOp oEq ta tb) := d_cmp (op_eq.or (op_eqD hu)) ((sr_eqS.or sr_eqG).imp oEq_or) ha hb
theorem d_ne (hu : X.A.units + 64 < cLine) (ha : PD X a ta) (hb : PD X b tb) : PD X (.Compare a [.NotEq] [b] pos) (dOp oNe ta tb) := d_cmp (op_ne.or (op_neD hu)) ((sr_neS.or sr_neG).imp oNe_or) ha hb
theorem op_inA : OpR X (compareOp .In) (fun x y H Q => (∃ (c : Nat) (z : Str), x = .str ⟨#[c]⟩ ∧ y = .str z ∧ Q (.bl (if false then !decide (c ∈ z.cps.toList) else decide (c ∈ z.cps.toList))) H) ∨ rIn X.K false x y H Q) := OpR.or op_in_sign op_in_seq
theorem op_niA : OpR X (compareOp .NotIn) (fun x y H Q => (∃ (c : Nat) (z : Str), x = .str ⟨#[c]⟩ ∧ y = .str z ∧ Q (.bl (if true then !decide (c ∈ z.cps.toList) else decide (c ∈ z.cps.toList))) H) ∨ rIn X.K true x y H Q) := OpR.or op_notIn_sign op_notIn_seq
theorem d_in (ha : PD X a ta) (hb : PD X b tb) (hm : behindInMarks .In b = false := by rfl) : PD X (.Compare a [.In] [b] pos) (dOp (oIn false) ta tb) := d_cmp op_inA (sr_in false) ha hb hm
theorem d_ni (ha : PD X a ta) (hb : PD X b tb) (hm : behindInMarks .NotIn b = false := by rfl) : PD X (.Compare a [.NotIn] [b] pos) (dOp (oIn true) ta tb) := d_cmp op_niA (sr_in true) ha hb hm
theorem se_chain {K : PySem.W.Frag} {r r' : R2} {t t' : DR2} {ua ub uc : TE} {da db dc : DE} (hr : SR K r t) (hr' : SR K r' t') (ha : SE K ua da) (hb : SE K ub db) (hc : SE K uc dc) : SE K (tChain r r' ua ub uc) (dChain t t' da db dc) := fun σ ds c M hs hA Qd Q q k =>
  ha σ ds c M hs hA _ _ q fun x M1 v c1 s1 A1 r1 q1 => hb σ ds c1 M1 (hs.mono s1) A1 _ _ q1 fun y M2 w c2 s2 A2 r2 q2 =>
    hr x y v w c2 M2 (r1.mono s2) r2 A2 _ _ q2 fun d M3 u c3 s3 A3 r3 ⟨b, eb, q3⟩ => by
      subst eb
      cases r3
      refine ⟨b, rfl, ?_⟩
      cases b with
      | true => exact hc σ ds c3 M3 (((hs.mono s1).mono s2).mono s3) A3 _ _ q3 fun z M4 w4 c4 s4 A4 r4 q4 => hr' y z w w4 c4 M4 ((r2.mono s3).mono s4) r4 A4 _ _ q4 fun d M' u c' s' A' r' q' => k d M' u c' ((((s1.trans s2).trans s3).trans s4).trans s') A' r' q'
      | false => exact k _ M3 _ c3 ((s1.trans s2).trans s3) A3 (.bl false) q3
/-- a <= b <= c -/
theorem d_lele {c : Expr} (ha : PD X a ta) (hb : PD X b tb) (hc : PD X c tc) (hm : lastMarks [.LtE, .LtE] [b, c] = false := by with_unfolding_all rfl) : PD X (.Compare a [.LtE, .LtE] [b, c] pos) (dChain oLe oLe ta tb tc) :=
  let ⟨_, p, s⟩ := ha; let ⟨_, p1, s1⟩ := hb; let ⟨_, p2, s2⟩ := hc; ⟨_, pe_chain op_leA op_leA p p1 p2 hm, se_chain sr_C sr_C s s1 s2⟩
end
end My

set_option Elab.async false
set_option linter.all false
set_option maxRecDepth 100000
set_option maxHeartbeats 4000000
namespace My
open PySem PySem.Spec PyProof.Rows L2

section
variable {K : PySem.W.Frag}
theorem Rls.atI {c : Cn} {l : List D} {xs : List V} {i : Int} {d : D} (r : Rls K c l xs) (h : L2.atI l i = some d) : ∃ v, L2.atI xs i = some v ∧ Rl K c d v := by
  unfold L2.atI at h ⊢
  obtain ⟨j, hj, e⟩ := Option.bind_eq_some_iff.mp h
  obtain ⟨v, e2, rv⟩ := r.get e
  exact ⟨v, by rw [← r.length, hj]; exact e2, rv⟩
/-- x[i] -/
def oIx (x y : D) (M : S) (Q : KD) : Prop := ∃ i, y = .int i ∧ match x with
  | .tup l => ∃ d, atI l i = some d ∧ Q d M
  | .lst l => ∃ d, atI l i = some d ∧ Q d M
  | .h k => ∃ l d, M[k]? = some (.lst l) ∧ atI l i = some d ∧ Q d M
  | .str z => z.length ≤ 100000 ∧ ∃ c, atI z.cps.toList i = some c ∧ Q (.str ⟨#[c]⟩) M
  | _ => False
theorem sr_ix : SR K (rIx K) oIx := by
  intro x y v w c M rx ry A Qd Q ⟨i, ey, q⟩ k
  subst ey
  cases ry
  cases rx with
  | tup h n r =>
    obtain ⟨d, e, q⟩ := q
    obtain ⟨u, e2, ru⟩ := r.atI e
    exact .inr (.inl ⟨_, _, i, u, rfl, rfl, .of h, e2, k _ M _ c (Step.refl c) A ru q⟩)
  | lst h n r =>
    obtain ⟨d, e, q⟩ := q
    obtain ⟨u, e2, ru⟩ := r.atI e
    exact .inl ⟨_, _, i, u, rfl, rfl, .of h, e2, k _ M _ c (Step.refl c) A ru q⟩
  | h e0 =>
    obtain ⟨l, d, em, e, q⟩ := q
    cases A.at_ _ _ _ e0 em with
    | lst h r =>
      obtain ⟨u, e2, ru⟩ := r.atI e
      exact .inl ⟨_, _, i, u, rfl, rfl, .of h, e2, k _ M _ c (Step.refl c) A ru q⟩
  | str z =>
    obtain ⟨hz, ch, e, q⟩ := q
    exact .inr (.inr ⟨z, i, ch, rfl, rfl, szS hz, e, k _ M _ c (Step.refl c) A (.str _) q⟩)
  | _ => exact q.elim
/-- x[lo:hi] -/
def cut {α : Type} (l : List α) (lo hi : Option Int) : List α := (l.drop (HT.sIx l.length 0 lo)).take (HT.sIx l.length l.length hi - HT.sIx l.length 0 lo)
theorem cut_whole {α : Type} {l : List α} {lo hi : Option Int} (h : HT.sIx l.length 0 lo = 0 ∧ HT.sIx l.length l.length hi = l.length) : cut l lo hi = l := by
  unfold cut; rw [h.1, h.2]; simp
theorem Rls.cut {c : Cn} {l : List D} {xs : List V} (r : Rls K c l xs) (lo hi : Option Int) : Rls K c (My.cut l lo hi) (cutV xs lo hi) := by
  unfold My.cut cutV
  rw [r.length]
  exact (r.drop _).take _
def oSl (lo hi : Option Int) (x : D) (M : S) (Q : KD) : Prop := match x with
  | .tup l => Q (.tup (cut l lo hi)) M
  | .lst l => Q (.lst (cut l lo hi)) M
  | .scr ns => Q (.lst ((cut ns lo hi).map .int)) M
  | .str z => z.length ≤ 100000 ∧ Q (.str (cutS z lo hi)) M
  | _ => False
def rSlAll (K : PySem.W.Frag) : V → Option Int → Option Int → Hp → VK → Prop := fun x lo hi H Q => rSlA K x lo hi H Q ∨ rSlL K x lo hi H Q ∨ rSlS x lo hi H Q
theorem rls_ints {c : Cn} : ∀ ns : List Int, Rls K c (ns.map .int) (ns.map V.int)
  | [] => .nil
  | n :: ns => .cons (.int n) (rls_ints ns)
theorem sl_all {x : D} {v : V} {lo hi : Option Int} {c : Cn} {M : S} (rx : Rl K c x v) (A : Ab K c M) (Qd : KD) (Q : VK) (q : oSl lo hi x M Qd) (k : ∀ d M' u c', Step c c' → Ab K c' M' → Rl K c' d u → Qd d M' → Q u c'.H) : rSlAll K v lo hi c.H Q := by
  cases rx with
  | tup h n r =>
    refine .inl ⟨_, _, rfl, .of h, fun e => ?_, fun _ p hp => ?_⟩
    · rw [← r.length] at e
      have e2 := cut_whole e
      have q : Qd (.tup (cut _ lo hi)) M := q
      rw [e2] at q
      exact k _ M _ c (Step.refl c) A (.tup h n r) q
    · exact k _ M _ ⟨c.am, c.hid, upd c.H p (.tup (cutV _ lo hi))⟩ (Step.fresh hp) (A.fresh hp) (.tup upd_same (A.ok hp) ((r.cut lo hi).mono (Step.fresh hp))) q
  | lst h n r =>
    refine .inr (.inl ⟨_, _, rfl, .of h, fun p hp => ?_⟩)
    exact k _ M _ ⟨c.am, c.hid, upd c.H p (.lst (cutV _ lo hi))⟩ (Step.fresh hp) (A.fresh hp) (.lst upd_same (A.ok hp) ((r.cut lo hi).mono (Step.fresh hp))) q
  | scr h n =>
    refine .inr (.inl ⟨_, _, rfl, h, fun p hp => ?_⟩)
    refine k _ M _ ⟨c.am, c.hid, upd c.H p (.lst (cutV _ lo hi))⟩ (Step.fresh hp) (A.fresh hp) (.lst upd_same (A.ok hp) ?_) q
    have e : ∀ ns : List Int, cutV (ns.map V.int) lo hi = (cut ns lo hi).map V.int := fun ns => by unfold cutV cut; simp
    rw [e]
    exact rls_ints _
  | str z => exact .inr (.inr ⟨z, rfl, szS q.1, k _ M _ c (Step.refl c) A (.str _) q.2⟩)
  | _ => exact False.elim q
abbrev DO := DS → S → (Option Int → S → Prop) → Prop
def SO (K : PySem.W.Frag) (to : TO) (t : DO) : Prop := ∀ σ ds c M, Sl K c σ ds → Ab K c M → ∀ (Qd : Option Int → S → Prop) (Q : Option Int → Hp → Prop), t ds M Qd → (∀ o M' c', Step c c' → Ab K c' M' → Qd o M' → Q o c'.H) → to σ c.H Q
def dNoP : DO := fun _ M Q => Q none M
def dPart (t : DE) : DO := fun ds M Q => t ds M fun x M1 => ∃ i, x = .int i ∧ Q (some i) M1
def dSl (te : DE) (tl th : DO) : DE := fun ds M Q => te ds M fun x M1 => tl ds M1 fun l M2 => th ds M2 fun u M3 => oSl l u x M3 Q
theorem so_none : SO K tNoPart dNoP := fun σ ds c M hs hA Qd Q q k => k none M c (Step.refl c) hA q
theorem so_some {te : TE} {de : DE} (h : SE K te de) : SO K (tPart te) (dPart de) := fun σ ds c M hs hA Qd Q q k => h σ ds c M hs hA _ _ q fun d M1 v c1 s1 A1 r1 ⟨i, e, q1⟩ => by
  subst e; cases r1; exact ⟨i, rfl, k _ M1 c1 s1 A1 q1⟩
theorem se_sl {te : TE} {de : DE} {tl th : TO} {dl dh : DO} (h : SE K te de) (h1 : SO K tl dl) (h2 : SO K th dh) : SE K (tSl (rSlAll K) te tl th) (dSl de dl dh) := fun σ ds c M hs hA Qd Q q k =>
  h σ ds c M hs hA _ _ q fun x M1 v c1 s1 A1 r1 q1 => h1 σ ds c1 M1 (hs.mono s1) A1 _ _ q1 fun l M2 c2 s2 A2 q2 => h2 σ ds c2 M2 ((hs.mono s1).mono s2) A2 _ _ q2 fun u M3 c3 s3 A3 q3 =>
    sl_all ((r1.mono s2).mono s3) A3 Qd Q q3 fun d M' w c' s' A' r' q' => k d M' w c' (((s1.trans s2).trans s3).trans s') A' r' q'
def PDO (X : Cx) (e : Option Expr) (t : DO) : Prop := ∃ te, PO X e te ∧ SO X.K te t

/-! ### built-in functions -/
def cLen : DRL
  | [.tup l], M, Q => Q (.int l.length) M
  | [.lst l], M, Q => Q (.int l.length) M
  | [.scr l], M, Q => Q (.int l.length) M
  | [.str z], M, Q => z.length ≤ 100000 ∧ Q (.int z.length) M
  | [.h k], M, Q => ∃ l, M[k]? = some (.lst l) ∧ Q (.int l.length) M
  | _, _, _ => False
theorem Rls.one {c : Cn} {d : D} {vs : List V} (r : Rls K c [d] vs) : ∃ v, vs = [v] ∧ Rl K c d v := by
  cases r with
  | cons a b => cases b; exact ⟨_, rfl, a⟩
theorem Rls.two {c : Cn} {d e : D} {vs : List V} (r : Rls K c [d, e] vs) : ∃ v w, vs = [v, w] ∧ Rl K c d v ∧ Rl K c e w := by
  cases r with
  | cons a b =>
    obtain ⟨w, rfl, r⟩ := Rls.one b
    exact ⟨_, w, rfl, a, r⟩
theorem sc_one {r : List V → Hp → VK → Prop} {t : DRL} (ht : ∀ l M Q, t l M Q → ∃ d, l = [d]) (h : ∀ d v c M, Rl K c d v → Ab K c M → ∀ (Qd : KD) (Q : VK), t [d] M Qd → (∀ d M' u c', Step c c' → Ab K c' M' → Rl K c' d u → Qd d M' → Q u c'.H) → r [v] c.H Q) : SC K r t := by
  intro l vs c M rl A Qd Q q k
  obtain ⟨d, e⟩ := ht l M Qd q
  subst e
  obtain ⟨v, e, rv⟩ := rl.one
  subst e
  exact h d v c M rv A Qd Q q k
theorem sc_len : SC K (fun xs H Q => ∃ x n, xs = [x] ∧ LenV K x H n ∧ Q (.int n) H) cLen := by
  refine sc_one (fun l M Q q => ?_) fun d v c M r A Qd Q q k => ?_
  · match l, q with
    | [d], _ => exact ⟨d, rfl⟩
    | [], q => exact q.elim
    | d :: e :: r, q => exact False.elim (by cases d <;> exact q)
  · cases r with
    | tup h n r => exact ⟨_, _, rfl, .inr ⟨_, .of h, rfl⟩, by rw [← r.length]; exact k _ M _ c (Step.refl c) A (.int _) q⟩
    | lst h n r => exact ⟨_, _, rfl, .inl ⟨_, .of h, rfl⟩, by rw [← r.length]; exact k _ M _ c (Step.refl c) A (.int _) q⟩
    | @scr a l h n => exact ⟨_, l.length, rfl, .inl ⟨_, h, by rw [List.length_map]⟩, k _ M _ c (Step.refl c) A (.int _) q⟩
    | str z => exact ⟨_, z.length, rfl, ⟨szS q.1, rfl⟩, k _ M _ c (Step.refl c) A (.int _) q.2⟩
    | h e =>
      obtain ⟨l, em, q⟩ := q
      cases A.at_ _ _ _ e em with
      | lst h r => exact ⟨_, _, rfl, .inl ⟨_, .of h, rfl⟩, by rw [← r.length]; exact k _ M _ c (Step.refl c) A (.int _) q⟩
    | _ => exact False.elim q
/-- the items of a list, frozen or in the store -/
def itL (M : S) : D → Option (List D)
  | .lst l => some l
  | .h k => match M[k]? with
    | some (.lst l) => some l
    | _ => none
  | _ => none
theorem itL_rl {c : Cn} {M : S} {d : D} {v : V} {l : List D} (r : Rl K c d v) (A : Ab K c M) (h : itL M d = some l) : ∃ a xs, v = .ref a ∧ SqL K c.H a xs ∧ Rls K c l xs := by
  cases r with
  | lst e n r => cases h; exact ⟨_, _, rfl, .of e, r⟩
  | @h k a e =>
    have h : (match M[k]? with | some (.lst l) => some l | _ => none) = some l := h
    cases q : M[k]? with
    | none => rw [q] at h; cases h
    | some o =>
      rw [q] at h
      cases o with
      | lst l' =>
        cases h
        cases A.at_ _ _ _ e q with
        | lst e r => exact ⟨_, _, rfl, .of e, r⟩
      | _ => cases h
  | _ => cases h
theorem rls_bls {c : Cn} : ∀ {bs : List Bool} {xs : List V}, Rls K c (bs.map .bl) xs → xs = bs.map V.bl
  | [], _, r => by cases r; rfl
  | b :: bs, _, r => by
    cases r with
    | cons a t => cases a; rw [rls_bls t]; rfl
theorem rls_strs {c : Cn} : ∀ {bs : List Str} {xs : List V}, Rls K c (bs.map .str) xs → xs = bs.map V.str
  | [], _, r => by cases r; rfl
  | b :: bs, _, r => by
    cases r with
    | cons a t => cases a; rw [rls_strs t]; rfl
theorem rls_ofStrs {c : Cn} : ∀ ns : List Str, Rls K c (ns.map .str) (ns.map V.str)
  | [] => .nil
  | n :: ns => .cons (.str n) (rls_ofStrs ns)
def cAll : DRL := fun l M Q => ∃ (d : D) (bs : List Bool), l = [d] ∧ itL M d = some (bs.map .bl) ∧ Q (.bl (bs.all id)) M
theorem sc_all : SC K (rAll K) cAll := by
  intro l vs c M rl A Qd Q ⟨d, bs, e, h, q⟩ k
  subst e
  obtain ⟨v, e, rv⟩ := rl.one
  subst e
  obtain ⟨a, xs, e, hs, r⟩ := itL_rl rv A h
  subst e
  rw [rls_bls r] at hs
  exact ⟨a, bs, rfl, hs, k _ M _ c (Step.refl c) A (.bl _) q⟩
def cMin2 : DRL
  | [.int i, .int j], M, Q => Q (.int (if j < i then j else i)) M
  | _, _, _ => False
theorem sc_min2 : SC K (fun xs H Q => ∃ i j, xs = [.int i, .int j] ∧ Q (.int (if j < i then j else i)) H) cMin2 := by
  intro l vs c M rl A Qd Q q k
  match l, q with
  | [.int i, .int j], q =>
    obtain ⟨v, w, e, r1, r2⟩ := rl.two
    subst e; cases r1; cases r2
    exact ⟨i, j, rfl, k _ M _ c (Step.refl c) A (.int _) q⟩
def cInt : DRL
  | [.int i], M, Q => Q (.int i) M
  | [.bl b], M, Q => Q (.int (if b then 1 else 0)) M
  | _, _, _ => False
theorem sc_int : SC K (fun xs H Q => (∃ i, xs = [.int i] ∧ Q (.int i) H) ∨ ∃ k, xs = [.bl k] ∧ Q (.int (if k then 1 else 0)) H) cInt := by
  intro l vs c M rl A Qd Q q k
  match l, q with
  | [.int i], q =>
    obtain ⟨v, e, r1⟩ := rl.one
    subst e; cases r1
    exact .inl ⟨i, rfl, k _ M _ c (Step.refl c) A (.int _) q⟩
  | [.bl i], q =>
    obtain ⟨v, e, r1⟩ := rl.one
    subst e; cases r1
    exact .inr ⟨i, rfl, k _ M _ c (Step.refl c) A (.int _) q⟩
/-- tuple(x) -/
def cTup : DRL := fun l M Q => ∃ d, l = [d] ∧ ((∃ m, itL M d = some m ∧ Q (.tup m) M) ∨ ∃ m, d = .tup m ∧ Q (.tup m) M)
theorem sc_tup : SC K (fun xs H Q => ∃ p ys, xs = [.ref p] ∧ ((SqL K H p ys ∧ ∀ l, H l = none → Q (.ref l) (upd H l (.tup ys))) ∨ (SqT K H p ys ∧ Q (.ref p) H))) cTup := by
  intro l vs c M rl A Qd Q ⟨d, e, q⟩ k
  subst e
  obtain ⟨v, e, rv⟩ := rl.one
  subst e
  rcases q with ⟨m, h, q⟩ | ⟨m, h, q⟩
  · obtain ⟨a, xs, e, hs, r⟩ := itL_rl rv A h
    subst e
    exact ⟨a, xs, rfl, .inl ⟨hs, fun p hp => k _ M _ ⟨c.am, c.hid, upd c.H p (.tup xs)⟩ (Step.fresh hp) (A.fresh hp) (.tup upd_same (A.ok hp) (r.mono (Step.fresh hp))) q⟩⟩
  · subst h
    cases rv with
    | tup e n r => exact ⟨_, _, rfl, .inr ⟨.of e, k _ M _ c (Step.refl c) A (.tup e n r) q⟩⟩
/-- list(x), frozen -/
def cLst : DRL := fun l M Q => ∃ d m, l = [d] ∧ itL M d = some m ∧ Q (.lst m) M
theorem sc_lst : SC K (fun xs H Q => ∃ p ys, xs = [.ref p] ∧ (SqL K H p ys ∨ SqT K H p ys) ∧ ∀ l, H l = none → Q (.ref l) (upd H l (.lst ys))) cLst := by
  intro l vs c M rl A Qd Q ⟨d, m, e, h, q⟩ k
  subst e
  obtain ⟨v, e, rv⟩ := rl.one
  subst e
  obtain ⟨a, xs, e, hs, r⟩ := itL_rl rv A h
  subst e
  exact ⟨a, xs, rfl, .inl hs, fun p hp => k _ M _ ⟨c.am, c.hid, upd c.H p (.lst xs)⟩ (Step.fresh hp) (A.fresh hp) (.lst upd_same (A.ok hp) (r.mono (Step.fresh hp))) q⟩
def cSortS : DRL := fun l M Q => ∃ d xs, l = [d] ∧ itL M d = some (xs.map D.str) ∧ xs.length < 64 ∧ ∀ ys : List Str, ys.Perm xs → sortedS ys = true → Q (.lst (ys.map .str)) M
theorem sc_sortS : SC K (rSortedS K) cSortS := by
  intro l vs c M rl A Qd Q ⟨d, m, e, h, h64, q⟩ k
  subst e
  obtain ⟨v, e, rv⟩ := rl.one
  subst e
  obtain ⟨a, xs, e, hs, r⟩ := itL_rl rv A h
  subst e
  rw [rls_strs r] at hs
  exact ⟨a, m, rfl, hs, h64, fun ys p h1 h2 hp => k _ M _ ⟨c.am, c.hid, upd c.H p (.lst (ys.map V.str))⟩ (Step.fresh hp) (A.fresh hp) (.lst upd_same (A.ok hp) (rls_ofStrs _)) (q ys h1 h2)⟩
theorem rkv_keys {κ : Type} {c : Cn} : ∀ {l : List (κ × D)} {w : List (κ × V)}, RKv K c l w → l.map (·.1) = w.map (·.1)
  | _, _, .nil => rfl
  | _, _, .cons r t => by rw [List.map_cons, List.map_cons, r.1, rkv_keys t]
theorem rkv_len {κ : Type} {c : Cn} : ∀ {l : List (κ × D)} {w : List (κ × V)}, RKv K c l w → l.length = w.length
  | _, _, .nil => rfl
  | _, _, .cons _ t => congrArg (· + 1) (rkv_len t)
/-- min of a dict with int keys -/
def cMinD : DRL := fun l M Q => ∃ k kvs is, l = [.h k] ∧ M[k]? = some (.dK kvs) ∧ kvs.map (·.1) = is.map Sum.inl ∧ is ≠ [] ∧ ∀ m, m ∈ is → (∀ j ∈ is, m ≤ j) → Q (.int m) M
theorem sc_minD : SC K rMinK cMinD := by
  intro l vs c M rl A Qd Q ⟨j, kvs, is, e, h, hk, hn, q⟩ k
  subst e
  obtain ⟨v, e, rv⟩ := rl.one
  subst e
  cases rv with
  | h e =>
    cases A.at_ _ _ _ e h with
    | dK e r => exact ⟨_, _, is, rfl, e, (rkv_keys r).symm.trans hk, hn, fun m h1 h2 => k _ M _ c (Step.refl c) A (.int _) (q m h1 h2)⟩
def uNeg : D → S → KD → Prop
  | .int i, M, Q => Q (.int (-i)) M
  | _, _, _ => False
theorem se_neg {ta : TE} {da : DE} (h : SE K ta da) : SE K (tUn (rU fun i => .int (-i)) ta) (dUn uNeg da) := fun σ ds c M hs hA Qd Q q k => h σ ds c M hs hA _ _ q fun x M1 v c1 s1 A1 r1 q1 => by
  cases r1 with
  | int i => exact ⟨i, rfl, k _ M1 _ c1 s1 A1 (.int _) q1⟩
  | _ => exact False.elim q1
def uBits : D → S → KD → Prop
  | .int i, M, Q => Q (.int (Builtin.Int.intBits i : Nat)) M
  | _, _, _ => False
theorem se_bits {ta : TE} {da : DE} (h : SE K ta da) : SE K (tBits ta) (dUn uBits da) := fun σ ds c M hs hA Qd Q q k => h σ ds c M hs hA _ _ q fun x M1 v c1 s1 A1 r1 q1 => by
  cases r1 with
  | int i => exact ⟨i, rfl, k _ M1 _ c1 s1 A1 (.int _) q1⟩
  | _ => exact False.elim q1
/-- xs[::-1] -/
def uRev (x : D) (M : S) (Q : KD) : Prop := ∃ l, itL M x = some l ∧ Q (.lst l.reverse) M
theorem se_rev {ta : TE} {da : DE} (h : SE K ta da) : SE K (tRevL K ta) (dUn uRev da) := fun σ ds c M hs hA Qd Q q k => h σ ds c M hs hA _ _ q fun x M1 v c1 s1 A1 r1 ⟨l, hl, q1⟩ => by
  obtain ⟨a, xs, e, hs, r⟩ := itL_rl r1 A1 hl
  subst e
  exact ⟨a, xs, rfl, hs, fun p hp => k _ M1 _ ⟨c1.am, c1.hid, upd c1.H p (.lst xs.reverse)⟩ (s1.trans (Step.fresh hp)) (A1.fresh hp) (.lst upd_same (A1.ok hp) (r.reverse.mono (Step.fresh hp))) q1⟩
/-- a.join(xs) -/
def oJoin (x y : D) (M : S) (Q : KD) : Prop := ∃ a ys, x = .str a ∧ itL M y = some (ys.map D.str) ∧ (ys.map (·.length)).sum + ys.length * a.length ≤ 16777216 ∧ Q (.str (Txt.join a ys)) M
theorem se_join {ta tb : TE} {da db : DE} (h : SE K ta da) (h2 : SE K tb db) : SE K (tM1 (fun x xs H Q => ∃ a p, ∃ ys : List Str, x = .str a ∧ xs = [.ref p] ∧ (SqL K H p (ys.map V.str) ∨ SqT K H p (ys.map V.str)) ∧
      (ys.map (·.length)).sum + ys.length * a.length ≤ 16777216 ∧ Q (.str (Txt.join a ys)) H) ta tb) (fun ds M Q => da ds M fun x M1 => (∃ a, x = .str a) ∧ db ds M1 fun y M2 => oJoin x y M2 Q) := fun σ ds c M hs hA Qd Q q k =>
  h σ ds c M hs hA _ _ q fun x M1 v c1 s1 A1 r1 ⟨⟨a, ea⟩, q1⟩ => by
    subst ea
    cases r1
    refine ⟨⟨a, rfl⟩, h2 σ ds c1 M1 (hs.mono s1) A1 _ _ q1 fun y M2 w c2 s2 A2 r2 ⟨a', ys, e, hl, hz, q2⟩ => ?_⟩
    cases e
    obtain ⟨p, xs, e, hq, r⟩ := itL_rl r2 A2 hl
    subst e
    rw [rls_strs r] at hq
    exact ⟨a, p, ys, rfl, rfl, .inl hq, hz, k _ M2 _ c2 (s1.trans s2) A2 (.str _) q2⟩
def dJoin (da db : DE) : DE := fun ds M Q => da ds M fun x M1 => (∃ a, x = .str a) ∧ db ds M1 fun y M2 => oJoin x y M2 Q
/-! ### isinstance -/
def tyD : D → Option String
  | .non => some "NoneType"
  | .bl _ => some "bool"
  | .int _ => some "int"
  | .str _ => some "str"
  | .tup _ => some "tuple"
  | .lst _ => some "list"
  | _ => none
theorem rl_ty {c : Cn} {d : D} {v : V} {s : String} (r : Rl K c d v) (h : tyD d = some s) : TyX K c.H v (.type s) := by
  cases r with
  | non => cases h; exact .base .non
  | bl b => cases h; exact .base (.bl b)
  | int b => cases h; exact .base (.int b)
  | str b => cases h; exact .base (.str b)
  | tup e n r => cases h; exact .base (.tup e)
  | lst e n r => cases h; exact .base (.lst e)
  | _ => cases h
def uIs (f : D → Bool) (x : D) (M : S) (Q : KD) : Prop := (tyD x).isSome = true ∧ Q (.bl (f x)) M
/-- isinstance(x, (list, tuple)) -/
def uIsLT (x : D) (M : S) (Q : KD) : Prop := ∃ l, x = .lst l ∧ Q (.bl true) M
end
section
variable {X : Cx} {a b e : Expr} {es : List Expr} {ta tb tc : DE} {t : DA} {pos : Pos}
theorem d_ix (ha : PD X a ta) (hb : PD X b tb) (hs : PlainIx b := by intro _ _; rfl) : PD X (.Subscript a b pos) (dOp oIx ta tb) := let ⟨_, p, s⟩ := ha; let ⟨_, p1, s1⟩ := hb; ⟨_, pe_ix ix_seq p p1 hs, se_op sr_ix s s1⟩
theorem sl_allR : SlR X (rSlAll X.K) := sl_tupA.or (sl_list.or sl_str)
theorem d_no : PDO X none dNoP := ⟨_, po_none, so_none⟩
theorem d_part (h : PD X e ta) : PDO X (some e) (dPart ta) := let ⟨_, p, s⟩ := h; ⟨_, po_some p, so_some s⟩
theorem d_slice {lo hi : Option Expr} {dl dh : DO} {p2 : Pos} (h : PD X e ta) (h1 : PDO X lo dl) (h2 : PDO X hi dh) : PD X (.Subscript e (.Slice lo hi none p2) pos) (dSl ta dl dh) :=
  let ⟨_, p, s⟩ := h; let ⟨_, p1, s1⟩ := h1; let ⟨_, p2, s2⟩ := h2; ⟨_, pe_slice sl_allR p p1 p2, se_sl s s1 s2⟩
theorem d_rev {k : Nat} {p1 p2 p3 : Pos} (h : PD X e ta) : PD X (.Subscript e (.Slice none none (some (.UnaryOp .USub (.Constant (.int 1) k p1) p2)) p3) pos) (dUn uRev ta) := let ⟨_, p, s⟩ := h; ⟨_, pe_revL p, se_rev s⟩
theorem d_neg (h : PD X e ta) : PD X (.UnaryOp .USub e pos) (dUn uNeg ta) := let ⟨_, p, s⟩ := h; ⟨_, pe_un un_neg p, se_neg s⟩
theorem d_bits {apos : Pos} (h : PD X e ta) (hbase : attributeBase e "bit_length" X.env (eval e X.env) = eval e X.env := by rfl) (hline : (apos.endLine == pos.line) = true := by rfl) : PD X (.Call (.Attribute e "bit_length" apos) [] [] pos) (dUn uBits ta) := let ⟨_, p, s⟩ := h; ⟨_, pe_bits p hbase hline, se_bits s⟩
theorem d_join {apos : Pos} (ho : PD X a ta) (he : PD X e tb) (hs : starEach [e] X.env = [(false, eval e X.env)] := by rfl) (hbase : attributeBase a "join" X.env (eval a X.env) = eval a X.env := by rfl) (hline : (apos.endLine == pos.line) = true := by rfl) :
    PD X (.Call (.Attribute a "join" apos) [e] [] pos) (dJoin ta tb) := let ⟨_, p, s⟩ := ho; let ⟨_, p1, s1⟩ := he; ⟨_, pe_join p p1 hs hbase hline, se_join s s1⟩
section
variable {x : Str} {p : Pos} (hg : Gl X x) (hm : X.mg x = none)
theorem d_len (hg : Gl X "len") (hm : X.mg "len" = none) (ha : PDA X [e] t) (he : starEach [e] X.env = (false, eval e X.env) :: starEach [] X.env := by rfl) : PD X (.Call (.Name "len" p) [e] [] pos) (dCB cLen t) := d_callB call_len sc_len hg hm (by decide +kernel) ha (by decide) (by decide) he
theorem d_all (hc : X.calm = true) (hg : Gl X "all") (hm : X.mg "all" = none) (ha : PDA X [e] t) (he : starEach [e] X.env = (false, eval e X.env) :: starEach [] X.env := by rfl) : PD X (.Call (.Name "all" p) [e] [] pos) (dCB cAll t) := d_callB (cr_all hc) sc_all hg hm (by decide +kernel) ha (by decide) (by decide) he
theorem d_min2 (hc : X.calm = true) (hg : Gl X "min") (hm : X.mg "min" = none) (ha : PDA X [a, e] t) (he : starEach [a, e] X.env = (false, eval a X.env) :: starEach [e] X.env := by rfl) (hpl : (backTo pos (starEach [e] X.env)).any (·.1) = false := by rfl) : PD X (.Call (.Name "min" p) [a, e] [] pos) (dCB cMin2 t) := d_callB (call_min2 hc) sc_min2 hg hm (by decide +kernel) ha (by decide) (by decide) he hpl
theorem d_minD (hc : X.calm = true) (hg : Gl X "min") (hm : X.mg "min" = none) (ha : PDA X [e] t) (he : starEach [e] X.env = (false, eval e X.env) :: starEach [] X.env := by rfl) : PD X (.Call (.Name "min" p) [e] [] pos) (dCB cMinD t) := d_callB (cr_minK hc) sc_minD hg hm (by decide +kernel) ha (by decide) (by decide) he
theorem d_sortS (hg : Gl X "sorted") (hm : X.mg "sorted" = none) (ha : PDA X [e] t) (he : starEach [e] X.env = (false, eval e X.env) :: starEach [] X.env := by rfl) : PD X (.Call (.Name "sorted" p) [e] [] pos) (dCB cSortS t) := d_callB cr_sortedS sc_sortS hg hm (by decide +kernel) ha (by decide) (by decide) he
theorem d_intB (hg : Gl X "int") (hm : X.mg "int" = none) (ha : PDA X [e] t) (he : starEach [e] X.env = (false, eval e X.env) :: starEach [] X.env := by rfl) : PD X (.Call (.Name "int" p) [e] [] pos) (dCB cInt t) := d_callT call_int1 sc_int hg hm (by decide +kernel) ha (by decide) (by decide) he
theorem d_tuple (hg : Gl X "tuple") (hm : X.mg "tuple" = none) (ha : PDA X [e] t) (he : starEach [e] X.env = (false, eval e X.env) :: starEach [] X.env := by rfl) : PD X (.Call (.Name "tuple" p) [e] [] pos) (dCB cTup t) := d_callT call_tuple_of sc_tup hg hm (by decide +kernel) ha (by decide) (by decide) he
theorem d_list (hg : Gl X "list") (hm : X.mg "list" = none) (ha : PDA X [e] t) (he : starEach [e] X.env = (false, eval e X.env) :: starEach [] X.env := by rfl) : PD X (.Call (.Name "list" p) [e] [] pos) (dCB cLst t) := d_callT call_list_of sc_lst hg hm (by decide +kernel) ha (by decide) (by decide) he
end
/-- isinstance(x, T) -/
theorem d_isi {T : Str} {Ts : String} {f : D → Bool} {p p2 : Pos} (hf : ∀ x s, tyD x = some s → kitB s Ts = some (f x)) (hv : bootBuiltins T = some (.type Ts)) (hg : Gl X "isinstance") (hm : X.mg "isinstance" = none) (hgT : Gl X T) (hmT : X.mg T = none) (he : PD X e ta)
    (hn : T ≠ "__name__" := by decide) (hdb : (T == ("__debug__" : Str)) = false := by decide)
    (h1 : starEach [e, .Name T p2] X.env = (false, eval e X.env) :: starEach [.Name T p2] X.env := by rfl) (h2 : starEach [.Name T p2] X.env = (false, eval (.Name T p2) X.env) :: starEach [] X.env := by rfl) (hpl : (backTo pos (starEach [.Name T p2] X.env)).any (·.1) = false := by rfl) :
    PD X (.Call (.Name "isinstance" p) [e, .Name T p2] [] pos) (dUn (uIs f) ta) := by
  obtain ⟨te, pe, se⟩ := he
  refine ⟨_, pe_callB call_isi hg hm PyProof.Rows.boot_isinstance (pa_cons pe (pa_cons (pe_bltn hgT hmT hv (v := .ty Ts) rfl hn hdb) pa_nil h2) h1) (by decide) (by decide) h1 hpl, fun σ ds c M hs hA Qd Q q k => se σ ds c M hs hA _ _ q fun x M1 v c1 s1 A1 r1 q1 => ?_⟩
  obtain ⟨h3, q1⟩ := q1
  obtain ⟨s, hs3⟩ := Option.isSome_iff_exists.mp h3
  exact ⟨v, .ty Ts, .type s, .type Ts, f x, rfl, .ty Ts, rl_ty r1 hs3, kit_ty (hf x s hs3), k _ M1 _ c1 s1 A1 (.bl _) q1⟩
def fInt : D → Bool
  | .int _ => true
  | .bl _ => true
  | _ => false
def fBool : D → Bool
  | .bl _ => true
  | _ => false
def fStr : D → Bool
  | .str _ => true
  | _ => false
def fTup : D → Bool
  | .tup _ => true
  | _ => false
theorem hf_int (x : D) (s : String) (h : tyD x = some s) : kitB s "int" = some (fInt x) := by cases x <;> first | (cases h; done) | (cases h; first | (show _ = some true; decide +kernel) | (show _ = some false; decide +kernel))
theorem hf_bool (x : D) (s : String) (h : tyD x = some s) : kitB s "bool" = some (fBool x) := by cases x <;> first | (cases h; done) | (cases h; first | (show _ = some true; decide +kernel) | (show _ = some false; decide +kernel))
theorem hf_str (x : D) (s : String) (h : tyD x = some s) : kitB s "str" = some (fStr x) := by cases x <;> first | (cases h; done) | (cases h; first | (show _ = some true; decide +kernel) | (show _ = some false; decide +kernel))
theorem hf_tup (x : D) (s : String) (h : tyD x = some s) : kitB s "tuple" = some (fTup x) := by cases x <;> first | (cases h; done) | (cases h; first | (show _ = some true; decide +kernel) | (show _ = some false; decide +kernel))
end
end My

set_option Elab.async false
set_option linter.all false
set_option maxRecDepth 100000
set_option maxHeartbeats 4000000
namespace My
open PySem PySem.Spec PyProof.Rows L2

/-! ### the reading that says only what the data say -/
section
variable (K : PySem.W.Frag)
def liftE (t : DE) : TE := fun σ H Q => ∃ ds c M Qd, c.H = H ∧ Sl K c σ ds ∧ Ab K c M ∧ t ds M Qd ∧ ∀ d M' v c', Step c c' → Ab K c' M' → Rl K c' d v → Qd d M' → Q v c'.H
def liftT (t : DT) : TT := fun σ H Q => ∃ ds c M Qd, c.H = H ∧ Sl K c σ ds ∧ Ab K c M ∧ t ds M Qd ∧ ∀ b M' c', Step c c' → Ab K c' M' → Qd b M' → Q b c'.H
end
theorem PD.can {X : Cx} {e : Expr} {t : DE} (h : PD X e t) : PE X e (liftE X.K t) := by
  obtain ⟨te, p, s⟩ := h
  refine ⟨fun pins s0 σ H Q I ⟨ds, c, M, Qd, eH, hs, hA, q, k⟩ => ?_⟩
  subst eH
  exact p.run pins s0 σ c.H Q I (s σ ds c M hs hA Qd Q q k)
theorem PDT.can {X : Cx} {e : Expr} {t : DT} (h : PDT X e t) : PT X e (liftT X.K t) := by
  obtain ⟨te, p, s⟩ := h
  refine ⟨fun pins s0 σ H Q I ⟨ds, c, M, Qd, eH, hs, hA, q, k⟩ => ?_⟩
  subst eH
  exact p.run pins s0 σ c.H Q I (s σ ds c M hs hA Qd Q q k)
theorem se_lift {K : PySem.W.Frag} {t : DE} : SE K (liftE K t) t := fun σ ds c M hs hA Qd Q q k => ⟨ds, c, M, Qd, rfl, hs, hA, q, k⟩
theorem st_lift {K : PySem.W.Frag} {t : DT} : ST K (liftT K t) t := fun σ ds c M hs hA Qd Q q k => ⟨ds, c, M, Qd, rfl, hs, hA, q, k⟩

/-! ### targets -/
abbrev DG := D → DS → (DS → Prop) → Prop
abbrev DGs := List D → DS → (DS → Prop) → Prop
def SG (K : PySem.W.Frag) (g : TG) (gd : DG) (ix : List Nat) : Prop := ∀ v d σ ds c, Sl K c σ ds → Rl K c d v → ∀ (Qd : DS → Prop) (Q : L2.St → Hp → Prop), gd d ds Qd → (∀ σ' ds', Sl K c σ' ds' → (∀ vs, (∀ i ∈ ix, i ∈ vs) → wipe σ' vs = wipe σ vs) → Qd ds' → Q σ' c.H) → g v σ c.H Q
def SGs (K : PySem.W.Frag) (g : TGs) (gd : DGs) (ix : List Nat) : Prop := ∀ vs l σ ds c, Sl K c σ ds → Rls K c l vs → ∀ (Qd : DS → Prop) (Q : L2.St → Hp → Prop), gd l ds Qd → (∀ σ' ds', Sl K c σ' ds' → (∀ vs, (∀ i ∈ ix, i ∈ vs) → wipe σ' vs = wipe σ vs) → Qd ds' → Q σ' c.H) → g vs σ c.H Q
def PDG (X : Cx) (tg : Expr) (gd : DG) (ix : List Nat) : Prop := ∃ g, PG X tg g ∧ SG X.K g gd ix
def PDGs (X : Cx) (tg : List Expr) (gd : DGs) (ix : List Nat) : Prop := ∃ g, PGs X tg g ∧ SGs X.K g gd ix
def liftG (K : PySem.W.Frag) (gd : DG) (ix : List Nat) : TG := fun v σ H Q => ∃ d ds c Qd, c.H = H ∧ Sl K c σ ds ∧ Rl K c d v ∧ gd d ds Qd ∧ ∀ σ' ds', Sl K c σ' ds' → (∀ vs, (∀ i ∈ ix, i ∈ vs) → wipe σ' vs = wipe σ vs) → Qd ds' → Q σ' c.H
theorem PDG.can {X : Cx} {e : Expr} {gd : DG} {ix : List Nat} (h : PDG X e gd ix) : PG X e (liftG X.K gd ix) := by
  obtain ⟨g, p, s⟩ := h
  refine ⟨fun pins s0 σ H v u Q I r ⟨d, ds, c, Qd, eH, hs, rd, q, k⟩ => ?_⟩
  subst eH
  exact p.run pins s0 σ c.H v u Q I r (s v d σ ds c hs rd Qd Q q k)
theorem sg_lift {K : PySem.W.Frag} {gd : DG} {ix : List Nat} : SG K (liftG K gd ix) gd ix := fun v d σ ds c hs r Qd Q q k => ⟨d, ds, c, Qd, rfl, hs, r, q, k⟩
theorem wipe_set {σ : L2.St} {i : Nat} {x : Option V} : ∀ {vs : List Nat}, i ∈ vs → wipe (σ.set i x) vs = wipe σ vs
  | v :: vs, h => by
    unfold wipe
    by_cases e : i = v
    · subst e
      by_cases m : i ∈ vs
      · rw [wipe_set m]
      · have : ∀ ws : List Nat, i ∉ ws → wipe (σ.set i x) ws = (wipe σ ws).set i x := fun ws hw => by
          induction ws with
          | nil => rfl
          | cons a t ih =>
            have ha : i ≠ a := fun z => hw (by rw [z]; exact List.mem_cons_self)
            show (wipe (σ.set i x) t).set a none = ((wipe σ t).set a none).set i x
            rw [ih fun z => hw (List.mem_cons_of_mem _ z), List.set_comm _ _ ha]
        rw [this vs m, List.set_set]
    · have m : i ∈ vs := by
        rcases List.mem_cons.mp h with z | z
        · exact absurd z e
        · exact z
      rw [wipe_set m]
def dgName (i : Nat) : DG := fun d ds Q => Q (ds.set i (some d))
def dgNil : DGs := fun l ds Q => l = [] ∧ Q ds
def dgCons (g : DG) (gs : DGs) : DGs := fun l ds Q => ∃ d r, l = d :: r ∧ g d ds fun ds' => gs r ds' Q
def dgTup (n : Nat) (gs : DGs) : DG := fun d ds Q => ∃ l, d = .tup l ∧ l.length = n ∧ gs l ds Q
section
variable {K : PySem.W.Frag}
theorem sg_name {i : Nat} : SG K (gName i) (dgName i) [i] := fun v d σ ds c hs r Qd Q q k => k _ _ (hs.set r) (fun vs h => wipe_set (h i (List.mem_singleton.mpr rfl))) q
theorem sgs_nil : SGs K gNil dgNil [] := fun vs l σ ds c hs r Qd Q ⟨e, q⟩ k => by
  subst e; cases r
  exact ⟨rfl, k σ ds hs (fun _ _ => rfl) q⟩
theorem sgs_cons {g : TG} {gd : DG} {ix : List Nat} {gs : TGs} {gds : DGs} {ixs : List Nat} (h : SG K g gd ix) (h2 : SGs K gs gds ixs) : SGs K (gCons g gs) (dgCons gd gds) (ix ++ ixs) := fun vs l σ ds c hs r Qd Q ⟨d, m, e, q⟩ k => by
  subst e
  cases r with
  | cons a b =>
    refine ⟨_, _, rfl, h _ d σ ds c hs a _ _ q fun σ1 ds1 hs1 w1 q1 => h2 _ m σ1 ds1 c hs1 b _ _ q1 fun σ2 ds2 hs2 w2 q2 => k σ2 ds2 hs2 (fun vs hv => ?_) q2⟩
    rw [w2 vs fun i hi => hv i (List.mem_append_right _ hi), w1 vs fun i hi => hv i (List.mem_append_left _ hi)]
theorem sg_tup {n : Nat} {gs : TGs} {gds : DGs} {ix : List Nat} (h : SGs K gs gds ix) : SG K (gTup K n gs) (dgTup n gds) ix := fun v d σ ds c hs r Qd Q ⟨l, e, hl, q⟩ k => by
  subst e
  cases r with
  | tup e ok r => exact ⟨_, _, rfl, .of e, by rw [← r.length]; exact hl, h _ l σ ds c hs r Qd Q q k⟩
end
section
variable {X : Cx} {pos : Pos} {e : Expr} {es : List Expr}
theorem dg_name {i : Nat} {x : Str} (hN : X.N.Nodup) (hi : X.N[i]? = some x) (hx : Loc X.env.scope x) (hf : X.fn x = true ∨ X.env.scope.names.lookup x = some .local := by first | exact .inl rfl | exact .inr rfl | assumption) : PDG X (.Name x pos) (dgName i) [i] := ⟨_, pg_name hN hi hx hf, sg_name⟩
theorem dg_nil : PDGs X [] dgNil [] := ⟨_, pgs_nil, sgs_nil⟩
theorem dg_cons {g : DG} {gs : DGs} {ix ixs : List Nat} (h : PDG X e g ix) (h2 : PDGs X es gs ixs) (hs : (assignEach (e :: es) X.env).map (·.2) = assign e X.env :: (assignEach es X.env).map (·.2) := by rfl) : PDGs X (e :: es) (dgCons g gs) (ix ++ ixs) :=
  let ⟨_, p, s⟩ := h; let ⟨_, p2, s2⟩ := h2; ⟨_, pgs_cons p p2 hs, sgs_cons s s2⟩
theorem dg_tup {k n : Nat} {gs : DGs} {ix : List Nat} (hc : X.calm = true) (h : PDGs X es gs ix) (hn : (assignEach es X.env).length = n := by rfl) (hst : (assignEach es X.env).findIdx? (·.1) = none := by rfl) : PDG X (.Tuple es k pos) (dgTup n gs) ix :=
  let ⟨_, p, s⟩ := h; ⟨_, pg_tup hc p hn hst, sg_tup s⟩
end
/-! ### assignment -/
def dAsg (te : DE) (g : DG) : DSt := fun E ds M => te ds M fun d M1 => g d ds fun ds' => E.nx ds' M1
def dPar (i j : Nat) (ta : DA) : DSt := fun E ds M => ta ds M fun l M1 => ∃ v w, l = [v, w] ∧ E.nx ((ds.set i (some v)).set j (some w)) M1
def dPar3 (i j m : Nat) (ta : DA) : DSt := fun E ds M => ta ds M fun l M1 => ∃ u v w, l = [u, v, w] ∧ E.nx (((ds.set i (some u)).set j (some v)).set m (some w)) M1
section
variable {K : PySem.W.Frag}
theorem ss_asg {te : TE} {de : DE} {g : TG} {gd : DG} {ix : List Nat} (h : SE K te de) (hg : SG K g gd ix) : SS K (tAsg te g) (dAsg de gd) := fun σ ds c M hs hA Dd E q k =>
  h σ ds c M hs hA _ _ q fun d M1 v c1 s1 A1 r1 q1 => hg v d σ ds c1 (hs.mono s1) r1 _ _ q1 fun σ' ds' hs' _ q2 => k.nx σ' ds' c1 M1 s1 hs' A1 q2
theorem ss_par {i j : Nat} {ta : TA} {da : DA} (h : SA K ta da) : SS K (tPar i j ta) (dPar i j da) := fun σ ds c M hs hA Dd E q k =>
  h σ ds c M hs hA _ _ q fun l M1 vs c1 s1 A1 r1 ⟨v, w, e, q1⟩ => by
    subst e
    obtain ⟨x, y, e, rx, ry⟩ := r1.two
    subst e
    exact ⟨x, y, rfl, k.nx _ _ c1 M1 s1 (((hs.mono s1).set rx).set ry) A1 q1⟩
theorem ss_par3 {i j m : Nat} {ta : TA} {da : DA} (h : SA K ta da) : SS K (tPar3 i j m ta) (dPar3 i j m da) := fun σ ds c M hs hA Dd E q k =>
  h σ ds c M hs hA _ _ q fun l M1 vs c1 s1 A1 r1 ⟨u, v, w, e, q1⟩ => by
    subst e
    cases r1 with
    | cons ru r1 =>
      obtain ⟨x, y, e, rx, ry⟩ := r1.two
      subst e
      exact ⟨_, x, y, rfl, k.nx _ _ c1 M1 s1 ((((hs.mono s1).set ru).set rx).set ry) A1 q1⟩
end
section
variable {X : Cx} {pos : Pos} {e : Expr} {es : List Expr} {te : DE}
theorem d_asg {tg : Expr} {g : DG} {ix : List Nat} (he : PD X e te) (hg : PDG X tg g ix) (hs : swapsWithSole [tg] e pos.line X.env = pure false := by rfl) (hw : swappedStores [tg] e X.env = pure none := by rfl)
    (h1 : (assignEach [tg] X.env).map (·.2) = [assign tg X.env] := by rfl) : PDS X (.Assign [tg] e pos) (dAsg te g) := let ⟨_, p, s⟩ := he; let ⟨_, p2, s2⟩ := hg; ⟨_, ps_asg p p2 hs hw h1, ss_asg s s2⟩
theorem d_set {i : Nat} {x : Str} {pos' : Pos} (hN : X.N.Nodup) (hi : X.N[i]? = some x) (hx : Loc X.env.scope x) (he : PD X e te) (hs : swapsWith e (some (.Name x pos')) pos.line X.env = pure false := by rfl) (hf : X.fn x = true ∨ X.env.scope.names.lookup x = some .local := by first | exact .inl rfl | exact .inr rfl | assumption) :
    PDS X (.Assign [.Name x pos'] e pos) (dAsg te (dgName i)) := let ⟨_, p, s⟩ := he; ⟨_, ps_set hN hi hx p hs hf, ss_asg s sg_name⟩
theorem d_par {i j : Nat} {x y : Str} {a b : Expr} {ta : DA} {px py pt : Pos} {kt k2 pt2} (hc : X.calm = true) (hN : X.N.Nodup) (hi : X.N[i]? = some x) (hj : X.N[j]? = some y) (hij : i ≠ j)
    (hx : X.env.scope.names.lookup x = some .local) (hy : X.env.scope.names.lookup y = some .local) (ha : PDA X [a, b] ta)
    (hw : swappedStores [.Tuple [.Name x px, .Name y py] kt pt] (.Tuple [a, b] k2 pt2) X.env = pure (some [x, y]) := by rfl)
    (hs : swapsWithSole [.Tuple [.Name x px, .Name y py] kt pt] (.Tuple [a, b] k2 pt2) pos.line X.env = pure false := by rfl) :
    PDS X (.Assign [.Tuple [.Name x px, .Name y py] kt pt] (.Tuple [a, b] k2 pt2) pos) (dPar i j ta) := let ⟨_, p, s⟩ := ha; ⟨_, ps_par hc hN hi hj hij hx hy p hw hs, ss_par s⟩
theorem d_par3 {i j l : Nat} {x y z : Str} {a b c : Expr} {ta : DA} {px py pz pt pos : Pos} {kt k2 pt2} (hc : X.calm = true) (hN : X.N.Nodup) (hi : X.N[i]? = some x) (hj : X.N[j]? = some y) (hl : X.N[l]? = some z) (hij : i ≠ j) (hil : i ≠ l) (hjl : j ≠ l)
    (hx : X.env.scope.names.lookup x = some .local) (hy : X.env.scope.names.lookup y = some .local) (hz : X.env.scope.names.lookup z = some .local) (ha : PDA X [a, b, c] ta)
    (hw : swappedStores [.Tuple [.Name x px, .Name y py, .Name z pz] kt pt] (.Tuple [a, b, c] k2 pt2) X.env = pure (some [x, y, z]) := by rfl)
    (hs : swapsWithSole [.Tuple [.Name x px, .Name y py, .Name z pz] kt pt] (.Tuple [a, b, c] k2 pt2) pos.line X.env = pure false := by rfl) :
    PDS X (.Assign [.Tuple [.Name x px, .Name y py, .Name z pz] kt pt] (.Tuple [a, b, c] k2 pt2) pos) (dPar3 i j l ta) := let ⟨_, p, s⟩ := ha; ⟨_, ps_par3 hc hN hi hj hl hij hil hjl hx hy hz p hw hs, ss_par3 s⟩
end
/-! ### iterators -/
structure ItOk (K : PySem.W.Frag) (J : It) (Pf : Cn → Prop) (items : List D) (pd : S → Prop) : Prop where
  mono : ∀ c c', Step c c' → Pf c → Pf c'
  stop : ∀ c M, Pf c → Ab K c M → pd M → J.stop items.length c.H
  go : ∀ i c M, i < items.length → Pf c → Ab K c M → pd M → J.go i c.H
  yld : ∀ i c M x H', i < items.length → Pf c → Ab K c M → pd M → J.yld i c.H x H' → ∃ c' d, c'.H = H' ∧ Step c c' ∧ Ab K c' M ∧ items[i]? = some d ∧ Rl K c' d x
abbrev DI := DS → S → (List D → (S → Prop) → S → Prop) → Prop
def SI (K : PySem.W.Frag) (wi : TI) (ti : DI) : Prop := ∀ σ ds c M, Sl K c σ ds → Ab K c M → ∀ (Rd : List D → (S → Prop) → S → Prop) (R : It → Hp → Prop), ti ds M Rd →
  (∀ items pd M' c' J Pf, Step c c' → Ab K c' M' → ItOk K J Pf items pd → Pf c' → Rd items pd M' → R J c'.H) → wi σ c.H R
def PDI (X : Cx) (tg it : Expr) (ti : DI) : Prop := ∃ wi, PI X tg it wi ∧ SI X.K wi ti
/-- over a tuple; a list; a range; enumerate of these; zip of two tuples -/
def diTup (te : DE) : DI := fun ds M R => te ds M fun d M1 => ∃ l, d = .tup l ∧ R l (fun _ => True) M1
def diLst (te : DE) : DI := fun ds M R => te ds M fun d M1 => match d with
  | .lst l => R l (fun _ => True) M1
  | .h k => ∃ l, M1[k]? = some (.lst l) ∧ R l (fun M => M[k]? = some (.lst l)) M1
  | _ => False
def rngD (lo : Int) (n : Nat) : List D := (List.range n).map fun i => .int (lo + (i : Nat))
def diR1 (ta : DA) : DI := fun ds M R => ta ds M fun l M1 => ∃ j : Int, l = [.int j] ∧ -100000 ≤ j ∧ j ≤ 100000 ∧ R (rngD 0 j.toNat) (fun _ => True) M1
def diR2 (ta : DA) : DI := fun ds M R => ta ds M fun l M1 => ∃ i j : Int, l = [.int i, .int j] ∧ (-100000 ≤ i ∧ i ≤ 100000 ∧ -100000 ≤ j ∧ j ≤ 100000) ∧ R (rngD i (j - i).toNat) (fun _ => True) M1
def enD : Nat → List D → List D
  | _, [] => []
  | n, d :: l => .tup [.int (n : Nat), d] :: enD (n + 1) l
theorem enD_len : ∀ (n : Nat) (l : List D), (enD n l).length = l.length
  | _, [] => rfl
  | n, _ :: l => congrArg (· + 1) (enD_len (n + 1) l)
theorem enD_get : ∀ (n : Nat) (l : List D) (i : Nat) (d : D), l[i]? = some d → (enD n l)[i]? = some (.tup [.int ((n + i : Nat) : Int), d])
  | _, [], _, _, h => by simp at h
  | n, a :: l, 0, d, h => by simp at h; subst h; simp [enD]
  | n, a :: l, i + 1, d, h => by
    have := enD_get (n + 1) l i d (by simpa using h)
    simp only [enD, List.getElem?_cons_succ]
    rw [this]
    have e : n + 1 + i = n + (i + 1) := by omega
    rw [e]
def diEnT (ta : DA) : DI := fun ds M R => ta ds M fun l M1 => ∃ m, l = [.tup m] ∧ R (enD 0 m) (fun _ => True) M1
def diEnL (ta : DA) : DI := fun ds M R => ta ds M fun l M1 => ∃ m, l = [.lst m] ∧ R (enD 0 m) (fun _ => True) M1
def zpD : List D → List D → List D
  | a :: l, b :: m => .tup [a, b] :: zpD l m
  | _, _ => []
def diZip (ta : DA) : DI := fun ds M R => ta ds M fun l M1 => ∃ m n, l = [.tup m, .tup n] ∧ m.length = n.length ∧ R (zpD m n) (fun _ => True) M1
theorem zpD_len : ∀ (l m : List D), l.length = m.length → (zpD l m).length = l.length
  | [], [], _ => rfl
  | _ :: l, _ :: m, h => congrArg (· + 1) (zpD_len l m (Nat.succ.inj h))
theorem zpD_get : ∀ (l m : List D) (i : Nat) (a b : D), l[i]? = some a → m[i]? = some b → (zpD l m)[i]? = some (.tup [a, b])
  | [], _, _, _, _, h, _ => by simp at h
  | _ :: _, [], _, _, _, _, h => by simp at h
  | x :: l, y :: m, 0, a, b, h, h2 => by simp at h h2; subst h h2; simp [zpD]
  | x :: l, y :: m, i + 1, a, b, h, h2 => by
    have := zpD_get l m i a b (by simpa using h) (by simpa using h2)
    simpa [zpD] using this
section
variable {K : PySem.W.Frag}
theorem it_tup {a : Addr} {l : List D} {xs : List V} {c0 : Cn} (e : c0.H a = some (.tup xs)) (ok0 : c0.ok a) (r0 : Rls K c0 l xs) : ItOk K (Itt K a) (fun c => c.H a = some (.tup xs) ∧ c.ok a ∧ Rls K c l xs) l (fun _ => True) where
  mono := fun c c' s ⟨h, o, r⟩ => ⟨s.keep _ _ h o.1, s.ok h o, r.mono s⟩
  stop := fun c M ⟨h, _, r⟩ _ _ => ⟨xs, .of h, by rw [r.length]; exact Nat.le_refl _⟩
  go := fun i c M hi ⟨h, _, r⟩ _ _ => ⟨xs, xs[i]'(by rw [← r.length]; exact hi), .of h, List.getElem?_eq_getElem _⟩
  yld := fun i c M x H' hi ⟨h, _, r⟩ A _ ⟨eH, f⟩ => by
    obtain ⟨d, hd, rd⟩ := r.getV (f xs (.of h))
    exact ⟨c, d, eH.symm, Step.refl c, A, hd, rd⟩
theorem it_lst {a : Addr} {l : List D} {xs : List V} : ItOk K (Itl K a) (fun c => c.H a = some (.lst xs) ∧ c.ok a ∧ Rls K c l xs) l (fun _ => True) where
  mono := fun c c' s ⟨h, o, r⟩ => ⟨s.keep _ _ h o.1, s.ok h o, r.mono s⟩
  stop := fun c M ⟨h, _, r⟩ _ _ => ⟨xs, .of h, by rw [r.length]; exact Nat.le_refl _⟩
  go := fun i c M hi ⟨h, _, r⟩ _ _ => ⟨xs, xs[i]'(by rw [← r.length]; exact hi), .of h, List.getElem?_eq_getElem _⟩
  yld := fun i c M x H' hi ⟨h, _, r⟩ A _ ⟨eH, f⟩ => by
    obtain ⟨d, hd, rd⟩ := r.getV (f xs (.of h))
    exact ⟨c, d, eH.symm, Step.refl c, A, hd, rd⟩
theorem it_h {a : Addr} {k : Nat} {l : List D} : ItOk K (Itl K a) (fun c => c.am[k]? = some a) l (fun M => M[k]? = some (.lst l)) where
  mono := fun c c' s h => s.am_get h
  stop := fun c M h A e => by
    cases A.at_ k a _ h e with
    | lst h r => exact ⟨_, .of h, by rw [r.length]; exact Nat.le_refl _⟩
  go := fun i c M hi h A e => by
    cases A.at_ k a _ h e with
    | lst h r => exact ⟨_, _, .of h, List.getElem?_eq_getElem (by rw [← r.length]; exact hi)⟩
  yld := fun i c M x H' hi h A e ⟨eH, f⟩ => by
    cases A.at_ k a _ h e with
    | lst h r =>
      obtain ⟨d, hd, rd⟩ := r.getV (f _ (.of h))
      exact ⟨c, d, eH.symm, Step.refl c, A, hd, rd⟩
theorem rngD_len (lo : Int) (n : Nat) : (rngD lo n).length = n := by simp [rngD]
theorem it_rng {lo : Int} {n : Nat} : ItOk K (Itr lo n) (fun _ => True) (rngD lo n) (fun _ => True) where
  mono := fun _ _ _ _ => trivial
  stop := fun c M _ _ _ => by show n ≤ (rngD lo n).length; rw [rngD_len]; exact Nat.le_refl _
  go := fun i c M hi _ _ _ => by show i < n; rw [rngD_len] at hi; exact hi
  yld := fun i c M x H' hi _ A _ ⟨eH, e⟩ => by
    rw [rngD_len] at hi
    subst e
    refine ⟨c, .int (lo + (i : Nat)), eH.symm, Step.refl c, A, ?_, .int _⟩
    simp [rngD, hi]
theorem it_en {P : Hp → List V → Prop} {J : It} {l : List D} {Pf : Cn → Prop} (hm : ∀ c c', Step c c' → Pf c → Pf c') (hp : ∀ c, Pf c → ∃ xs, P c.H xs ∧ Rls K c l xs)
    (h1 : ∀ i H, J.stop i H = ∃ xs : List V, P H xs ∧ xs.length ≤ i) (h2 : ∀ i H, J.go i H = ∃ (xs : List V) (x : V), P H xs ∧ xs[i]? = some x)
    (h3 : ∀ i H v H', J.yld i H v H' = ∃ T x, v = .ref T ∧ H T = none ∧ H' = upd H T (.tup [.int (i : Nat), x]) ∧ ∀ xs, P H xs → xs[i]? = some x) : ItOk K J Pf (enD 0 l) (fun _ => True) where
  mono := hm
  stop := fun c M h _ _ => by
    obtain ⟨xs, p, r⟩ := hp c h
    rw [h1, enD_len]
    exact ⟨xs, p, by rw [r.length]; exact Nat.le_refl _⟩
  go := fun i c M hi h _ _ => by
    obtain ⟨xs, p, r⟩ := hp c h
    rw [enD_len] at hi
    rw [h2]
    exact ⟨xs, _, p, List.getElem?_eq_getElem (by rw [← r.length]; exact hi)⟩
  yld := fun i c M x H' hi h A _ y => by
    obtain ⟨xs, p, r⟩ := hp c h
    rw [h3] at y
    obtain ⟨T, z, ev, hT, eH, f⟩ := y
    subst ev eH
    obtain ⟨d, hd, rd⟩ := r.getV (f xs p)
    have hd' := enD_get 0 l i d hd
    rw [Nat.zero_add] at hd'
    exact ⟨⟨c.am, c.hid, upd c.H T (.tup [.int (i : Nat), z])⟩, _, rfl, Step.fresh hT, A.fresh hT, hd', .tup upd_same (A.ok hT) (.cons (.int _) (.cons (rd.mono (Step.fresh hT)) .nil))⟩
theorem it_zip {a b : Addr} {l m : List D} {xs ys : List V} (hl : l.length = m.length) : ItOk K (RZ.ItzT K a b) (fun c => (c.H a = some (.tup xs) ∧ c.ok a ∧ Rls K c l xs) ∧ c.H b = some (.tup ys) ∧ c.ok b ∧ Rls K c m ys) (zpD l m) (fun _ => True) where
  mono := fun c c' s ⟨⟨h, o, r⟩, h2, o2, r2⟩ => ⟨⟨s.keep _ _ h o.1, s.ok h o, r.mono s⟩, s.keep _ _ h2 o2.1, s.ok h2 o2, r2.mono s⟩
  stop := fun c M ⟨⟨h, _, r⟩, h2, _, _⟩ _ _ => ⟨xs, ys, .of h, .of h2, .inl (by rw [zpD_len l m hl, r.length]; exact Nat.le_refl _)⟩
  go := fun i c M hi ⟨⟨h, _, r⟩, h2, _, r2⟩ _ _ => by
    rw [zpD_len l m hl] at hi
    exact ⟨xs, ys, _, _, .of h, .of h2, List.getElem?_eq_getElem (by rw [← r.length]; exact hi), List.getElem?_eq_getElem (by rw [← r2.length, ← hl]; exact hi)⟩
  yld := fun i c M x H' hi ⟨⟨h, _, r⟩, h2, _, r2⟩ A _ ⟨T, x1, x2, ev, hT, eH, f1, f2⟩ => by
    subst ev eH
    obtain ⟨d1, hd1, rd1⟩ := r.getV (f1 xs (.of h))
    obtain ⟨d2, hd2, rd2⟩ := r2.getV (f2 ys (.of h2))
    exact ⟨⟨c.am, c.hid, upd c.H T (.tup [x1, x2])⟩, _, rfl, Step.fresh hT, A.fresh hT, zpD_get l m i d1 d2 hd1 hd2, .tup upd_same (A.ok hT) (.cons (rd1.mono (Step.fresh hT)) (.cons (rd2.mono (Step.fresh hT)) .nil))⟩
theorem si_tup {te : TE} {de : DE} (h : SE K te de) : SI K (iTup K te) (diTup de) := fun σ ds c M hs hA Rd R q k => h σ ds c M hs hA _ _ q fun d M1 v c1 s1 A1 r1 ⟨l, e, q1⟩ => by
  subst e
  cases r1 with
  | tup e o r => exact ⟨_, rfl, ⟨_, .of e⟩, k l _ M1 c1 _ _ s1 A1 (it_tup e o r) ⟨e, o, r⟩ q1⟩
theorem si_lst {te : TE} {de : DE} (h : SE K te de) : SI K (iList K te) (diLst de) := fun σ ds c M hs hA Rd R q k => h σ ds c M hs hA _ _ q fun d M1 v c1 s1 A1 r1 q1 => by
  cases r1 with
  | lst e o r => exact ⟨_, rfl, ⟨_, .of e⟩, k _ _ M1 c1 _ _ s1 A1 it_lst ⟨e, o, r⟩ q1⟩
  | @h kk a e =>
    obtain ⟨l, em, q1⟩ := q1
    have hx : ∃ xs, SqL K c1.H a xs := by
      cases A1.at_ _ _ _ e em with
      | lst h r => exact ⟨_, .of h⟩
    exact ⟨_, rfl, hx, k l _ M1 c1 _ _ s1 A1 it_h e q1⟩
  | _ => exact False.elim q1
theorem si_r1 {ta : TA} {da : DA} (h : SA K ta da) : SI K (iRng1 ta) (diR1 da) := fun σ ds c M hs hA Rd R q k => h σ ds c M hs hA _ _ q fun l M1 vs c1 s1 A1 r1 ⟨j, e, h1, h2, q1⟩ => by
  subst e
  obtain ⟨v, e, r⟩ := r1.one
  subst e; cases r
  exact ⟨j, rfl, by omega, by omega, k _ _ M1 c1 _ _ s1 A1 it_rng trivial q1⟩
theorem si_r2 {ta : TA} {da : DA} (h : SA K ta da) : SI K (iRng2 ta) (diR2 da) := fun σ ds c M hs hA Rd R q k => h σ ds c M hs hA _ _ q fun l M1 vs c1 s1 A1 r1 ⟨i, j, e, h1, q1⟩ => by
  subst e
  obtain ⟨v, w, e, r, r'⟩ := r1.two
  subst e; cases r; cases r'
  exact ⟨i, j, rfl, by omega, k _ _ M1 c1 _ _ s1 A1 it_rng trivial q1⟩
theorem si_enT {ta : TA} {da : DA} (h : SA K ta da) : SI K (iEnT K ta) (diEnT da) := fun σ ds c M hs hA Rd R q k => h σ ds c M hs hA _ _ q fun l M1 vs c1 s1 A1 r1 ⟨m, e, q1⟩ => by
  subst e
  obtain ⟨v, e, r⟩ := r1.one
  subst e
  cases r with
  | @tup a _ xs e o r =>
    exact ⟨_, _, rfl, .of e, k _ _ M1 c1 _ _ s1 A1 (it_en (P := fun H xs => SqT K H a xs) (Pf := fun c => c.H a = some (.tup xs) ∧ c.ok a ∧ Rls K c m xs) (fun c c' s ⟨h, o, r⟩ => ⟨s.keep _ _ h o.1, s.ok h o, r.mono s⟩) (fun c ⟨h, _, r⟩ => ⟨xs, .of h, r⟩) (fun _ _ => rfl) (fun _ _ => rfl) (fun _ _ _ _ => rfl)) ⟨e, o, r⟩ q1⟩
theorem si_enL {ta : TA} {da : DA} (h : SA K ta da) : SI K (iEnum K ta) (diEnL da) := fun σ ds c M hs hA Rd R q k => h σ ds c M hs hA _ _ q fun l M1 vs c1 s1 A1 r1 ⟨m, e, q1⟩ => by
  subst e
  obtain ⟨v, e, r⟩ := r1.one
  subst e
  cases r with
  | @lst a _ xs e o r =>
    exact ⟨_, _, rfl, .of e, k _ _ M1 c1 _ _ s1 A1 (it_en (P := fun H xs => SqL K H a xs) (Pf := fun c => c.H a = some (.lst xs) ∧ c.ok a ∧ Rls K c m xs) (fun c c' s ⟨h, o, r⟩ => ⟨s.keep _ _ h o.1, s.ok h o, r.mono s⟩) (fun c ⟨h, _, r⟩ => ⟨xs, .of h, r⟩) (fun _ _ => rfl) (fun _ _ => rfl) (fun _ _ _ _ => rfl)) ⟨e, o, r⟩ q1⟩
theorem si_zip {ta : TA} {da : DA} (h : SA K ta da) : SI K (RZ.iZipA K ta) (diZip da) := fun σ ds c M hs hA Rd R q k => h σ ds c M hs hA _ _ q fun l M1 vs c1 s1 A1 r1 ⟨m, n, e, hl, q1⟩ => by
  subst e
  obtain ⟨v, w, e, r, r2⟩ := r1.two
  subst e
  cases r with
  | tup e o r =>
    cases r2 with
    | tup e2 o2 r2 => exact ⟨_, _, _, _, rfl, .inr ⟨.of e, .of e2, k _ _ M1 c1 _ _ s1 A1 (it_zip hl) ⟨⟨e, o, r⟩, e2, o2, r2⟩ q1⟩⟩
end
section
variable {X : Cx} {tg e : Expr} {te : DE} {ta : DA} {p pos tpos : Pos} {elts : List Expr} {kk : Nat}
theorem di_tup (h : PD X e te) : PDI X tg e (diTup te) := let ⟨_, p, s⟩ := h; ⟨_, pi_tup p, si_tup s⟩
theorem di_lst (h : PD X e te) : PDI X tg e (diLst te) := let ⟨_, p, s⟩ := h; ⟨_, pi_list p, si_lst s⟩
theorem di_r1 (hg : Gl X "range") (hm : X.mg "range" = none) (ha : PDA X [e] ta) (hs : starEach [e] X.env = [(false, eval e X.env)] := by rfl) : PDI X tg (.Call (.Name "range" p) [e] [] pos) (diR1 ta) := let ⟨_, p, s⟩ := ha; ⟨_, pi_range1 hg hm p hs, si_r1 s⟩
theorem di_r2 {e2 : Expr} (hg : Gl X "range") (hm : X.mg "range" = none) (ha : PDA X [e, e2] ta) (hs : starEach [e, e2] X.env = [(false, eval e X.env), (false, eval e2 X.env)] := by rfl) (hs2 : starEach [e2] X.env = [(false, eval e2 X.env)] := by rfl) : PDI X tg (.Call (.Name "range" p) [e, e2] [] pos) (diR2 ta) := let ⟨_, p, s⟩ := ha; ⟨_, pi_range2 hg hm p hs hs2, si_r2 s⟩
theorem di_enT (hg : Gl X "enumerate") (hm : X.mg "enumerate" = none) (ha : PDA X [e] ta) (hs : starEach [e] X.env = [(false, eval e X.env)] := by rfl) : PDI X (.Tuple elts kk tpos) (.Call (.Name "enumerate" p) [e] [] pos) (diEnT ta) := let ⟨_, p, s⟩ := ha; ⟨_, pi_enumT hg hm p hs, si_enT s⟩
theorem di_enL (hg : Gl X "enumerate") (hm : X.mg "enumerate" = none) (ha : PDA X [e] ta) (hs : starEach [e] X.env = [(false, eval e X.env)] := by rfl) : PDI X (.Tuple elts kk tpos) (.Call (.Name "enumerate" p) [e] [] pos) (diEnL ta) := let ⟨_, p, s⟩ := ha; ⟨_, pi_enum hg hm p hs, si_enL s⟩
theorem di_zip {e2 : Expr} (hg : Gl X "zip") (hm : X.mg "zip" = none) (ha : PDA X [e, e2] ta) (hs : starEach [e, e2] X.env = (false, eval e X.env) :: starEach [e2] X.env := by rfl) (hpl : (backTo pos (starEach [e2] X.env)).any (·.1) = false := by rfl) : PDI X (.Tuple elts kk tpos) (.Call (.Name "zip" p) [e, e2] [] pos) (diZip ta) := let ⟨_, p, s⟩ := ha; ⟨_, RZ.pi_zipA hg hm p hs hpl, si_zip s⟩
end
end My

set_option Elab.async false
set_option linter.all false
set_option maxRecDepth 100000
set_option maxHeartbeats 4000000
namespace My
open PySem PySem.Spec PyProof.Rows L2

/-! ### for -/
def forD (g : DG) (tb : DSt) (pd : S → Prop) (E : DEnds) : List D → DS → S → Prop
  | [], ds, M => pd M ∧ E.nx ds M
  | x :: r, ds, M => pd M ∧ g x ds fun ds2 => tb { E with nx := forD g tb pd E r, ct := forD g tb pd E r, bk := E.nx } ds2 M
def dFor (ti : DI) (g : DG) (tb : DSt) : DSt := fun E ds M => ti ds M fun items pd M1 => forD g tb pd E items ds M1
section
variable {K : PySem.W.Frag}
theorem ss_for {wi : TI} {ti : DI} {g : TG} {gd : DG} {ix : List Nat} {tb : TS} {db : DSt} (hi : SI K wi ti) (hg : SG K g gd ix) (hb : SS K tb db) : SS K (tFor wi g tb) (dFor ti gd db) := fun σ ds c M hs hA Dd E q k => by
  refine hi σ ds c M hs hA _ _ q fun items pd M1 c1 J Pf s1 A1 ok pf q1 => ?_
  refine ⟨fun i m σ' H' => m = items.length - i ∧ i ≤ items.length ∧ ∃ ds' c' M', c'.H = H' ∧ Step c1 c' ∧ Sl K c' σ' ds' ∧ Ab K c' M' ∧ forD gd db pd Dd (items.drop i) ds' M',
    ⟨items.length, rfl, Nat.zero_le _, ds, c1, M1, rfl, Step.refl c1, hs.mono s1, A1, q1⟩, ?_⟩
  rintro i m σ' H' ⟨rfl, hle, ds', c', M', rfl, s', hs', A', q'⟩
  have pf' := ok.mono c1 c' s' pf
  by_cases hlt : i < items.length
  · have hd : items.drop i = items[i] :: items.drop (i + 1) := (List.getElem_cons_drop ..).symm
    rw [hd] at q'
    obtain ⟨pm, q'⟩ := q'
    refine .inr ⟨ok.go i c' M' hlt pf' A' pm, fun σ2 H2 => i + 1 ≤ items.length ∧ ∃ ds' c' M', c'.H = H2 ∧ Step c1 c' ∧ Sl K c' σ2 ds' ∧ Ab K c' M' ∧ forD gd db pd Dd (items.drop (i + 1)) ds' M', fun σ2 H2 h => ⟨items.length - (i + 1), by omega, rfl, h⟩, fun x H2 y => ?_⟩
    obtain ⟨c2, d, rfl, s2, A2, hd2, rd⟩ := ok.yld i c' M' x H2 hlt pf' A' pm y
    rw [List.getElem?_eq_getElem hlt] at hd2
    cases hd2
    refine hg x _ σ' ds' c2 (hs'.mono s2) rd _ _ q' fun σ3 ds3 hs3 _ q3 => hb σ3 ds3 c2 M' hs3 A2 _ _ q3 ?_
    have s12 := s'.trans s2
    exact ⟨fun σ4 ds4 c4 M4 s4 hs4 A4 q4 => ⟨hlt, ds4, c4, M4, rfl, s12.trans s4, hs4, A4, q4⟩, fun σ4 ds4 c4 M4 s4 hs4 A4 q4 => k.nx σ4 ds4 c4 M4 ((s1.trans s12).trans s4) hs4 A4 q4,
      fun σ4 ds4 c4 M4 s4 hs4 A4 q4 => ⟨hlt, ds4, c4, M4, rfl, s12.trans s4, hs4, A4, q4⟩, fun v d c4 M4 s4 r4 A4 q4 => k.rt v d c4 M4 ((s1.trans s12).trans s4) r4 A4 q4⟩
  · have e : i = items.length := by omega
    subst e
    rw [List.drop_length] at q'
    exact .inl ⟨ok.stop c' M' pf' A' q'.1, k.nx σ' ds' c' M' (s1.trans s') hs' A' q'.2⟩
/-- while: W by a measure -/
def dWhile (c : DT) (tb : DSt) : DSt := fun E ds M => ∃ W : Nat → DS → S → Prop, (∃ m, W m ds M) ∧ ∀ m ds M, W m ds M →
  c ds M fun b M1 => if b = true then tb { E with nx := fun ds' M' => ∃ m', m' < m ∧ W m' ds' M', ct := fun ds' M' => ∃ m', m' < m ∧ W m' ds' M', bk := E.nx } ds M1 else E.nx ds M1
theorem ss_while {tc : TT} {dc : DT} {tb : TS} {db : DSt} (hc : ST K tc dc) (hb : SS K tb db) : SS K (tWhile tc tb) (dWhile dc db) := fun σ ds c M hs hA Dd E ⟨W, ⟨m0, w0⟩, hW⟩ k => by
  refine ⟨fun m σ' H' => ∃ ds' c' M', c'.H = H' ∧ Step c c' ∧ Sl K c' σ' ds' ∧ Ab K c' M' ∧ W m ds' M', ⟨m0, ds, c, M, rfl, Step.refl c, hs, hA, w0⟩, ?_⟩
  rintro m σ' H' ⟨ds', c', M', rfl, s', hs', A', w'⟩
  refine hc σ' ds' c' M' hs' A' _ _ (hW m ds' M' w') fun b M1 c1 s1 A1 q1 => ?_
  cases b with
  | true =>
    refine ⟨fun σ2 H2 => ∃ m', m' < m ∧ ∃ ds' c' M', c'.H = H2 ∧ Step c c' ∧ Sl K c' σ2 ds' ∧ Ab K c' M' ∧ W m' ds' M', fun σ2 H2 h => h, hb σ' ds' c1 M1 (hs'.mono s1) A1 _ _ q1 ?_⟩
    have s01 := s'.trans s1
    exact ⟨fun σ4 ds4 c4 M4 s4 hs4 A4 ⟨m', hm, q4⟩ => ⟨m', hm, ds4, c4, M4, rfl, s01.trans s4, hs4, A4, q4⟩, fun σ4 ds4 c4 M4 s4 hs4 A4 q4 => k.nx σ4 ds4 c4 M4 (s01.trans s4) hs4 A4 q4,
      fun σ4 ds4 c4 M4 s4 hs4 A4 ⟨m', hm, q4⟩ => ⟨m', hm, ds4, c4, M4, rfl, s01.trans s4, hs4, A4, q4⟩, fun v d c4 M4 s4 r4 A4 q4 => k.rt v d c4 M4 (s01.trans s4) r4 A4 q4⟩
  | false => exact k.nx σ' ds' c1 M1 (s'.trans s1) (hs'.mono s1) A1 q1
/-! ### comprehensions -/
def lcF (g : DG) (tt : DT) (te : DE) (pd : S → Prop) (ds : DS) (F : List D → S → Prop) : List D → List D → S → Prop
  | [], acc, M => pd M ∧ F acc M
  | x :: r, acc, M => pd M ∧ acc.length < 1000 ∧ g x ds fun ds2 => tt ds2 M fun b M1 => if b = true then te ds2 M1 fun y M2 => lcF g tt te pd ds F r (acc ++ [y]) M2 else lcF g tt te pd ds F r acc M1
def lcD (g : DG) (tt : DT) (te : DE) (pd : S → Prop) (ds : DS) (Q : KD) : List D → List D → S → Prop := lcF g tt te pd ds fun acc M => Q (.lst acc) M
def dLc (ti : DI) (g : DG) (tt : DT) (te : DE) (vs : List Nat) : DE := fun ds M Q => ti ds M fun items pd M1 => lcD g tt te pd (dw ds vs) Q items [] M1
/-- a comprehension whose list will be changed: an object of the store -/
def dLcH (ti : DI) (g : DG) (tt : DT) (te : DE) (vs : List Nat) : DE := fun ds M Q => ti ds M fun items pd M1 => lcF g tt te pd (dw ds vs) (fun acc M' => Q (.h M'.length) (M' ++ [.lst acc])) items [] M1
mutual
theorem Rl.hidW {c : Cn} {L : Addr} {o u : HO} (hL : L ∈ c.hid) (eL : c.H L = some u) : ∀ {d : D} {v : V}, Rl K c d v → Rl K ⟨c.am, c.hid, upd c.H L o⟩ d v
  | _, _, .non => .non
  | _, _, .bl b => .bl b
  | _, _, .int i => .int i
  | _, _, .str x => .str x
  | _, _, .tup h n r => .tup (by show upd c.H L o _ = _; rw [upd_ne (fun z => n.2 (by rw [z]; exact hL))]; exact h) n (Rls.hidW hL eL r)
  | _, _, .lst h n r => .lst (by show upd c.H L o _ = _; rw [upd_ne (fun z => n.2 (by rw [z]; exact hL))]; exact h) n (Rls.hidW hL eL r)
  | _, _, .scr (a := a) (l := l) h n => by
    by_cases z : a = L
    · subst z
      rcases n u eL with n | n
      · exact absurd hL n.2
      · exact .scr (sql_k n) fun _ _ => .inr n
    · have e : upd c.H L o a = c.H a := upd_ne z
      refine .scr ?_ fun w hw => n w (by have hw' : upd c.H L o a = some w := hw; rw [e] at hw'; exact hw')
      rcases h with (h | ⟨o', h⟩) | h
      · exact .inl (.inl (by show upd c.H L o a = _; rw [e]; exact h))
      · exact .inl (.inr ⟨o', by show upd c.H L o a = _; rw [e]; exact h⟩)
      · exact .inr h
  | _, _, .h e => .h e
theorem Rls.hidW {c : Cn} {L : Addr} {o u : HO} (hL : L ∈ c.hid) (eL : c.H L = some u) : ∀ {l : List D} {xs : List V}, Rls K c l xs → Rls K ⟨c.am, c.hid, upd c.H L o⟩ l xs
  | _, _, .nil => .nil
  | _, _, .cons a b => .cons (Rl.hidW hL eL a) (Rls.hidW hL eL b)
end
theorem OR.hidW {c : Cn} {L : Addr} {o u : HO} (hL : L ∈ c.hid) (eL : c.H L = some u) {a : Addr} {w : O} (ha : a ≠ L) (h : OR K c a w) : OR K ⟨c.am, c.hid, upd c.H L o⟩ a w := by
  have e : upd c.H L o a = c.H a := upd_ne ha
  cases h with
  | lst h r => exact .lst (e.trans h) (r.hidW hL eL)
  | dK h r => exact .dK (e.trans h) (Paired.mapP r fun _ _ z => ⟨z.1, z.2.hidW hL eL⟩)
  | dT h r => exact .dT (e.trans h) (Paired.mapP r fun _ _ z => ⟨z.1, z.2.hidW hL eL⟩)
  | ins h r => exact .ins (e.trans h) (Paired.mapP r fun _ _ z => ⟨z.1, z.2.hidW hL eL⟩)
theorem Ab.hidW {c : Cn} {M : S} {L : Addr} {o u : HO} (A : Ab K c M) (hL : L ∈ c.hid) (eL : c.H L = some u) : Ab K ⟨c.am, c.hid, upd c.H L o⟩ M :=
  ⟨A.len, A.nd, fun a h => ⟨upd_some (A.hid a h).1, (A.hid a h).2⟩, fun k a w e1 e2 => (A.at_ k a w e1 e2).hidW hL eL fun z => (A.hid L hL).2 (by rw [← z]; exact List.mem_of_getElem? e1)⟩
mutual
theorem Rl.unhid {c : Cn} {hd : List Addr} (hs : ∀ a ∈ hd, a ∈ c.hid) : ∀ {d : D} {v : V}, Rl K c d v → Rl K ⟨c.am, hd, c.H⟩ d v
  | _, _, .non => .non
  | _, _, .bl b => .bl b
  | _, _, .int i => .int i
  | _, _, .str x => .str x
  | _, _, .tup h n r => .tup h ⟨n.1, fun z => n.2 (hs _ z)⟩ (Rls.unhid hs r)
  | _, _, .lst h n r => .lst h ⟨n.1, fun z => n.2 (hs _ z)⟩ (Rls.unhid hs r)
  | _, _, .scr h n => .scr h fun w hw => (n w hw).imp (fun n => ⟨n.1, fun z => n.2 (hs _ z)⟩) fun x => x
  | _, _, .h e => .h e
theorem Rls.unhid {c : Cn} {hd : List Addr} (hs : ∀ a ∈ hd, a ∈ c.hid) : ∀ {l : List D} {xs : List V}, Rls K c l xs → Rls K ⟨c.am, hd, c.H⟩ l xs
  | _, _, .nil => .nil
  | _, _, .cons a b => .cons (Rl.unhid hs a) (Rls.unhid hs b)
end
theorem Ab.unhid {c : Cn} {M : S} {hd : List Addr} (hs : ∀ a ∈ hd, a ∈ c.hid) (A : Ab K c M) : Ab K ⟨c.am, hd, c.H⟩ M :=
  ⟨A.len, A.nd, fun a h => A.hid a (hs a h), fun k a w e1 e2 => by
    cases A.at_ k a w e1 e2 with
    | lst h r => exact .lst h (r.unhid hs)
    | dK h r => exact .dK h (Paired.mapP r fun _ _ z => ⟨z.1, z.2.unhid hs⟩)
    | dT h r => exact .dT h (Paired.mapP r fun _ _ z => ⟨z.1, z.2.unhid hs⟩)
    | ins h r => exact .ins h (Paired.mapP r fun _ _ z => ⟨z.1, z.2.unhid hs⟩)⟩
/-- the end: the list leaves its hiding -/
def LcEnd (K : PySem.W.Frag) (F : List D → S → Prop) (Qd : KD) : Prop := ∀ (c' : Cn) (L : Addr) (hd : List Addr) (M : S) (acc : List D) (accv : List V), Ab K c' M → L ∈ c'.hid → c'.H L = some (.lst accv) → Rls K c' acc accv → (∀ a ∈ hd, a ∈ c'.hid) → L ∉ hd → F acc M →
  ∃ c2 d M2, c2.H = c'.H ∧ Ab K c2 M2 ∧ Rl K c2 d (.ref L) ∧ Qd d M2 ∧ c2.hid = hd ∧ (c2.am = c'.am ∨ c2.am = c'.am ++ [L])
theorem lcEnd_lst {Qd : KD} : LcEnd K (fun acc M => Qd (.lst acc) M) Qd := fun c' L hd M acc accv A hL eL r hs hn q =>
  ⟨⟨c'.am, hd, c'.H⟩, .lst acc, M, rfl, A.unhid hs, .lst eL ⟨(A.hid L hL).2, hn⟩ (r.unhid hs), q, rfl, .inl rfl⟩
mutual
theorem Rl.unhidH {c : Cn} {hd : List Addr} {L : Addr} (hL : L ∈ c.hid) (hs : ∀ a ∈ hd, a ∈ c.hid) : ∀ {d : D} {v : V}, Rl K c d v → Rl K ⟨c.am ++ [L], hd, c.H⟩ d v
  | _, _, .non => .non
  | _, _, .bl b => .bl b
  | _, _, .int i => .int i
  | _, _, .str x => .str x
  | _, _, .tup h n r => .tup h ⟨fun z => (List.mem_append.mp z).elim n.1 fun z => n.2 (by rw [List.mem_singleton.mp z]; exact hL), fun z => n.2 (hs _ z)⟩ (Rls.unhidH hL hs r)
  | _, _, .lst h n r => .lst h ⟨fun z => (List.mem_append.mp z).elim n.1 fun z => n.2 (by rw [List.mem_singleton.mp z]; exact hL), fun z => n.2 (hs _ z)⟩ (Rls.unhidH hL hs r)
  | _, _, .scr h n => .scr h fun w hw => (n w hw).imp (fun n => ⟨fun z => (List.mem_append.mp z).elim n.1 fun z => n.2 (by rw [List.mem_singleton.mp z]; exact hL), fun z => n.2 (hs _ z)⟩) fun x => x
  | _, _, .h e => .h (by rw [List.getElem?_append_left (List.getElem?_eq_some_iff.mp e).1]; exact e)
theorem Rls.unhidH {c : Cn} {hd : List Addr} {L : Addr} (hL : L ∈ c.hid) (hs : ∀ a ∈ hd, a ∈ c.hid) : ∀ {l : List D} {xs : List V}, Rls K c l xs → Rls K ⟨c.am ++ [L], hd, c.H⟩ l xs
  | _, _, .nil => .nil
  | _, _, .cons a b => .cons (Rl.unhidH hL hs a) (Rls.unhidH hL hs b)
end
theorem lcEnd_h {Qd : KD} : LcEnd K (fun acc M => Qd (.h M.length) (M ++ [.lst acc])) Qd := fun c' L hd M acc accv A hL eL r hs hn q => by
  have up : ∀ {a : Addr} {o : O}, OR K c' a o → OR K ⟨c'.am ++ [L], hd, c'.H⟩ a o := fun {a o} h => by
    cases h with
    | lst h r => exact .lst h (r.unhidH hL hs)
    | dK h r => exact .dK h (Paired.mapP r fun _ _ z => ⟨z.1, z.2.unhidH hL hs⟩)
    | dT h r => exact .dT h (Paired.mapP r fun _ _ z => ⟨z.1, z.2.unhidH hL hs⟩)
    | ins h r => exact .ins h (Paired.mapP r fun _ _ z => ⟨z.1, z.2.unhidH hL hs⟩)
  refine ⟨⟨c'.am ++ [L], hd, c'.H⟩, .h M.length, M ++ [.lst acc], rfl, ⟨by simp [A.len], ?_, fun a h => ⟨(A.hid a (hs a h)).1, fun z => ?_⟩, fun k a o e1 e2 => ?_⟩, .h (am_last _ _ _ A.len), q, rfl, .inr rfl⟩
  · refine List.nodup_append.mpr ⟨A.nd, List.nodup_cons.mpr ⟨by simp, List.nodup_nil⟩, ?_⟩
    intro x hx y hy e
    rw [List.mem_singleton.mp hy] at e
    subst e
    exact (A.hid x hL).2 hx
  · rcases List.mem_append.mp z with z | z
    · exact (A.hid a (hs a h)).2 z
    · rw [List.mem_singleton.mp z] at h
      exact hn h
  · by_cases hk : k < c'.am.length
    · have hk2 : k < M.length := by rw [← A.len]; exact hk
      have e1' : c'.am[k]? = some a := by rw [← e1]; exact (List.getElem?_append_left hk).symm
      have e2' : M[k]? = some o := by rw [← e2]; exact (List.getElem?_append_left hk2).symm
      exact up (A.at_ k a o e1' e2')
    · have hk1 : c'.am.length ≤ k := Nat.le_of_not_lt hk
      have hk2 : M.length ≤ k := by rw [← A.len]; exact hk1
      have e1' : [L][k - c'.am.length]? = some a := by rw [← List.getElem?_append_right hk1]; exact e1
      have e2' : [O.lst acc][k - M.length]? = some o := by rw [← List.getElem?_append_right hk2]; exact e2
      rcases Nat.eq_zero_or_pos (k - c'.am.length) with z | z
      · rw [z] at e1'
        rw [← A.len, z] at e2'
        simp at e1' e2'
        subst e1' e2'
        exact .lst eL (r.unhidH hL hs)
      · rw [List.getElem?_eq_none (by rw [List.length_singleton]; exact z)] at e1'; cases e1'
theorem se_lcF {wi : TI} {ti : DI} {g : TG} {gd : DG} {ix vs : List Nat} {tt : TT} {dt : DT} {te : TE} {de : DE} {F : KD → List D → S → Prop} (hF : ∀ Qd, LcEnd K (F Qd) Qd) (hi : SI K wi ti) (hg : SG K g gd ix) (hv : ∀ i ∈ ix, i ∈ vs) (ht : ST K tt dt) (he : SE K te de) :
    SE K (tLc wi g tt te vs) (fun ds M Q => ti ds M fun items pd M1 => lcF gd dt de pd (dw ds vs) (F Q) items [] M1) := fun σ ds c M hs hA Qd Q q k => by
  refine hi σ ds c M hs hA _ _ q fun items pd M1 c1 J Pf s1 A1 ok pf q1 => ?_
  intro L hL
  have st0 : Step c1 ⟨c1.am, c1.hid ++ [L], upd c1.H L (.lst [])⟩ := ⟨⟨[], by simp, by simp⟩, fun a o h n => by show upd c1.H L _ a = some o; rw [upd_ne (ne_of_none h hL)]; exact h,
    fun a o h => upd_some ⟨o, h⟩, fun a h => List.mem_append_left _ h, fun a h => by
      rcases List.mem_append.mp h with h | h
      · exact .inl h
      · rw [List.mem_singleton.mp h]; exact .inr hL⟩
  have hLok := A1.ok hL
  have ab0 : Ab K ⟨c1.am, c1.hid ++ [L], upd c1.H L (.lst [])⟩ M1 := ⟨A1.len, A1.nd, fun a h => by
      rcases List.mem_append.mp h with h | h
      · exact ⟨upd_some (A1.hid a h).1, (A1.hid a h).2⟩
      · rw [List.mem_singleton.mp h]; exact ⟨⟨_, upd_same⟩, hLok.1⟩,
    fun k a w e1 e2 => (A1.at_ k a w e1 e2).mono st0 fun u h => by show upd c1.H L _ a = some u; rw [upd_ne (ne_of_none h hL)]; exact h⟩
  refine ⟨fun i m H' => m = items.length - i ∧ i ≤ items.length ∧ ∃ c' M' acc accv, c'.H = H' ∧ Step c1 c' ∧ Ab K c' M' ∧ L ∈ c'.hid ∧ c'.H L = some (.lst accv) ∧ Rls K c' acc accv ∧ lcF gd dt de pd (dw ds vs) (F Qd) (items.drop i) acc M',
    ⟨items.length, rfl, Nat.zero_le _, ⟨c1.am, c1.hid ++ [L], upd c1.H L (.lst [])⟩, M1, [], [], rfl, st0, ab0, by simp, upd_same, .nil, q1⟩, ?_⟩
  rintro i m H' ⟨rfl, hle, c', M', acc, accv, rfl, s', A', hLh, hLl, racc, q'⟩
  have pf' := ok.mono c1 c' s' pf
  have hs' : Sl K c' (wipe σ vs) (dw ds vs) := ((hs.mono s1).mono s').wipe vs
  by_cases hlt : i < items.length
  · have hd : items.drop i = items[i] :: items.drop (i + 1) := (List.getElem_cons_drop ..).symm
    rw [hd] at q'
    obtain ⟨pm, hz, q'⟩ := q'
    refine .inr ⟨ok.go i c' M' hlt pf' A' pm, fun H2 => i + 1 ≤ items.length ∧ ∃ c' M' acc accv, c'.H = H2 ∧ Step c1 c' ∧ Ab K c' M' ∧ L ∈ c'.hid ∧ c'.H L = some (.lst accv) ∧ Rls K c' acc accv ∧ lcF gd dt de pd (dw ds vs) (F Qd) (items.drop (i + 1)) acc M', fun H2 h => ⟨items.length - (i + 1), by omega, rfl, h⟩, fun x H2 y => ?_⟩
    obtain ⟨c2, d, rfl, s2, A2, hd2, rd⟩ := ok.yld i c' M' x H2 hlt pf' A' pm y
    rw [List.getElem?_eq_getElem hlt] at hd2
    cases hd2
    refine hg x _ (wipe σ vs) (dw ds vs) c2 (hs'.mono s2) rd _ _ q' fun σ3 ds3 hs3 w3 q3 => ⟨?_, ?_⟩
    · have e := w3 vs hv
      have e2 : ∀ (σ : L2.St) (vs : List Nat), wipe (wipe σ vs) vs = wipe σ vs := fun σ vs => by
        have sub : ∀ (ws : List Nat) (τ : L2.St), (∀ i ∈ ws, τ[i]? = some none ∨ τ[i]? = none) → wipe τ ws = τ := fun ws => by
          induction ws with
          | nil => intro τ _; rfl
          | cons a t ih =>
            intro τ h
            show (wipe τ t).set a none = τ
            rw [ih τ fun i hi => h i (List.mem_cons_of_mem _ hi)]
            refine List.ext_getElem? fun j => ?_
            by_cases hj : j = a
            · subst hj
              rcases h j List.mem_cons_self with z | z
              · rw [List.getElem?_set_self (List.getElem?_eq_some_iff.mp z).1, z]
              · rw [z, List.getElem?_eq_none (by rw [List.length_set]; exact List.getElem?_eq_none_iff.mp z)]
            · rw [List.getElem?_set_ne (fun w => hj w.symm)]
        refine sub vs _ fun i hi => ?_
        have : ∀ (ws : List Nat), i ∈ ws → (wipe σ ws)[i]? = some none ∨ (wipe σ ws)[i]? = none := fun ws => by
          induction ws with
          | nil => intro h; exact absurd h (by simp)
          | cons a t ih =>
            intro h
            show ((wipe σ t).set a none)[i]? = _ ∨ _
            by_cases hj : i = a
            · subst hj
              by_cases hl : i < (wipe σ t).length
              · exact .inl (List.getElem?_set_self hl)
              · exact .inr (List.getElem?_eq_none (by show ((wipe σ t).set i none).length ≤ i; rw [List.length_set]; omega))
            · have m : i ∈ t := by
                rcases List.mem_cons.mp h with z | z
                · exact absurd z hj
                · exact z
              rcases ih m with z | z
              · exact .inl (by rw [List.getElem?_set_ne (fun w => hj w.symm)]; exact z)
              · exact .inr (by show ((wipe σ t).set a none)[i]? = none; rw [List.getElem?_set_ne (fun w => hj w.symm)]; exact z)
        exact this vs hi
      rw [e, e2]
    refine ht σ3 ds3 c2 M' hs3 A2 _ _ q3 fun b M3 c3 s3 A3 q4 => ?_
    have s13 := (s'.trans s2).trans s3
    have keepL : ∀ c4, Step c' c4 → L ∈ c4.hid ∧ c4.H L = some (.lst accv) := fun c4 s4 => ⟨s4.hid.1 L hLh, s4.keep L _ hLl (A'.hid L hLh).2⟩
    cases b with
    | true =>
      refine he σ3 ds3 c3 M3 (hs3.mono s3) A3 _ _ q4 fun y M4 v c4 s4 A4 r4 q5 => ?_
      have s14 := s13.trans s4
      obtain ⟨h1, h2⟩ := keepL c4 ((s2.trans s3).trans s4)
      have r2 := racc.mono ((s2.trans s3).trans s4)
      refine ⟨accv, h2, by rw [← racc.length]; exact Nat.lt_of_lt_of_le hz (szT (Nat.le_refl _)), hlt, ⟨c4.am, c4.hid, upd c4.H L (.lst (accv ++ [v]))⟩, M4, acc ++ [y], accv ++ [v], rfl, ?_, A4.hidW h1 h2, h1, upd_same, (r2.append (.cons r4 .nil)).hidW h1 h2, q5⟩
      refine ⟨s14.ext, fun a o h n => ?_, fun a o h => upd_some (s14.there a o h), s14.hid⟩
      show upd c4.H L _ a = some o
      rw [upd_ne (ne_of_none h hL)]
      exact s14.keep a o h n
    | false =>
      obtain ⟨h1, h2⟩ := keepL c3 (s2.trans s3)
      exact ⟨hlt, c3, M3, acc, accv, rfl, s13, A3, h1, h2, racc.mono (s2.trans s3), q4⟩
  · have e : i = items.length := by omega
    subst e
    rw [List.drop_length] at q'
    obtain ⟨c2, d2, M2, eH, A2, r2, q2, eh, ea⟩ := hF Qd c' L c1.hid M' acc accv A' hLh hLl racc (fun a h => s'.hid.1 a h) hLok.2 q'.2
    refine .inl ⟨ok.stop c' M' pf' A' q'.1, ?_⟩
    rw [← eH]
    refine k d2 M2 _ c2 (s1.trans ⟨?_, fun a o h n => by rw [eH]; exact s'.keep a o h n, fun a o h => by rw [eH]; exact s'.there a o h, fun a h => by rw [eh]; exact h, fun a h => by rw [eh] at h; exact .inl h⟩) A2 r2 q2
    obtain ⟨new, en, fn⟩ := s'.ext
    rcases ea with ea | ea
    · exact ⟨new, by rw [ea, en], fn⟩
    · refine ⟨new ++ [L], by rw [ea, en, List.append_assoc], fun a h => ?_⟩
      rcases List.mem_append.mp h with h | h
      · exact fn a h
      · rw [List.mem_singleton.mp h]; exact hL
theorem se_lc {wi : TI} {ti : DI} {g : TG} {gd : DG} {ix vs : List Nat} {tt : TT} {dt : DT} {te : TE} {de : DE} (hi : SI K wi ti) (hg : SG K g gd ix) (hv : ∀ i ∈ ix, i ∈ vs) (ht : ST K tt dt) (he : SE K te de) : SE K (tLc wi g tt te vs) (dLc ti gd dt de vs) := se_lcF (fun _ => lcEnd_lst) hi hg hv ht he
theorem se_lcH {wi : TI} {ti : DI} {g : TG} {gd : DG} {ix vs : List Nat} {tt : TT} {dt : DT} {te : TE} {de : DE} (hi : SI K wi ti) (hg : SG K g gd ix) (hv : ∀ i ∈ ix, i ∈ vs) (ht : ST K tt dt) (he : SE K te de) : SE K (tLc wi g tt te vs) (dLcH ti gd dt de vs) := se_lcF (fun _ => lcEnd_h) hi hg hv ht he
end
/-! ### the rules -/
def PDTs (X : Cx) (ifs : List Expr) (t : DT) : Prop := ∃ tt, PTs X ifs tt ∧ ST X.K tt t
theorem PDTs.can {X : Cx} {e : List Expr} {t : DT} (h : PDTs X e t) : PTs X e (liftT X.K t) := by
  obtain ⟨te, p, s⟩ := h
  refine ⟨fun pins s0 σ H Q I ⟨ds, c, M, Qd, eH, hs, hA, q, k⟩ => ?_⟩
  subst eH
  exact p.run pins s0 σ c.H Q I (s σ ds c M hs hA Qd Q q k)
def dYes : DT := fun _ M Q => Q true M
section
variable {X : Cx} {pos : Pos} {e : Expr} {tt : DT} {db : DSt}
theorem d_noif : PDTs X [] dYes := ⟨_, pts_nil, fun σ ds c M hs hA Qd Q q k => k true M c (Step.refl c) hA q⟩
theorem d_oneif (h : PDT X e tt) : PDTs X [e] tt := let ⟨_, p, s⟩ := h; ⟨_, pts_one p, s⟩
theorem d_for {tg iter : Expr} {body : List Stmt} {ti : DI} {gd : DG} {ix : List Nat} (hp : PassesOwn (model X.prog X.w) X.A X.env X.xe) (hc : X.calm = true) (hi : PDI X tg iter ti) (hg : PDG X tg gd ix) (hb : PDSs X body db)
    (hs : ∀ x, foldedSetIterable iter X.env x = pure x := by intro _; rfl) : PDS X (.For tg iter body [] pos) (dFor ti gd db) := let ⟨_, p1, s1⟩ := hi; let ⟨_, p2, s2⟩ := hg; let ⟨_, p3, s3⟩ := hb; ⟨_, ps_for hp hc p1 p2 p3 hs, ss_for s1 s2 s3⟩
theorem d_while {c : Expr} {body : List Stmt} (hp : PassesOwn (model X.prog X.w) X.A X.env X.xe) (hc : PDT X c tt) (hb : PDSs X body db) : PDS X (.While c body [] pos) (dWhile tt db) := let ⟨_, p1, s1⟩ := hc; let ⟨_, p2, s2⟩ := hb; ⟨_, ps_while hp p1 p2, ss_while s1 s2⟩
theorem d_lc {elt tg iter : Expr} {ifs : List Expr} {scope : Scope} {own : List (Str × Nat)} {ti : DI} {gd : DG} {ix : List Nat} {dt : DT} {de : DE} (hc : X.calm = true) (hN : X.N.Nodup) (hi : PDI X tg iter ti) (ok : BlkOk X.N X.env.scope scope own) (hv : ∀ i ∈ ix, i ∈ own.map (·.2))
    (hg : ∀ (s : Shared) (H : Hp) (C : Addr) (cl : List (Str × Addr)) (fp : List Addr), PDG (X.blk s H scope (compEnvC scope cl C X.env) fp) tg gd ix) (ht : ∀ (s : Shared) (H : Hp) (C : Addr) (cl : List (Str × Addr)) (fp : List Addr), PDTs (X.blk s H scope (compEnvC scope cl C X.env) fp) ifs dt)
    (he : ∀ (s : Shared) (H : Hp) (C : Addr) (cl : List (Str × Addr)) (fp : List Addr), PD (X.blk s H scope (compEnvC scope cl C X.env) fp) elt de) (hs : ∀ x, foldedSetIterable iter X.env x = pure x := by intro _; rfl) :
    PD X (.ListComp elt [⟨tg, iter, ifs, 0⟩] scope pos) (dLc ti gd dt de (own.map (·.2))) := let ⟨_, p1, s1⟩ := hi
  ⟨_, pe_lc hc hN p1 ok (fun s H C cl fp => (hg s H C cl fp).can) (fun s H C cl fp => (ht s H C cl fp).can) (fun s H C cl fp => (he s H C cl fp).can) hs, se_lc s1 sg_lift hv st_lift se_lift⟩
theorem d_lcH {elt tg iter : Expr} {ifs : List Expr} {scope : Scope} {own : List (Str × Nat)} {ti : DI} {gd : DG} {ix : List Nat} {dt : DT} {de : DE} (hc : X.calm = true) (hN : X.N.Nodup) (hi : PDI X tg iter ti) (ok : BlkOk X.N X.env.scope scope own) (hv : ∀ i ∈ ix, i ∈ own.map (·.2))
    (hg : ∀ (s : Shared) (H : Hp) (C : Addr) (cl : List (Str × Addr)) (fp : List Addr), PDG (X.blk s H scope (compEnvC scope cl C X.env) fp) tg gd ix) (ht : ∀ (s : Shared) (H : Hp) (C : Addr) (cl : List (Str × Addr)) (fp : List Addr), PDTs (X.blk s H scope (compEnvC scope cl C X.env) fp) ifs dt)
    (he : ∀ (s : Shared) (H : Hp) (C : Addr) (cl : List (Str × Addr)) (fp : List Addr), PD (X.blk s H scope (compEnvC scope cl C X.env) fp) elt de) (hs : ∀ x, foldedSetIterable iter X.env x = pure x := by intro _; rfl) :
    PD X (.ListComp elt [⟨tg, iter, ifs, 0⟩] scope pos) (dLcH ti gd dt de (own.map (·.2))) := let ⟨_, p1, s1⟩ := hi
  ⟨_, pe_lc hc hN p1 ok (fun s H C cl fp => (hg s H C cl fp).can) (fun s H C cl fp => (ht s H C cl fp).can) (fun s H C cl fp => (he s H C cl fp).can) hs, se_lcH s1 sg_lift hv st_lift se_lift⟩
theorem d_setLc {i : Nat} {y : Str} {py : Pos} {elt tg iter : Expr} {ifs : List Expr} {scope : Scope} {own : List (Str × Nat)} {spos : Pos} {ti : DI} {gd : DG} {ix : List Nat} {dt : DT} {de : DE} (hc : X.calm = true) (hN : X.N.Nodup) (hy : X.N[i]? = some y) (hyl : X.env.scope.names.lookup y = some .local)
    (hsw : swapsWith (.ListComp elt [⟨tg, iter, ifs, 0⟩] scope pos) (some (.Name y py)) spos.line X.env = pure true) (hi : PDI X tg iter ti) (ok : BlkOk X.N X.env.scope scope own) (hv : ∀ i ∈ ix, i ∈ own.map (·.2))
    (hg : ∀ (s : Shared) (H : Hp) (C : Addr) (cl : List (Str × Addr)) (fp : List Addr), PDG (X.blk s H scope (compEnvC scope cl C X.env) fp) tg gd ix) (ht : ∀ (s : Shared) (H : Hp) (C : Addr) (cl : List (Str × Addr)) (fp : List Addr), PDTs (X.blk s H scope (compEnvC scope cl C X.env) fp) ifs dt)
    (he : ∀ (s : Shared) (H : Hp) (C : Addr) (cl : List (Str × Addr)) (fp : List Addr), PD (X.blk s H scope (compEnvC scope cl C X.env) fp) elt de) (hs : ∀ x, foldedSetIterable iter X.env x = pure x := by intro _; rfl) :
    PDS X (.Assign [.Name y py] (.ListComp elt [⟨tg, iter, ifs, 0⟩] scope pos) spos) (dAsg (dLc ti gd dt de (own.map (·.2))) (dgName i)) := let ⟨_, p1, s1⟩ := hi
  ⟨_, ps_setLc hc hN hy hyl hsw p1 ok (fun s H C cl fp => (hg s H C cl fp).can) (fun s H C cl fp => (ht s H C cl fp).can) (fun s H C cl fp => (he s H C cl fp).can) hs, ss_asg (se_lc s1 sg_lift hv st_lift se_lift) sg_name⟩
end
end My

set_option Elab.async false
set_option linter.all false
set_option maxRecDepth 100000
set_option maxHeartbeats 4000000
namespace My
open PySem PySem.Spec PyProof.Rows L2

/-! ### promises over data -/
abbrev SpD := List D → S → KD → Prop
def lift (K : PySem.W.Frag) (sp : SpD) : Sp := fun vs H Q _ => ∃ l c M Qd, c.H = H ∧ Rls K c l vs ∧ Ab K c M ∧ sp l M Qd ∧ ∀ d M' u c', Step c c' → Ab K c' M' → Rl K c' d u → Qd d M' → Q u c'.H
abbrev GD (P : Program) (w : World) (K : PySem.W.Frag) (mg : Str → Option Value) (base : Heap) (k : Nat) (x : Str) (sp : SpD) : Prop := GFn P w K mg base k x (lift K sp)
abbrev MD (P : Program) (w : World) (K : PySem.W.Frag) (mg : Str → Option Value) (base : Heap) (k : Nat) (C : Addr) (m : Str) (sp : SpD) : Prop := MFn P w K mg base k C m (lift K sp)
abbrev CD (P : Program) (w : World) (K : PySem.W.Frag) (mg : Str → Option Value) (base : Heap) (k : Nat) (C : Addr) (x : Str) (sp : SpD) : Prop := CFn P w K mg base k C x (lift K sp)
theorem lift_go {K : PySem.W.Frag} {sp : SpD} {l : List D} {vs : List V} {c : Cn} {M : S} {Qd : KD} {Q : VK} {E : XK} (r : Rls K c l vs) (A : Ab K c M) (h : sp l M Qd) (k : ∀ d M' u c', Step c c' → Ab K c' M' → Rl K c' d u → Qd d M' → Q u c'.H) : lift K sp vs c.H Q E :=
  ⟨l, c, M, Qd, rfl, r, A, h, k⟩
def startD (N : List Str) (l : List D) : DS := l.map some ++ List.replicate (N.length - l.length) none
theorem rls_some {K : PySem.W.Frag} {c : Cn} {l : List D} {vs : List V} (r : Rls K c l vs) (N : List Str) : Sl K c (L2.start N vs) (startD N l) := by
  have e := r.length
  refine ⟨by simp [L2.start, startD, e], fun i d h => ?_⟩
  unfold startD at h
  by_cases hi : i < (l.map some).length
  · rw [List.getElem?_append_left hi, List.getElem?_map] at h
    obtain ⟨d', hd, hs⟩ := Option.map_eq_some_iff.mp h
    cases hs
    obtain ⟨v, hv, rv⟩ := r.get hd
    refine ⟨v, ?_, rv⟩
    unfold L2.start
    rw [List.getElem?_append_left (by rw [List.length_map] at hi ⊢; omega), List.getElem?_map, hv]
    rfl
  · rw [List.getElem?_append_right (by omega)] at h
    have := List.mem_of_getElem? h
    rw [List.mem_replicate] at this
    exact absurd this.2 (by simp)
/-- a def by its body -/
theorem okD {P : Program} {w : World} {K : PySem.W.Frag} {mg : Str → Option Value} {base : Heap} {x qual : Str} {params : Arguments} {body : List Stmt} {scope : Scope} {f : Addr} {fd : FuncData} {N ps : List Str} {k : Nat} {sp : SpD} {t : DSt} (F : FunD K x qual params body scope [] [] f fd) (Sc : FnScope N ps scope)
    (hb : Binds K fd ps []) (hbody : ∀ (cdv : Value) (A : Around) (outer : List Env) (s : Shared) (H : Hp) (E : XK), Room k (A.deeper (envOfC qual scope s.heap.objs.size f cdv)) → PDSs (cxOf CX0 P w K mg base N qual scope f cdv A outer s H E).nox body t)
    (hread : ∀ l M Qd, sp l M Qd → l.length = ps.length ∧ t { nx := fun _ M' => Qd .non M', rt := Qd } (startD N l) M) : FnR P w K mg base CX0 (k + 1) f (lift K sp) := by
  refine okF F Sc hb (fun vs H Q E ⟨l, c, M, Qd, eH, r, A, h, q⟩ => by rw [← r.length]; exact (hread l M Qd h).1) fun cdv A outer s H vs Q E hr h => ?_
  obtain ⟨ts, p, st⟩ := hbody cdv A outer s H E hr
  obtain ⟨l, c, M, Qd, eH, r, Ab', h, q⟩ := h
  subst eH
  refine ⟨ts, p, st (L2.start N vs) (startD N l) c M (rls_some r N) Ab' _ _ (hread l M Qd h).2 ⟨fun σ ds c' M' s' hs' A' q' => q _ M' _ c' s' A' .non q', fun _ _ _ _ _ _ _ z => False.elim z, fun _ _ _ _ _ _ _ z => False.elim z, fun v d c' M' s' r' A' q' => q d M' v c' s' A' r' q'⟩⟩
def dCall (sp : SpD) (t : DA) : DE := fun ds M Q => t ds M fun l M1 => sp l M1 Q
def dMeth (C : Addr) (m : Str) (sp : SpD) (ta : DE) (t : DA) : DE := fun ds M Q => ta ds M fun x M1 => ∃ k fs, x = .h k ∧ M1[k]? = some (.ins C fs) ∧ fs.lookup m = none ∧ t ds M1 fun l M2 => sp (x :: l) M2 Q
def dMake (C : Addr) (sp : SpD) (t : DA) : DE := fun ds M Q => t ds M fun l M1 => sp (.h M1.length :: l) (M1 ++ [.ins C []]) fun d M2 => d = .non ∧ Q (.h M1.length) M2
section
variable {K : PySem.W.Frag}
theorem se_call {sp : SpD} {ta : TA} {da : DA} (h : SA K ta da) : SE K (tF (lift K sp) ta) (dCall sp da) := fun σ ds c M hs hA Qd Q q k =>
  h σ ds c M hs hA _ _ q fun l M1 vs c1 s1 A1 r1 q1 => lift_go r1 A1 q1 fun d M' u c' s' A' r' q' => k d M' u c' (s1.trans s') A' r' q'
theorem rkv_lookup {c : Cn} : ∀ {fs : List (Str × D)} {ws : List (Str × V)} {f : Str}, RKv K c fs ws → (fs.lookup f = none → ws.lookup f = none) ∧ ∀ d, fs.lookup f = some d → ∃ v, ws.lookup f = some v ∧ Rl K c d v
  | _, _, _, .nil => ⟨fun _ => rfl, fun _ h => by cases h⟩
  | (a, x) :: fs, (b, y) :: ws, f, .cons r t => by
    obtain ⟨e, rx⟩ := r
    have e : a = b := e
    subst e
    rw [List.lookup_cons, List.lookup_cons]
    cases q : f == a with
    | true =>
      refine ⟨fun h => ?_, fun d h => ?_⟩
      · cases h
      · cases h; exact ⟨y, rfl, rx⟩
    | false => exact rkv_lookup t
theorem se_meth {C : Addr} {m : Str} {sp : SpD} {te : TE} {de : DE} {ta : TA} {da : DA} (he : SE K te de) (h : SA K ta da) : SE K (tMethR C m (lift K sp) N0 te ta) (dMeth C m sp de da) := fun σ ds c M hs hA Qd Q q k =>
  he σ ds c M hs hA _ _ q fun x M1 v c1 s1 A1 r1 ⟨j, fs, e, em, hl, q1⟩ => by
    subst e
    obtain ⟨a, e, ea, o⟩ := A1.h r1 em
    subst e
    cases o with
    | ins ho rf =>
      exact ⟨a, _, _, rfl, ho, (rkv_lookup rf).1 hl, h σ ds c1 M1 (hs.mono s1) A1 _ _ q1 fun l M2 vs c2 s2 A2 r2 q2 => lift_go (.cons (r1.mono s2) r2) A2 q2 fun d M' u c' s' A' r' q' => k d M' u c' ((s1.trans s2).trans s') A' r' q'⟩
theorem se_meth0 {C : Addr} {m : Str} {sp : SpD} {te : TE} {de : DE} (he : SE K te de) : SE K (My.tM0 C m (lift K sp) te) (dMeth C m sp de dNil) := fun σ ds c M hs hA Qd Q q k =>
  he σ ds c M hs hA _ _ q fun x M1 v c1 s1 A1 r1 ⟨j, fs, e, em, hl, q1⟩ => by
    subst e
    obtain ⟨a, e, ea, o⟩ := A1.h r1 em
    subst e
    cases o with
    | ins ho rf => exact ⟨a, _, _, rfl, ho, (rkv_lookup rf).1 hl, lift_go (.cons r1 .nil) A1 q1 fun d M' u c' s' A' r' q' => k d M' u c' (s1.trans s') A' r' q'⟩
theorem se_make {C : Addr} {sp : SpD} {ta : TA} {da : DA} (h : SA K ta da) : SE K (StX.tMakeR C (lift K sp) N0 ta) (dMake C sp da) := fun σ ds c M hs hA Qd Q q k =>
  h σ ds c M hs hA _ _ q fun l M1 vs c1 s1 A1 r1 q1 x dx hx hdx hne => by
    have st1 : Step c1 ⟨c1.am, c1.hid, upd c1.H dx (.own x)⟩ := Step.fresh hdx
    have A1' := A1.fresh (o := .own x) hdx
    have hx' : (⟨c1.am, c1.hid, upd c1.H dx (.own x)⟩ : Cn).H x = none := by show upd c1.H dx _ x = none; rw [upd_ne hne.symm]; exact hx
    have st2 : Step _ ⟨c1.am ++ [x], c1.hid, upd (upd c1.H dx (.own x)) x (.ins C dx [])⟩ := Step.freshH hx'
    have A2 := A1'.freshH (K := K) (o := .ins C dx []) (u := .ins C []) hx' (.ins upd_same .nil)
    have s12 := st1.trans st2
    refine lift_go (c := ⟨c1.am ++ [x], c1.hid, upd (upd c1.H dx (.own x)) x (.ins C dx [])⟩) (.cons (.h (am_last _ _ _ A1.len)) (r1.mono s12)) A2 q1 fun d M' u c' s' A' r' ⟨e, q'⟩ => ?_
    subst e
    cases r'
    exact ⟨rfl, k _ M' _ c' ((s1.trans s12).trans s') A' (.h (s'.am_get (am_last _ _ _ A1.len))) q'⟩
end
section
variable {X : Cx} {k : Nat} {sp : SpD} {x m : Str} {p pos apos : Pos} {e o : Expr} {es : List Expr} {t : DA} {ta : DE} {C : Addr}
theorem d_call (F : GD X.prog X.w X.K X.mg X.base k x sp) (hr : Room k X.A) (hg : Gl X x) (ha : PDA X (e :: es) t) (hd : (x == ("__debug__" : Str)) = false := by decide)
    (he : starEach (e :: es) X.env = (false, eval e X.env) :: starEach es X.env := by rfl) (hpl : (backTo pos (starEach es X.env)).any (·.1) = false := by rfl) : PD X (.Call (.Name x p) (e :: es) [] pos) (dCall sp t) := let ⟨_, pa, sa⟩ := ha; ⟨_, cf F hr hg pa hd he hpl, se_call sa⟩
theorem d_meth {pl : Sem Bool} (he : PD X o ta) (c : Cls X.K C) (F : MD X.prog X.w X.K X.mg X.base k C m sp) (hr : Room k X.A) (ha : PDA X (e :: es) t)
    (hst : starEach (e :: es) X.env = (false, eval e X.env) :: starEach es X.env := by rfl) (hpl : (backTo pos (starEach es X.env)).any (·.1) = false := by rfl)
    (ht : eval (.Call (.Attribute o m apos) (e :: es) [] pos) X.env = (do
      let ov ← eval o X.env
      standAt apos.atName
      let (f, first) ← holding [ov] (getMethod ov m pl)
      callWith pos f first (backTo pos (starEach (e :: es) X.env)) (backToKw pos (keywordEach [] X.env))) := by rfl) :
    PD X (.Call (.Attribute o m apos) (e :: es) [] pos) (dMeth C m sp ta t) := let ⟨_, p1, s1⟩ := he; let ⟨_, pa, sa⟩ := ha; ⟨_, cm p1 c F hr pa hst hpl ht, se_meth s1 sa⟩
theorem d_meth0 {pl : Sem Bool} (he : PD X o ta) (c : Cls X.K C) (F : MD X.prog X.w X.K X.mg X.base k C m sp) (hr : Room k X.A)
    (ht : eval (.Call (.Attribute o m apos) [] [] pos) X.env = (do
      let ov ← eval o X.env
      standAt apos.atName
      let (f, first) ← holding [ov] (getMethod ov m pl)
      callWith pos f first (backTo pos (starEach [] X.env)) (backToKw pos (keywordEach [] X.env))) := by rfl) :
    PD X (.Call (.Attribute o m apos) [] [] pos) (dMeth C m sp ta dNil) := let ⟨_, p1, s1⟩ := he; ⟨_, cm0 p1 c F hr ht, se_meth0 s1⟩
theorem d_make (F : CD X.prog X.w X.K X.mg X.base k C x sp) (hr : Room (k + 1) X.A) (hg : Gl X x) (ha : PDA X (e :: es) t) (hdb : (x == ("__debug__" : Str)) = false := by decide)
    (he : starEach (e :: es) X.env = (false, eval e X.env) :: starEach es X.env := by rfl) (hpl : (backTo pos (starEach es X.env)).any (·.1) = false := by rfl) : PD X (.Call (.Name x p) (e :: es) [] pos) (dMake C sp t) := let ⟨_, pa, sa⟩ := ha; ⟨_, cn F hr hg pa hdb he hpl, se_make sa⟩
end
/-! ### attributes -/
def dFld (C : Addr) (ta : DE) (f : Str) : DE := fun ds M Q => ta ds M fun x M1 => ∃ k fs d, x = .h k ∧ M1[k]? = some (.ins C fs) ∧ fs.lookup f = some d ∧ Q d M1
def putG (f : Str) (v : D) : List (Str × D) → List (Str × D)
  | [] => [(f, v)]
  | (g, w) :: r => if g = f then (g, v) :: r else (g, w) :: putG f v r
def sSetF (C : Addr) (ta tv : DE) (f : Str) : DSt := fun E ds M => tv ds M fun y M1 => ta ds M1 fun x M2 => ∃ k fs, x = .h k ∧ M2[k]? = some (.ins C fs) ∧ fs.length < 1000 ∧ E.nx ds (M2.set k (.ins C (putG f y fs)))
section
variable {K : PySem.W.Frag}
theorem putF_eq (f : Str) (v : V) : ∀ (g : Str) (w : V) (r : List (Str × V)), putF f v ((g, w) :: r) = if g = f then (g, v) :: r else (g, w) :: putF f v r := by
  intro g w r
  first | rfl | (unfold putF; rfl) | (show (if (g == f) = true then _ else _) = _; by_cases h : g = f <;> simp [h]) | (by_cases h : g = f <;> simp [putF, h])
theorem rkv_put {c : Cn} {f : Str} {d : D} {v : V} (r : Rl K c d v) : ∀ {fs : List (Str × D)} {ws : List (Str × V)}, RKv K c fs ws → RKv K c (putG f d fs) (putF f v ws)
  | _, _, .nil => .cons ⟨rfl, r⟩ .nil
  | (a, x) :: fs, (b, y) :: ws, .cons h t => by
    have e : a = b := h.1
    subst e
    rw [putF_eq]
    unfold putG
    by_cases q : a = f
    · rw [if_pos q, if_pos q]; exact .cons ⟨rfl, r⟩ t
    · rw [if_neg q, if_neg q]; exact .cons h (rkv_put r t)
theorem se_fld {C : Addr} {f : Str} {te : TE} {de : DE} (c0 : Cls K C) (n : NoAttr K C f) (h : SE K te de) : SE K (tFld K te f) (dFld C de f) := fun σ ds c M hs hA Qd Q q k => h σ ds c M hs hA _ _ q fun x M1 v c1 s1 A1 r1 ⟨j, fs, d, e, em, hl, q1⟩ => by
  subst e
  obtain ⟨a, e, ea, o⟩ := A1.h r1 em
  subst e
  cases o with
  | ins ho rf =>
    obtain ⟨u, hu, ru⟩ := (rkv_lookup rf).2 d hl
    exact ⟨a, C, _, _, u, rfl, ho, c0, n, hu, k d M1 u c1 s1 A1 ru q1⟩
theorem ss_setF {C : Addr} {f : Str} {te tv : TE} {de dv : DE} (c0 : Cls K C) (n : NoAttr K C f) (h : SE K te de) (hv : SE K tv dv) : SS K (sFld K te tv f) (sSetF C de dv f) := fun σ ds c M hs hA Dd E q k => hv σ ds c M hs hA _ _ q fun y M1 u c1 s1 A1 r1 q1 => h σ ds c1 M1 (hs.mono s1) A1 _ _ q1 fun x M2 v c2 s2 A2 r2 ⟨j, fs, e, em, hl, q2⟩ => by
  subst e
  obtain ⟨a, e, ea, o⟩ := A2.h r2 em
  subst e
  cases o with
  | @ins _ dx _ ws ho rf =>
    have m : a ∈ c2.am := List.mem_of_getElem? ea
    refine ⟨a, C, dx, ws, rfl, ho, c0, n, by rw [← rkv_len rf]; exact hl, ?_⟩
    have st : Step c2 ⟨c2.am, c2.hid, upd c2.H a (.ins C dx (putF f u ws))⟩ := Step.write m
    exact k.nx σ ds ⟨c2.am, c2.hid, upd c2.H a (.ins C dx (putF f u ws))⟩ _ ((s1.trans s2).trans st) (((hs.mono s1).mono s2).mono st) (A2.write ea (.ins upd_same (rkv_put ((r1.mono s2).mono st) (RKv.mono st rf)))) q2
end
section
variable {X : Cx} {o e value : Expr} {f : Str} {pos pos' tpos : Pos} {ta tv : DE} {C : Addr}
theorem d_fld (c0 : Cls X.K C) (n : NoAttr X.K C f) (he : PD X e ta) (hb : attributeBase e f X.env (eval e X.env) = eval e X.env := by rfl) : PD X (.Attribute e f pos) (dFld C ta f) := let ⟨_, p, s⟩ := he; ⟨_, pe_fld p hb, se_fld c0 n s⟩
theorem d_setF (c0 : Cls X.K C) (n : NoAttr X.K C f) (ha : PD X o ta) (hv : PD X value tv) (hs : swapsWith value (some (.Attribute o f pos')) pos.line X.env = pure false := by rfl) : PDS X (.Assign [.Attribute o f pos'] value pos) (sSetF C ta tv f) :=
  let ⟨_, p, s⟩ := ha; let ⟨_, p2, s2⟩ := hv; ⟨_, ps_fld p p2 hs, ss_setF c0 n s s2⟩
end
/-! ### dicts -/
theorem szL {n : Nat} (h : n < 1000000) : n < sizeLine := Nat.lt_of_lt_of_le h (by decide)
def kD : Key → D
  | .inl i => .int i
  | .inr x => .str x
def keyOf : D → Option Key
  | .int i => some (.inl i)
  | .str x => some (.inr x)
  | _ => none
def gv {κ : Type} [DecidableEq κ] (kvs : List (κ × D)) (k : κ) : Option D := (kvs.find? fun kv => decide (kv.1 = k)).map (·.2)
def pv {κ : Type} [DecidableEq κ] (kvs : List (κ × D)) (k : κ) (v : D) : List (κ × D) :=
  if (kvs.any fun kv => decide (kv.1 = k)) = true then kvs.map fun kv => if kv.1 = k then (kv.1, v) else kv else kvs ++ [(k, v)]
def xv {κ : Type} [DecidableEq κ] (kvs : List (κ × D)) (k : κ) : List (κ × D) := kvs.filter fun kv => decide (kv.1 ≠ k)
/-- what stands under y -/
def dget (M : S) (k : Nat) (y : D) (R : Option D → Prop) : Prop := match M[k]? with
  | some (.dK kvs) => ∃ key, keyOf y = some key ∧ R (gv kvs key)
  | some (.dT kvs) => ∃ l key, y = .tup l ∧ l.mapM keyOf = some key ∧ R (gv kvs key)
  | _ => False
def dput (M : S) (k : Nat) (y v : D) (R : S → Prop) : Prop := match M[k]? with
  | some (.dK kvs) => ∃ key, keyOf y = some key ∧ kvs.length < 1000000 ∧ R (M.set k (.dK (pv kvs key v)))
  | some (.dT kvs) => ∃ l key, y = .tup l ∧ l.mapM keyOf = some key ∧ kvs.length < 1000000 ∧ R (M.set k (.dT (pv kvs key v)))
  | _ => False
def isDict (M : S) (k : Nat) : Prop := (∃ kvs, M[k]? = some (.dK kvs)) ∨ ∃ kvs, M[k]? = some (.dT kvs)
section
variable {K : PySem.W.Frag} {κ : Type} [DecidableEq κ]
theorem rkv_gv {c : Cn} {k : κ} : ∀ {l : List (κ × D)} {w : List (κ × V)}, RKv K c l w → (gv l k = none → valV w k = none) ∧ ∀ d, gv l k = some d → ∃ v, valV w k = some v ∧ Rl K c d v
  | _, _, .nil => ⟨fun _ => rfl, fun d h => by cases h⟩
  | (a, x) :: l, (b, y) :: w, .cons r t => by
    have e : a = b := r.1
    subst e
    unfold gv valV
    rw [List.find?_cons, List.find?_cons]
    by_cases q : a = k
    · simp only [q, decide_true]
      refine ⟨fun h => ?_, fun d h => ?_⟩
      · cases h
      · cases h; exact ⟨y, rfl, r.2⟩
    · simp only [q, decide_false]
      exact rkv_gv t
theorem rkv_opt {c : Cn} {k : κ} {l : List (κ × D)} {w : List (κ × V)} (r : RKv K c l w) {dd : D} {vv : V} (rd : Rl K c dd vv) : Rl K c ((gv l k).getD dd) ((valV w k).getD vv) := by
  obtain ⟨h1, h2⟩ := rkv_gv (k := k) r
  cases q : gv l k with
  | none => rw [h1 q]; exact rd
  | some d =>
    obtain ⟨v, hv, rv⟩ := h2 d q
    rw [hv]; exact rv
theorem rkv_isSome {c : Cn} {k : κ} {l : List (κ × D)} {w : List (κ × V)} (r : RKv K c l w) : (valV w k).isSome = (gv l k).isSome := by
  obtain ⟨h1, h2⟩ := rkv_gv (k := k) r
  cases q : gv l k with
  | none => rw [h1 q] <;> rfl
  | some d =>
    obtain ⟨v, hv, rv⟩ := h2 d q
    rw [hv]; rfl
theorem rkv_any {c : Cn} {k : κ} : ∀ {l : List (κ × D)} {w : List (κ × V)}, RKv K c l w → (l.any fun kv => decide (kv.1 = k)) = w.any fun kv => decide (kv.1 = k)
  | _, _, .nil => rfl
  | _, _, .cons r t => by rw [List.any_cons, List.any_cons, r.1, rkv_any t]
theorem rkv_map {c : Cn} {k : κ} {d : D} {v : V} (rd : Rl K c d v) : ∀ {l : List (κ × D)} {w : List (κ × V)}, RKv K c l w → RKv K c (l.map fun kv => if kv.1 = k then (kv.1, d) else kv) (w.map fun kv => if kv.1 = k then (kv.1, v) else kv)
  | _, _, .nil => .nil
  | (a, x) :: l, (b, y) :: w, .cons r t => by
    have e : a = b := r.1
    subst e
    rw [List.map_cons, List.map_cons]
    refine .cons ?_ (rkv_map rd t)
    by_cases q : a = k
    · simp only [q, if_true]; exact ⟨trivial, rd⟩
    · simp only [q, if_false]; exact ⟨trivial, r.2⟩
theorem Paired.app {α β : Type} {F : α → β → Prop} : ∀ {a c : List α} {b d : List β}, Paired F a b → Paired F c d → Paired F (a ++ c) (b ++ d)
  | _, _, _, _, .nil, h => h
  | _, _, _, _, .cons r t, h => .cons r (Paired.app t h)
theorem rkv_pv {c : Cn} {k : κ} {d : D} {v : V} (rd : Rl K c d v) {l : List (κ × D)} {w : List (κ × V)} (r : RKv K c l w) : RKv K c (pv l k d) (putK w k v) := by
  unfold pv putK
  rw [rkv_any r]
  split
  · exact rkv_map rd r
  · exact Paired.app r (.cons ⟨rfl, rd⟩ .nil)
theorem rkv_xv {c : Cn} {k : κ} : ∀ {l : List (κ × D)} {w : List (κ × V)}, RKv K c l w → RKv K c (xv l k) (dropK w k)
  | _, _, .nil => .nil
  | (a, x) :: l, (b, y) :: w, .cons r t => by
    have e : a = b := r.1
    subst e
    unfold xv dropK
    rw [List.filter_cons, List.filter_cons]
    by_cases q : a = k
    · simp only [q, ne_eq, not_true_eq_false, decide_false]; exact rkv_xv t
    · simp only [q, ne_eq, not_false_eq_true, decide_true, if_true]; exact .cons r (rkv_xv t)
end
section
variable {K : PySem.W.Frag}
theorem rl_key {c : Cn} {y : D} {v : V} {key : Key} (r : Rl K c y v) (h : keyOf y = some key) : v = kV key := by
  cases r <;> first | (cases h; rfl) | cases h
theorem rls_keys {c : Cn} : ∀ {l : List D} {xs : List V} {key : List Key}, Rls K c l xs → l.mapM keyOf = some key → xs = key.map kV
  | _, _, _, .nil, h => by simp at h; subst h; rfl
  | _, _, _, .cons r t, h => by
    rw [List.mapM_cons] at h
    obtain ⟨w, hw, h⟩ := Option.bind_eq_some_iff.mp h
    obtain ⟨ws, hws, h⟩ := Option.bind_eq_some_iff.mp h
    cases h
    rw [rl_key r hw, rls_keys t hws]; rfl
theorem dget_ok {c : Cn} {M : S} {k : Nat} {a : Addr} {y : D} {v : V} {R : Option D → Prop} (A : Ab K c M) (e : c.am[k]? = some a) (ry : Rl K c y v) (h : dget M k y R) :
    ∃ o o', DGet c.H a v o ∧ R o' ∧ o.isSome = o'.isSome ∧ (∀ dd vv, Rl K c dd vv → Rl K c (o'.getD dd) (o.getD vv)) := by
  unfold dget at h
  cases q : M[k]? with
  | none => rw [q] at h; exact h.elim
  | some o =>
    rw [q] at h
    cases o with
    | dK kvs =>
      obtain ⟨key, hk, h⟩ := h
      cases A.at_ k a _ e q with
      | dK ho r =>
        rw [rl_key ry hk]
        exact ⟨_, _, .k ho, h, rkv_isSome r, fun dd vv rd => rkv_opt r rd⟩
    | dT kvs =>
      obtain ⟨l, key, hy, hk, h⟩ := h
      subst hy
      cases A.at_ k a _ e q with
      | dT ho r =>
        cases ry with
        | tup et ok rt =>
          rw [rls_keys rt hk] at et
          exact ⟨_, _, .t ho et, h, rkv_isSome r, fun dd vv rd => rkv_opt r rd⟩
    | _ => exact h.elim
theorem isDict_ok {c : Cn} {M : S} {k : Nat} {a : Addr} (A : Ab K c M) (e : c.am[k]? = some a) (h : isDict M k) : IsD c.H a := by
  rcases h with ⟨kvs, h⟩ | ⟨kvs, h⟩
  · cases A.at_ k a _ e h with
    | dK ho r => exact .inl ⟨_, .of ho⟩
  · cases A.at_ k a _ e h with
    | dT ho r => exact .inr ⟨_, .of ho⟩
def dGet2 (td ty tx : DE) : DE := fun ds M Q => td ds M fun x M1 => ∃ k, x = .h k ∧ isDict M1 k ∧ ty ds M1 fun y M2 => tx ds M2 fun z M3 => dget M3 k y fun o => Q (o.getD z) M3
def dGet1 (td ty : DE) : DE := fun ds M Q => td ds M fun x M1 => ∃ k, x = .h k ∧ isDict M1 k ∧ ty ds M1 fun y M2 => dget M2 k y fun o => Q (o.getD .non) M2
theorem se_get2 {td ty tx : TE} {dd dy dx : DE} (h : SE K td dd) (h2 : SE K ty dy) (h3 : SE K tx dx) : SE K (tDGet2 td ty tx) (dGet2 dd dy dx) := fun σ ds c M hs hA Qd Q q k =>
  h σ ds c M hs hA _ _ q fun x M1 v c1 s1 A1 r1 ⟨j, e, hd, q1⟩ => by
    subst e
    cases r1 with
    | h e =>
      refine ⟨_, rfl, isDict_ok A1 e hd, h2 σ ds c1 M1 (hs.mono s1) A1 _ _ q1 fun y M2 u c2 s2 A2 r2 q2 => h3 σ ds c2 M2 ((hs.mono s1).mono s2) A2 _ _ q2 fun z M3 w c3 s3 A3 r3 q3 => ?_⟩
      obtain ⟨o, o', g, hq, _, hr⟩ := dget_ok A3 (s3.am_get (s2.am_get e)) (r2.mono s3) q3
      exact ⟨o, g, k _ M3 _ c3 ((s1.trans s2).trans s3) A3 (hr z w r3) hq⟩
theorem se_get1 {td ty : TE} {dd dy : DE} (h : SE K td dd) (h2 : SE K ty dy) : SE K (tDGet1 td ty) (dGet1 dd dy) := fun σ ds c M hs hA Qd Q q k =>
  h σ ds c M hs hA _ _ q fun x M1 v c1 s1 A1 r1 ⟨j, e, hd, q1⟩ => by
    subst e
    cases r1 with
    | h e =>
      refine ⟨_, rfl, isDict_ok A1 e hd, h2 σ ds c1 M1 (hs.mono s1) A1 _ _ q1 fun y M2 u c2 s2 A2 r2 q2 => ?_⟩
      obtain ⟨o, o', g, hq, _, hr⟩ := dget_ok A2 (s2.am_get e) r2 q2
      exact ⟨o, g, k _ M2 _ c2 (s1.trans s2) A2 (hr .non .non .non) hq⟩
def dNiD (ty td : DE) : DE := fun ds M Q => ty ds M fun y M1 => td ds M1 fun x M2 => ∃ k, x = .h k ∧ dget M2 k y fun o => Q (.bl (!o.isSome)) M2
def dInD (ty td : DE) : DE := fun ds M Q => ty ds M fun y M1 => td ds M1 fun x M2 => ∃ k, x = .h k ∧ dget M2 k y fun o => Q (.bl o.isSome) M2
theorem se_niD {ty td : TE} {dy dd : DE} (h : SE K ty dy) (h2 : SE K td dd) : SE K (tDNotIn ty td) (dNiD dy dd) := fun σ ds c M hs hA Qd Q q k =>
  h σ ds c M hs hA _ _ q fun y M1 v c1 s1 A1 r1 q1 => h2 σ ds c1 M1 (hs.mono s1) A1 _ _ q1 fun x M2 u c2 s2 A2 r2 ⟨j, e, q2⟩ => by
    subst e
    cases r2 with
    | h e =>
      obtain ⟨o, o', g, hq, hi, _⟩ := dget_ok A2 e (r1.mono s2) q2
      exact ⟨_, o, rfl, g, by rw [hi]; exact k _ M2 _ c2 (s1.trans s2) A2 (.bl _) hq⟩
theorem se_inD {ty td : TE} {dy dd : DE} (h : SE K ty dy) (h2 : SE K td dd) : SE K (tDIn ty td) (dInD dy dd) := fun σ ds c M hs hA Qd Q q k =>
  h σ ds c M hs hA _ _ q fun y M1 v c1 s1 A1 r1 q1 => h2 σ ds c1 M1 (hs.mono s1) A1 _ _ q1 fun x M2 u c2 s2 A2 r2 ⟨j, e, q2⟩ => by
    subst e
    cases r2 with
    | h e =>
      obtain ⟨o, o', g, hq, hi, _⟩ := dget_ok A2 e (r1.mono s2) q2
      exact ⟨_, o, rfl, g, by rw [hi]; exact k _ M2 _ c2 (s1.trans s2) A2 (.bl _) hq⟩
def sPut (td ty tv : DE) : DSt := fun E ds M => tv ds M fun v M1 => td ds M1 fun x M2 => ty ds M2 fun y M3 => ∃ k, x = .h k ∧ dput M3 k y v fun M4 => E.nx ds M4
theorem ss_put {td ty tv : TE} {dd dy dv : DE} (h1 : SE K td dd) (h2 : SE K ty dy) (h3 : SE K tv dv) : SS K (sDPut td ty tv) (sPut dd dy dv) := fun σ ds c M hs hA Dd E q k =>
  h3 σ ds c M hs hA _ _ q fun z M1 w c1 s1 A1 r1 q1 => h1 σ ds c1 M1 (hs.mono s1) A1 _ _ q1 fun x M2 u c2 s2 A2 r2 q2 => h2 σ ds c2 M2 ((hs.mono s1).mono s2) A2 _ _ q2 fun y M3 v c3 s3 A3 r3 ⟨j, e, q3⟩ => by
    subst e
    cases r2 with
    | @h _ a e =>
      have e3 := s3.am_get e
      have m : a ∈ c3.am := List.mem_of_getElem? e3
      have rz := (r1.mono s2).mono s3
      unfold dput at q3
      cases qm : M3[j]? with
      | none => rw [qm] at q3; exact q3.elim
      | some o =>
        rw [qm] at q3
        cases o with
        | dK kvs =>
          obtain ⟨key, hk, hl, q3⟩ := q3
          cases A3.at_ j a _ e3 qm with
          | @dK _ ws ho r =>
            have st : Step c3 ⟨c3.am, c3.hid, upd c3.H a (.dK (putK ws key w))⟩ := Step.write m
            refine ⟨a, _, rfl, by rw [rl_key r3 hk]; exact .k ho (by rw [← rkv_len r]; exact szL hl), ?_⟩
            exact k.nx σ ds ⟨c3.am, c3.hid, upd c3.H a (.dK (putK ws key w))⟩ _ (((s1.trans s2).trans s3).trans st) ((((hs.mono s1).mono s2).mono s3).mono st) (A3.write e3 (.dK upd_same (rkv_pv (rz.mono st) (RKv.mono st r)))) q3
        | dT kvs =>
          obtain ⟨l, key, hy, hk, hl, q3⟩ := q3
          subst hy
          cases A3.at_ j a _ e3 qm with
          | @dT _ ws ho r =>
            cases r3 with
            | tup et ok rt =>
              rw [rls_keys rt hk] at et
              have st : Step c3 ⟨c3.am, c3.hid, upd c3.H a (.dT (putK ws key w))⟩ := Step.write m
              refine ⟨a, _, rfl, .t ho et (by rw [← rkv_len r]; exact szL hl), ?_⟩
              exact k.nx σ ds ⟨c3.am, c3.hid, upd c3.H a (.dT (putK ws key w))⟩ _ (((s1.trans s2).trans s3).trans st) ((((hs.mono s1).mono s2).mono s3).mono st) (A3.write e3 (.dT upd_same (rkv_pv (rz.mono st) (RKv.mono st r)))) q3
        | _ => exact q3.elim
def dPop (td ty : DE) : DE := fun ds M Q => td ds M fun x M1 => ∃ k, x = .h k ∧ isDict M1 k ∧ ty ds M1 fun y M2 => ∃ kvs key d, M2[k]? = some (.dK kvs) ∧ keyOf y = some key ∧ gv kvs key = some d ∧ Q d (M2.set k (.dK (xv kvs key)))
theorem se_pop {td ty : TE} {dd dy : DE} (h : SE K td dd) (h2 : SE K ty dy) : SE K (tDPop1 td ty) (dPop dd dy) := fun σ ds c M hs hA Qd Q q k =>
  h σ ds c M hs hA _ _ q fun x M1 v c1 s1 A1 r1 ⟨j, e, hd, q1⟩ => by
    subst e
    cases r1 with
    | @h _ a e =>
      refine ⟨_, rfl, isDict_ok A1 e hd, h2 σ ds c1 M1 (hs.mono s1) A1 _ _ q1 fun y M2 u c2 s2 A2 r2 ⟨kvs, key, d, em, hk, hg, q2⟩ => ?_⟩
      have e2 := s2.am_get e
      cases A2.at_ _ _ _ e2 em with
      | @dK _ ws ho r =>
        obtain ⟨v, hv, rv⟩ := (rkv_gv (k := key) r).2 d hg
        have st : Step c2 ⟨c2.am, c2.hid, upd c2.H a (.dK (dropK ws key))⟩ := Step.write (List.mem_of_getElem? e2)
        exact ⟨ws, key, v, ho, rl_key r2 hk, hv, k _ _ _ ⟨c2.am, c2.hid, upd c2.H a (.dK (dropK ws key))⟩ ((s1.trans s2).trans st) (A2.write e2 (.dK upd_same (RKv.mono st (rkv_xv r)))) (rv.mono st) q2⟩
def dSetd (td ty tx : DE) : DE := fun ds M Q => td ds M fun x M1 => ∃ k, x = .h k ∧ isDict M1 k ∧ ty ds M1 fun y M2 => tx ds M2 fun z M3 => ∃ kvs key, M3[k]? = some (.dK kvs) ∧ keyOf y = some key ∧ kvs.length < 1000000 ∧
  match gv kvs key with
  | some d => Q d M3
  | none => Q z (M3.set k (.dK (pv kvs key z)))
theorem se_setd {td ty tx : TE} {dd dy dx : DE} (h : SE K td dd) (h2 : SE K ty dy) (h3 : SE K tx dx) : SE K (tDSetd td ty tx) (dSetd dd dy dx) := fun σ ds c M hs hA Qd Q q k =>
  h σ ds c M hs hA _ _ q fun x M1 v c1 s1 A1 r1 ⟨j, e, hd, q1⟩ => by
    subst e
    cases r1 with
    | @h _ a e =>
      refine ⟨_, rfl, isDict_ok A1 e hd, h2 σ ds c1 M1 (hs.mono s1) A1 _ _ q1 fun y M2 u c2 s2 A2 r2 q2 => h3 σ ds c2 M2 ((hs.mono s1).mono s2) A2 _ _ q2 fun z M3 w c3 s3 A3 r3 ⟨kvs, key, em, hk, hl, q3⟩ => ?_⟩
      have e3 := s3.am_get (s2.am_get e)
      cases A3.at_ _ _ _ e3 em with
      | @dK _ ws ho r =>
        obtain ⟨g1, g2⟩ := rkv_gv (k := key) r
        refine ⟨ws, key, ho, rl_key (r2.mono s3) hk, by rw [← rkv_len r]; exact szL hl, fun v hv => ?_, fun hn => ?_⟩
        · cases qg : gv kvs key with
          | none => rw [g1 qg] at hv; cases hv
          | some d =>
            rw [qg] at q3
            obtain ⟨v', hv', rv⟩ := g2 d qg
            rw [hv] at hv'; cases hv'
            exact k d M3 v c3 ((s1.trans s2).trans s3) A3 rv q3
        · cases qg : gv kvs key with
          | some d =>
            obtain ⟨v', hv', _⟩ := g2 d qg
            rw [hn] at hv'; cases hv'
          | none =>
            rw [qg] at q3
            have st : Step c3 ⟨c3.am, c3.hid, upd c3.H a (.dK (putK ws key w))⟩ := Step.write (List.mem_of_getElem? e3)
            exact k z _ w ⟨c3.am, c3.hid, upd c3.H a (.dK (putK ws key w))⟩ (((s1.trans s2).trans s3).trans st) (A3.write e3 (.dK upd_same (rkv_pv (r3.mono st) (RKv.mono st r)))) (r3.mono st) q3
/-- a new dict with text or int keys; with tuples as keys -/
def dNewK : DE := fun _ M Q => Q (.h M.length) (M ++ [.dK []])
def dNewT : DE := fun _ M Q => Q (.h M.length) (M ++ [.dT []])
theorem se_newK : SE K tDNewK dNewK := fun σ ds c M hs hA Qd Q q k p hp => k _ _ _ ⟨c.am ++ [p], c.hid, upd c.H p (.dK [])⟩ (Step.freshH hp) (hA.freshH hp (.dK upd_same .nil)) (.h (am_last _ _ _ hA.len)) q
theorem se_newT : SE K tDNewT dNewT := fun σ ds c M hs hA Qd Q q k p hp => k _ _ _ ⟨c.am ++ [p], c.hid, upd c.H p (.dT [])⟩ (Step.freshH hp) (hA.freshH hp (.dT upd_same .nil)) (.h (am_last _ _ _ hA.len)) q
/-- a dict's truth -/
def dTruD (ta : DE) : DT := fun ds M Q => ta ds M fun x M1 => ∃ k kvs, x = .h k ∧ M1[k]? = some (.dK kvs) ∧ Q (!kvs.isEmpty) M1
theorem st_truD {te : TE} {de : DE} (h : SE K te de) : ST K (fun σ H Q => te σ H fun x H' => ∃ k, TruV K x H' k ∧ Q k H') (dTruD de) := fun σ ds c M hs hA Qd Q q k =>
  h σ ds c M hs hA _ _ q fun x M1 v c1 s1 A1 r1 ⟨j, kvs, e, em, q1⟩ => by
    subst e
    cases r1 with
    | h e =>
      cases A1.at_ _ _ _ e em with
      | dK ho r => exact ⟨_, .inr (.inr ⟨_, ho, rfl⟩), by
          have : ∀ {l : List (Key × D)} {w : List (Key × V)}, RKv K c1 l w → l.isEmpty = w.isEmpty := fun r => by cases r <;> rfl
          rw [← this r]; exact k _ M1 c1 s1 A1 q1⟩
/-- xs.append(e) -/
def dApp (ta te : DE) : DE := fun ds M Q => ta ds M fun x M1 => ∃ k, x = .h k ∧ (∃ l, M1[k]? = some (.lst l)) ∧ te ds M1 fun y M2 => ∃ l, M2[k]? = some (.lst l) ∧ l.length < 1000000 ∧ Q .non (M2.set k (.lst (l ++ [y])))
theorem se_app {ta te : TE} {da de : DE} (h : SE K ta da) (h2 : SE K te de) : SE K (tBM K "list" rAppend ta (tCons te tNil)) (dApp da de) := fun σ ds c M hs hA Qd Q q k =>
  h σ ds c M hs hA _ _ q fun x M1 v c1 s1 A1 r1 ⟨j, e, ⟨l0, em0⟩, q1⟩ => by
    subst e
    cases r1 with
    | @h _ a e =>
      have ht : tyV K "list" (.ref a) c1.H := by
        cases A1.at_ _ _ _ e em0 with
        | lst ho r => exact .inl ⟨rfl, _, .of ho⟩
      refine ⟨ht, h2 σ ds c1 M1 (hs.mono s1) A1 _ _ q1 fun y M2 u c2 s2 A2 r2 ⟨l, em, hl, q2⟩ => ?_⟩
      have e2 := s2.am_get e
      cases A2.at_ _ _ _ e2 em with
      | @lst _ xs ho r =>
        have st : Step c2 ⟨c2.am, c2.hid, upd c2.H a (.lst (xs ++ [u]))⟩ := Step.write (List.mem_of_getElem? e2)
        refine ⟨a, xs, u, rfl, rfl, ho, by rw [← r.length]; exact szL hl, ?_⟩
        exact k _ _ _ ⟨c2.am, c2.hid, upd c2.H a (.lst (xs ++ [u]))⟩ ((s1.trans s2).trans st) (A2.write e2 (.lst upd_same ((r.append (.cons r2 .nil)).mono st))) .non q2
/-- xs[i] = v -/
def gSetL (to ti : DE) (tv : DE) : DSt := fun E ds M => tv ds M fun v M1 => to ds M1 fun o M2 => ti ds M2 fun i M3 => ∃ k l n j, o = .h k ∧ i = .int n ∧ M3[k]? = some (.lst l) ∧ ixN l.length n = some j ∧ E.nx ds (M3.set k (.lst (l.set j v)))
theorem ss_setL {to ti tv : TE} {d1 d2 dv : DE} (h1 : SE K to d1) (h2 : SE K ti d2) (h3 : SE K tv dv) : SS K (tAsg tv (gSub to ti rSetL)) (gSetL d1 d2 dv) := fun σ ds c M hs hA Dd E q k =>
  h3 σ ds c M hs hA _ _ q fun z M1 w c1 s1 A1 r1 q1 => h1 σ ds c1 M1 (hs.mono s1) A1 _ _ q1 fun x M2 u c2 s2 A2 r2 q2 => h2 σ ds c2 M2 ((hs.mono s1).mono s2) A2 _ _ q2 fun y M3 v c3 s3 A3 r3 ⟨j, l, n, i, e, e', em, hi, q3⟩ => by
    subst e e'
    cases r3
    cases r2 with
    | @h _ a e =>
      have e3 := s3.am_get e
      cases A3.at_ _ _ _ e3 em with
      | @lst _ xs ho r =>
        have st : Step c3 ⟨c3.am, c3.hid, upd c3.H a (.lst (xs.set i w))⟩ := Step.write (List.mem_of_getElem? e3)
        refine ⟨a, xs, n, i, rfl, rfl, ho, by rw [← r.length]; exact hi, ?_⟩
        exact k.nx σ ds ⟨c3.am, c3.hid, upd c3.H a (.lst (xs.set i w))⟩ _ (((s1.trans s2).trans s3).trans st) ((((hs.mono s1).mono s2).mono s3).mono st) (A3.write e3 (.lst upd_same (Rls.set ((((r1.mono s2).mono s3)).mono st) i (r.mono st)))) q3
end
section
variable {X : Cx} {o e f value : Expr} {apos cpos pos pos' tpos : Pos} {td ty tx tv : DE}
theorem d_get2 (hu : X.A.units + 1 < cLine) (ho : PD X o td) (he : PD X e ty) (hf : PD X f tx) (m : M2 X o "get" apos e f cpos := by exact ⟨by rfl, by rfl, by rfl, by rfl⟩) : PD X (.Call (.Attribute o "get" apos) [e, f] [] cpos) (dGet2 td ty tx) := let ⟨_, p, s⟩ := ho; let ⟨_, p2, s2⟩ := he; let ⟨_, p3, s3⟩ := hf; ⟨_, pe_dget2 hu p p2 p3 m, se_get2 s s2 s3⟩
theorem d_get1 (hu : X.A.units + 1 < cLine) (ho : PD X o td) (he : PD X e ty) (m : M1 X o "get" apos e cpos := by exact ⟨by rfl, by rfl, by rfl, by rfl⟩) : PD X (.Call (.Attribute o "get" apos) [e] [] cpos) (dGet1 td ty) := let ⟨_, p, s⟩ := ho; let ⟨_, p2, s2⟩ := he; ⟨_, pe_dget1 hu p p2 m, se_get1 s s2⟩
theorem d_pop (ho : PD X o td) (he : PD X e ty) (m : M1 X o "pop" apos e cpos := by exact ⟨by rfl, by rfl, by rfl, by rfl⟩) : PD X (.Call (.Attribute o "pop" apos) [e] [] cpos) (dPop td ty) := let ⟨_, p, s⟩ := ho; let ⟨_, p2, s2⟩ := he; ⟨_, pe_dpop1 p p2 m, se_pop s s2⟩
theorem d_setd (ho : PD X o td) (he : PD X e ty) (hf : PD X f tx) (m : M2 X o "setdefault" apos e f cpos := by exact ⟨by rfl, by rfl, by rfl, by rfl⟩) : PD X (.Call (.Attribute o "setdefault" apos) [e, f] [] cpos) (dSetd td ty tx) := let ⟨_, p, s⟩ := ho; let ⟨_, p2, s2⟩ := he; let ⟨_, p3, s3⟩ := hf; ⟨_, pe_dsetd p p2 p3 m, se_setd s s2 s3⟩
theorem d_niD (hu : X.A.units + 1 < cLine) (he : PD X e ty) (ho : PD X o td) : PDC X .NotIn e o (dNiD ty td) := let ⟨_, p, s⟩ := ho; let ⟨_, p2, s2⟩ := he; ⟨_, pc_dnotin hu p2 p, se_niD s2 s⟩
theorem d_inD (hu : X.A.units + 1 < cLine) (he : PD X e ty) (ho : PD X o td) : PDC X .In e o (dInD ty td) := let ⟨_, p, s⟩ := ho; let ⟨_, p2, s2⟩ := he; ⟨_, pc_din hu p2 p, se_inD s2 s⟩
theorem d_put (hu : X.A.units + 1 < cLine) (ho : PD X o td) (he : PD X e ty) (hv : PD X value tv) (hs : swapsWith value (some (.Subscript o e pos')) pos.line X.env = pure false := by rfl) : PDS X (.Assign [.Subscript o e pos'] value pos) (sPut td ty tv) := let ⟨_, p, s⟩ := ho; let ⟨_, p2, s2⟩ := he; let ⟨_, p3, s3⟩ := hv; ⟨_, ps_dput hu p p2 p3 hs, ss_put s s2 s3⟩
theorem d_newK : PD X (.Dict [] [] pos) dNewK := ⟨_, pe_dnewK, se_newK⟩
theorem d_newT : PD X (.Dict [] [] pos) dNewT := ⟨_, pe_dnewT, se_newT⟩
theorem d_truD (h : PD X e td) (he : ∀ whole, isTrue e X.env whole = (do let v ← whole; standAt e.pos; holding [v] (truthy v)) := by intro _; rfl) : PDT X e (dTruD td) := let ⟨_, p, s⟩ := h; ⟨_, pt_truth p he, st_truD s⟩
theorem d_app (ho : PD X o td) (he : PD X e ty) (hbase : attributeBase o "append" X.env (eval o X.env) = eval o X.env := by rfl)
    (hfew : ((backTo cpos (starEach [e] X.env)).all (fun x => !x.1) && (backToKw cpos (keywordEach [] X.env)).all (fun x => x.1.isSome) && decide (([e] : List Expr).length + ([] : List Keyword).length + (if ([] : List Keyword).isEmpty then 0 else 1) < 30)) = true := by rfl)
    (hline : (apos.endLine == cpos.line) = true := by rfl) (hs : starEach (e :: []) X.env = (false, eval e X.env) :: starEach [] X.env := by rfl) : PD X (.Call (.Attribute o "append" apos) [e] [] cpos) (dApp td ty) :=
  let ⟨_, p, s⟩ := ho; let ⟨_, p2, s2⟩ := he; ⟨_, pe_bm F.plainAttrs_list F.slot_list_append F.type_list_append mt_append p (pa_cons p2 pa_nil hs) hbase hfew hline hs, se_app s s2⟩
theorem d_setL (ho : PD X o td) (he : PD X e ty) (hv : PD X value tv) (hs : swapsWithSole [.Subscript o e pos'] value pos.line X.env = pure false := by rfl) (hw : swappedStores [.Subscript o e pos'] value X.env = pure none := by rfl) (h1 : (assignEach [.Subscript o e pos'] X.env).map (·.2) = [assign (.Subscript o e pos') X.env] := by rfl)
    (ha : ∀ v, assign (.Subscript o e pos') X.env v = (do
      let ov ← holding [v] (eval o X.env)
      let iv ← holding [v, ov] (eval e X.env)
      standAt pos'
      holding [v, ov, iv] (setItem ov iv v)
      release [v, ov, iv] []) := by intro _; rfl) : PDS X (.Assign [.Subscript o e pos'] value pos) (gSetL td ty tv) := let ⟨_, p, s⟩ := ho; let ⟨_, p2, s2⟩ := he; let ⟨_, p3, s3⟩ := hv; ⟨_, ps_asg p3 (pg_sub p p2 set_list ha) hs hw h1, ss_setL s s2 s3⟩
end
end My

set_option Elab.async false
set_option linter.all false
set_option maxRecDepth 100000
set_option maxHeartbeats 4000000
namespace My
open PySem PySem.Spec PyProof.Rows L2

section
variable {K : PySem.W.Frag}
/-- d.get(k, x) of a written dict with ints -/
def dKget (tb : List (Str × Int)) (ty tx : DE) : DE := fun ds M Q => ty ds M fun y M1 => tx ds M1 fun _ M2 => ∃ x n, y = .str x ∧ tb.lookup x = some n ∧ Q (.int n) M2
theorem se_kget {d : Addr} {tb : List (Str × Int)} {ty tx : TE} {dy dx : DE} (hT : ∀ x n, tb.lookup x = some n → ∃ tk, PySem.W.nsIn K d x = some (some (.int n tk))) (h : SE K ty dy) (h2 : SE K tx dx) : SE K (tKGet2 K d ty tx) (dKget tb dy dx) := fun σ ds c M hs hA Qd Q q k =>
  h σ ds c M hs hA _ _ q fun y M1 v c1 s1 A1 r1 q1 => h2 σ ds c1 M1 (hs.mono s1) A1 _ _ q1 fun z M2 w c2 s2 A2 r2 ⟨x, n, e, hl, q2⟩ => by
    subst e
    cases r1
    obtain ⟨tk, ht⟩ := hT x n hl
    exact ⟨x, some (.int n tk), some (.int n), rfl, ht, ⟨tk, rfl⟩, k _ M2 _ c2 (s1.trans s2) A2 (.int n) q2⟩
def oMulS : DR2
  | .str z, .int n, M, Q => z.length ≤ 16 ∧ 0 ≤ n ∧ n ≤ 1000 ∧ Q (.str (Txt.mul z n)) M
  | _, _, _, _ => False
theorem sr_mulS : SR K rMulS oMulS := by
  intro x y v w c M rx ry A Qd Q q k
  cases rx <;> cases ry <;> first | exact q.elim | skip
  exact ⟨_, _, rfl, rfl, q.1, q.2.1, q.2.2.1, k _ M _ c (Step.refl c) A (.str _) q.2.2.2⟩
def oRep : DR2
  | .lst l, .int n, M, Q => 0 ≤ n ∧ n ≤ 1000 ∧ l.length * n.toNat ≤ 1000 ∧ Q (.lst (List.replicate n.toNat l).flatten) M
  | _, _, _, _ => False
theorem Rls.rep {c : Cn} {l : List D} {xs : List V} (r : Rls K c l xs) : ∀ n : Nat, Rls K c (List.replicate n l).flatten (List.replicate n xs).flatten
  | 0 => .nil
  | n + 1 => by rw [List.replicate_succ, List.replicate_succ, List.flatten_cons, List.flatten_cons]; exact r.append (Rls.rep r n)
theorem sr_rep : SR K rRep oRep := by
  intro x y v w c M rx ry A Qd Q q k
  cases rx <;> cases ry <;> first | exact q.elim | skip
  rename_i l xs h n r i
  obtain ⟨h1, h2, h3, q⟩ := q
  refine ⟨_, i, _, rfl, rfl, h, by omega, by omega, by rw [← r.length]; exact szT h3, fun p hp => ?_⟩
  exact k _ M _ ⟨c.am, c.hid, upd c.H p (.lst (List.replicate i.toNat _).flatten)⟩ (Step.fresh hp) (A.fresh hp) (.lst upd_same (A.ok hp) ((r.rep _).mono (Step.fresh hp))) q
/-- x not in l, of any depth -/
def oNiD (x y : D) (M : S) (Q : KD) : Prop := ∃ l, y = .lst l ∧ sh x = true ∧ sh y = true ∧ Q (.bl (!(pys l).any fun z => PyData.eqv z (py x))) M
theorem sr_niD : SR K (rNotInD K) oNiD := by
  intro x y v w c M rx ry A Qd Q ⟨l, e, h1, h2, q⟩ k
  subst e
  exact ⟨py x, pys l, rl_dp x _ rx (sh_plain h1), rl_dp (.lst l) _ ry (sh_plain h2), sh_shaped h1, sh_shaped h2, k _ M _ c (Step.refl c) A (.bl _) q⟩
def oNeOwn (C : Addr) (sp : SpD) (x y : D) (M : S) (Q : KD) : Prop := ∃ i j fs gs, x = .h i ∧ y = .h j ∧ M[i]? = some (.ins C fs) ∧ M[j]? = some (.ins C gs) ∧ sp [x, y] M fun d M' => ∃ k, d = .bl k ∧ Q (.bl (!k)) M'
theorem sr_neOwn {C : Addr} {sp : SpD} : SR K (rNeOwn C (lift K sp)) (oNeOwn C sp) := by
  intro x y v w c M rx ry A Qd Q ⟨i, j, fs, gs, e, e', em, em', q⟩ k
  subst e e'
  obtain ⟨a, e1, ea, o1⟩ := A.h rx em
  obtain ⟨b, e2, eb, o2⟩ := A.h ry em'
  subst e1 e2
  cases o1 with
  | ins h1 r1 =>
    cases o2 with
    | ins h2 r2 =>
      refine ⟨a, _, _, b, _, _, rfl, rfl, h1, h2, lift_go (.cons rx (.cons ry .nil)) A q fun d M' u c' s' A' r' ⟨b, e, q'⟩ => ?_⟩
      subst e
      cases r'
      exact ⟨b, rfl, k _ M' _ c' s' A' (.bl _) q'⟩
def cLenOwn (C : Addr) (sp : SpD) : DRL := fun l M Q => ∃ i fs, l = [.h i] ∧ M[i]? = some (.ins C fs) ∧ sp [.h i] M fun d M' => ∃ n : Int, d = .int n ∧ 0 ≤ n ∧ n < 100000 ∧ Q (.int n) M'
theorem sc_lenOwn {C : Addr} {sp : SpD} : SC K (rLenOwn C (lift K sp)) (cLenOwn C sp) := by
  intro l vs c M rl A Qd Q ⟨i, fs, e, em, q⟩ k
  subst e
  obtain ⟨v, e, rv⟩ := rl.one
  subst e
  obtain ⟨a, e1, ea, o1⟩ := A.h rv em
  subst e1
  cases o1 with
  | ins h1 r1 =>
    refine ⟨a, _, _, rfl, h1, lift_go (.cons rv .nil) A q fun d M' u c' s' A' r' ⟨n, e, h0, hn, q'⟩ => ?_⟩
    subst e
    cases r'
    exact ⟨n, rfl, h0, by omega, k _ M' _ c' s' A' (.int _) q'⟩
/-- repr of a tuple of data -/
def cRepr : DRL := fun l M Q => ∃ m, l = [.tup m] ∧ plain (.tup m) = true ∧ (py (.tup m)).showable = true ∧ (py (.tup m)).hasDict = false ∧ (py (.tup m)).depth ≤ 60 ∧ (py (.tup m)).shown.length ≤ sizeLine ∧ Q (.str (py (.tup m)).shown) M
theorem sc_repr : SC K (rReprD K) cRepr := by
  intro l vs c M rl A Qd Q ⟨m, e, h1, h2, h3, h4, h5, q⟩ k
  subst e
  obtain ⟨v, e, rv⟩ := rl.one
  subst e
  have dp := rl_dp _ _ rv h1
  cases rv with
  | tup h n r => exact ⟨_, _, rfl, dp, h2, h3, h4, h5, k _ M _ c (Step.refl c) A (.str _) q⟩
def uIsC (C : Addr) (x : D) (M : S) (Q : KD) : Prop := ∃ i fs, x = .h i ∧ M[i]? = some (.ins C fs) ∧ Q (.bl true) M
/-- try: body that runs through / finally -/
def dFin (tb tf : DSt) : DSt := fun E ds M => tb { nx := fun ds' M' => tf E ds' M', rt := fun _ _ => False } ds M
end
section
variable {X : Cx} {a b e f : Expr} {es : List Expr} {ta tb tx : DE} {t : DA} {p pos : Pos}
theorem d_kget {d : Addr} {es' : Array DictEntry} {n : Nat} {nm : Str} {np apos cpos : Pos} {tbl : List (Str × Int)} (Dd : KDict X.K X.w d es' n) (hT : ∀ x n, tbl.lookup x = some n → ∃ tk, PySem.W.nsIn X.K d x = some (some (.int n tk))) (hg : Gl X nm) (hm : X.mg nm = some (.ref d)) (he : PD X e ta) (hf : PD X f tx)
    (m : M2 X (.Name nm np) "get" apos e f cpos := by exact ⟨by rfl, by rfl, by rfl, by rfl⟩) (hdb : (nm == ("__debug__" : Str)) = false := by decide) : PD X (.Call (.Attribute (.Name nm np) "get" apos) [e, f] [] cpos) (dKget tbl ta tx) := let ⟨_, p, s⟩ := he; let ⟨_, p2, s2⟩ := hf; ⟨_, pe_kget2 Dd hg hm p p2 m hdb, se_kget hT s s2⟩
theorem d_mulS (ha : PD X a ta) (hb : PD X b tb) : PD X (.BinOp a .Mult b pos) (dOp oMulS ta tb) := d_op op_mulS sr_mulS ha hb
theorem d_rep (ha : PD X a ta) (hb : PD X b tb) : PD X (.BinOp a .Mult b pos) (dOp oRep ta tb) := d_op op_rep sr_rep ha hb
theorem d_niL (hu : X.A.units + 65 < cLine) (ha : PD X a ta) (hb : PD X b tb) (hm : behindInMarks .NotIn b = false := by rfl) : PD X (.Compare a [.NotIn] [b] pos) (dOp oNiD ta tb) := d_cmp (op_notInD hu) sr_niD ha hb hm
theorem d_neOwn {C g : Addr} {n : Nat} {sp : SpD} (hm : PySem.W.mroIn X.K C (.type "object") = some true) (hne : PySem.W.findIn X.K (.ref C) "__ne__" = some (some (.builtin "object.__ne__"))) (heq : PySem.W.findIn X.K (.ref C) "__eq__" = some (some (.ref g)))
    (hf : PySem.W.isFn X.K (.ref g) = true) (F : FnR X.prog X.w X.K X.mg X.base CX0 n g (lift X.K sp)) (hr : Room (n + 1) X.A) (ha : PD X a ta) (hb : PD X b tb) : PD X (.Compare a [.NotEq] [b] pos) (dOp (oNeOwn C sp) ta tb) := d_cmp (op_neOwn hm hne heq hf F hr) sr_neOwn ha hb
theorem d_lenOwn {C g : Addr} {n : Nat} {sp : SpD} (hl : PySem.W.findIn X.K (.ref C) "__len__" = some (some (.ref g))) (hf : PySem.W.isFn X.K (.ref g) = true) (F : FnR X.prog X.w X.K X.mg X.base CX0 n g (lift X.K sp)) (hr : Room (n + 1) X.A)
    (hg : Gl X "len") (hm : X.mg "len" = none) (ha : PDA X [e] t) (he : starEach [e] X.env = (false, eval e X.env) :: starEach [] X.env := by rfl) : PD X (.Call (.Name "len" p) [e] [] pos) (dCB (cLenOwn C sp) t) := d_callB (call_lenOwn hl hf F hr) sc_lenOwn hg hm (by decide +kernel) ha (by decide) (by decide) he
theorem d_repr (hgu : X.A.guards = some []) (hu : X.A.units + 64 < cLine) (hg : Gl X "repr") (hm : X.mg "repr" = none) (ha : PDA X [e] t) (he : starEach [e] X.env = (false, eval e X.env) :: starEach [] X.env := by rfl) : PD X (.Call (.Name "repr" p) [e] [] pos) (dCB cRepr t) := d_callB (call_reprD hgu hu) sc_repr hg hm (by decide +kernel) ha (by decide) (by decide) he
/-- isinstance(x, C), x an instance of C -/
theorem d_isC {C : Addr} {T : Str} {p2 : Pos} (c : C8.InsC X.K C) (hg : Gl X "isinstance") (hm : X.mg "isinstance" = none) (hgT : Gl X T) (hmT : X.mg T = some (.ref C)) (he : PD X e ta) (hdb : (T == ("__debug__" : Str)) = false := by decide)
    (h1 : starEach [e, .Name T p2] X.env = (false, eval e X.env) :: starEach [.Name T p2] X.env := by rfl) (h2 : starEach [.Name T p2] X.env = (false, eval (.Name T p2) X.env) :: starEach [] X.env := by rfl) (hpl : (backTo pos (starEach [.Name T p2] X.env)).any (·.1) = false := by rfl) :
    PD X (.Call (.Name "isinstance" p) [e, .Name T p2] [] pos) (dUn (uIsC C) ta) := by
  obtain ⟨te, pe, se⟩ := he
  refine ⟨_, pe_callB (C8.call_isC c) hg hm PyProof.Rows.boot_isinstance (pa_cons pe (pa_cons (pe_glob hgT hmT (v := .ref C) rfl hdb) pa_nil h2) h1) (by decide) (by decide) h1 hpl, fun σ ds c M hs hA Qd Q q k => se σ ds c M hs hA _ _ q fun x M1 v c1 s1 A1 r1 ⟨i, fs, e, em, q1⟩ => ?_⟩
  subst e
  obtain ⟨a, e1, ea, o1⟩ := A1.h r1 em
  subst e1
  cases o1 with
  | ins h1 _ => exact ⟨a, _, _, rfl, h1, k _ M1 _ c1 s1 A1 (.bl _) q1⟩
/-- isinstance(x, (list, tuple)), x a list -/
theorem d_isLT {p1 p2 p3 : Pos} {kk : Nat} (hg : Gl X "isinstance") (hm : X.mg "isinstance" = none) (hg1 : Gl X "list") (hm1 : X.mg "list" = none) (hg2 : Gl X "tuple") (hm2 : X.mg "tuple" = none) (he : PD X e ta)
    (h1 : starEach [e, .Tuple [.Name "list" p1, .Name "tuple" p2] kk p3] X.env = (false, eval e X.env) :: starEach [.Tuple [.Name "list" p1, .Name "tuple" p2] kk p3] X.env := by rfl)
    (h2 : starEach [.Tuple [.Name "list" p1, .Name "tuple" p2] kk p3] X.env = (false, eval (.Tuple [.Name "list" p1, .Name "tuple" p2] kk p3) X.env) :: starEach [] X.env := by rfl)
    (h3 : starEach [.Name "list" p1, .Name "tuple" p2] X.env = (false, eval (.Name "list" p1) X.env) :: starEach [.Name "tuple" p2] X.env := by rfl) (h4 : starEach [.Name "tuple" p2] X.env = (false, eval (.Name "tuple" p2) X.env) :: starEach [] X.env := by rfl)
    (hpl : (backTo pos (starEach [.Tuple [.Name "list" p1, .Name "tuple" p2] kk p3] X.env)).any (·.1) = false := by rfl) :
    PD X (.Call (.Name "isinstance" p) [e, .Tuple [.Name "list" p1, .Name "tuple" p2] kk p3] [] pos) (dUn uIsLT ta) := by
  obtain ⟨te, pe, se⟩ := he
  refine ⟨_, pe_callB call_isiT hg hm PyProof.Rows.boot_isinstance (pa_cons pe (pa_cons (pe_tup (pa_cons (pe_bltn hg1 hm1 (by decide +kernel) (v := .ty "list") rfl) (pa_cons (pe_bltn hg2 hm2 (by decide +kernel) (v := .ty "tuple") rfl) pa_nil h4) h3)) pa_nil h2) h1) (by decide) (by decide) h1 hpl,
    fun σ ds c M hs hA Qd Q q k => se σ ds c M hs hA _ _ q fun x M1 v c1 s1 A1 r1 ⟨l, e, q1⟩ => ?_⟩
  subst e
  cases r1 with
  | @lst a _ xs ho ok r =>
    refine ⟨szT (by simp), fun p hp => ?_⟩
    have hn : a ≠ p := fun z => by subst z; rw [ho] at hp; cases hp
    refine ⟨.ref a, p, [.ty "list", .ty "tuple"], .type "list", [.type "list", .type "tuple"], true, rfl, upd_same, .cons (.ty _) (.cons (.ty _) .nil), .base (.lst (by rw [upd_ne hn]; exact ho)), ?_, ?_⟩
    · exact kitAny_cons (b := true) (kit_ty (by decide +kernel)) (fun z => nomatch z) fun _ => rfl
    · exact k _ M1 _ ⟨c1.am, c1.hid, upd c1.H p (.tup [.ty "list", .ty "tuple"])⟩ (s1.trans (Step.fresh hp)) (A1.fresh hp) (.bl _) q1
theorem d_fin {body fs : List Stmt} {f₀ : Stmt} {db df : DSt} (hb : PDSs X.nox body db) (hf : PDSs X.nox (f₀ :: fs) df) : PDS X.nox (.Try body [] [] (f₀ :: fs) pos) (dFin db df) := by
  obtain ⟨ts, p1, s1⟩ := hb
  obtain ⟨us, p2, s2⟩ := hf
  refine ⟨fun E σ H => ts { nx := fun σ1 H1 => us E σ1 H1, rt := fun _ _ => False } σ H, ⟨fun pins s σ H E I h => ?_⟩, fun σ ds c M hs hA Dd E q k => ?_⟩
  · refine wpAny_Try_finally ?_
    refine wpAny_mono (p1.run pins s σ H { nx := fun σ1 H1 => us E σ1 H1, rt := fun _ _ => False } I h) (fun g s1 z => ?_) (fun x s1 hx => False.elim hx)
    cases g with
    | ret u => obtain ⟨_, _, _, _, _, q⟩ := z; exact False.elim q
    | brk => obtain ⟨_, _, _, q⟩ := z; exact False.elim q
    | cont => obtain ⟨_, _, _, q⟩ := z; exact False.elim q
    | next =>
      obtain ⟨σ1, H1, J1, q1⟩ := z
      refine wpAny_execs_nil ?_
      refine wpAny_mono (p2.run pins s1 σ1 H1 E J1 q1) (fun g2 s2 q2 => ?_) fun _ _ e => False.elim e
      cases g2 <;> exact q2
  · exact s1 σ ds c M hs hA _ _ q ⟨fun σ' ds' c' M' st hs' A' q' => s2 σ' ds' c' M' hs' A' Dd E q' (k.step st), fun _ _ _ _ _ _ _ z => False.elim z, fun _ _ _ _ _ _ _ z => False.elim z, fun _ _ _ _ _ _ _ z => False.elim z⟩
end
end My

set_option Elab.async false
set_option linter.all false
set_option maxRecDepth 100000
set_option maxHeartbeats 4000000
namespace My
open PySem PySem.Spec PyProof.Rows L2
theorem _root_.L2.Room.u1 {k : Nat} {A : Around} (r : Room k A) : A.units + 1 < cLine := by have := r.un; omega
theorem _root_.L2.Room.u65 {k : Nat} {A : Around} (r : Room k A) : A.units + 65 < cLine := by have := r.un; omega
section
variable {X : Cx} {a b e : Expr} {es : List Expr} {ta tb tc : DE} {t : DA} {p pos : Pos}
theorem dt_lt (ha : PD X a ta) (hb : PD X b tb) : PDT X (.Compare a [.Lt] [b] pos) (dTest (dOp oLt ta tb)) := d_tcmp op_ltA sr_C ha hb
theorem dt_le (ha : PD X a ta) (hb : PD X b tb) : PDT X (.Compare a [.LtE] [b] pos) (dTest (dOp oLe ta tb)) := d_tcmp op_leA sr_C ha hb
theorem dt_gt (ha : PD X a ta) (hb : PD X b tb) : PDT X (.Compare a [.Gt] [b] pos) (dTest (dOp oGt ta tb)) := d_tcmp op_gtA sr_C ha hb
theorem dt_ge (ha : PD X a ta) (hb : PD X b tb) : PDT X (.Compare a [.GtE] [b] pos) (dTest (dOp oGe ta tb)) := d_tcmp op_geA sr_C ha hb
theorem dt_eq (hu : X.A.units + 64 < cLine) (ha : PD X a ta) (hb : PD X b tb) : PDT X (.Compare a [.Eq] [b] pos) (dTest (dOp oEq ta tb)) := d_tcmp (op_eq.or (op_eqD hu)) ((sr_eqS.or sr_eqG).imp oEq_or) ha hb
theorem dt_ne (hu : X.A.units + 64 < cLine) (ha : PD X a ta) (hb : PD X b tb) : PDT X (.Compare a [.NotEq] [b] pos) (dTest (dOp oNe ta tb)) := d_tcmp (op_ne.or (op_neD hu)) ((sr_neS.or sr_neG).imp oNe_or) ha hb
theorem dt_in (ha : PD X a ta) (hb : PD X b tb) (hm : behindInMarks .In b = false := by rfl) : PDT X (.Compare a [.In] [b] pos) (dTest (dOp (oIn false) ta tb)) := d_tcmp op_inA (sr_in false) ha hb hm
theorem dt_ni (ha : PD X a ta) (hb : PD X b tb) (hm : behindInMarks .NotIn b = false := by rfl) : PDT X (.Compare a [.NotIn] [b] pos) (dTest (dOp (oIn true) ta tb)) := d_tcmp op_niA (sr_in true) ha hb hm
theorem dt_neOwn {C g : Addr} {n : Nat} {sp : SpD} (hm : PySem.W.mroIn X.K C (.type "object") = some true) (hne : PySem.W.findIn X.K (.ref C) "__ne__" = some (some (.builtin "object.__ne__"))) (heq : PySem.W.findIn X.K (.ref C) "__eq__" = some (some (.ref g)))
    (hf : PySem.W.isFn X.K (.ref g) = true) (F : FnR X.prog X.w X.K X.mg X.base CX0 n g (lift X.K sp)) (hr : Room (n + 1) X.A) (ha : PD X a ta) (hb : PD X b tb) : PDT X (.Compare a [.NotEq] [b] pos) (dTest (dOp (oNeOwn C sp) ta tb)) := d_tcmp (op_neOwn hm hne heq hf F hr) sr_neOwn ha hb
def dTChain (r r' : DR2) (ta tb tc : DE) : DT := dTest (dChain r r' ta tb tc)
theorem dt_lele {c : Expr} (ha : PD X a ta) (hb : PD X b tb) (hc : PD X c tc) (hm : lastMarks [.LtE, .LtE] [b, c] = false := by with_unfolding_all rfl) : PDT X (.Compare a [.LtE, .LtE] [b, c] pos) (dTest (dChain oLe oLe ta tb tc)) :=
  let ⟨_, p, s⟩ := ha; let ⟨_, p1, s1⟩ := hb; let ⟨_, p2, s2⟩ := hc; ⟨_, pt_chain op_leA op_leA p p1 p2 hm, st_test (se_chain sr_C sr_C s s1 s2)⟩
/-- over a text's signs -/
def sgD (z : Str) : List D := z.cps.toList.map fun c => .str ⟨#[c]⟩
def diStr (te : DE) : DI := fun ds M R => te ds M fun d M1 => ∃ z, d = .str z ∧ R (sgD z) (fun _ => True) M1
theorem sgD_len (z : Str) : (sgD z).length = z.cps.size := by simp [sgD]
theorem si_str {K : PySem.W.Frag} {te : TE} {de : DE} (h : SE K te de) : SI K (iStr te) (diStr de) := fun σ ds c M hs hA Rd R q k => h σ ds c M hs hA _ _ q fun d M1 v c1 s1 A1 r1 ⟨z, e, q1⟩ => by
  subst e
  cases r1
  refine ⟨z, rfl, k _ _ M1 c1 _ (fun _ => True) s1 A1 ⟨fun _ _ _ _ => trivial, fun c M _ _ _ => ?_, fun i c M hi _ _ _ => ?_, fun i c M x H' hi _ A _ y => ?_⟩ trivial q1⟩
  · show z.cps.size ≤ (sgD z).length; rw [sgD_len]; exact Nat.le_refl _
  · show i < z.cps.size; rw [← sgD_len]; exact hi
  · obtain ⟨eH, ch, hc, ev⟩ := y
    subst ev
    refine ⟨c, .str ⟨#[ch]⟩, eH.symm, Step.refl c, A, ?_, .str _⟩
    have h2 : z.cps.toList[i]? = some ch := by rw [Array.getElem?_toList]; exact hc
    rw [sgD, List.getElem?_map, h2]; rfl
theorem di_str {tg : Expr} (h : PD X e ta) : PDI X tg e (diStr ta) := let ⟨_, p, s⟩ := h; ⟨_, pi_str p, si_str s⟩
end
end My
namespace My
open PySem PySem.Spec PyProof.Rows L2
/-- a, b, .. = a list of the store -/
def dAsgL (te : DE) (n : Nat) (gs : DGs) : DSt := fun E ds M => te ds M fun d M1 => ∃ k l, d = .h k ∧ M1[k]? = some (.lst l) ∧ l.length = n ∧ gs l ds fun ds' => E.nx ds' M1
theorem ss_asgL {K : PySem.W.Frag} {te : TE} {de : DE} {n : Nat} {gs : TGs} {gds : DGs} {ix : List Nat} (h : SE K te de) (hg : SGs K gs gds ix) : SS K (tAsg te (gLst K n gs)) (dAsgL de n gds) := fun σ ds c M hs hA Dd E q k =>
  h σ ds c M hs hA _ _ q fun d M1 v c1 s1 A1 r1 ⟨j, l, e, em, hl, q1⟩ => by
    subst e
    obtain ⟨a, e, ea, o⟩ := A1.h r1 em
    subst e
    cases o with
    | lst ho r => exact ⟨a, _, rfl, .of ho, by rw [← r.length]; exact hl, hg _ l σ ds c1 (hs.mono s1) r _ _ q1 fun σ' ds' hs' _ q2 => k.nx σ' ds' c1 M1 s1 hs' A1 q2⟩
theorem d_asgL {X : Cx} {pos p2 : Pos} {e : Expr} {es : List Expr} {k n : Nat} {te : DE} {gs : DGs} {ix : List Nat} (hc : X.calm = true) (he : PD X e te) (hg : PDGs X es gs ix) (hn : (assignEach es X.env).length = n := by rfl) (hst : (assignEach es X.env).findIdx? (·.1) = none := by rfl)
    (hs : swapsWithSole [.Tuple es k p2] e pos.line X.env = pure false := by rfl) (hw : swappedStores [.Tuple es k p2] e X.env = pure none := by rfl) (h1 : (assignEach [.Tuple es k p2] X.env).map (·.2) = [assign (.Tuple es k p2) X.env] := by rfl) : PDS X (.Assign [.Tuple es k p2] e pos) (dAsgL te n gs) :=
  let ⟨_, p, s⟩ := he; let ⟨_, p2, s2⟩ := hg; ⟨_, ps_asg p (pg_lst hc p2 hn hst) hs hw h1, ss_asgL s s2⟩
end My

set_option Elab.async false
set_option linter.all false
set_option maxRecDepth 100000
set_option maxHeartbeats 4000000
namespace My
open PySem PySem.Spec PyProof.Rows L2
theorem CFn.mono {P : Program} {w : World} {K : PySem.W.Frag} {mg : Str → Option Value} {base : Heap} {j k : Nat} {C : Addr} {x : Str} {sp : Sp} (F : CFn P w K mg base j C x sp) (h : j ≤ k) : CFn P w K mg base k C x sp := let ⟨f, a, b, c⟩ := F; ⟨f, a, b, c.mono h⟩
/-- a def whose one keyword-only parameter is left to its default None -/
theorem okDk {P : Program} {w : World} {K : PySem.W.Frag} {mg : Str → Option Value} {base : Heap} {x qual : Str} {params : Arguments} {body : List Stmt} {scope : Scope} {f : Addr} {fd : FuncData} {N ps : List Str} {kws : List (Str × V)} {k : Nat} {sp : SpD} {t : DSt} (F : FunD K x qual params body scope [] kws f fd) (Sc : FnScope N ps scope)
    (hb : ∃ us, Vals [V.non] us ∧ Binds K fd ps us) (hbody : ∀ (cdv : Value) (A : Around) (outer : List Env) (s : Shared) (H : Hp) (E : XK), Room k (A.deeper (envOfC qual scope s.heap.objs.size f cdv)) → PDSs (cxOf CX0 P w K mg base N qual scope f cdv A outer s H E).nox body t)
    (hread : ∀ l M Qd, sp l M Qd → l.length = ps.length ∧ t { nx := fun _ M' => Qd .non M', rt := Qd } (startD N l) M) : FnR P w K mg base CX0 (k + 1) f (lift K fun l M Q => sp (l ++ [.non]) M Q) := by
  obtain ⟨us, rv, hb⟩ := hb
  have G := F.ok (P := P) (w := w) (mg := mg) (base := base) (CX := CX0) (k := k) (sp := lift K sp) Sc (fun vs H Q E ⟨l, c, M, Qd, eH, r, A, h, q⟩ => by rw [← r.length]; exact (hread l M Qd h).1) fun cdv A outer s H vs Q E hr h => by
    obtain ⟨ts, p, st⟩ := hbody cdv A outer s H E hr
    obtain ⟨l, c, M, Qd, eH, r, Ab', h, q⟩ := h
    subst eH
    exact ⟨ts, p.nox, st (L2.start N vs) (startD N l) c M (rls_some r N) Ab' _ _ (hread l M Qd h).2 ⟨fun σ ds c' M' s' hs' A' q' => q _ M' _ c' s' A' .non q', fun _ _ _ _ _ _ _ z => False.elim z, fun _ _ _ _ _ _ _ z => False.elim z, fun v d c' M' s' r' A' q' => q d M' v c' s' A' r' q'⟩⟩
  exact (G.raw hb rv).imp fun vs H Q E ⟨l, c, M, Qd, eH, r, A, h, q⟩ => ⟨l ++ [.non], c, M, Qd, eH, r.append (.cons .non .nil), A, h, q⟩
end My

set_option Elab.async false
set_option linter.all false
set_option maxRecDepth 100000
set_option maxHeartbeats 4000000
namespace My
open PySem PySem.Spec PyProof.Rows L2

/-! ### loops and comprehensions, by a word of the turn -/
theorem forD_ind {g : DG} {tb : DSt} {pd : S → Prop} {E : DEnds} {items : List D} {ds : DS} {M : S} (Inv : Nat → DS → S → Prop) (h0 : Inv 0 ds M)
    (step : ∀ i x ds M (K : DS → S → Prop), items[i]? = some x → Inv i ds M → (∀ ds' M', Inv (i + 1) ds' M' → K ds' M') → pd M ∧ g x ds fun ds2 => tb { E with nx := K, ct := K, bk := E.nx } ds2 M)
    (done : ∀ ds M, Inv items.length ds M → pd M ∧ E.nx ds M) : forD g tb pd E items ds M := by
  have : ∀ (n : Nat) (i : Nat), n = items.length - i → i ≤ items.length → ∀ ds M, Inv i ds M → forD g tb pd E (items.drop i) ds M := by
    intro n
    induction n with
    | zero =>
      intro i hn hi ds M h
      have e : i = items.length := by omega
      subst e
      rw [List.drop_length]
      exact done ds M h
    | succ n ih =>
      intro i hn hi ds M h
      have hlt : i < items.length := by omega
      have hd : items.drop i = items[i] :: items.drop (i + 1) := (List.getElem_cons_drop ..).symm
      rw [hd]
      exact step i _ ds M _ (List.getElem?_eq_getElem hlt) h fun ds' M' h' => ih (i + 1) (by omega) hlt ds' M' h'
  exact this _ 0 rfl (Nat.zero_le _) ds M h0
theorem for_map {α : Type} {f : α → D} {l : List α} {g : DG} {tb : DSt} {pd : S → Prop} {E : DEnds} {ds : DS} {M : S} (Inv : Nat → DS → S → Prop) (h0 : Inv 0 ds M)
    (step : ∀ i a ds M (K : DS → S → Prop), l[i]? = some a → Inv i ds M → (∀ ds' M', Inv (i + 1) ds' M' → K ds' M') → pd M ∧ g (f a) ds fun ds2 => tb { E with nx := K, ct := K, bk := E.nx } ds2 M)
    (done : ∀ ds M, Inv l.length ds M → pd M ∧ E.nx ds M) : forD g tb pd E (l.map f) ds M := by
  refine forD_ind Inv h0 (fun i x ds M K hx h k => ?_) (fun ds M h => done ds M (by rw [List.length_map] at h; exact h))
  rw [List.getElem?_map] at hx
  obtain ⟨a, ha, e⟩ := Option.map_eq_some_iff.mp hx
  subst e
  exact step i a ds M K ha h k
theorem enD_inv : ∀ (n : Nat) (l : List D) (i : Nat) (x : D), (enD n l)[i]? = some x → ∃ d, l[i]? = some d ∧ x = .tup [.int ((n + i : Nat) : Int), d] := fun n l i x h => by
  cases q : l[i]? with
  | none =>
    have h1 := List.getElem?_eq_none_iff.mp q
    rw [List.getElem?_eq_none (by rw [enD_len]; exact h1)] at h
    cases h
  | some d =>
    rw [enD_get n l i d q] at h
    cases h
    exact ⟨d, rfl, rfl⟩
theorem for_en {α : Type} {f : α → D} {l : List α} {g : DG} {tb : DSt} {pd : S → Prop} {E : DEnds} {ds : DS} {M : S} (Inv : Nat → DS → S → Prop) (h0 : Inv 0 ds M)
    (step : ∀ i a ds M (K : DS → S → Prop), l[i]? = some a → Inv i ds M → (∀ ds' M', Inv (i + 1) ds' M' → K ds' M') → pd M ∧ g (.tup [.int (i : Nat), f a]) ds fun ds2 => tb { E with nx := K, ct := K, bk := E.nx } ds2 M)
    (done : ∀ ds M, Inv l.length ds M → pd M ∧ E.nx ds M) : forD g tb pd E (enD 0 (l.map f)) ds M := by
  refine forD_ind Inv h0 (fun i x ds M K hx h k => ?_) (fun ds M h => done ds M (by rw [enD_len, List.length_map] at h; exact h))
  obtain ⟨d, hd, e⟩ := enD_inv 0 _ i x hx
  subst e
  rw [List.getElem?_map] at hd
  obtain ⟨a, ha, e⟩ := Option.map_eq_some_iff.mp hd
  subst e
  rw [Nat.zero_add]
  exact step i a ds M K ha h k
theorem for_rngD {lo : Int} {n : Nat} {g : DG} {tb : DSt} {pd : S → Prop} {E : DEnds} {ds : DS} {M : S} (Inv : Nat → DS → S → Prop) (h0 : Inv 0 ds M)
    (step : ∀ i ds M (K : DS → S → Prop), i < n → Inv i ds M → (∀ ds' M', Inv (i + 1) ds' M' → K ds' M') → pd M ∧ g (.int (lo + (i : Nat))) ds fun ds2 => tb { E with nx := K, ct := K, bk := E.nx } ds2 M)
    (done : ∀ ds M, Inv n ds M → pd M ∧ E.nx ds M) : forD g tb pd E (rngD lo n) ds M := by
  refine forD_ind Inv h0 (fun i x ds M K hx h k => ?_) (fun ds M h => done ds M (by rw [rngD_len] at h; exact h))
  have hi : i < n := by have := (List.getElem?_eq_some_iff.mp hx).1; rw [rngD_len] at this; exact this
  simp [rngD, hi] at hx
  subst hx
  exact step i ds M K hi h k
theorem lcF_ind {g : DG} {tt : DT} {te : DE} {pd : S → Prop} {ds : DS} {F : List D → S → Prop} {items : List D} {M : S} (Inv : Nat → List D → S → Prop) (h0 : Inv 0 [] M)
    (step : ∀ i x acc M (K : List D → S → Prop), items[i]? = some x → Inv i acc M → (∀ acc' M', Inv (i + 1) acc' M' → K acc' M') → pd M ∧ acc.length < 1000 ∧ g x ds fun ds2 => tt ds2 M fun b M1 => if b = true then te ds2 M1 fun y M2 => K (acc ++ [y]) M2 else K acc M1)
    (done : ∀ acc M, Inv items.length acc M → pd M ∧ F acc M) : lcF g tt te pd ds F items [] M := by
  have : ∀ (n : Nat) (i : Nat), n = items.length - i → i ≤ items.length → ∀ acc M, Inv i acc M → lcF g tt te pd ds F (items.drop i) acc M := by
    intro n
    induction n with
    | zero =>
      intro i hn hi acc M h
      have e : i = items.length := by omega
      subst e
      rw [List.drop_length]
      exact done acc M h
    | succ n ih =>
      intro i hn hi acc M h
      have hlt : i < items.length := by omega
      have hd : items.drop i = items[i] :: items.drop (i + 1) := (List.getElem_cons_drop ..).symm
      rw [hd]
      exact step i _ acc M (fun acc' M' => lcF g tt te pd ds F (items.drop (i + 1)) acc' M') (List.getElem?_eq_getElem hlt) h fun acc' M' h' => ih (i + 1) (by omega) hlt acc' M' h'
  exact this _ 0 rfl (Nat.zero_le _) [] M h0
theorem lcD_ind {g : DG} {tt : DT} {te : DE} {pd : S → Prop} {ds : DS} {Q : KD} {items : List D} {M : S} (Inv : Nat → List D → S → Prop) (h0 : Inv 0 [] M)
    (step : ∀ i x acc M (K : List D → S → Prop), items[i]? = some x → Inv i acc M → (∀ acc' M', Inv (i + 1) acc' M' → K acc' M') → pd M ∧ acc.length < 1000 ∧ g x ds fun ds2 => tt ds2 M fun b M1 => if b = true then te ds2 M1 fun y M2 => K (acc ++ [y]) M2 else K acc M1)
    (done : ∀ acc M, Inv items.length acc M → pd M ∧ Q (.lst acc) M) : lcD g tt te pd ds Q items [] M := lcF_ind Inv h0 step done
theorem lcF_map {α : Type} {f : α → D} {l : List α} {g : DG} {tt : DT} {te : DE} {pd : S → Prop} {ds : DS} {F : List D → S → Prop} {M : S} (Inv : Nat → List D → S → Prop) (h0 : Inv 0 [] M)
    (step : ∀ i a acc M (K : List D → S → Prop), l[i]? = some a → Inv i acc M → (∀ acc' M', Inv (i + 1) acc' M' → K acc' M') → pd M ∧ acc.length < 1000 ∧ g (f a) ds fun ds2 => tt ds2 M fun b M1 => if b = true then te ds2 M1 fun y M2 => K (acc ++ [y]) M2 else K acc M1)
    (done : ∀ acc M, Inv l.length acc M → pd M ∧ F acc M) : lcF g tt te pd ds F (l.map f) [] M := by
  refine lcF_ind Inv h0 (fun i x acc M K hx h k => ?_) (fun ds M h => done ds M (by rw [List.length_map] at h; exact h))
  rw [List.getElem?_map] at hx
  obtain ⟨a, ha, e⟩ := Option.map_eq_some_iff.mp hx
  subst e
  exact step i a acc M K ha h k
theorem lc_map {α : Type} {f : α → D} {l : List α} {g : DG} {tt : DT} {te : DE} {pd : S → Prop} {ds : DS} {Q : KD} {M : S} (Inv : Nat → List D → S → Prop) (h0 : Inv 0 [] M)
    (step : ∀ i a acc M (K : List D → S → Prop), l[i]? = some a → Inv i acc M → (∀ acc' M', Inv (i + 1) acc' M' → K acc' M') → pd M ∧ acc.length < 1000 ∧ g (f a) ds fun ds2 => tt ds2 M fun b M1 => if b = true then te ds2 M1 fun y M2 => K (acc ++ [y]) M2 else K acc M1)
    (done : ∀ acc M, Inv l.length acc M → pd M ∧ Q (.lst acc) M) : lcD g tt te pd ds Q (l.map f) [] M := by
  refine lcD_ind Inv h0 (fun i x acc M K hx h k => ?_) (fun ds M h => done ds M (by rw [List.length_map] at h; exact h))
  rw [List.getElem?_map] at hx
  obtain ⟨a, ha, e⟩ := Option.map_eq_some_iff.mp hx
  subst e
  exact step i a acc M K ha h k
theorem lc_rngD {lo : Int} {n : Nat} {g : DG} {tt : DT} {te : DE} {pd : S → Prop} {ds : DS} {Q : KD} {M : S} (Inv : Nat → List D → S → Prop) (h0 : Inv 0 [] M)
    (step : ∀ i acc M (K : List D → S → Prop), i < n → Inv i acc M → (∀ acc' M', Inv (i + 1) acc' M' → K acc' M') → pd M ∧ acc.length < 1000 ∧ g (.int (lo + (i : Nat))) ds fun ds2 => tt ds2 M fun b M1 => if b = true then te ds2 M1 fun y M2 => K (acc ++ [y]) M2 else K acc M1)
    (done : ∀ acc M, Inv n acc M → pd M ∧ Q (.lst acc) M) : lcD g tt te pd ds Q (rngD lo n) [] M := by
  refine lcD_ind Inv h0 (fun i x acc M K hx h k => ?_) (fun ds M h => done ds M (by rw [rngD_len] at h; exact h))
  have hi : i < n := by have := (List.getElem?_eq_some_iff.mp hx).1; rw [rngD_len] at this; exact this
  simp [rngD, hi] at hx
  subst hx
  exact step i acc M K hi h k

theorem oIx_tup {l : List D} {i : Int} {M : S} {Q : KD} : oIx (.tup l) (.int i) M Q ↔ ∃ d, atI l i = some d ∧ Q d M := ⟨fun ⟨_, e, h⟩ => by cases e; exact h, fun h => ⟨i, rfl, h⟩⟩
theorem oIx_lst {l : List D} {i : Int} {M : S} {Q : KD} : oIx (.lst l) (.int i) M Q ↔ ∃ d, atI l i = some d ∧ Q d M := ⟨fun ⟨_, e, h⟩ => by cases e; exact h, fun h => ⟨i, rfl, h⟩⟩
theorem oIx_h {k : Nat} {i : Int} {M : S} {Q : KD} : oIx (.h k) (.int i) M Q ↔ ∃ l d, M[k]? = some (.lst l) ∧ atI l i = some d ∧ Q d M := ⟨fun ⟨_, e, h⟩ => by cases e; exact h, fun h => ⟨i, rfl, h⟩⟩
theorem oIx_str {z : Str} {i : Int} {M : S} {Q : KD} : oIx (.str z) (.int i) M Q ↔ (z.length ≤ 100000 ∧ ∃ c, atI z.cps.toList i = some c ∧ Q (.str ⟨#[c]⟩) M) := ⟨fun ⟨_, e, h⟩ => by cases e; exact h, fun h => ⟨i, rfl, h⟩⟩
theorem oSl_tup {lo hi : Option Int} {l : List D} {M : S} {Q : KD} : oSl lo hi (.tup l) M Q = Q (.tup (cut l lo hi)) M := rfl
theorem oSl_lst {lo hi : Option Int} {l : List D} {M : S} {Q : KD} : oSl lo hi (.lst l) M Q = Q (.lst (cut l lo hi)) M := rfl
theorem oSl_scr {lo hi : Option Int} {l : List Int} {M : S} {Q : KD} : oSl lo hi (.scr l) M Q = Q (.lst ((cut l lo hi).map .int)) M := rfl
theorem oSl_str {lo hi : Option Int} {z : Str} {M : S} {Q : KD} : oSl lo hi (.str z) M Q = (z.length ≤ 100000 ∧ Q (.str (cutS z lo hi)) M) := rfl
/-! ### the worlds as data -/
structure Src where
  kind : Str
  age : Int
  place : Int
  since : Int
  many : Int
structure Prt where
  kind : Str
  lo : Int
  hi : Int
structure Way where
  kind : Str
  parts : List Prt
  keeps : Str
  hours : List Int
  wait : Int
structure Wld where
  size : Int
  kinds : List Str
  srcs : List Src
  ways : List Way
def Src.d (s : Src) : D := .tup [.str s.kind, .int s.age, .int s.place, .int s.since, .int s.many]
def Prt.d (s : Prt) : D := .tup [.str s.kind, .int s.lo, .int s.hi]
def Way.d (s : Way) : D := .tup [.str s.kind, .tup (s.parts.map Prt.d), .str s.keeps, .tup (s.hours.map .int), .int s.wait]
def kindsD (l : List Str) : D := .tup (l.map .str)
def Wld.d (s : Wld) : D := .tup [.int s.size, kindsD s.kinds, .tup (s.srcs.map Src.d), .tup (s.ways.map Way.d)]
def letters : Str := "abcdefghijklmnopqrstuvwxyz"
def nameOk (s : Str) : Bool := decide (1 ≤ s.length) && decide (s.length ≤ 8) && s.cps.toList.all fun c => decide (c ∈ letters.cps.toList)
def inR (lo i hi : Int) : Bool := decide (lo ≤ i) && decide (i ≤ hi)
structure OkK (l : List Str) : Prop where
  len : 1 ≤ l.length ∧ l.length ≤ 4
  name : ∀ s ∈ l, nameOk s = true
  ord : ∀ i a b, l[i]? = some a → l[i + 1]? = some b → sLt a b = true
structure OkS (size : Int) (ks : List Str) (s : Src) : Prop where
  kind : s.kind ∈ ks
  age : 0 ≤ s.age ∧ s.age ≤ 20
  place : 0 ≤ s.place ∧ s.place ≤ size - 1
  since : 0 ≤ s.since ∧ s.since ≤ 1000000
  many : 1 ≤ s.many ∧ s.many ≤ 9
structure OkP (ks : List Str) (s : Prt) : Prop where
  kind : s.kind ∈ ks
  lo : 0 ≤ s.lo ∧ s.lo ≤ 20
  hi : s.lo ≤ s.hi ∧ s.hi ≤ 20
structure OkH (size : Int) (l : List Int) : Prop where
  rng : ∀ i ∈ l, 0 ≤ i ∧ i ≤ size - 1
  ord : ∀ i a b, l[i]? = some a → l[i + 1]? = some b → a < b
structure OkW (size : Int) (ks : List Str) (s : Way) : Prop where
  kind : s.kind ∈ ks
  len : 1 ≤ s.parts.length ∧ s.parts.length ≤ 3
  parts : ∀ p ∈ s.parts, OkP ks p
  keeps : s.keeps = "oldest" ∨ s.keeps = "youngest"
  hours : OkH size s.hours
  wait : 1 ≤ s.wait ∧ s.wait ≤ 6
structure Ok (w : Wld) : Prop where
  size : 1 ≤ w.size ∧ w.size ≤ 6
  kinds : OkK w.kinds
  slen : w.srcs.length ≤ 6
  srcs : ∀ s ∈ w.srcs, OkS w.size w.kinds s
  wlen : w.ways.length ≤ 8
  ways : ∀ s ∈ w.ways, OkW w.size w.kinds s
end My

set_option Elab.async false
set_option linter.all false
set_option maxRecDepth 100000
set_option maxHeartbeats 4000000
namespace My
open PySem PySem.Spec PyProof.Rows L2
structure Tx (K : PySem.W.Frag) (w : World) (mg : Str → Option Value) (CG CH : Addr) : Prop where
  n_isinstance : mg "isinstance" = none
  n_len : mg "len" = none
  n_enumerate : mg "enumerate" = none
  n_all : mg "all" = none
  n_min : mg "min" = none
  n_tuple : mg "tuple" = none
  n_range : mg "range" = none
  n_sorted : mg "sorted" = none
  n_repr : mg "repr" = none
  n_zip : mg "zip" = none
  n_int : mg "int" = none
  n_bool : mg "bool" = none
  n_str : mg "str" = none
  n_list : mg "list" = none
  i_ROUND : ∃ tk, mg "ROUND" = some (.int 6 tk)
  i_KINDS : ∃ tk, mg "KINDS" = some (.int 4 tk)
  i_SOURCES : ∃ tk, mg "SOURCES" = some (.int 6 tk)
  i_OLD : ∃ tk, mg "OLD" = some (.int 20 tk)
  i_SINCE : ∃ tk, mg "SINCE" = some (.int 1000000 tk)
  i_MANY : ∃ tk, mg "MANY" = some (.int 9 tk)
  i_WAYS : ∃ tk, mg "WAYS" = some (.int 8 tk)
  i_PARTS : ∃ tk, mg "PARTS" = some (.int 3 tk)
  i_WAIT : ∃ tk, mg "WAIT" = some (.int 6 tk)
  i_READY : ∃ tk, mg "READY" = some (.int 26 tk)
  i_DEEDS : ∃ tk, mg "DEEDS" = some (.int 40 tk)
  s_LETTERS : ∃ tk, mg "LETTERS" = some (.str "abcdefghijklmnopqrstuvwxyz" tk)
  s_OLDEST : ∃ tk, mg "OLDEST" = some (.str "oldest" tk)
  s_YOUNGEST : ∃ tk, mg "YOUNGEST" = some (.str "youngest" tk)
  s_BROUGHT : ∃ tk, mg "BROUGHT" = some (.str "brought" tk)
  s_MADE : ∃ tk, mg "MADE" = some (.str "made" tk)
  s_WAITED : ∃ tk, mg "WAITED" = some (.str "waited" tk)
  cG : Cls K CG
  cH : Cls K CH
  naG_here : NoAttr K CG "here"
  naG_size : NoAttr K CG "size"
  naG_moments : NoAttr K CG "moments"
  naG_reasons : NoAttr K CG "reasons"
  naG_pending : NoAttr K CG "pending"
  naG_ages : NoAttr K CG "ages"
  naH_states : NoAttr K CH "states"
  naH_stand : NoAttr K CH "stand"
  naH_rows : NoAttr K CH "rows"
  naH_busy : NoAttr K CH "busy"
  f_PIsNumber : ∃ f fd, mg "is_number" = some (.ref f) ∧ FunD K "is_number" "is_number" (defArgs sPIsNumber) (defBody sPIsNumber) (defScope sPIsNumber) [] [] f fd
  f_PIsName : ∃ f fd, mg "is_name" = some (.ref f) ∧ FunD K "is_name" "is_name" (defArgs sPIsName) (defBody sPIsName) (defScope sPIsName) [] [] f fd
  f_PIsRow : ∃ f fd, mg "is_row" = some (.ref f) ∧ FunD K "is_row" "is_row" (defArgs sPIsRow) (defBody sPIsRow) (defScope sPIsRow) [] [] f fd
  f_PKindsFault : ∃ f fd, mg "kinds_fault" = some (.ref f) ∧ FunD K "kinds_fault" "kinds_fault" (defArgs sPKindsFault) (defBody sPKindsFault) (defScope sPKindsFault) [] [] f fd
  f_PIsKind : ∃ f fd, mg "is_kind" = some (.ref f) ∧ FunD K "is_kind" "is_kind" (defArgs sPIsKind) (defBody sPIsKind) (defScope sPIsKind) [] [] f fd
  f_PSourceFault : ∃ f fd, mg "source_fault" = some (.ref f) ∧ FunD K "source_fault" "source_fault" (defArgs sPSourceFault) (defBody sPSourceFault) (defScope sPSourceFault) [] [] f fd
  f_PPartFault : ∃ f fd, mg "part_fault" = some (.ref f) ∧ FunD K "part_fault" "part_fault" (defArgs sPPartFault) (defBody sPPartFault) (defScope sPPartFault) [] [] f fd
  f_PAreHours : ∃ f fd, mg "are_hours" = some (.ref f) ∧ FunD K "are_hours" "are_hours" (defArgs sPAreHours) (defBody sPAreHours) (defScope sPAreHours) [] [] f fd
  f_PWayFault : ∃ f fd, mg "way_fault" = some (.ref f) ∧ FunD K "way_fault" "way_fault" (defArgs sPWayFault) (defBody sPWayFault) (defScope sPWayFault) [] [] f fd
  f_PWorldfault : ∃ f fd, mg "worldfault" = some (.ref f) ∧ FunD K "worldfault" "worldfault" (defArgs sPWorldfault) (defBody sPWorldfault) (defScope sPWorldfault) [] [] f fd
  f_PFirstAt : ∃ f fd, mg "first_at" = some (.ref f) ∧ FunD K "first_at" "first_at" (defArgs sPFirstAt) (defBody sPFirstAt) (defScope sPFirstAt) [] [] f fd
  f_PFirstOf : ∃ f fd, mg "first_of" = some (.ref f) ∧ FunD K "first_of" "first_of" (defArgs sPFirstOf) (defBody sPFirstOf) (defScope sPFirstOf) [] [] f fd
  f_PNearest : ∃ f fd, mg "nearest" = some (.ref f) ∧ FunD K "nearest" "nearest" (defArgs sPNearest) (defBody sPNearest) (defScope sPNearest) [] [] f fd
  f_PChosen : ∃ f fd, mg "chosen" = some (.ref f) ∧ FunD K "chosen" "chosen" (defArgs sPChosen) (defBody sPChosen) (defScope sPChosen) [] [] f fd
  mkG : ∃ f fd, mg "Growth" = some (.ref CG) ∧ Mk K CG f ∧ FunD K "__init__" "Growth.__init__" (defArgs sGInit) (defBody sGInit) (defScope sGInit) [] [] f fd
  m_GExpect : ∃ f fd, Meth K CG "expect" f ∧ FunD K "expect" "Growth.expect" (defArgs sGExpect) (defBody sGExpect) (defScope sGExpect) [] [] f fd
  m_GSettle : ∃ f fd, Meth K CG "settle" f ∧ FunD K "settle" "Growth.settle" (defArgs sGSettle) (defBody sGSettle) (defScope sGSettle) [] [] f fd
  m_GAgesAt : ∃ f fd, Meth K CG "ages_at" f ∧ FunD K "ages_at" "Growth.ages_at" (defArgs sGAgesAt) (defBody sGAgesAt) (defScope sGAgesAt) [] [] f fd
  m_GTryWay : ∃ f fd, Meth K CG "try_way" f ∧ FunD K "try_way" "Growth.try_way" (defArgs sGTryWay) (defBody sGTryWay) (defScope sGTryWay) [] [] f fd
  m_GMakeAll : ∃ f fd, Meth K CG "make_all" f ∧ FunD K "make_all" "Growth.make_all" (defArgs sGMakeAll) (defBody sGMakeAll) (defScope sGMakeAll) [] [] f fd
  m_GNumberOf : ∃ f fd, Meth K CG "number_of" f ∧ FunD K "number_of" "Growth.number_of" (defArgs sGNumberOf) (defBody sGNumberOf) (defScope sGNumberOf) [] [] f fd
  f_PTable : ∃ f fd, mg "table_least" = some (.ref f) ∧ FunD K "table" "table" (defArgs sPTable) (defBody sPTable) (defScope sPTable) [] [] f fd
  f_PIsDeed : ∃ f fd, mg "is_deed" = some (.ref f) ∧ FunD K "is_deed" "is_deed" (defArgs sPIsDeed) (defBody sPIsDeed) (defScope sPIsDeed) [] [] f fd
  f_PWithoutOne : ∃ f fd, mg "without_one" = some (.ref f) ∧ FunD K "without_one" "without_one" (defArgs sPWithoutOne) (defBody sPWithoutOne) (defScope sPWithoutOne) [] [] f fd
  f_PWithOne : ∃ f fd, mg "with_one" = some (.ref f) ∧ FunD K "with_one" "with_one" (defArgs sPWithOne) (defBody sPWithOne) (defScope sPWithOne) [] [] f fd
  mkH : ∃ f fd, mg "Hall" = some (.ref CH) ∧ Mk K CH f ∧ FunD K "__init__" "Hall.__init__" (defArgs sHInit) (defBody sHInit) (defScope sHInit) [] [] f fd
  m_HLook : ∃ f fd, Meth K CH "look" f ∧ FunD K "look" "Hall.look" (defArgs sHLook) (defBody sHLook) (defScope sHLook) [] [] f fd
  m_HBegin : ∃ f fd, Meth K CH "begin" f ∧ FunD K "begin" "Hall.begin" (defArgs sHBegin) (defBody sHBegin) (defScope sHBegin) [] [] f fd
  m_HChange : ∃ f fd, Meth K CH "change" f ∧ FunD K "change" "Hall.change" (defArgs sHChange) (defBody sHChange) (defScope sHChange) [] [] f fd
  m_HWayOf : ∃ f fd, Meth K CH "way_of" f ∧ FunD K "way_of" "Hall.way_of" (defArgs sHWayOf) (defBody sHWayOf) (defScope sHWayOf) [] [] f fd
  m_HBring : ∃ f fd, Meth K CH "bring" f ∧ FunD K "bring" "Hall.bring" (defArgs sHBring) (defBody sHBring) (defScope sHBring) [] [] f fd
  m_HWay : ∃ f fd, Meth K CH "way" f ∧ FunD K "way" "Hall.way" (defArgs sHWay) (defBody sHWay) (defScope sHWay) [] [] f fd
  m_HStop : ∃ f fd, Meth K CH "stop" f ∧ FunD K "stop" "Hall.stop" (defArgs sHStop) (defBody sHStop) (defScope sHStop) [] [] f fd
  m_HShut : ∃ f fd, Meth K CH "shut" f ∧ FunD K "shut" "Hall.shut" (defArgs sHShut) (defBody sHShut) (defScope sHShut) [] [] f fd
  m_HHours : ∃ f fd, Meth K CH "hours" f ∧ FunD K "hours" "Hall.hours" (defArgs sHHours) (defBody sHHours) (defScope sHHours) [] [] f fd
  m_HWindow : ∃ f fd, Meth K CH "window" f ∧ FunD K "window" "Hall.window" (defArgs sHWindow) (defBody sHWindow) (defScope sHWindow) [] [] f fd
  m_HBack : ∃ f fd, Meth K CH "back" f ∧ FunD K "back" "Hall.back" (defArgs sHBack) (defBody sHBack) (defScope sHBack) [] [] f fd
  m_HDo : ∃ f fd, Meth K CH "do" f ∧ FunD K "do" "Hall.do" (defArgs sHDo) (defBody sHDo) (defScope sHDo) [] [] f fd
  m_HGoThrough : ∃ f fd, Meth K CH "go_through" f ∧ FunD K "go_through" "Hall.go_through" (defArgs sHGoThrough) (defBody sHGoThrough) (defScope sHGoThrough) [] [] f fd
  m_HTried : ∃ f fd, Meth K CH "tried" f ∧ FunD K "tried" "Hall.tried" (defArgs sHTried) (defBody sHTried) (defScope sHTried) [] [("tell", .non)] f fd
  m_HWorld : ∃ f fd, Meth K CH "world" f ∧ FunD K "world" "Hall.world" (defArgs sHWorld) (defBody sHWorld) (defScope sHWorld) [] [] f fd
  m_HLen : ∃ f fd, Meth K CH "__len__" f ∧ FunD K "__len__" "Hall.__len__" (defArgs sHLen) (defBody sHLen) (defScope sHLen) [] [] f fd
  m_HEq : ∃ f fd, Meth K CH "__eq__" f ∧ FunD K "__eq__" "Hall.__eq__" (defArgs sHEq) (defBody sHEq) (defScope sHEq) [] [] f fd
  f_LDraws : ∃ f fd, mg "_law_draws" = some (.ref f) ∧ FunD K "_law_draws" "_law_draws" (defArgs sLDraws) (defBody sLDraws) (defScope sLDraws) [] [] f fd
  f_LNext : ∃ f fd, mg "_law_next" = some (.ref f) ∧ FunD K "_law_next" "_law_next" (defArgs sLNext) (defBody sLNext) (defScope sLNext) [] [] f fd
  f_LOne : ∃ f fd, mg "_law_one" = some (.ref f) ∧ FunD K "_law_one" "_law_one" (defArgs sLOne) (defBody sLOne) (defScope sLOne) [] [] f fd
  f_LAlike : ∃ f fd, mg "_law_alike" = some (.ref f) ∧ FunD K "_law_alike" "_law_alike" (defArgs sLAlike) (defBody sLAlike) (defScope sLAlike) [] [] f fd
  f_LKinds : ∃ f fd, mg "_law_kinds" = some (.ref f) ∧ FunD K "_law_kinds" "_law_kinds" (defArgs sLKinds) (defBody sLKinds) (defScope sLKinds) [] [] f fd
  f_LSource : ∃ f fd, mg "_law_source" = some (.ref f) ∧ FunD K "_law_source" "_law_source" (defArgs sLSource) (defBody sLSource) (defScope sLSource) [] [] f fd
  f_LPart : ∃ f fd, mg "_law_part" = some (.ref f) ∧ FunD K "_law_part" "_law_part" (defArgs sLPart) (defBody sLPart) (defScope sLPart) [] [] f fd
  f_LWay : ∃ f fd, mg "_law_way" = some (.ref f) ∧ FunD K "_law_way" "_law_way" (defArgs sLWay) (defBody sLWay) (defScope sLWay) [] [] f fd
  f_LWorld : ∃ f fd, mg "_law_world" = some (.ref f) ∧ FunD K "_law_world" "_law_world" (defArgs sLWorld) (defBody sLWorld) (defScope sLWorld) [] [] f fd
  f_LIs : ∃ f fd, mg "_law_is" = some (.ref f) ∧ FunD K "_law_is" "_law_is" (defArgs sLIs) (defBody sLIs) (defScope sLIs) [] [] f fd
  f_LName : ∃ f fd, mg "_law_name" = some (.ref f) ∧ FunD K "_law_name" "_law_name" (defArgs sLName) (defBody sLName) (defScope sLName) [] [] f fd
  f_LRowOf : ∃ f fd, mg "_law_row_of" = some (.ref f) ∧ FunD K "_law_row_of" "_law_row_of" (defArgs sLRowOf) (defBody sLRowOf) (defScope sLRowOf) [] [] f fd
  f_LKindIn : ∃ f fd, mg "_law_kind_in" = some (.ref f) ∧ FunD K "_law_kind_in" "_law_kind_in" (defArgs sLKindIn) (defBody sLKindIn) (defScope sLKindIn) [] [] f fd
  f_LRising : ∃ f fd, mg "_law_rising" = some (.ref f) ∧ FunD K "_law_rising" "_law_rising" (defArgs sLRising) (defBody sLRising) (defScope sLRising) [] [] f fd
  f_LSourceWord : ∃ f fd, mg "_law_source_word" = some (.ref f) ∧ FunD K "_law_source_word" "_law_source_word" (defArgs sLSourceWord) (defBody sLSourceWord) (defScope sLSourceWord) [] [] f fd
  f_LPartWord : ∃ f fd, mg "_law_part_word" = some (.ref f) ∧ FunD K "_law_part_word" "_law_part_word" (defArgs sLPartWord) (defBody sLPartWord) (defScope sLPartWord) [] [] f fd
  f_LWayWord : ∃ f fd, mg "_law_way_word" = some (.ref f) ∧ FunD K "_law_way_word" "_law_way_word" (defArgs sLWayWord) (defBody sLWayWord) (defScope sLWayWord) [] [] f fd
  f_LWorldWord : ∃ f fd, mg "_law_world_word" = some (.ref f) ∧ FunD K "_law_world_word" "_law_world_word" (defArgs sLWorldWord) (defBody sLWorldWord) (defScope sLWorldWord) [] [] f fd
  f_LPut : ∃ f fd, mg "_law_put" = some (.ref f) ∧ FunD K "_law_put" "_law_put" (defArgs sLPut) (defBody sLPut) (defScope sLPut) [] [] f fd
  f_LAfter : ∃ f fd, mg "_law_after" = some (.ref f) ∧ FunD K "_law_after" "_law_after" (defArgs sLAfter) (defBody sLAfter) (defScope sLAfter) [] [] f fd
  f_LDo : ∃ f fd, mg "_law_do" = some (.ref f) ∧ FunD K "_law_do" "_law_do" (defArgs sLDo) (defBody sLDo) (defScope sLDo) [] [] f fd
  f_LPair : ∃ f fd, mg "_law_pair" = some (.ref f) ∧ FunD K "_law_pair" "_law_pair" (defArgs sLPair) (defBody sLPair) (defScope sLPair) [] [] f fd
  f_LGoes : ∃ f fd, mg "_law_goes" = some (.ref f) ∧ FunD K "_law_goes" "_law_goes" (defArgs sLGoes) (defBody sLGoes) (defScope sLGoes) [] [] f fd
  f_LApart : ∃ f fd, mg "_law_apart" = some (.ref f) ∧ FunD K "_law_apart" "_law_apart" (defArgs sLApart) (defBody sLApart) (defScope sLApart) [] [] f fd
  f_PLaw : ∃ f fd, mg "law" = some (.ref f) ∧ FunD K "law" "law" (defArgs sPLaw) (defBody sPLaw) (defScope sPLaw) [] [] f fd
  forms : ∃ d es n, KDict K w d es n ∧ mg "FORMS" = some (.ref d) ∧ ∀ x v, ([("bring", 2), ("way", 2), ("stop", 2), ("shut", 2), ("hours", 3), ("window", 5)] : List (Str × Int)).lookup x = some v → ∃ tk, PySem.W.nsIn K d x = some (some (.int v tk))
  insH : C8.InsC K CH
  gHall : mg "Hall" = some (.ref CH)
  mroH : PySem.W.mroIn K CH (.type "object") = some true
  neH : PySem.W.findIn K (.ref CH) "__ne__" = some (some (.builtin "object.__ne__"))
theorem all_bl (l : List Bool) : l.all id = l.all fun b => b := rfl
/-! ### the program's looks at data -/
def strsOf : List D → List Str
  | .str s :: l => s :: strsOf l
  | _ => []
theorem strsOf_map : ∀ ks : List Str, strsOf (ks.map D.str) = ks
  | [] => rfl
  | k :: ks => congrArg (k :: ·) (strsOf_map ks)
theorem atI_nat {α : Type} {l : List α} {j : Nat} : atI l ((j : Nat) : Int) = l[j]? := by
  unfold atI ixN
  rw [if_pos (by omega)]
  by_cases h : (j : Int) < l.length
  · rw [if_pos h]; simp
  · rw [if_neg h, List.getElem?_eq_none (by omega)]; rfl
theorem atI_pred {α : Type} {l : List α} {j : Nat} : atI l (((j + 1 : Nat) : Int) - 1) = l[j]? := by
  rw [show ((j + 1 : Nat) : Int) - 1 = ((j : Nat) : Int) by omega, atI_nat]
theorem at0 {α : Type} {l : List α} {a : α} : atI (a :: l) 0 = some a := atI_nat (j := 0)
theorem at1 {α : Type} {l : List α} {a b : α} : atI (a :: b :: l) 1 = some b := atI_nat (j := 1)
theorem at2 {α : Type} {l : List α} {a b c : α} : atI (a :: b :: c :: l) 2 = some c := atI_nat (j := 2)
theorem at3 {α : Type} {l : List α} {a b c d : α} : atI (a :: b :: c :: d :: l) 3 = some d := atI_nat (j := 3)
theorem at4 {α : Type} {l : List α} {a b c d e : α} : atI (a :: b :: c :: d :: e :: l) 4 = some e := atI_nat (j := 4)
def spIsNumber : SpD
  | [.int i, .int lo, .int hi], M, Q => Q (.bl (inR lo i hi)) M
  | _, _, _ => False
theorem sc_PIsNumber : FnScope ["thing", "low", "high"] ["thing", "low", "high"] (defScope sPIsNumber) := ⟨rfl, rfl, rfl, by decide +kernel, rfl, by decide +kernel, by decide +kernel⟩
theorem w_PIsNumber {P : Program} {w : World} {K : PySem.W.Frag} {mg : Str → Option Value} {base : Heap} {CG CH : Addr} (T : Tx K w mg CG CH) : GD P w K mg base 1 "is_number" spIsNumber := by
  obtain ⟨f, fd, hm, F⟩ := T.f_PIsNumber
  refine ⟨f, hm, F.kp, okD (k := 0) F sc_PIsNumber (F.bindsN fun _ _ _ _ _ _ us hl => match us, hl with | [_, _, _], _ => rfl)
    (fun cdv A outer s H E hr => (d_single (d_ret (d_andV (d_isi hf_int (by decide +kernel) rfl T.n_isinstance rfl T.n_int (d_var (i := 0) rfl (.inl rfl))) (d_andV (d_notV (d_isi hf_bool (by decide +kernel) rfl T.n_isinstance rfl T.n_bool (d_var (i := 0) rfl (.inl rfl)))) (d_one (d_lele (d_var (i := 1) rfl (.inl rfl)) (d_var (i := 0) rfl (.inl rfl)) (d_var (i := 2) rfl (.inl rfl))))))))) (fun l M Qd h => ?_)⟩
  match l, h with
  | [.int i, .int lo, .int hi], h =>
  refine ⟨rfl, ?_⟩
  have h : Qd (.bl (inR lo i hi)) M := h
  by_cases c : lo ≤ i <;> simp_all [and_assoc, strsOf_map, dVar, dC, dOp, dUn, dNil, dCons, dTup, dLst, dNew, dTest, dAnd, dOr, dNot, dAndV, dOrV, dNotV, dIf, dIsN, dNotN, isN, dChain, dCB, dNext, dSeq, dDrop, dRet, dRetN, dIfS, oI, oI0, oAdd, oC, oIx_tup, oIx_lst, oIx_h, oIx_str, oSl_tup, oSl_lst, oSl_scr, oSl_str, dSl, dNoP, dPart, cLen, cMin2, cInt, uNeg, uBits, uIs, fInt, fBool, fStr, fTup, tyD, dgName, dgNil, dgCons, dgTup, dAsg, dPar, dPar3, dFor, dLc, diTup, diLst, diR1, diR2, diEnT, diEnL, diStr, dCall, dMeth, dMake, dFld, sSetF, startD, dYes, dw, inR]
def spIsRow : SpD
  | [.tup m, .int lo, .int hi], M, Q => Q (.bl (inR lo m.length hi)) M
  | _, _, _ => False
theorem sc_PIsRow : FnScope ["thing", "least", "most"] ["thing", "least", "most"] (defScope sPIsRow) := ⟨rfl, rfl, rfl, by decide +kernel, rfl, by decide +kernel, by decide +kernel⟩
theorem w_PIsRow {P : Program} {w : World} {K : PySem.W.Frag} {mg : Str → Option Value} {base : Heap} {CG CH : Addr} (T : Tx K w mg CG CH) : GD P w K mg base 1 "is_row" spIsRow := by
  obtain ⟨f, fd, hm, F⟩ := T.f_PIsRow
  refine ⟨f, hm, F.kp, okD (k := 0) F sc_PIsRow (F.bindsN fun _ _ _ _ _ _ us hl => match us, hl with | [_, _, _], _ => rfl)
    (fun cdv A outer s H E hr => (d_single (d_ret (d_andV (d_isi hf_tup (by decide +kernel) rfl T.n_isinstance rfl T.n_tuple (d_var (i := 0) rfl (.inl rfl))) (d_one (d_lele (d_var (i := 1) rfl (.inl rfl)) (d_len rfl T.n_len (d_pa_cons (d_var (i := 0) rfl (.inl rfl)) d_pa_nil)) (d_var (i := 2) rfl (.inl rfl)))))))) (fun l M Qd h => ?_)⟩
  match l, h with
  | [.tup m, .int lo, .int hi], h =>
  refine ⟨rfl, ?_⟩
  have h : Qd (.bl (inR lo m.length hi)) M := h
  by_cases c : lo ≤ m.length <;> simp_all [and_assoc, strsOf_map, dVar, dC, dOp, dUn, dNil, dCons, dTup, dLst, dNew, dTest, dAnd, dOr, dNot, dAndV, dOrV, dNotV, dIf, dIsN, dNotN, isN, dChain, dCB, dNext, dSeq, dDrop, dRet, dRetN, dIfS, oI, oI0, oAdd, oC, oIx_tup, oIx_lst, oIx_h, oIx_str, oSl_tup, oSl_lst, oSl_scr, oSl_str, dSl, dNoP, dPart, cLen, cMin2, cInt, uNeg, uBits, uIs, fInt, fBool, fStr, fTup, tyD, dgName, dgNil, dgCons, dgTup, dAsg, dPar, dPar3, dFor, dLc, diTup, diLst, diR1, diR2, diEnT, diEnL, diStr, dCall, dMeth, dMake, dFld, sSetF, startD, dYes, dw, inR]
theorem inV_str (s : Str) : ∀ ks : List Str, inV (.str s) (ks.map .str) = decide (s ∈ ks)
  | [] => rfl
  | k :: ks => by
    have ih := inV_str s ks
    unfold inV at ih ⊢
    rw [List.map_cons, List.any_cons, ih]
    by_cases e : s = k
    · subst e; simp [oIx_tup, oIx_lst, oIx_h, oIx_str, eqV]
    · have e2 : ¬ k = s := fun z => e z.symm
      simp [oIx_tup, oIx_lst, oIx_h, oIx_str, eqV, e, e2]
theorem mapM_str : ∀ ks : List Str, (ks.map D.str).mapM fl = some (ks.map V.str)
  | [] => rfl
  | k :: ks => by rw [List.map_cons, List.mapM_cons, mapM_str ks]; rfl
theorem in_strs {neg : Bool} {s : Str} {ks : List Str} {M : S} {Q : KD} (h : Q (.bl (if neg then !decide (s ∈ ks) else decide (s ∈ ks))) M) : oIn neg (.str s) (.tup (ks.map .str)) M Q :=
  ⟨.str s, ks.map .str, rfl, mapM_str ks, by rw [inV_str]; exact h⟩
theorem in_strsL {neg : Bool} {s : Str} {ks : List Str} {M : S} {Q : KD} (h : Q (.bl (if neg then !decide (s ∈ ks) else decide (s ∈ ks))) M) : oIn neg (.str s) (.lst (ks.map .str)) M Q :=
  ⟨.str s, ks.map .str, rfl, mapM_str ks, by rw [inV_str]; exact h⟩
def spIsKind : SpD
  | [.tup l, .str s], M, Q => l = (strsOf l).map .str ∧ Q (.bl (decide (s ∈ strsOf l))) M
  | _, _, _ => False
theorem sc_PIsKind : FnScope ["kinds", "thing"] ["kinds", "thing"] (defScope sPIsKind) := ⟨rfl, rfl, rfl, by decide +kernel, rfl, by decide +kernel, by decide +kernel⟩
theorem w_PIsKind {P : Program} {w : World} {K : PySem.W.Frag} {mg : Str → Option Value} {base : Heap} {CG CH : Addr} (T : Tx K w mg CG CH) : GD P w K mg base 1 "is_kind" spIsKind := by
  obtain ⟨f, fd, hm, F⟩ := T.f_PIsKind
  refine ⟨f, hm, F.kp, okD (k := 0) F sc_PIsKind (F.bindsN fun _ _ _ _ _ _ us hl => match us, hl with | [_, _], _ => rfl)
    (fun cdv A outer s H E hr => (d_single (d_ret (d_andV (d_isi hf_str (by decide +kernel) rfl T.n_isinstance rfl T.n_str (d_var (i := 1) rfl (.inl rfl))) (d_one (d_in (d_var (i := 1) rfl (.inl rfl)) (d_var (i := 0) rfl (.inl rfl)))))))) (fun l M Qd h => ?_)⟩
  match l, h with
  | [.tup l, .str s], ⟨e, h⟩ =>
  refine ⟨rfl, ?_⟩
  simp [and_assoc, strsOf_map, dVar, dC, dOp, dUn, dNil, dCons, dTup, dLst, dNew, dTest, dAnd, dOr, dNot, dAndV, dOrV, dNotV, dIf, dIsN, dNotN, isN, dChain, dCB, dNext, dSeq, dDrop, dRet, dRetN, dIfS, oI, oI0, oAdd, oC, oIx_tup, oIx_lst, oIx_h, oIx_str, oSl_tup, oSl_lst, oSl_scr, oSl_str, dSl, dNoP, dPart, cLen, cMin2, cInt, uNeg, uBits, uIs, fInt, fBool, fStr, fTup, tyD, dgName, dgNil, dgCons, dgTup, dAsg, dPar, dPar3, dFor, dLc, diTup, diLst, diR1, diR2, diEnT, diEnL, diStr, dCall, dMeth, dMake, dFld, sSetF, startD, dYes, dw]
  rw [e]
  exact in_strs h
theorem nameOk_iff {s : Str} : nameOk s = true ↔ (1 ≤ s.length ∧ s.length ≤ 8) ∧ ∀ c ∈ s.cps.toList, c ∈ letters.cps.toList := by
  unfold nameOk
  rw [Bool.and_eq_true, Bool.and_eq_true, List.all_eq_true, decide_eq_true_iff, decide_eq_true_iff]
  exact ⟨fun ⟨a, b⟩ => ⟨a, fun c h => of_decide_eq_true (b c h)⟩, fun ⟨a, b⟩ => ⟨a, fun c h => decide_eq_true (b c h)⟩⟩
def spIsName : SpD
  | [.str s], M, Q => nameOk s = true ∧ Q (.bl true) M
  | _, _, _ => False
theorem sc_PIsName : FnScope ["thing", "sign"] ["thing"] (defScope sPIsName) := ⟨rfl, rfl, rfl, by decide +kernel, rfl, by decide +kernel, by decide +kernel⟩
theorem w_PIsName {P : Program} {w : World} {K : PySem.W.Frag} {mg : Str → Option Value} {base : Heap} {CG CH : Addr} (T : Tx K w mg CG CH) : GD P w K mg base 1 "is_name" spIsName := by
  obtain ⟨f, fd, hm, F⟩ := T.f_PIsName
  refine ⟨f, hm, F.kp, okD (k := 0) F sc_PIsName (F.bindsN fun _ _ _ _ _ _ us hl => match us, hl with | [_], _ => rfl)
    (fun cdv A outer s H E hr => (d_single (d_ret (d_andV (d_isi hf_str (by decide +kernel) rfl T.n_isinstance rfl T.n_str (d_var (i := 0) rfl (.inl rfl))) (d_andV (d_lele d_int (d_len rfl T.n_len (d_pa_cons (d_var (i := 0) rfl (.inl rfl)) d_pa_nil)) d_int) (d_one (d_all rfl rfl T.n_all (d_pa_cons (d_lc (own := [("sign", 1)]) rfl sc_PIsName.nd (di_str (d_var (i := 0) rfl (.inl rfl))) (blkOk_by (N := ["thing", "sign"]) (sc := defScope sPIsName) (by decide +kernel)) (by decide) (fun _ _ _ _ _ => (dg_name (i := 1) sc_PIsName.nd rfl (Or.inl rfl))) (fun _ _ _ _ _ => d_noif) (fun _ _ _ _ _ => (d_in (d_var (i := 1) rfl (.inl rfl)) (d_gs rfl T.s_LETTERS)))) d_pa_nil)))))))) (fun l M Qd h => ?_)⟩
  match l, h with
  | [.str s], ⟨hn, h⟩ =>
  refine ⟨rfl, ?_⟩
  obtain ⟨⟨n1, n2⟩, n3⟩ := nameOk_iff.mp hn
  have hz : s.length ≤ 100000 := by omega
  have c1 : (1 : Int) ≤ s.length := by omega
  have c2 : (s.length : Int) ≤ 8 := by omega
  simp [and_assoc, strsOf_map, dVar, dC, dOp, dUn, dNil, dCons, dTup, dLst, dNew, dTest, dAnd, dOr, dNot, dAndV, dOrV, dNotV, dIf, dIsN, dNotN, isN, dChain, dCB, dNext, dSeq, dDrop, dRet, dRetN, dIfS, oI, oI0, oAdd, oC, oIx_tup, oIx_lst, oIx_h, oIx_str, oSl_tup, oSl_lst, oSl_scr, oSl_str, dSl, dNoP, dPart, cLen, cMin2, cInt, uNeg, uBits, uIs, fInt, fBool, fStr, fTup, tyD, dgName, dgNil, dgCons, dgTup, dAsg, dPar, dPar3, dFor, dLc, diTup, diLst, diR1, diR2, diEnT, diEnL, diStr, dCall, dMeth, dMake, dFld, sSetF, startD, dYes, dw, hz, c1, c2]
  refine lc_map (f := fun c => .str ⟨#[c]⟩) (l := s.cps.toList) (fun i acc M' => M' = M ∧ acc = List.replicate i (.bl true) ∧ i ≤ s.length) ⟨rfl, rfl, Nat.zero_le _⟩ (fun i a acc M' K ha ⟨e1, e2, e3⟩ k => ?_) (fun acc M' ⟨e1, e2, _⟩ => ?_)
  · subst e1 e2
    have hi := (List.getElem?_eq_some_iff.mp ha).1
    have hl : s.cps.toList.length = s.length := by simp [oIx_tup, oIx_lst, oIx_h, oIx_str, Str.length]
    refine ⟨trivial, by rw [List.length_replicate]; omega, ?_⟩
    simp [and_assoc, strsOf_map, dVar, dC, dOp, dUn, dNil, dCons, dTup, dLst, dNew, dTest, dAnd, dOr, dNot, dAndV, dOrV, dNotV, dIf, dIsN, dNotN, isN, dChain, dCB, dNext, dSeq, dDrop, dRet, dRetN, dIfS, oI, oI0, oAdd, oC, oIx_tup, oIx_lst, oIx_h, oIx_str, oSl_tup, oSl_lst, oSl_scr, oSl_str, dSl, dNoP, dPart, cLen, cMin2, cInt, uNeg, uBits, uIs, fInt, fBool, fStr, fTup, tyD, dgName, dgNil, dgCons, dgTup, dAsg, dPar, dPar3, dFor, dLc, diTup, diLst, diR1, diR2, diEnT, diEnL, diStr, dCall, dMeth, dMake, dFld, sSetF, startD, dYes, dw]
    refine ⟨a, rfl, ?_⟩
    have := n3 a (List.mem_of_getElem? ha)
    refine k _ _ ⟨rfl, ?_, by omega⟩
    rw [List.replicate_succ']
    simp [oIx_tup, oIx_lst, oIx_h, oIx_str, letters] at this
    simp [oIx_tup, oIx_lst, oIx_h, oIx_str, this]
  · subst e1 e2
    refine ⟨trivial, ⟨_, List.replicate s.cps.toList.length true, rfl, by simp [oIx_tup, oIx_lst, oIx_h, oIx_str, itL], ?_⟩⟩
    simpa using h
def spKindsFault : SpD := fun l M Q => ∃ ks, l = [kindsD ks] ∧ OkK ks ∧ Q .non M
theorem sc_PKindsFault : FnScope ["kinds", "at", "kind"] ["kinds"] (defScope sPKindsFault) := ⟨rfl, rfl, rfl, by decide +kernel, rfl, by decide +kernel, by decide +kernel⟩
theorem w_PKindsFault {P : Program} {w : World} {K : PySem.W.Frag} {mg : Str → Option Value} {base : Heap} {CG CH : Addr} (T : Tx K w mg CG CH) : GD P w K mg base 2 "kinds_fault" spKindsFault := by
  obtain ⟨f, fd, hm, F⟩ := T.f_PKindsFault
  refine ⟨f, hm, F.kp, okD (k := 1) F sc_PKindsFault (F.bindsN fun _ _ _ _ _ _ us hl => match us, hl with | [_], _ => rfl)
    (fun cdv A outer s H E hr => (d_seq (d_if (d_not (d_tval (d_call ((w_PIsRow T).mono (by decide)) hr rfl (d_pa_cons (d_var (i := 0) rfl (.inl rfl)) (d_pa_cons d_int (d_pa_cons (d_gi rfl T.i_KINDS) d_pa_nil)))))) (d_single (d_ret (d_tup (d_pa_cons (d_tup (d_pa_cons d_int d_pa_nil)) (d_pa_cons d_str d_pa_nil))))) d_nil)
      (d_seq (d_for PassesOwn.never rfl (di_enT rfl T.n_enumerate (d_pa_cons (d_var (i := 0) rfl (.inl rfl)) d_pa_nil)) (dg_tup (n := 2) rfl (dg_cons (dg_name (i := 1) sc_PKindsFault.nd rfl (Or.inl rfl)) (dg_cons (dg_name (i := 2) sc_PKindsFault.nd rfl (Or.inl rfl)) dg_nil))) (d_single (d_if (d_tw (d_or (d_not (d_tval (d_call ((w_PIsName T).mono (by decide)) hr rfl (d_pa_cons (d_var (i := 2) rfl (.inl rfl)) d_pa_nil)))) (d_or1 (d_tw (d_and (dt_gt (d_var (i := 1) rfl (.inl rfl)) d_int) (d_and1 (dt_le (d_var (i := 2) rfl (.inl rfl)) (d_ix (d_var (i := 0) rfl (.inl rfl)) (d_sub (d_var (i := 1) rfl (.inl rfl)) d_int))))))))) (d_single (d_ret (d_tup (d_pa_cons (d_tup (d_pa_cons d_int (d_pa_cons (d_var (i := 1) rfl (.inl rfl)) d_pa_nil))) (d_pa_cons d_str d_pa_nil))))) d_nil)))
      (d_single (d_ret d_non))))) (fun l M Qd h => ?_)⟩
  obtain ⟨ks, rfl, ok, h⟩ := h
  refine ⟨rfl, ?_⟩
  have c1 : (1 : Int) ≤ ks.length := by have := ok.len; omega
  have c2 : (ks.length : Int) ≤ 4 := by have := ok.len; omega
  simp [and_assoc, strsOf_map, dVar, dC, dOp, dUn, dNil, dCons, dTup, dLst, dNew, dTest, dAnd, dOr, dNot, dAndV, dOrV, dNotV, dIf, dIsN, dNotN, isN, dChain, dCB, dNext, dSeq, dDrop, dRet, dRetN, dIfS, oI, oI0, oAdd, oC, oIx_tup, oIx_lst, oIx_h, oIx_str, oSl_tup, oSl_lst, oSl_scr, oSl_str, dSl, dNoP, dPart, cLen, cMin2, cInt, uNeg, uBits, uIs, fInt, fBool, fStr, fTup, tyD, dgName, dgNil, dgCons, dgTup, dAsg, dPar, dPar3, dFor, dLc, diTup, diLst, diR1, diR2, diEnT, diEnL, diStr, dCall, dMeth, dMake, dFld, sSetF, startD, dYes, dw, spIsRow, kindsD, inR, c1, c2]
  refine for_en (f := D.str) (fun i ds M' => M' = M ∧ ∃ x y, ds = [some (kindsD ks), x, y]) ⟨rfl, _, _, rfl⟩ (fun i a ds M' K ha ⟨e1, x, y, e2⟩ k => ?_) (fun ds M' ⟨e1, _⟩ => ?_)
  · subst e1 e2
    refine ⟨trivial, ?_⟩
    have hn := ok.name a (List.mem_of_getElem? ha)
    simp [and_assoc, strsOf_map, dVar, dC, dOp, dUn, dNil, dCons, dTup, dLst, dNew, dTest, dAnd, dOr, dNot, dAndV, dOrV, dNotV, dIf, dIsN, dNotN, isN, dChain, dCB, dNext, dSeq, dDrop, dRet, dRetN, dIfS, oI, oI0, oAdd, oC, oIx_tup, oIx_lst, oIx_h, oIx_str, oSl_tup, oSl_lst, oSl_scr, oSl_str, dSl, dNoP, dPart, cLen, cMin2, cInt, uNeg, uBits, uIs, fInt, fBool, fStr, fTup, tyD, dgName, dgNil, dgCons, dgTup, dAsg, dPar, dPar3, dFor, dLc, diTup, diLst, diR1, diR2, diEnT, diEnL, diStr, dCall, dMeth, dMake, dFld, sSetF, startD, dYes, dw, spIsName, kindsD, hn]
    cases i with
    | zero => simp; exact k _ _ ⟨rfl, _, _, rfl⟩
    | succ j =>
      have hj : ∃ b, ks[j]? = some b := by
        have := (List.getElem?_eq_some_iff.mp ha).1
        exact ⟨ks[j], List.getElem?_eq_getElem (by omega)⟩
      obtain ⟨b, hb⟩ := hj
      have ho := ok.ord j b a hb ha
      have hlt : (0 : Int) < (j + 1 : Nat) := by omega
      have hx : atI (ks.map D.str) (j : Int) = some (.str b) := by rw [atI_nat, List.getElem?_map, hb]; rfl
      have ho2 : b.cps.toList < a.cps.toList := of_decide_eq_true ho
      simp [oIx_tup, oIx_lst, oIx_h, oIx_str, hlt, hx, ho2, oC]
      exact k _ _ ⟨rfl, _, _, rfl⟩
  · subst e1
    exact ⟨trivial, h⟩
def spSourceFault : SpD := fun l M Q => ∃ size ks, ∃ s : Src, ∃ p, l = [.int size, kindsD ks, s.d, .tup p] ∧ OkS size ks s ∧ Q .non M
theorem sc_PSourceFault : FnScope ["size", "kinds", "source", "path", "bounds", "at", "word", "low", "high"] ["size", "kinds", "source", "path"] (defScope sPSourceFault) := ⟨rfl, rfl, rfl, by decide +kernel, rfl, by decide +kernel, by decide +kernel⟩
theorem w_PSourceFault {P : Program} {w : World} {K : PySem.W.Frag} {mg : Str → Option Value} {base : Heap} {CG CH : Addr} (T : Tx K w mg CG CH) : GD P w K mg base 2 "source_fault" spSourceFault := by
  obtain ⟨f, fd, hm, F⟩ := T.f_PSourceFault
  refine ⟨f, hm, F.kp, okD (k := 1) F sc_PSourceFault (F.bindsN fun _ _ _ _ _ _ us hl => match us, hl with | [_, _, _, _], _ => rfl)
    (fun cdv A outer s H E hr => (d_seq (d_if (d_not (d_tval (d_call ((w_PIsRow T).mono (by decide)) hr rfl (d_pa_cons (d_var (i := 2) rfl (.inl rfl)) (d_pa_cons d_int (d_pa_cons d_int d_pa_nil)))))) (d_single (d_ret (d_tup (d_pa_cons (d_var (i := 3) rfl (.inl rfl)) (d_pa_cons d_str d_pa_nil))))) d_nil)
      (d_seq (d_if (d_not (d_tval (d_call ((w_PIsKind T).mono (by decide)) hr rfl (d_pa_cons (d_var (i := 1) rfl (.inl rfl)) (d_pa_cons (d_ix (d_var (i := 2) rfl (.inl rfl)) d_int) d_pa_nil))))) (d_single (d_ret (d_tup (d_pa_cons (d_add (d_var (i := 3) rfl (.inl rfl)) (d_tup (d_pa_cons d_int d_pa_nil))) (d_pa_cons d_str d_pa_nil))))) d_nil)
      (d_seq (d_set (i := 4) sc_PSourceFault.nd rfl (Or.inl rfl) (d_lst (d_pa_cons (d_tup (d_pa_cons d_str (d_pa_cons d_int (d_pa_cons (d_gi rfl T.i_OLD) d_pa_nil)))) (d_pa_cons (d_tup (d_pa_cons d_str (d_pa_cons d_int (d_pa_cons (d_sub (d_var (i := 0) rfl (.inl rfl)) d_int) d_pa_nil)))) (d_pa_cons (d_tup (d_pa_cons d_str (d_pa_cons d_int (d_pa_cons (d_gi rfl T.i_SINCE) d_pa_nil)))) (d_pa_cons (d_tup (d_pa_cons d_str (d_pa_cons d_int (d_pa_cons (d_gi rfl T.i_MANY) d_pa_nil)))) d_pa_nil))))))
      (d_seq (d_for PassesOwn.never rfl (di_enL rfl T.n_enumerate (d_pa_cons (d_var (i := 4) rfl (.inl rfl)) d_pa_nil)) (dg_tup (n := 2) rfl (dg_cons (dg_name (i := 5) sc_PSourceFault.nd rfl (Or.inl rfl)) (dg_cons (dg_tup (n := 3) rfl (dg_cons (dg_name (i := 6) sc_PSourceFault.nd rfl (Or.inl rfl)) (dg_cons (dg_name (i := 7) sc_PSourceFault.nd rfl (Or.inl rfl)) (dg_cons (dg_name (i := 8) sc_PSourceFault.nd rfl (Or.inl rfl)) dg_nil)))) dg_nil))) (d_single (d_if (d_not (d_tval (d_call ((w_PIsNumber T).mono (by decide)) hr rfl (d_pa_cons (d_ix (d_var (i := 2) rfl (.inl rfl)) (d_add (d_var (i := 5) rfl (.inl rfl)) d_int)) (d_pa_cons (d_var (i := 7) rfl (.inl rfl)) (d_pa_cons (d_var (i := 8) rfl (.inl rfl)) d_pa_nil)))))) (d_single (d_ret (d_tup (d_pa_cons (d_add (d_var (i := 3) rfl (.inl rfl)) (d_tup (d_pa_cons (d_add (d_var (i := 5) rfl (.inl rfl)) d_int) d_pa_nil))) (d_pa_cons (d_var (i := 6) rfl (.inl rfl)) d_pa_nil))))) d_nil)))
      (d_single (d_ret d_non))))))) (fun l M Qd h => ?_)⟩
  obtain ⟨size, ks, s, p, rfl, ok, h⟩ := h
  refine ⟨rfl, ?_⟩
  have k1 := ok.kind
  obtain ⟨a1, a2⟩ := ok.age
  obtain ⟨b1, b2⟩ := ok.place
  obtain ⟨c1, c2⟩ := ok.since
  obtain ⟨d1, d2⟩ := ok.many
  simp [and_assoc, strsOf_map, dVar, dC, dOp, dUn, dNil, dCons, dTup, dLst, dNew, dTest, dAnd, dOr, dNot, dAndV, dOrV, dNotV, dIf, dIsN, dNotN, isN, dChain, dCB, dNext, dSeq, dDrop, dRet, dRetN, dIfS, oI, oI0, oAdd, oC, oIx_tup, oIx_lst, oIx_h, oIx_str, oSl_tup, oSl_lst, oSl_scr, oSl_str, dSl, dNoP, dPart, cLen, cMin2, cInt, uNeg, uBits, uIs, fInt, fBool, fStr, fTup, tyD, dgName, dgNil, dgCons, dgTup, dAsg, dPar, dPar3, dFor, dLc, diTup, diLst, diR1, diR2, diEnT, diEnL, diStr, dCall, dMeth, dMake, dFld, sSetF, startD, dYes, dw, spIsRow, spIsKind, spIsNumber, kindsD, Src.d, inR, at0, k1]
  have q1 : ∀ i : Nat, i < 4 → (atI [D.str s.kind, D.int s.age, D.int s.place, D.int s.since, D.int s.many] ((i : Int) + 1)) = [D.str s.kind, D.int s.age, D.int s.place, D.int s.since, D.int s.many][i + 1]? := fun i _ => by rw [show (i : Int) + 1 = ((i + 1 : Nat) : Int) by omega, atI_nat]
  simp [enD, forD, and_assoc, strsOf_map, dVar, dC, dOp, dUn, dNil, dCons, dTup, dLst, dNew, dTest, dAnd, dOr, dNot, dAndV, dOrV, dNotV, dIf, dIsN, dNotN, isN, dChain, dCB, dNext, dSeq, dDrop, dRet, dRetN, dIfS, oI, oI0, oAdd, oC, oIx_tup, oIx_lst, oIx_h, oIx_str, oSl_tup, oSl_lst, oSl_scr, oSl_str, dSl, dNoP, dPart, cLen, cMin2, cInt, uNeg, uBits, uIs, fInt, fBool, fStr, fTup, tyD, dgName, dgNil, dgCons, dgTup, dAsg, dPar, dPar3, dFor, dLc, diTup, diLst, diR1, diR2, diEnT, diEnL, diStr, dCall, dMeth, dMake, dFld, sSetF, startD, dYes, dw, spIsNumber, inR, at1, at2, at3, at4, *]
end My

set_option Elab.async false
set_option linter.all false
set_option maxRecDepth 100000
set_option maxHeartbeats 4000000
namespace My
open PySem PySem.Spec PyProof.Rows L2
def spPartFault : SpD := fun l M Q => ∃ ks, ∃ s : Prt, ∃ p, l = [kindsD ks, s.d, .tup p] ∧ OkP ks s ∧ Q .non M
theorem sc_PPartFault : FnScope ["kinds", "part", "path"] ["kinds", "part", "path"] (defScope sPPartFault) := ⟨rfl, rfl, rfl, by decide +kernel, rfl, by decide +kernel, by decide +kernel⟩
theorem w_PPartFault {P : Program} {w : World} {K : PySem.W.Frag} {mg : Str → Option Value} {base : Heap} {CG CH : Addr} (T : Tx K w mg CG CH) : GD P w K mg base 2 "part_fault" spPartFault := by
  obtain ⟨f, fd, hm, F⟩ := T.f_PPartFault
  refine ⟨f, hm, F.kp, okD (k := 1) F sc_PPartFault (F.bindsN fun _ _ _ _ _ _ us hl => match us, hl with | [_, _, _], _ => rfl)
    (fun cdv A outer s H E hr => (d_seq (d_if (d_not (d_tval (d_call ((w_PIsRow T).mono (by decide)) hr rfl (d_pa_cons (d_var (i := 1) rfl (.inl rfl)) (d_pa_cons d_int (d_pa_cons d_int d_pa_nil)))))) (d_single (d_ret (d_tup (d_pa_cons (d_var (i := 2) rfl (.inl rfl)) (d_pa_cons d_str d_pa_nil))))) d_nil)
      (d_seq (d_if (d_not (d_tval (d_call ((w_PIsKind T).mono (by decide)) hr rfl (d_pa_cons (d_var (i := 0) rfl (.inl rfl)) (d_pa_cons (d_ix (d_var (i := 1) rfl (.inl rfl)) d_int) d_pa_nil))))) (d_single (d_ret (d_tup (d_pa_cons (d_add (d_var (i := 2) rfl (.inl rfl)) (d_tup (d_pa_cons d_int d_pa_nil))) (d_pa_cons d_str d_pa_nil))))) d_nil)
      (d_seq (d_if (d_not (d_tval (d_call ((w_PIsNumber T).mono (by decide)) hr rfl (d_pa_cons (d_ix (d_var (i := 1) rfl (.inl rfl)) d_int) (d_pa_cons d_int (d_pa_cons (d_gi rfl T.i_OLD) d_pa_nil)))))) (d_single (d_ret (d_tup (d_pa_cons (d_add (d_var (i := 2) rfl (.inl rfl)) (d_tup (d_pa_cons d_int d_pa_nil))) (d_pa_cons d_str d_pa_nil))))) d_nil)
      (d_seq (d_if (d_not (d_tval (d_call ((w_PIsNumber T).mono (by decide)) hr rfl (d_pa_cons (d_ix (d_var (i := 1) rfl (.inl rfl)) d_int) (d_pa_cons (d_ix (d_var (i := 1) rfl (.inl rfl)) d_int) (d_pa_cons (d_gi rfl T.i_OLD) d_pa_nil)))))) (d_single (d_ret (d_tup (d_pa_cons (d_add (d_var (i := 2) rfl (.inl rfl)) (d_tup (d_pa_cons d_int d_pa_nil))) (d_pa_cons d_str d_pa_nil))))) d_nil)
      (d_single (d_ret d_non))))))) (fun l M Qd h => ?_)⟩
  obtain ⟨ks, s, p, rfl, ok, h⟩ := h
  refine ⟨rfl, ?_⟩
  have k1 := ok.kind
  obtain ⟨a1, a2⟩ := ok.lo
  obtain ⟨b1, b2⟩ := ok.hi
  simp [and_assoc, strsOf_map, dVar, dC, dOp, dUn, dNil, dCons, dTup, dLst, dNew, dTest, dAnd, dOr, dNot, dAndV, dOrV, dNotV, dIf, dIsN, dNotN, isN, dChain, dCB, dNext, dSeq, dDrop, dRet, dRetN, dIfS, oI, oI0, oAdd, oC, oIx_tup, oIx_lst, oIx_h, oIx_str, oSl_tup, oSl_lst, oSl_scr, oSl_str, dSl, dNoP, dPart, cLen, cMin2, cInt, uNeg, uBits, uIs, fInt, fBool, fStr, fTup, tyD, dgName, dgNil, dgCons, dgTup, dAsg, dPar, dPar3, dFor, dLc, diTup, diLst, diR1, diR2, diEnT, diEnL, diStr, dCall, dMeth, dMake, dFld, sSetF, startD, dYes, dw, spIsRow, spIsKind, spIsNumber, kindsD, Prt.d, inR, at0, at1, at2, *]
def spAreHours : SpD := fun l M Q => ∃ size hs, l = [.int size, .tup (hs.map .int)] ∧ OkH size hs ∧ Q (.bl true) M
theorem sc_PAreHours : FnScope ["size", "thing", "at", "place"] ["size", "thing"] (defScope sPAreHours) := ⟨rfl, rfl, rfl, by decide +kernel, rfl, by decide +kernel, by decide +kernel⟩
theorem w_PAreHours {P : Program} {w : World} {K : PySem.W.Frag} {mg : Str → Option Value} {base : Heap} {CG CH : Addr} (T : Tx K w mg CG CH) : GD P w K mg base 2 "are_hours" spAreHours := by
  obtain ⟨f, fd, hm, F⟩ := T.f_PAreHours
  refine ⟨f, hm, F.kp, okD (k := 1) F sc_PAreHours (F.bindsN fun _ _ _ _ _ _ us hl => match us, hl with | [_, _], _ => rfl)
    (fun cdv A outer s H E hr => (d_seq (d_if (d_not (d_tval (d_isi hf_tup (by decide +kernel) rfl T.n_isinstance rfl T.n_tuple (d_var (i := 1) rfl (.inl rfl))))) (d_single (d_ret d_bl)) d_nil)
      (d_seq (d_for PassesOwn.never rfl (di_enT rfl T.n_enumerate (d_pa_cons (d_var (i := 1) rfl (.inl rfl)) d_pa_nil)) (dg_tup (n := 2) rfl (dg_cons (dg_name (i := 2) sc_PAreHours.nd rfl (Or.inl rfl)) (dg_cons (dg_name (i := 3) sc_PAreHours.nd rfl (Or.inl rfl)) dg_nil))) (d_single (d_if (d_tw (d_or (d_not (d_tval (d_call ((w_PIsNumber T).mono (by decide)) hr rfl (d_pa_cons (d_var (i := 3) rfl (.inl rfl)) (d_pa_cons d_int (d_pa_cons (d_sub (d_var (i := 0) rfl (.inl rfl)) d_int) d_pa_nil)))))) (d_or1 (d_tw (d_and (dt_gt (d_var (i := 2) rfl (.inl rfl)) d_int) (d_and1 (dt_le (d_var (i := 3) rfl (.inl rfl)) (d_ix (d_var (i := 1) rfl (.inl rfl)) (d_sub (d_var (i := 2) rfl (.inl rfl)) d_int))))))))) (d_single (d_ret d_bl)) d_nil)))
      (d_single (d_ret d_bl))))) (fun l M Qd h => ?_)⟩
  obtain ⟨size, hs, rfl, ok, h⟩ := h
  refine ⟨rfl, ?_⟩
  simp [and_assoc, strsOf_map, dVar, dC, dOp, dUn, dNil, dCons, dTup, dLst, dNew, dTest, dAnd, dOr, dNot, dAndV, dOrV, dNotV, dIf, dIsN, dNotN, isN, dChain, dCB, dNext, dSeq, dDrop, dRet, dRetN, dIfS, oI, oI0, oAdd, oC, oIx_tup, oIx_lst, oIx_h, oIx_str, oSl_tup, oSl_lst, oSl_scr, oSl_str, dSl, dNoP, dPart, cLen, cMin2, cInt, uNeg, uBits, uIs, fInt, fBool, fStr, fTup, tyD, dgName, dgNil, dgCons, dgTup, dAsg, dPar, dPar3, dFor, dLc, diTup, diLst, diR1, diR2, diEnT, diEnL, diStr, dCall, dMeth, dMake, dFld, sSetF, startD, dYes, dw]
  refine for_en (f := D.int) (fun i ds M' => M' = M ∧ ∃ x y, ds = [some (.int size), some (.tup (hs.map .int)), x, y]) ⟨rfl, _, _, rfl⟩ (fun i a ds M' K ha ⟨e1, x, y, e2⟩ k => ?_) (fun ds M' ⟨e1, _⟩ => ?_)
  · subst e1 e2
    refine ⟨trivial, ?_⟩
    obtain ⟨h1, h2⟩ := ok.rng a (List.mem_of_getElem? ha)
    simp [and_assoc, strsOf_map, dVar, dC, dOp, dUn, dNil, dCons, dTup, dLst, dNew, dTest, dAnd, dOr, dNot, dAndV, dOrV, dNotV, dIf, dIsN, dNotN, isN, dChain, dCB, dNext, dSeq, dDrop, dRet, dRetN, dIfS, oI, oI0, oAdd, oC, oIx_tup, oIx_lst, oIx_h, oIx_str, oSl_tup, oSl_lst, oSl_scr, oSl_str, dSl, dNoP, dPart, cLen, cMin2, cInt, uNeg, uBits, uIs, fInt, fBool, fStr, fTup, tyD, dgName, dgNil, dgCons, dgTup, dAsg, dPar, dPar3, dFor, dLc, diTup, diLst, diR1, diR2, diEnT, diEnL, diStr, dCall, dMeth, dMake, dFld, sSetF, startD, dYes, dw, spIsNumber, inR, h1, h2]
    cases i with
    | zero => simp; exact k _ _ ⟨rfl, _, _, rfl⟩
    | succ j =>
      have hj : ∃ b, hs[j]? = some b := by
        have := (List.getElem?_eq_some_iff.mp ha).1
        exact ⟨hs[j], List.getElem?_eq_getElem (by omega)⟩
      obtain ⟨b, hb⟩ := hj
      have ho := ok.ord j b a hb ha
      have hlt : (0 : Int) < (j + 1 : Nat) := by omega
      have hx : atI (hs.map D.int) (j : Int) = some (.int b) := by rw [atI_nat, List.getElem?_map, hb]; rfl
      have ho2 : ¬ a ≤ b := by omega
      simp [oIx_tup, oIx_lst, oIx_h, oIx_str, hlt, hx, ho2, oC]
      exact k _ _ ⟨rfl, _, _, rfl⟩
  · subst e1
    exact ⟨trivial, h⟩
def spWayFault : SpD := fun l M Q => ∃ size ks, ∃ s : Way, ∃ p, p.length ≤ 10 ∧ l = [.int size, kindsD ks, s.d, .tup p] ∧ OkW size ks s ∧ Q .non M
theorem sc_PWayFault : FnScope ["size", "kinds", "way", "path", "at", "part", "fault"] ["size", "kinds", "way", "path"] (defScope sPWayFault) := ⟨rfl, rfl, rfl, by decide +kernel, rfl, by decide +kernel, by decide +kernel⟩
theorem w_PWayFault {P : Program} {w : World} {K : PySem.W.Frag} {mg : Str → Option Value} {base : Heap} {CG CH : Addr} (T : Tx K w mg CG CH) : GD P w K mg base 3 "way_fault" spWayFault := by
  obtain ⟨f, fd, hm, F⟩ := T.f_PWayFault
  refine ⟨f, hm, F.kp, okD (k := 2) F sc_PWayFault (F.bindsN fun _ _ _ _ _ _ us hl => match us, hl with | [_, _, _, _], _ => rfl)
    (fun cdv A outer s H E hr => (d_seq (d_if (d_not (d_tval (d_call ((w_PIsRow T).mono (by decide)) hr rfl (d_pa_cons (d_var (i := 2) rfl (.inl rfl)) (d_pa_cons d_int (d_pa_cons d_int d_pa_nil)))))) (d_single (d_ret (d_tup (d_pa_cons (d_var (i := 3) rfl (.inl rfl)) (d_pa_cons d_str d_pa_nil))))) d_nil)
      (d_seq (d_if (d_not (d_tval (d_call ((w_PIsKind T).mono (by decide)) hr rfl (d_pa_cons (d_var (i := 1) rfl (.inl rfl)) (d_pa_cons (d_ix (d_var (i := 2) rfl (.inl rfl)) d_int) d_pa_nil))))) (d_single (d_ret (d_tup (d_pa_cons (d_add (d_var (i := 3) rfl (.inl rfl)) (d_tup (d_pa_cons d_int d_pa_nil))) (d_pa_cons d_str d_pa_nil))))) d_nil)
      (d_seq (d_if (d_not (d_tval (d_call ((w_PIsRow T).mono (by decide)) hr rfl (d_pa_cons (d_ix (d_var (i := 2) rfl (.inl rfl)) d_int) (d_pa_cons d_int (d_pa_cons (d_gi rfl T.i_PARTS) d_pa_nil)))))) (d_single (d_ret (d_tup (d_pa_cons (d_add (d_var (i := 3) rfl (.inl rfl)) (d_tup (d_pa_cons d_int d_pa_nil))) (d_pa_cons d_str d_pa_nil))))) d_nil)
      (d_seq (d_for PassesOwn.never rfl (di_enT rfl T.n_enumerate (d_pa_cons (d_ix (d_var (i := 2) rfl (.inl rfl)) d_int) d_pa_nil)) (dg_tup (n := 2) rfl (dg_cons (dg_name (i := 4) sc_PWayFault.nd rfl (Or.inl rfl)) (dg_cons (dg_name (i := 5) sc_PWayFault.nd rfl (Or.inl rfl)) dg_nil))) (d_seq (d_set (i := 6) sc_PWayFault.nd rfl (Or.inl rfl) (d_call ((w_PPartFault T).mono (by decide)) hr rfl (d_pa_cons (d_var (i := 1) rfl (.inl rfl)) (d_pa_cons (d_var (i := 5) rfl (.inl rfl)) (d_pa_cons (d_add (d_var (i := 3) rfl (.inl rfl)) (d_tup (d_pa_cons d_int (d_pa_cons (d_var (i := 4) rfl (.inl rfl)) d_pa_nil)))) d_pa_nil)))))
      (d_single (d_if (d_tpc (d_notN (d_var (i := 6) rfl (.inl rfl)))) (d_single (d_ret (d_var (i := 6) rfl (.inl rfl)))) d_nil))))
      (d_seq (d_if (d_tw (d_or (d_not (d_tval (d_isi hf_str (by decide +kernel) rfl T.n_isinstance rfl T.n_str (d_ix (d_var (i := 2) rfl (.inl rfl)) d_int)))) (d_or1 (dt_ni (d_ix (d_var (i := 2) rfl (.inl rfl)) d_int) (d_tup (d_pa_cons (d_gs rfl T.s_OLDEST) (d_pa_cons (d_gs rfl T.s_YOUNGEST) d_pa_nil))))))) (d_single (d_ret (d_tup (d_pa_cons (d_add (d_var (i := 3) rfl (.inl rfl)) (d_tup (d_pa_cons d_int d_pa_nil))) (d_pa_cons d_str d_pa_nil))))) d_nil)
      (d_seq (d_if (d_not (d_tval (d_call ((w_PAreHours T).mono (by decide)) hr rfl (d_pa_cons (d_var (i := 0) rfl (.inl rfl)) (d_pa_cons (d_ix (d_var (i := 2) rfl (.inl rfl)) d_int) d_pa_nil))))) (d_single (d_ret (d_tup (d_pa_cons (d_add (d_var (i := 3) rfl (.inl rfl)) (d_tup (d_pa_cons d_int d_pa_nil))) (d_pa_cons d_str d_pa_nil))))) d_nil)
      (d_seq (d_if (d_not (d_tval (d_call ((w_PIsNumber T).mono (by decide)) hr rfl (d_pa_cons (d_ix (d_var (i := 2) rfl (.inl rfl)) d_int) (d_pa_cons d_int (d_pa_cons (d_gi rfl T.i_WAIT) d_pa_nil)))))) (d_single (d_ret (d_tup (d_pa_cons (d_add (d_var (i := 3) rfl (.inl rfl)) (d_tup (d_pa_cons d_int d_pa_nil))) (d_pa_cons d_str d_pa_nil))))) d_nil)
      (d_single (d_ret d_non)))))))))) (fun l M Qd h => ?_)⟩
  obtain ⟨size, ks, s, p, hp, rfl, ok, h⟩ := h
  refine ⟨rfl, ?_⟩
  have k1 := ok.kind
  obtain ⟨a1, a2⟩ := ok.wait
  have c1 : (1 : Int) ≤ s.parts.length := by have := ok.len; omega
  have c2 : (s.parts.length : Int) ≤ 3 := by have := ok.len; omega
  simp [and_assoc, strsOf_map, dVar, dC, dOp, dUn, dNil, dCons, dTup, dLst, dNew, dTest, dAnd, dOr, dNot, dAndV, dOrV, dNotV, dIf, dIsN, dNotN, isN, dChain, dCB, dNext, dSeq, dDrop, dRet, dRetN, dIfS, oI, oI0, oAdd, oC, oIx_tup, oIx_lst, oIx_h, oIx_str, oSl_tup, oSl_lst, oSl_scr, oSl_str, dSl, dNoP, dPart, cLen, cMin2, cInt, uNeg, uBits, uIs, fInt, fBool, fStr, fTup, tyD, dgName, dgNil, dgCons, dgTup, dAsg, dPar, dPar3, dFor, dLc, diTup, diLst, diR1, diR2, diEnT, diEnL, diStr, dCall, dMeth, dMake, dFld, sSetF, startD, dYes, dw, spIsRow, spIsKind, kindsD, Way.d, inR, at0, at1, k1, c1, c2]
  refine for_en (f := Prt.d) (fun i ds M' => M' = M ∧ ∃ x y z, ds = [some (.int size), some (kindsD ks), some s.d, some (.tup p), x, y, z]) ⟨rfl, _, _, _, rfl⟩ (fun i a ds M' K ha ⟨e1, x, y, z, e2⟩ k => ?_) (fun ds M' ⟨e1, x, y, z, e2⟩ => ?_)
  · subst e1 e2
    refine ⟨trivial, ?_⟩
    have op := ok.parts a (List.mem_of_getElem? ha)
    have hp2 : p.length ≤ 998 := by omega
    simp [and_assoc, strsOf_map, dVar, dC, dOp, dUn, dNil, dCons, dTup, dLst, dNew, dTest, dAnd, dOr, dNot, dAndV, dOrV, dNotV, dIf, dIsN, dNotN, isN, dChain, dCB, dNext, dSeq, dDrop, dRet, dRetN, dIfS, oI, oI0, oAdd, oC, oIx_tup, oIx_lst, oIx_h, oIx_str, oSl_tup, oSl_lst, oSl_scr, oSl_str, dSl, dNoP, dPart, cLen, cMin2, cInt, uNeg, uBits, uIs, fInt, fBool, fStr, fTup, tyD, dgName, dgNil, dgCons, dgTup, dAsg, dPar, dPar3, dFor, dLc, diTup, diLst, diR1, diR2, diEnT, diEnL, diStr, dCall, dMeth, dMake, dFld, sSetF, startD, dYes, dw, hp2]
    refine ⟨_, _, _, rfl, op, ?_⟩
    simp
    exact k _ _ ⟨rfl, _, _, _, rfl⟩
  · subst e1 e2
    refine ⟨trivial, ?_⟩
    simp [and_assoc, strsOf_map, dVar, dC, dOp, dUn, dNil, dCons, dTup, dLst, dNew, dTest, dAnd, dOr, dNot, dAndV, dOrV, dNotV, dIf, dIsN, dNotN, isN, dChain, dCB, dNext, dSeq, dDrop, dRet, dRetN, dIfS, oI, oI0, oAdd, oC, oIx_tup, oIx_lst, oIx_h, oIx_str, oSl_tup, oSl_lst, oSl_scr, oSl_str, dSl, dNoP, dPart, cLen, cMin2, cInt, uNeg, uBits, uIs, fInt, fBool, fStr, fTup, tyD, dgName, dgNil, dgCons, dgTup, dAsg, dPar, dPar3, dFor, dLc, diTup, diLst, diR1, diR2, diEnT, diEnL, diStr, dCall, dMeth, dMake, dFld, sSetF, startD, dYes, dw, Way.d, at2, at3, at4]
    have kp : ¬ s.keeps = ("oldest" : Str) → s.keeps = ("youngest" : Str) := fun n => ok.keeps.resolve_left n
    refine in_strs (ks := [("oldest" : Str), ("youngest" : Str)]) ?_
    simp [oIx_tup, oIx_lst, oIx_h, oIx_str, spAreHours, spIsNumber, inR, a1, a2]
    exact .inl ⟨kp, size, s.hours, ⟨rfl, rfl⟩, ok.hours, h⟩
def spWorldfault : SpD := fun l M Q => ∃ w : Wld, l = [w.d] ∧ Ok w ∧ Q .non M
theorem sc_PWorldfault : FnScope ["thing", "size", "kinds", "sources", "ways", "fault", "at", "source", "way"] ["thing"] (defScope sPWorldfault) := ⟨rfl, rfl, rfl, by decide +kernel, rfl, by decide +kernel, by decide +kernel⟩
theorem w_PWorldfault {P : Program} {w : World} {K : PySem.W.Frag} {mg : Str → Option Value} {base : Heap} {CG CH : Addr} (T : Tx K w mg CG CH) : GD P w K mg base 4 "worldfault" spWorldfault := by
  obtain ⟨f, fd, hm, F⟩ := T.f_PWorldfault
  refine ⟨f, hm, F.kp, okD (k := 3) F sc_PWorldfault (F.bindsN fun _ _ _ _ _ _ us hl => match us, hl with | [_], _ => rfl)
    (fun cdv A outer s H E hr => (d_seq (d_if (d_not (d_tval (d_call ((w_PIsRow T).mono (by decide)) hr rfl (d_pa_cons (d_var (i := 0) rfl (.inl rfl)) (d_pa_cons d_int (d_pa_cons d_int d_pa_nil)))))) (d_single (d_ret (d_tup (d_pa_cons (d_tup d_pa_nil) (d_pa_cons d_str d_pa_nil))))) d_nil)
      (d_seq (d_asg (d_var (i := 0) rfl (.inl rfl)) (dg_tup (n := 4) rfl (dg_cons (dg_name (i := 1) sc_PWorldfault.nd rfl (Or.inl rfl)) (dg_cons (dg_name (i := 2) sc_PWorldfault.nd rfl (Or.inl rfl)) (dg_cons (dg_name (i := 3) sc_PWorldfault.nd rfl (Or.inl rfl)) (dg_cons (dg_name (i := 4) sc_PWorldfault.nd rfl (Or.inl rfl)) dg_nil))))))
      (d_seq (d_if (d_not (d_tval (d_call ((w_PIsNumber T).mono (by decide)) hr rfl (d_pa_cons (d_var (i := 1) rfl (.inl rfl)) (d_pa_cons d_int (d_pa_cons (d_gi rfl T.i_ROUND) d_pa_nil)))))) (d_single (d_ret (d_tup (d_pa_cons (d_tup (d_pa_cons d_int d_pa_nil)) (d_pa_cons d_str d_pa_nil))))) d_nil)
      (d_seq (d_set (i := 5) sc_PWorldfault.nd rfl (Or.inl rfl) (d_call ((w_PKindsFault T).mono (by decide)) hr rfl (d_pa_cons (d_var (i := 2) rfl (.inl rfl)) d_pa_nil)))
      (d_seq (d_if (d_tpc (d_notN (d_var (i := 5) rfl (.inl rfl)))) (d_single (d_ret (d_var (i := 5) rfl (.inl rfl)))) d_nil)
      (d_seq (d_if (d_not (d_tval (d_call ((w_PIsRow T).mono (by decide)) hr rfl (d_pa_cons (d_var (i := 3) rfl (.inl rfl)) (d_pa_cons d_int (d_pa_cons (d_gi rfl T.i_SOURCES) d_pa_nil)))))) (d_single (d_ret (d_tup (d_pa_cons (d_tup (d_pa_cons d_int d_pa_nil)) (d_pa_cons d_str d_pa_nil))))) d_nil)
      (d_seq (d_for PassesOwn.never rfl (di_enT rfl T.n_enumerate (d_pa_cons (d_var (i := 3) rfl (.inl rfl)) d_pa_nil)) (dg_tup (n := 2) rfl (dg_cons (dg_name (i := 6) sc_PWorldfault.nd rfl (Or.inl rfl)) (dg_cons (dg_name (i := 7) sc_PWorldfault.nd rfl (Or.inl rfl)) dg_nil))) (d_seq (d_set (i := 5) sc_PWorldfault.nd rfl (Or.inl rfl) (d_call ((w_PSourceFault T).mono (by decide)) hr rfl (d_pa_cons (d_var (i := 1) rfl (.inl rfl)) (d_pa_cons (d_var (i := 2) rfl (.inl rfl)) (d_pa_cons (d_var (i := 7) rfl (.inl rfl)) (d_pa_cons (d_tup (d_pa_cons d_int (d_pa_cons (d_var (i := 6) rfl (.inl rfl)) d_pa_nil))) d_pa_nil))))))
      (d_single (d_if (d_tpc (d_notN (d_var (i := 5) rfl (.inl rfl)))) (d_single (d_ret (d_var (i := 5) rfl (.inl rfl)))) d_nil))))
      (d_seq (d_if (d_not (d_tval (d_call ((w_PIsRow T).mono (by decide)) hr rfl (d_pa_cons (d_var (i := 4) rfl (.inl rfl)) (d_pa_cons d_int (d_pa_cons (d_gi rfl T.i_WAYS) d_pa_nil)))))) (d_single (d_ret (d_tup (d_pa_cons (d_tup (d_pa_cons d_int d_pa_nil)) (d_pa_cons d_str d_pa_nil))))) d_nil)
      (d_seq (d_for PassesOwn.never rfl (di_enT rfl T.n_enumerate (d_pa_cons (d_var (i := 4) rfl (.inl rfl)) d_pa_nil)) (dg_tup (n := 2) rfl (dg_cons (dg_name (i := 6) sc_PWorldfault.nd rfl (Or.inl rfl)) (dg_cons (dg_name (i := 8) sc_PWorldfault.nd rfl (Or.inl rfl)) dg_nil))) (d_seq (d_set (i := 5) sc_PWorldfault.nd rfl (Or.inl rfl) (d_call ((w_PWayFault T).mono (by decide)) hr rfl (d_pa_cons (d_var (i := 1) rfl (.inl rfl)) (d_pa_cons (d_var (i := 2) rfl (.inl rfl)) (d_pa_cons (d_var (i := 8) rfl (.inl rfl)) (d_pa_cons (d_tup (d_pa_cons d_int (d_pa_cons (d_var (i := 6) rfl (.inl rfl)) d_pa_nil))) d_pa_nil))))))
      (d_single (d_if (d_tpc (d_notN (d_var (i := 5) rfl (.inl rfl)))) (d_single (d_ret (d_var (i := 5) rfl (.inl rfl)))) d_nil))))
      (d_single (d_ret d_non)))))))))))) (fun l M Qd h => ?_)⟩
  obtain ⟨w, rfl, ok, h⟩ := h
  refine ⟨rfl, ?_⟩
  obtain ⟨a1, a2⟩ := ok.size
  have c1 : (w.srcs.length : Int) ≤ 6 := by have := ok.slen; omega
  have c2 : (w.ways.length : Int) ≤ 8 := by have := ok.wlen; omega
  simp [and_assoc, strsOf_map, dVar, dC, dOp, dUn, dNil, dCons, dTup, dLst, dNew, dTest, dAnd, dOr, dNot, dAndV, dOrV, dNotV, dIf, dIsN, dNotN, isN, dChain, dCB, dNext, dSeq, dDrop, dRet, dRetN, dIfS, oI, oI0, oAdd, oC, oIx_tup, oIx_lst, oIx_h, oIx_str, oSl_tup, oSl_lst, oSl_scr, oSl_str, dSl, dNoP, dPart, cLen, cMin2, cInt, uNeg, uBits, uIs, fInt, fBool, fStr, fTup, tyD, dgName, dgNil, dgCons, dgTup, dAsg, dPar, dPar3, dFor, dLc, diTup, diLst, diR1, diR2, diEnT, diEnL, diStr, dCall, dMeth, dMake, dFld, sSetF, startD, dYes, dw, spIsRow, spIsNumber, Wld.d, inR, a1, a2, spKindsFault]
  refine ⟨_, rfl, ok.kinds, ?_⟩
  simp [oIx_tup, oIx_lst, oIx_h, oIx_str, c1]
  refine .inr ?_
  refine for_en (f := Src.d) (fun i ds M' => M' = M ∧ ∃ x y z t, ds = [some w.d, some (.int w.size), some (kindsD w.kinds), some (.tup (w.srcs.map Src.d)), some (.tup (w.ways.map Way.d)), x, y, z, t]) ⟨rfl, _, _, _, _, rfl⟩ (fun i a ds M' K ha ⟨e1, x, y, z, t, e2⟩ k => ?_) (fun ds M' ⟨e1, x, y, z, t, e2⟩ => ?_)
  · subst e1 e2
    refine ⟨trivial, ?_⟩
    simp [and_assoc, strsOf_map, dVar, dC, dOp, dUn, dNil, dCons, dTup, dLst, dNew, dTest, dAnd, dOr, dNot, dAndV, dOrV, dNotV, dIf, dIsN, dNotN, isN, dChain, dCB, dNext, dSeq, dDrop, dRet, dRetN, dIfS, oI, oI0, oAdd, oC, oIx_tup, oIx_lst, oIx_h, oIx_str, oSl_tup, oSl_lst, oSl_scr, oSl_str, dSl, dNoP, dPart, cLen, cMin2, cInt, uNeg, uBits, uIs, fInt, fBool, fStr, fTup, tyD, dgName, dgNil, dgCons, dgTup, dAsg, dPar, dPar3, dFor, dLc, diTup, diLst, diR1, diR2, diEnT, diEnL, diStr, dCall, dMeth, dMake, dFld, sSetF, startD, dYes, dw]
    refine ⟨_, _, _, _, rfl, ok.srcs a (List.mem_of_getElem? ha), ?_⟩
    simp
    exact k _ _ ⟨rfl, _, _, _, _, rfl⟩
  · subst e1 e2
    refine ⟨trivial, ?_⟩
    simp [and_assoc, strsOf_map, dVar, dC, dOp, dUn, dNil, dCons, dTup, dLst, dNew, dTest, dAnd, dOr, dNot, dAndV, dOrV, dNotV, dIf, dIsN, dNotN, isN, dChain, dCB, dNext, dSeq, dDrop, dRet, dRetN, dIfS, oI, oI0, oAdd, oC, oIx_tup, oIx_lst, oIx_h, oIx_str, oSl_tup, oSl_lst, oSl_scr, oSl_str, dSl, dNoP, dPart, cLen, cMin2, cInt, uNeg, uBits, uIs, fInt, fBool, fStr, fTup, tyD, dgName, dgNil, dgCons, dgTup, dAsg, dPar, dPar3, dFor, dLc, diTup, diLst, diR1, diR2, diEnT, diEnL, diStr, dCall, dMeth, dMake, dFld, sSetF, startD, dYes, dw, spIsRow, inR, c2]
    refine for_en (f := Way.d) (fun i ds M'' => M'' = M' ∧ ∃ x y z t, ds = [some w.d, some (.int w.size), some (kindsD w.kinds), some (.tup (w.srcs.map Src.d)), some (.tup (w.ways.map Way.d)), x, y, z, t]) ⟨rfl, _, _, _, _, rfl⟩ (fun i a ds M'' K ha ⟨e1, x, y, z, t, e2⟩ k => ?_) (fun ds M'' ⟨e1, x, y, z, t, e2⟩ => ?_)
    · subst e1 e2
      refine ⟨trivial, ?_⟩
      simp [and_assoc, strsOf_map, dVar, dC, dOp, dUn, dNil, dCons, dTup, dLst, dNew, dTest, dAnd, dOr, dNot, dAndV, dOrV, dNotV, dIf, dIsN, dNotN, isN, dChain, dCB, dNext, dSeq, dDrop, dRet, dRetN, dIfS, oI, oI0, oAdd, oC, oIx_tup, oIx_lst, oIx_h, oIx_str, oSl_tup, oSl_lst, oSl_scr, oSl_str, dSl, dNoP, dPart, cLen, cMin2, cInt, uNeg, uBits, uIs, fInt, fBool, fStr, fTup, tyD, dgName, dgNil, dgCons, dgTup, dAsg, dPar, dPar3, dFor, dLc, diTup, diLst, diR1, diR2, diEnT, diEnL, diStr, dCall, dMeth, dMake, dFld, sSetF, startD, dYes, dw]
      refine ⟨_, _, _, _, ?_, rfl, ok.ways a (List.mem_of_getElem? ha), ?_⟩
      · simp
      simp
      exact k _ _ ⟨rfl, _, _, _, _, rfl⟩
    · subst e1 e2
      exact ⟨trivial, h⟩
end My

set_option Elab.async false
set_option linter.all false
set_option maxRecDepth 100000
set_option maxHeartbeats 4000000
namespace My
open PySem PySem.Spec PyProof.Rows L2
theorem shapedAll_ints : ∀ l : List Int, PyData.canLayAll0 (pys (l.map D.int)) = true ∧ PyData.depthAll (pys (l.map D.int)) ≤ 1 ∧ plains (l.map D.int) = true
  | [] => ⟨rfl, Nat.zero_le _, rfl⟩
  | a :: l => by
    obtain ⟨h1, h2, h3⟩ := shapedAll_ints l
    refine ⟨?_, ?_, ?_⟩
    · show (PyData.canLay0 (.int a) && PyData.canLayAll0 (pys (l.map D.int))) = true
      rw [h1]; rfl
    · show max (PyData.depth (.int a)) (PyData.depthAll (pys (l.map D.int))) ≤ 1
      have : PyData.depth (.int a) ≤ 1 := by simp [oIx_tup, oIx_lst, oIx_h, oIx_str, PyData.depth]
      omega
    · show (plain (.int a) && plains (l.map D.int)) = true
      rw [h3]; rfl
theorem sh_ints (l : List Int) : sh (.lst (l.map D.int)) = true := by
  obtain ⟨h1, h2, h3⟩ := shapedAll_ints l
  unfold sh SeqAt.shaped
  have e1 : plain (.lst (l.map D.int)) = true := h3
  have e2 : PyData.canLay0 (py (.lst (l.map D.int))) = true := h1
  have e3 : PyData.depth (py (.lst (l.map D.int))) ≤ 64 := by
    show PyData.depthAll (pys (l.map D.int)) + 1 ≤ 64
    omega
  rw [e1, e2, decide_eq_true e3]; rfl
theorem sh_nilL : sh (.lst []) = true := sh_ints []
theorem eq_nil (l : List D) : PyData.eqv (py (.lst l)) (py (.lst [])) = l.isEmpty := by
  cases l <;> rfl
def spLIs : SpD
  | [.int i, .int lo, .int hi], M, Q => Q (.bl (inR lo i hi)) M
  | _, _, _ => False
theorem sc_LIs : FnScope ["_law_thing", "_law_low", "_law_high"] ["_law_thing", "_law_low", "_law_high"] (defScope sLIs) := ⟨rfl, rfl, rfl, by decide +kernel, rfl, by decide +kernel, by decide +kernel⟩
theorem w_LIs {P : Program} {w : World} {K : PySem.W.Frag} {mg : Str → Option Value} {base : Heap} {CG CH : Addr} (T : Tx K w mg CG CH) : GD P w K mg base 1 "_law_is" spLIs := by
  obtain ⟨f, fd, hm, F⟩ := T.f_LIs
  refine ⟨f, hm, F.kp, okD (k := 0) F sc_LIs (F.bindsN fun _ _ _ _ _ _ us hl => match us, hl with | [_, _, _], _ => rfl)
    (fun cdv A outer s H E hr => (d_single (d_ret (d_andV (d_isi hf_int (by decide +kernel) rfl T.n_isinstance rfl T.n_int (d_var (i := 0) rfl (.inl rfl))) (d_andV (d_notV (d_isi hf_bool (by decide +kernel) rfl T.n_isinstance rfl T.n_bool (d_var (i := 0) rfl (.inl rfl)))) (d_one (d_lele (d_var (i := 1) rfl (.inl rfl)) (d_var (i := 0) rfl (.inl rfl)) (d_var (i := 2) rfl (.inl rfl))))))))) (fun l M Qd h => ?_)⟩
  match l, h with
  | [.int i, .int lo, .int hi], h =>
  refine ⟨rfl, ?_⟩
  have h : Qd (.bl (inR lo i hi)) M := h
  by_cases c : lo ≤ i <;> simp_all [and_assoc, strsOf_map, dVar, dC, dOp, dUn, dNil, dCons, dTup, dLst, dNew, dTest, dAnd, dOr, dNot, dAndV, dOrV, dNotV, dIf, dIsN, dNotN, isN, dChain, dCB, dNext, dSeq, dDrop, dRet, dRetN, dIfS, oI, oI0, oAdd, oC, oIx_tup, oIx_lst, oIx_h, oIx_str, oSl_tup, oSl_lst, oSl_scr, oSl_str, dSl, dNoP, dPart, cLen, cMin2, cInt, uNeg, uBits, uIs, fInt, fBool, fStr, fTup, tyD, dgName, dgNil, dgCons, dgTup, dAsg, dPar, dPar3, dFor, dLc, diTup, diLst, diR1, diR2, diEnT, diEnL, diStr, dCall, dMeth, dMake, dFld, sSetF, startD, dYes, dw, inR]
def spLRowOf : SpD
  | [.tup m, .int lo, .int hi], M, Q => Q (.bl (inR lo m.length hi)) M
  | _, _, _ => False
theorem sc_LRowOf : FnScope ["_law_thing", "_law_few", "_law_many"] ["_law_thing", "_law_few", "_law_many"] (defScope sLRowOf) := ⟨rfl, rfl, rfl, by decide +kernel, rfl, by decide +kernel, by decide +kernel⟩
theorem w_LRowOf {P : Program} {w : World} {K : PySem.W.Frag} {mg : Str → Option Value} {base : Heap} {CG CH : Addr} (T : Tx K w mg CG CH) : GD P w K mg base 1 "_law_row_of" spLRowOf := by
  obtain ⟨f, fd, hm, F⟩ := T.f_LRowOf
  refine ⟨f, hm, F.kp, okD (k := 0) F sc_LRowOf (F.bindsN fun _ _ _ _ _ _ us hl => match us, hl with | [_, _, _], _ => rfl)
    (fun cdv A outer s H E hr => (d_single (d_ret (d_andV (d_isi hf_tup (by decide +kernel) rfl T.n_isinstance rfl T.n_tuple (d_var (i := 0) rfl (.inl rfl))) (d_one (d_lele (d_var (i := 1) rfl (.inl rfl)) (d_len rfl T.n_len (d_pa_cons (d_var (i := 0) rfl (.inl rfl)) d_pa_nil)) (d_var (i := 2) rfl (.inl rfl)))))))) (fun l M Qd h => ?_)⟩
  match l, h with
  | [.tup m, .int lo, .int hi], h =>
  refine ⟨rfl, ?_⟩
  have h : Qd (.bl (inR lo m.length hi)) M := h
  by_cases c : lo ≤ m.length <;> simp_all [and_assoc, strsOf_map, dVar, dC, dOp, dUn, dNil, dCons, dTup, dLst, dNew, dTest, dAnd, dOr, dNot, dAndV, dOrV, dNotV, dIf, dIsN, dNotN, isN, dChain, dCB, dNext, dSeq, dDrop, dRet, dRetN, dIfS, oI, oI0, oAdd, oC, oIx_tup, oIx_lst, oIx_h, oIx_str, oSl_tup, oSl_lst, oSl_scr, oSl_str, dSl, dNoP, dPart, cLen, cMin2, cInt, uNeg, uBits, uIs, fInt, fBool, fStr, fTup, tyD, dgName, dgNil, dgCons, dgTup, dAsg, dPar, dPar3, dFor, dLc, diTup, diLst, diR1, diR2, diEnT, diEnL, diStr, dCall, dMeth, dMake, dFld, sSetF, startD, dYes, dw, inR]
def spLKindIn : SpD
  | [.tup l, .str s], M, Q => l = (strsOf l).map .str ∧ Q (.bl (decide (s ∈ strsOf l))) M
  | _, _, _ => False
theorem sc_LKindIn : FnScope ["_law_kinds_here", "_law_thing"] ["_law_kinds_here", "_law_thing"] (defScope sLKindIn) := ⟨rfl, rfl, rfl, by decide +kernel, rfl, by decide +kernel, by decide +kernel⟩
theorem w_LKindIn {P : Program} {w : World} {K : PySem.W.Frag} {mg : Str → Option Value} {base : Heap} {CG CH : Addr} (T : Tx K w mg CG CH) : GD P w K mg base 1 "_law_kind_in" spLKindIn := by
  obtain ⟨f, fd, hm, F⟩ := T.f_LKindIn
  refine ⟨f, hm, F.kp, okD (k := 0) F sc_LKindIn (F.bindsN fun _ _ _ _ _ _ us hl => match us, hl with | [_, _], _ => rfl)
    (fun cdv A outer s H E hr => (d_single (d_ret (d_andV (d_isi hf_str (by decide +kernel) rfl T.n_isinstance rfl T.n_str (d_var (i := 1) rfl (.inl rfl))) (d_one (d_in (d_var (i := 1) rfl (.inl rfl)) (d_var (i := 0) rfl (.inl rfl)))))))) (fun l M Qd h => ?_)⟩
  match l, h with
  | [.tup l, .str s], ⟨e, h⟩ =>
  refine ⟨rfl, ?_⟩
  simp [and_assoc, strsOf_map, dVar, dC, dOp, dUn, dNil, dCons, dTup, dLst, dNew, dTest, dAnd, dOr, dNot, dAndV, dOrV, dNotV, dIf, dIsN, dNotN, isN, dChain, dCB, dNext, dSeq, dDrop, dRet, dRetN, dIfS, oI, oI0, oAdd, oC, oIx_tup, oIx_lst, oIx_h, oIx_str, oSl_tup, oSl_lst, oSl_scr, oSl_str, dSl, dNoP, dPart, cLen, cMin2, cInt, uNeg, uBits, uIs, fInt, fBool, fStr, fTup, tyD, dgName, dgNil, dgCons, dgTup, dAsg, dPar, dPar3, dFor, dLc, diTup, diLst, diR1, diR2, diEnT, diEnL, diStr, dCall, dMeth, dMake, dFld, sSetF, startD, dYes, dw]
  rw [e]
  exact in_strs h
/-- a text of letters -/
def strG (s : Str) : Prop := s.length ≤ 30 ∧ ∀ c ∈ s.cps.toList, c ∈ letters.cps.toList
def spLName : SpD
  | [.str s], M, Q => strG s ∧ ∀ b, (b = true → nameOk s = true) → Q (.bl b) M
  | _, _, _ => False
theorem sc_LName : FnScope ["_law_thing", "_law_sign"] ["_law_thing"] (defScope sLName) := ⟨rfl, rfl, rfl, by decide +kernel, rfl, by decide +kernel, by decide +kernel⟩
theorem w_LName {P : Program} {w : World} {K : PySem.W.Frag} {mg : Str → Option Value} {base : Heap} {CG CH : Addr} (T : Tx K w mg CG CH) : GD P w K mg base 1 "_law_name" spLName := by
  obtain ⟨f, fd, hm, F⟩ := T.f_LName
  refine ⟨f, hm, F.kp, okD (k := 0) F sc_LName (F.bindsN fun _ _ _ _ _ _ us hl => match us, hl with | [_], _ => rfl)
    (fun cdv A outer s H E hr => (d_seq (d_if (d_tw (d_or (d_not (d_tval (d_isi hf_str (by decide +kernel) rfl T.n_isinstance rfl T.n_str (d_var (i := 0) rfl (.inl rfl))))) (d_or1 (d_not (dt_lele d_int (d_len rfl T.n_len (d_pa_cons (d_var (i := 0) rfl (.inl rfl)) d_pa_nil)) d_int))))) (d_single (d_ret d_bl)) d_nil)
      (d_single (d_ret (d_eq hr.units (d_lc (own := [("_law_sign", 1)]) rfl sc_LName.nd (di_str (d_var (i := 0) rfl (.inl rfl))) (blkOk_by (N := ["_law_thing", "_law_sign"]) (sc := defScope sLName) (by decide +kernel)) (by decide) (fun _ _ _ _ _ => (dg_name (i := 1) sc_LName.nd rfl (Or.inl rfl))) (fun _ _ _ _ _ => (d_oneif (dt_ni (d_var (i := 1) rfl (.inl rfl)) d_str))) (fun _ _ _ _ _ => (d_var (i := 1) rfl (.inl rfl)))) (d_lst d_pa_nil)))))) (fun l M Qd h => ?_)⟩
  match l, h with
  | [.str s], ⟨⟨g1, g2⟩, h⟩ =>
  refine ⟨rfl, ?_⟩
  have hz : s.length ≤ 100000 := by omega
  by_cases c1 : (1 : Int) ≤ s.length
  · by_cases c2 : (s.length : Int) ≤ 8
    · simp [and_assoc, strsOf_map, dVar, dC, dOp, dUn, dNil, dCons, dTup, dLst, dNew, dTest, dAnd, dOr, dNot, dAndV, dOrV, dNotV, dIf, dIsN, dNotN, isN, dChain, dCB, dNext, dSeq, dDrop, dRet, dRetN, dIfS, oI, oI0, oAdd, oC, oIx_tup, oIx_lst, oIx_h, oIx_str, oSl_tup, oSl_lst, oSl_scr, oSl_str, dSl, dNoP, dPart, cLen, cMin2, cInt, uNeg, uBits, uIs, fInt, fBool, fStr, fTup, tyD, dgName, dgNil, dgCons, dgTup, dAsg, dPar, dPar3, dFor, dLc, diTup, diLst, diR1, diR2, diEnT, diEnL, diStr, dCall, dMeth, dMake, dFld, sSetF, startD, dYes, dw, hz, c1, c2]
      refine (lc_map (f := fun c => .str ⟨#[c]⟩) (l := s.cps.toList) (fun i acc M' => M' = M ∧ acc = []) ⟨rfl, rfl⟩ (fun i a acc M' K ha ⟨e1, e2⟩ k => ?_) (fun acc M' ⟨e1, e2⟩ => ?_))
      · subst e1 e2
        refine ⟨trivial, by simp, ?_⟩
        have ga := g2 a (List.mem_of_getElem? ha)
        simp [and_assoc, strsOf_map, dVar, dC, dOp, dUn, dNil, dCons, dTup, dLst, dNew, dTest, dAnd, dOr, dNot, dAndV, dOrV, dNotV, dIf, dIsN, dNotN, isN, dChain, dCB, dNext, dSeq, dDrop, dRet, dRetN, dIfS, oI, oI0, oAdd, oC, oIx_tup, oIx_lst, oIx_h, oIx_str, oSl_tup, oSl_lst, oSl_scr, oSl_str, dSl, dNoP, dPart, cLen, cMin2, cInt, uNeg, uBits, uIs, fInt, fBool, fStr, fTup, tyD, dgName, dgNil, dgCons, dgTup, dAsg, dPar, dPar3, dFor, dLc, diTup, diLst, diR1, diR2, diEnT, diEnL, diStr, dCall, dMeth, dMake, dFld, sSetF, startD, dYes, dw]
        refine ⟨a, rfl, ?_⟩
        simp [oIx_tup, oIx_lst, oIx_h, oIx_str, letters] at ga
        simp [oIx_tup, oIx_lst, oIx_h, oIx_str, ga]
        exact k _ _ ⟨rfl, rfl⟩
      · subst e1 e2
        refine ⟨trivial, ?_⟩
        refine ⟨sh_nilL, sh_nilL, ?_⟩
        refine h _ fun _ => nameOk_iff.mpr ⟨⟨by omega, by omega⟩, g2⟩
    · simp [and_assoc, strsOf_map, dVar, dC, dOp, dUn, dNil, dCons, dTup, dLst, dNew, dTest, dAnd, dOr, dNot, dAndV, dOrV, dNotV, dIf, dIsN, dNotN, isN, dChain, dCB, dNext, dSeq, dDrop, dRet, dRetN, dIfS, oI, oI0, oAdd, oC, oIx_tup, oIx_lst, oIx_h, oIx_str, oSl_tup, oSl_lst, oSl_scr, oSl_str, dSl, dNoP, dPart, cLen, cMin2, cInt, uNeg, uBits, uIs, fInt, fBool, fStr, fTup, tyD, dgName, dgNil, dgCons, dgTup, dAsg, dPar, dPar3, dFor, dLc, diTup, diLst, diR1, diR2, diEnT, diEnL, diStr, dCall, dMeth, dMake, dFld, sSetF, startD, dYes, dw, hz, c1, c2]
      first | exact .inl ⟨by omega, h _ fun z => nomatch z⟩ | exact h _ fun z => nomatch z
  · simp [and_assoc, strsOf_map, dVar, dC, dOp, dUn, dNil, dCons, dTup, dLst, dNew, dTest, dAnd, dOr, dNot, dAndV, dOrV, dNotV, dIf, dIsN, dNotN, isN, dChain, dCB, dNext, dSeq, dDrop, dRet, dRetN, dIfS, oI, oI0, oAdd, oC, oIx_tup, oIx_lst, oIx_h, oIx_str, oSl_tup, oSl_lst, oSl_scr, oSl_str, dSl, dNoP, dPart, cLen, cMin2, cInt, uNeg, uBits, uIs, fInt, fBool, fStr, fTup, tyD, dgName, dgNil, dgCons, dgTup, dAsg, dPar, dPar3, dFor, dLc, diTup, diLst, diR1, diR2, diEnT, diEnL, diStr, dCall, dMeth, dMake, dFld, sSetF, startD, dYes, dw, hz, c1]
    first | exact .inl ⟨by omega, h _ fun z => nomatch z⟩ | exact h _ fun z => nomatch z
def spLRising : SpD := fun l M Q => ∃ (n : Int) (hs : List Int), l = [.tup (hs.map .int), .int n] ∧ hs.length ≤ 20 ∧ ∀ b, (b = true → OkH n hs) → Q (.bl b) M
theorem sc_LRising : FnScope ["_law_thing", "_law_many", "_law_one_here", "_law_k"] ["_law_thing", "_law_many"] (defScope sLRising) := ⟨rfl, rfl, rfl, by decide +kernel, rfl, by decide +kernel, by decide +kernel⟩
theorem w_LRising {P : Program} {w : World} {K : PySem.W.Frag} {mg : Str → Option Value} {base : Heap} {CG CH : Addr} (T : Tx K w mg CG CH) : GD P w K mg base 2 "_law_rising" spLRising := by
  obtain ⟨f, fd, hm, F⟩ := T.f_LRising
  refine ⟨f, hm, F.kp, okD (k := 1) F sc_LRising (F.bindsN fun _ _ _ _ _ _ us hl => match us, hl with | [_, _], _ => rfl)
    (fun cdv A outer s H E hr => (d_seq (d_if (d_not (d_tval (d_isi hf_tup (by decide +kernel) rfl T.n_isinstance rfl T.n_tuple (d_var (i := 0) rfl (.inr (.inl rfl)))))) (d_single (d_ret d_bl)) d_nil)
      (d_seq (d_if (dt_ne hr.units (d_lc (own := [("_law_one_here", 2)]) rfl sc_LRising.nd (di_tup (d_var (i := 0) rfl (.inr (.inl rfl)))) (blkOk_by (N := ["_law_thing", "_law_many", "_law_one_here", "_law_k"]) (sc := defScope sLRising) (by decide +kernel)) (by decide) (fun _ _ _ _ _ => (dg_name (i := 2) sc_LRising.nd rfl (Or.inl rfl))) (fun _ _ _ _ _ => (d_oneif (d_not (d_tval (d_call ((w_LIs T).mono (by decide)) hr rfl (d_pa_cons (d_var (i := 2) rfl (.inl rfl)) (d_pa_cons d_int (d_pa_cons (d_sub (d_var (i := 1) rfl (.inr (.inl rfl))) d_int) d_pa_nil)))))))) (fun _ _ _ _ _ => (d_var (i := 2) rfl (.inl rfl)))) (d_lst d_pa_nil)) (d_single (d_ret d_bl)) d_nil)
      (d_single (d_ret (d_eq hr.units (d_lc (own := [("_law_k", 3)]) rfl sc_LRising.nd (di_r2 rfl T.n_range (d_pa_cons d_int (d_pa_cons (d_len rfl T.n_len (d_pa_cons (d_var (i := 0) rfl (.inr (.inl rfl))) d_pa_nil)) d_pa_nil))) (blkOk_by (N := ["_law_thing", "_law_many", "_law_one_here", "_law_k"]) (sc := defScope sLRising) (by decide +kernel)) (by decide) (fun _ _ _ _ _ => (dg_name (i := 3) sc_LRising.nd rfl (Or.inl rfl))) (fun _ _ _ _ _ => (d_oneif (dt_ge (d_ix (d_var (i := 0) rfl (.inr (.inl rfl))) (d_sub (d_var (i := 3) rfl (.inl rfl)) d_int)) (d_ix (d_var (i := 0) rfl (.inr (.inl rfl))) (d_var (i := 3) rfl (.inl rfl)))))) (fun _ _ _ _ _ => (d_var (i := 3) rfl (.inl rfl)))) (d_lst d_pa_nil))))))) (fun l M Qd h => ?_)⟩
  obtain ⟨n, hs, rfl, hl, h⟩ := h
  refine ⟨rfl, ?_⟩
  simp [and_assoc, strsOf_map, dVar, dC, dOp, dUn, dNil, dCons, dTup, dLst, dNew, dTest, dAnd, dOr, dNot, dAndV, dOrV, dNotV, dIf, dIsN, dNotN, isN, dChain, dCB, dNext, dSeq, dDrop, dRet, dRetN, dIfS, oI, oI0, oAdd, oC, oIx_tup, oIx_lst, oIx_h, oIx_str, oSl_tup, oSl_lst, oSl_scr, oSl_str, dSl, dNoP, dPart, cLen, cMin2, cInt, uNeg, uBits, uIs, fInt, fBool, fStr, fTup, tyD, dgName, dgNil, dgCons, dgTup, dAsg, dPar, dPar3, dFor, dLc, diTup, diLst, diR1, diR2, diEnT, diEnL, diStr, dCall, dMeth, dMake, dFld, sSetF, startD, dYes, dw]
  refine lc_map (f := D.int) (l := hs) (fun i acc M' => M' = M ∧ ∃ bs : List Int, acc = bs.map .int ∧ bs.length ≤ i ∧ i ≤ hs.length ∧ (bs = [] → ∀ j a, j < i → hs[j]? = some a → 0 ≤ a ∧ a ≤ n - 1)) ⟨rfl, [], rfl, Nat.le_refl _, Nat.zero_le _, fun _ j a hj => by omega⟩ (fun i a acc M' K ha ⟨e1, bs, e2, b1, b2, b3⟩ k => ?_) (fun acc M' ⟨e1, bs, e2, b1, b2, b3⟩ => ?_)
  · subst e1 e2
    have hi := (List.getElem?_eq_some_iff.mp ha).1
    refine ⟨trivial, by rw [List.length_map]; omega, ?_⟩
    by_cases c : 0 ≤ a ∧ a ≤ n - 1
    · simp [and_assoc, strsOf_map, dVar, dC, dOp, dUn, dNil, dCons, dTup, dLst, dNew, dTest, dAnd, dOr, dNot, dAndV, dOrV, dNotV, dIf, dIsN, dNotN, isN, dChain, dCB, dNext, dSeq, dDrop, dRet, dRetN, dIfS, oI, oI0, oAdd, oC, oIx_tup, oIx_lst, oIx_h, oIx_str, oSl_tup, oSl_lst, oSl_scr, oSl_str, dSl, dNoP, dPart, cLen, cMin2, cInt, uNeg, uBits, uIs, fInt, fBool, fStr, fTup, tyD, dgName, dgNil, dgCons, dgTup, dAsg, dPar, dPar3, dFor, dLc, diTup, diLst, diR1, diR2, diEnT, diEnL, diStr, dCall, dMeth, dMake, dFld, sSetF, startD, dYes, dw, spLIs, inR, c.1, c.2]
      refine k _ _ ⟨rfl, bs, rfl, by omega, hi, fun e j b hj hb => ?_⟩
      by_cases ej : j = i
      · subst ej; rw [ha] at hb; cases hb; exact c
      · exact b3 e j b (by omega) hb
    · have c' : ¬ (decide (0 ≤ a) && decide (a ≤ n - 1)) = true := by simpa using c
      simp [and_assoc, strsOf_map, dVar, dC, dOp, dUn, dNil, dCons, dTup, dLst, dNew, dTest, dAnd, dOr, dNot, dAndV, dOrV, dNotV, dIf, dIsN, dNotN, isN, dChain, dCB, dNext, dSeq, dDrop, dRet, dRetN, dIfS, oI, oI0, oAdd, oC, oIx_tup, oIx_lst, oIx_h, oIx_str, oSl_tup, oSl_lst, oSl_scr, oSl_str, dSl, dNoP, dPart, cLen, cMin2, cInt, uNeg, uBits, uIs, fInt, fBool, fStr, fTup, tyD, dgName, dgNil, dgCons, dgTup, dAsg, dPar, dPar3, dFor, dLc, diTup, diLst, diR1, diR2, diEnT, diEnL, diStr, dCall, dMeth, dMake, dFld, sSetF, startD, dYes, dw, spLIs, inR]
      have c2 : 0 ≤ a → n - 1 < a := fun h0 => by have := fun h => c ⟨h0, h⟩; omega
      have K2 := k (bs.map D.int ++ [.int a]) _ ⟨rfl, bs ++ [a], by simp, by simp; omega, hi, fun e => absurd e (by simp)⟩
      first | exact ⟨fun z => absurd z c, fun _ => K2⟩ | (simp [oIx_tup, oIx_lst, oIx_h, oIx_str, c2, K2]; done) | (split; (exact absurd (by assumption) c); exact K2) | (split; exact K2; exact absurd (by assumption) c) | (refine .inr ⟨?_, K2⟩; intro h0; omega) | (refine .inl ⟨?_, K2⟩; intro h0; omega) | skip
  · subst e1 e2
    refine ⟨trivial, ?_⟩
    refine ⟨sh_ints bs, sh_nilL, ?_⟩
    rw [eq_nil]
    cases bs with
    | cons b bs => exact .inr ⟨rfl, h _ fun z => nomatch z⟩
    | nil =>
      refine .inl ⟨rfl, by omega, ?_⟩
      have r := b3 rfl
      refine lc_rngD (fun i acc M'' => M'' = M' ∧ ∃ ks : List Int, acc = ks.map .int ∧ ks.length ≤ i ∧ i ≤ hs.length ∧ (ks = [] → ∀ j a b, j < i → hs[j]? = some a → hs[j + 1]? = some b → a < b)) ⟨rfl, [], rfl, Nat.le_refl _, Nat.zero_le _, fun _ j _ _ hj => by omega⟩ (fun i acc M'' K hi ⟨e1, ks, e2, d1, d2, d3⟩ k => ?_) (fun acc M'' ⟨e1, ks, e2, d1, d2, d3⟩ => ?_)
      · subst e1 e2
        refine ⟨trivial, by rw [List.length_map]; omega, ?_⟩
        have hi1 : i + 1 < hs.length := by omega
        obtain ⟨a, ha⟩ : ∃ a, hs[i]? = some a := ⟨_, List.getElem?_eq_getElem (by omega)⟩
        obtain ⟨b, hb⟩ : ∃ b, hs[i + 1]? = some b := ⟨_, List.getElem?_eq_getElem hi1⟩
        have xa : atI (hs.map D.int) (1 + (i : Int) - 1) = some (.int a) := by rw [show (1 : Int) + (i : Int) - 1 = ((i : Nat) : Int) by omega, atI_nat, List.getElem?_map, ha]; rfl
        have xb : atI (hs.map D.int) (1 + (i : Int)) = some (.int b) := by rw [show (1 : Int) + (i : Int) = ((i + 1 : Nat) : Int) by omega, atI_nat, List.getElem?_map, hb]; rfl
        simp only [and_assoc, strsOf_map, dVar, dC, dOp, dUn, dNil, dCons, dTup, dLst, dNew, dTest, dAnd, dOr, dNot, dAndV, dOrV, dNotV, dIf, dIsN, dNotN, isN, dChain, dCB, dNext, dSeq, dDrop, dRet, dRetN, dIfS, oI, oI0, oAdd, oC, oIx_tup, oIx_lst, oIx_h, oIx_str, oSl_tup, oSl_lst, oSl_scr, oSl_str, dSl, dNoP, dPart, cLen, cMin2, cInt, uNeg, uBits, uIs, fInt, fBool, fStr, fTup, tyD, dgName, dgNil, dgCons, dgTup, dAsg, dPar, dPar3, dFor, dLc, diTup, diLst, diR1, diR2, diEnT, diEnL, diStr, dCall, dMeth, dMake, dFld, sSetF, startD, dYes, dw, List.getElem?_set, List.getElem?_cons_zero, List.getElem?_cons_succ]
        simp [oIx_tup, oIx_lst, oIx_h, oIx_str, xa, xb, oC]
        by_cases c : b ≤ a
        · simp [oIx_tup, oIx_lst, oIx_h, oIx_str, c]
          refine .inr ?_
          exact k (ks.map D.int ++ [.int (1 + (i : Int))]) _ ⟨rfl, ks ++ [1 + (i : Int)], by simp, by simp; omega, by omega, fun e => absurd e (by simp)⟩
        · simp [oIx_tup, oIx_lst, oIx_h, oIx_str, c]
          refine ⟨by omega, k _ _ ⟨rfl, ks, rfl, by omega, by omega, fun e j a' b' hj h1 h2 => ?_⟩⟩
          by_cases ej : j = i
          · subst ej
            rw [ha] at h1; rw [hb] at h2; cases h1; cases h2; omega
          · exact d3 e j a' b' (by omega) h1 h2
      · subst e1 e2
        refine ⟨trivial, sh_ints ks, sh_nilL, ?_⟩
        rw [eq_nil]
        refine h _ fun hb => ?_
        cases ks with
        | cons _ _ => exact nomatch hb
        | nil => exact ⟨fun x hx => by
            obtain ⟨j, hj, e⟩ := List.mem_iff_getElem.mp hx
            exact r j x hj (by rw [List.getElem?_eq_getElem hj, e]), fun j a b h1 h2 => d3 rfl j a b (by have := (List.getElem?_eq_some_iff.mp h2).1; omega) h1 h2⟩
/-- what a look answers: none, or a place and a word -/
def Told (n : Nat) (ok : Prop) (M : S) (Q : KD) : Prop := (ok → Q .non M) ∧ ∀ p w, p.length ≤ n → Q (.tup [.tup p, .str w]) M
def spLSourceWord : SpD := fun l M Q => ∃ size ks, ∃ s : Src, l = [.int size, kindsD ks, s.d] ∧ Told 1 (OkS size ks s) M Q
theorem inR_not {lo i hi : Int} (h : ¬ inR lo i hi = true) : inR lo i hi = false := by simpa using h
theorem sc_LSourceWord : FnScope ["_law_size", "_law_kinds_here", "_law_source_here", "_law_words", "_law_k", "_law_word", "_law_low", "_law_high"] ["_law_size", "_law_kinds_here", "_law_source_here"] (defScope sLSourceWord) := ⟨rfl, rfl, rfl, by decide +kernel, rfl, by decide +kernel, by decide +kernel⟩
theorem w_LSourceWord {P : Program} {w : World} {K : PySem.W.Frag} {mg : Str → Option Value} {base : Heap} {CG CH : Addr} (T : Tx K w mg CG CH) : GD P w K mg base 2 "_law_source_word" spLSourceWord := by
  obtain ⟨f, fd, hm, F⟩ := T.f_LSourceWord
  refine ⟨f, hm, F.kp, okD (k := 1) F sc_LSourceWord (F.bindsN fun _ _ _ _ _ _ us hl => match us, hl with | [_, _, _], _ => rfl)
    (fun cdv A outer s H E hr => (d_seq (d_if (d_not (d_tval (d_call ((w_LRowOf T).mono (by decide)) hr rfl (d_pa_cons (d_var (i := 2) rfl (.inl rfl)) (d_pa_cons d_int (d_pa_cons d_int d_pa_nil)))))) (d_single (d_ret (d_tup (d_pa_cons (d_tup d_pa_nil) (d_pa_cons d_str d_pa_nil))))) d_nil)
      (d_seq (d_if (d_not (d_tval (d_call ((w_LKindIn T).mono (by decide)) hr rfl (d_pa_cons (d_var (i := 1) rfl (.inl rfl)) (d_pa_cons (d_ix (d_var (i := 2) rfl (.inl rfl)) d_int) d_pa_nil))))) (d_single (d_ret (d_tup (d_pa_cons (d_tup (d_pa_cons d_int d_pa_nil)) (d_pa_cons d_str d_pa_nil))))) d_nil)
      (d_seq (d_set (i := 3) sc_LSourceWord.nd rfl (Or.inl rfl) (d_lst (d_pa_cons (d_tup (d_pa_cons d_str (d_pa_cons d_int (d_pa_cons d_int d_pa_nil)))) (d_pa_cons (d_tup (d_pa_cons d_str (d_pa_cons d_int (d_pa_cons (d_sub (d_var (i := 0) rfl (.inl rfl)) d_int) d_pa_nil)))) (d_pa_cons (d_tup (d_pa_cons d_str (d_pa_cons d_int (d_pa_cons (d_pow d_int d_int) d_pa_nil)))) (d_pa_cons (d_tup (d_pa_cons d_str (d_pa_cons d_int (d_pa_cons d_int d_pa_nil)))) d_pa_nil))))))
      (d_seq (d_for PassesOwn.never rfl (di_r1 rfl T.n_range (d_pa_cons d_int d_pa_nil)) (dg_name (i := 4) sc_LSourceWord.nd rfl (Or.inl rfl)) (d_seq (d_asg (d_ix (d_var (i := 3) rfl (.inl rfl)) (d_var (i := 4) rfl (.inl rfl))) (dg_tup (n := 3) rfl (dg_cons (dg_name (i := 5) sc_LSourceWord.nd rfl (Or.inl rfl)) (dg_cons (dg_name (i := 6) sc_LSourceWord.nd rfl (Or.inl rfl)) (dg_cons (dg_name (i := 7) sc_LSourceWord.nd rfl (Or.inl rfl)) dg_nil)))))
      (d_single (d_if (d_not (d_tval (d_call ((w_LIs T).mono (by decide)) hr rfl (d_pa_cons (d_ix (d_var (i := 2) rfl (.inl rfl)) (d_add (d_var (i := 4) rfl (.inl rfl)) d_int)) (d_pa_cons (d_var (i := 6) rfl (.inl rfl)) (d_pa_cons (d_var (i := 7) rfl (.inl rfl)) d_pa_nil)))))) (d_single (d_ret (d_tup (d_pa_cons (d_tup (d_pa_cons (d_add (d_var (i := 4) rfl (.inl rfl)) d_int) d_pa_nil)) (d_pa_cons (d_var (i := 5) rfl (.inl rfl)) d_pa_nil))))) d_nil))))
      (d_single (d_ret d_non))))))) (fun l M Qd h => ?_)⟩
  obtain ⟨size, ks, s, rfl, h1, h2⟩ := h
  refine ⟨rfl, ?_⟩
  have h20 : ∀ w, Qd (.tup [.tup [], .str w]) M := fun w => h2 _ w (by simp)
  have h21 : ∀ a w, Qd (.tup [.tup [a], .str w]) M := fun a w => h2 _ w (by simp)
  by_cases k1 : s.kind ∈ ks
  · simp [and_assoc, strsOf_map, dVar, dC, dOp, dUn, dNil, dCons, dTup, dLst, dNew, dTest, dAnd, dOr, dNot, dAndV, dOrV, dNotV, dIf, dIsN, dNotN, isN, dChain, dCB, dNext, dSeq, dDrop, dRet, dRetN, dIfS, oI, oI0, oAdd, oC, oIx_tup, oIx_lst, oIx_h, oIx_str, oSl_tup, oSl_lst, oSl_scr, oSl_str, dSl, dNoP, dPart, cLen, cMin2, cInt, uNeg, uBits, uIs, fInt, fBool, fStr, fTup, tyD, dgName, dgNil, dgCons, dgTup, dAsg, dPar, dPar3, dFor, dLc, diTup, diLst, diR1, diR2, diEnT, diEnL, diStr, dCall, dMeth, dMake, dFld, sSetF, startD, dYes, dw, spLRowOf, spLKindIn, kindsD, Src.d, at0, k1, show inR 5 5 5 = true from rfl]
    refine ⟨⟨by decide, by decide, by decide⟩, ?_⟩
    refine for_rngD (lo := 0) (n := 4) (fun i ds M' => M' = M ∧ (∃ x y z t, ds = [some (.int size), some (kindsD ks), some s.d, some (.lst [.tup [.str "age", .int 0, .int 20], .tup [.str "place", .int 0, .int (size - 1)], .tup [.str "since", .int 0, .int 1000000], .tup [.str "many", .int 1, .int 9]]), x, y, z, t]) ∧
      (0 < i → inR 0 s.age 20 = true) ∧ (1 < i → inR 0 s.place (size - 1) = true) ∧ (2 < i → inR 0 s.since 1000000 = true) ∧ (3 < i → inR 1 s.many 9 = true)) ⟨rfl, ⟨_, _, _, _, rfl⟩, by omega, by omega, by omega, by omega⟩ (fun i ds M' K hi ⟨e1, ⟨x, y, z, t, e2⟩, f1, f2, f3, f4⟩ k => ?_) (fun ds M' ⟨e1, _, f1, f2, f3, f4⟩ => ?_)
    · subst e1 e2
      refine ⟨trivial, ?_⟩
      have hi' : i = 0 ∨ i = 1 ∨ i = 2 ∨ i = 3 := by omega
      rcases hi' with e | e | e | e
      · subst e
        by_cases a1 : inR 0 s.age 20 = true
        · simp [and_assoc, strsOf_map, dVar, dC, dOp, dUn, dNil, dCons, dTup, dLst, dNew, dTest, dAnd, dOr, dNot, dAndV, dOrV, dNotV, dIf, dIsN, dNotN, isN, dChain, dCB, dNext, dSeq, dDrop, dRet, dRetN, dIfS, oI, oI0, oAdd, oC, oIx_tup, oIx_lst, oIx_h, oIx_str, oSl_tup, oSl_lst, oSl_scr, oSl_str, dSl, dNoP, dPart, cLen, cMin2, cInt, uNeg, uBits, uIs, fInt, fBool, fStr, fTup, tyD, dgName, dgNil, dgCons, dgTup, dAsg, dPar, dPar3, dFor, dLc, diTup, diLst, diR1, diR2, diEnT, diEnL, diStr, dCall, dMeth, dMake, dFld, sSetF, startD, dYes, dw, spLIs, Src.d, at0, at1, a1]
          exact k _ _ ⟨rfl, ⟨_, _, _, _, rfl⟩, fun _ => a1, by omega, by omega, by omega⟩
        · simp [and_assoc, strsOf_map, dVar, dC, dOp, dUn, dNil, dCons, dTup, dLst, dNew, dTest, dAnd, dOr, dNot, dAndV, dOrV, dNotV, dIf, dIsN, dNotN, isN, dChain, dCB, dNext, dSeq, dDrop, dRet, dRetN, dIfS, oI, oI0, oAdd, oC, oIx_tup, oIx_lst, oIx_h, oIx_str, oSl_tup, oSl_lst, oSl_scr, oSl_str, dSl, dNoP, dPart, cLen, cMin2, cInt, uNeg, uBits, uIs, fInt, fBool, fStr, fTup, tyD, dgName, dgNil, dgCons, dgTup, dAsg, dPar, dPar3, dFor, dLc, diTup, diLst, diR1, diR2, diEnT, diEnL, diStr, dCall, dMeth, dMake, dFld, sSetF, startD, dYes, dw, spLIs, Src.d, at0, at1, inR_not a1, h21]
      · subst e
        by_cases a1 : inR 0 s.place (size - 1) = true
        · simp [and_assoc, strsOf_map, dVar, dC, dOp, dUn, dNil, dCons, dTup, dLst, dNew, dTest, dAnd, dOr, dNot, dAndV, dOrV, dNotV, dIf, dIsN, dNotN, isN, dChain, dCB, dNext, dSeq, dDrop, dRet, dRetN, dIfS, oI, oI0, oAdd, oC, oIx_tup, oIx_lst, oIx_h, oIx_str, oSl_tup, oSl_lst, oSl_scr, oSl_str, dSl, dNoP, dPart, cLen, cMin2, cInt, uNeg, uBits, uIs, fInt, fBool, fStr, fTup, tyD, dgName, dgNil, dgCons, dgTup, dAsg, dPar, dPar3, dFor, dLc, diTup, diLst, diR1, diR2, diEnT, diEnL, diStr, dCall, dMeth, dMake, dFld, sSetF, startD, dYes, dw, spLIs, Src.d, at1, at2, a1]
          exact k _ _ ⟨rfl, ⟨_, _, _, _, rfl⟩, fun _ => f1 (by omega), fun _ => a1, by omega, by omega⟩
        · simp [and_assoc, strsOf_map, dVar, dC, dOp, dUn, dNil, dCons, dTup, dLst, dNew, dTest, dAnd, dOr, dNot, dAndV, dOrV, dNotV, dIf, dIsN, dNotN, isN, dChain, dCB, dNext, dSeq, dDrop, dRet, dRetN, dIfS, oI, oI0, oAdd, oC, oIx_tup, oIx_lst, oIx_h, oIx_str, oSl_tup, oSl_lst, oSl_scr, oSl_str, dSl, dNoP, dPart, cLen, cMin2, cInt, uNeg, uBits, uIs, fInt, fBool, fStr, fTup, tyD, dgName, dgNil, dgCons, dgTup, dAsg, dPar, dPar3, dFor, dLc, diTup, diLst, diR1, diR2, diEnT, diEnL, diStr, dCall, dMeth, dMake, dFld, sSetF, startD, dYes, dw, spLIs, Src.d, at1, at2, inR_not a1, h21]
      · subst e
        by_cases a1 : inR 0 s.since 1000000 = true
        · simp [and_assoc, strsOf_map, dVar, dC, dOp, dUn, dNil, dCons, dTup, dLst, dNew, dTest, dAnd, dOr, dNot, dAndV, dOrV, dNotV, dIf, dIsN, dNotN, isN, dChain, dCB, dNext, dSeq, dDrop, dRet, dRetN, dIfS, oI, oI0, oAdd, oC, oIx_tup, oIx_lst, oIx_h, oIx_str, oSl_tup, oSl_lst, oSl_scr, oSl_str, dSl, dNoP, dPart, cLen, cMin2, cInt, uNeg, uBits, uIs, fInt, fBool, fStr, fTup, tyD, dgName, dgNil, dgCons, dgTup, dAsg, dPar, dPar3, dFor, dLc, diTup, diLst, diR1, diR2, diEnT, diEnL, diStr, dCall, dMeth, dMake, dFld, sSetF, startD, dYes, dw, spLIs, Src.d, at2, at3, a1]
          exact k _ _ ⟨rfl, ⟨_, _, _, _, rfl⟩, fun _ => f1 (by omega), fun _ => f2 (by omega), fun _ => a1, by omega⟩
        · simp [and_assoc, strsOf_map, dVar, dC, dOp, dUn, dNil, dCons, dTup, dLst, dNew, dTest, dAnd, dOr, dNot, dAndV, dOrV, dNotV, dIf, dIsN, dNotN, isN, dChain, dCB, dNext, dSeq, dDrop, dRet, dRetN, dIfS, oI, oI0, oAdd, oC, oIx_tup, oIx_lst, oIx_h, oIx_str, oSl_tup, oSl_lst, oSl_scr, oSl_str, dSl, dNoP, dPart, cLen, cMin2, cInt, uNeg, uBits, uIs, fInt, fBool, fStr, fTup, tyD, dgName, dgNil, dgCons, dgTup, dAsg, dPar, dPar3, dFor, dLc, diTup, diLst, diR1, diR2, diEnT, diEnL, diStr, dCall, dMeth, dMake, dFld, sSetF, startD, dYes, dw, spLIs, Src.d, at2, at3, inR_not a1, h21]
      · subst e
        by_cases a1 : inR 1 s.many 9 = true
        · simp [and_assoc, strsOf_map, dVar, dC, dOp, dUn, dNil, dCons, dTup, dLst, dNew, dTest, dAnd, dOr, dNot, dAndV, dOrV, dNotV, dIf, dIsN, dNotN, isN, dChain, dCB, dNext, dSeq, dDrop, dRet, dRetN, dIfS, oI, oI0, oAdd, oC, oIx_tup, oIx_lst, oIx_h, oIx_str, oSl_tup, oSl_lst, oSl_scr, oSl_str, dSl, dNoP, dPart, cLen, cMin2, cInt, uNeg, uBits, uIs, fInt, fBool, fStr, fTup, tyD, dgName, dgNil, dgCons, dgTup, dAsg, dPar, dPar3, dFor, dLc, diTup, diLst, diR1, diR2, diEnT, diEnL, diStr, dCall, dMeth, dMake, dFld, sSetF, startD, dYes, dw, spLIs, Src.d, at3, at4, a1]
          exact k _ _ ⟨rfl, ⟨_, _, _, _, rfl⟩, fun _ => f1 (by omega), fun _ => f2 (by omega), fun _ => f3 (by omega), fun _ => a1⟩
        · simp [and_assoc, strsOf_map, dVar, dC, dOp, dUn, dNil, dCons, dTup, dLst, dNew, dTest, dAnd, dOr, dNot, dAndV, dOrV, dNotV, dIf, dIsN, dNotN, isN, dChain, dCB, dNext, dSeq, dDrop, dRet, dRetN, dIfS, oI, oI0, oAdd, oC, oIx_tup, oIx_lst, oIx_h, oIx_str, oSl_tup, oSl_lst, oSl_scr, oSl_str, dSl, dNoP, dPart, cLen, cMin2, cInt, uNeg, uBits, uIs, fInt, fBool, fStr, fTup, tyD, dgName, dgNil, dgCons, dgTup, dAsg, dPar, dPar3, dFor, dLc, diTup, diLst, diR1, diR2, diEnT, diEnL, diStr, dCall, dMeth, dMake, dFld, sSetF, startD, dYes, dw, spLIs, Src.d, at3, at4, inR_not a1, h21]
    · subst e1
      refine ⟨trivial, h1 ⟨k1, by simpa [inR] using f1 (by decide), by simpa [inR] using f2 (by decide), by simpa [inR] using f3 (by decide), by simpa [inR] using f4 (by decide)⟩⟩
  · simp [and_assoc, strsOf_map, dVar, dC, dOp, dUn, dNil, dCons, dTup, dLst, dNew, dTest, dAnd, dOr, dNot, dAndV, dOrV, dNotV, dIf, dIsN, dNotN, isN, dChain, dCB, dNext, dSeq, dDrop, dRet, dRetN, dIfS, oI, oI0, oAdd, oC, oIx_tup, oIx_lst, oIx_h, oIx_str, oSl_tup, oSl_lst, oSl_scr, oSl_str, dSl, dNoP, dPart, cLen, cMin2, cInt, uNeg, uBits, uIs, fInt, fBool, fStr, fTup, tyD, dgName, dgNil, dgCons, dgTup, dAsg, dPar, dPar3, dFor, dLc, diTup, diLst, diR1, diR2, diEnT, diEnL, diStr, dCall, dMeth, dMake, dFld, sSetF, startD, dYes, dw, spLRowOf, spLKindIn, kindsD, Src.d, at0, k1, show inR 5 5 5 = true from rfl, h21]
def spLPartWord : SpD := fun l M Q => ∃ ks, ∃ s : Prt, l = [kindsD ks, s.d] ∧ Told 1 (OkP ks s) M Q
theorem sc_LPartWord : FnScope ["_law_kinds_here", "_law_part_here"] ["_law_kinds_here", "_law_part_here"] (defScope sLPartWord) := ⟨rfl, rfl, rfl, by decide +kernel, rfl, by decide +kernel, by decide +kernel⟩
theorem w_LPartWord {P : Program} {w : World} {K : PySem.W.Frag} {mg : Str → Option Value} {base : Heap} {CG CH : Addr} (T : Tx K w mg CG CH) : GD P w K mg base 2 "_law_part_word" spLPartWord := by
  obtain ⟨f, fd, hm, F⟩ := T.f_LPartWord
  refine ⟨f, hm, F.kp, okD (k := 1) F sc_LPartWord (F.bindsN fun _ _ _ _ _ _ us hl => match us, hl with | [_, _], _ => rfl)
    (fun cdv A outer s H E hr => (d_seq (d_if (d_not (d_tval (d_call ((w_LRowOf T).mono (by decide)) hr rfl (d_pa_cons (d_var (i := 1) rfl (.inl rfl)) (d_pa_cons d_int (d_pa_cons d_int d_pa_nil)))))) (d_single (d_ret (d_tup (d_pa_cons (d_tup d_pa_nil) (d_pa_cons d_str d_pa_nil))))) d_nil)
      (d_seq (d_if (d_not (d_tval (d_call ((w_LKindIn T).mono (by decide)) hr rfl (d_pa_cons (d_var (i := 0) rfl (.inl rfl)) (d_pa_cons (d_ix (d_var (i := 1) rfl (.inl rfl)) d_int) d_pa_nil))))) (d_single (d_ret (d_tup (d_pa_cons (d_tup (d_pa_cons d_int d_pa_nil)) (d_pa_cons d_str d_pa_nil))))) d_nil)
      (d_seq (d_if (d_not (d_tval (d_call ((w_LIs T).mono (by decide)) hr rfl (d_pa_cons (d_ix (d_var (i := 1) rfl (.inl rfl)) d_int) (d_pa_cons d_int (d_pa_cons d_int d_pa_nil)))))) (d_single (d_ret (d_tup (d_pa_cons (d_tup (d_pa_cons d_int d_pa_nil)) (d_pa_cons d_str d_pa_nil))))) d_nil)
      (d_single (d_ret (d_ix (d_lst (d_pa_cons (d_tup (d_pa_cons (d_tup (d_pa_cons d_int d_pa_nil)) (d_pa_cons d_str d_pa_nil))) (d_pa_cons d_non d_pa_nil))) (d_intB rfl T.n_int (d_pa_cons (d_call ((w_LIs T).mono (by decide)) hr rfl (d_pa_cons (d_ix (d_var (i := 1) rfl (.inl rfl)) d_int) (d_pa_cons (d_ix (d_var (i := 1) rfl (.inl rfl)) d_int) (d_pa_cons d_int d_pa_nil)))) d_pa_nil))))))))) (fun l M Qd h => ?_)⟩
  obtain ⟨ks, s, rfl, h1, h2⟩ := h
  refine ⟨rfl, ?_⟩
  have h21 : ∀ a w, Qd (.tup [.tup [a], .str w]) M := fun a w => h2 _ w (by simp)
  by_cases k1 : s.kind ∈ ks
  · simp [and_assoc, strsOf_map, dVar, dC, dOp, dUn, dNil, dCons, dTup, dLst, dNew, dTest, dAnd, dOr, dNot, dAndV, dOrV, dNotV, dIf, dIsN, dNotN, isN, dChain, dCB, dNext, dSeq, dDrop, dRet, dRetN, dIfS, oI, oI0, oAdd, oC, oIx_tup, oIx_lst, oIx_h, oIx_str, oSl_tup, oSl_lst, oSl_scr, oSl_str, dSl, dNoP, dPart, cLen, cMin2, cInt, uNeg, uBits, uIs, fInt, fBool, fStr, fTup, tyD, dgName, dgNil, dgCons, dgTup, dAsg, dPar, dPar3, dFor, dLc, diTup, diLst, diR1, diR2, diEnT, diEnL, diStr, dCall, dMeth, dMake, dFld, sSetF, startD, dYes, dw, spLRowOf, spLKindIn, kindsD, Prt.d, at0, k1, show inR 3 3 3 = true from rfl]
    by_cases a1 : inR 0 s.lo 20 = true
    · by_cases a2 : inR s.lo s.hi 20 = true
      · have ok : OkP ks s := ⟨k1, by simpa [inR] using a1, by simpa [inR] using a2⟩
        simp [oIx_tup, oIx_lst, oIx_h, oIx_str, spLIs, a1, a2, at0, at1, at2, h1 ok]
      · simp [oIx_tup, oIx_lst, oIx_h, oIx_str, spLIs, a1, inR_not a2, at0, at1, at2, h21]
    · simp [oIx_tup, oIx_lst, oIx_h, oIx_str, spLIs, inR_not a1, at0, at1, at2, h21]
  · simp [and_assoc, strsOf_map, dVar, dC, dOp, dUn, dNil, dCons, dTup, dLst, dNew, dTest, dAnd, dOr, dNot, dAndV, dOrV, dNotV, dIf, dIsN, dNotN, isN, dChain, dCB, dNext, dSeq, dDrop, dRet, dRetN, dIfS, oI, oI0, oAdd, oC, oIx_tup, oIx_lst, oIx_h, oIx_str, oSl_tup, oSl_lst, oSl_scr, oSl_str, dSl, dNoP, dPart, cLen, cMin2, cInt, uNeg, uBits, uIs, fInt, fBool, fStr, fTup, tyD, dgName, dgNil, dgCons, dgTup, dAsg, dPar, dPar3, dFor, dLc, diTup, diLst, diR1, diR2, diEnT, diEnL, diStr, dCall, dMeth, dMake, dFld, sSetF, startD, dYes, dw, spLRowOf, spLKindIn, kindsD, Prt.d, at0, k1, show inR 3 3 3 = true from rfl, h21]
end My

set_option Elab.async false
set_option linter.all false
set_option maxRecDepth 100000
set_option maxHeartbeats 4000000
namespace My
open PySem PySem.Spec PyProof.Rows L2
def spLWayWord : SpD := fun l M Q => ∃ size ks, ∃ s : Way, l = [.int size, kindsD ks, s.d] ∧ s.hours.length ≤ 20 ∧ Told 3 (OkW size ks s) M Q
theorem sc_LWayWord : FnScope ["_law_size", "_law_kinds_here", "_law_way_here", "_law_k", "_law_wrong"] ["_law_size", "_law_kinds_here", "_law_way_here"] (defScope sLWayWord) := ⟨rfl, rfl, rfl, by decide +kernel, rfl, by decide +kernel, by decide +kernel⟩
theorem w_LWayWord {P : Program} {w : World} {K : PySem.W.Frag} {mg : Str → Option Value} {base : Heap} {CG CH : Addr} (T : Tx K w mg CG CH) : GD P w K mg base 3 "_law_way_word" spLWayWord := by
  obtain ⟨f, fd, hm, F⟩ := T.f_LWayWord
  refine ⟨f, hm, F.kp, okD (k := 2) F sc_LWayWord (F.bindsN fun _ _ _ _ _ _ us hl => match us, hl with | [_, _, _], _ => rfl)
    (fun cdv A outer s H E hr => (d_seq (d_if (d_not (d_tval (d_call ((w_LRowOf T).mono (by decide)) hr rfl (d_pa_cons (d_var (i := 2) rfl (.inl rfl)) (d_pa_cons d_int (d_pa_cons d_int d_pa_nil)))))) (d_single (d_ret (d_tup (d_pa_cons (d_tup d_pa_nil) (d_pa_cons d_str d_pa_nil))))) d_nil)
      (d_seq (d_if (d_not (d_tval (d_call ((w_LKindIn T).mono (by decide)) hr rfl (d_pa_cons (d_var (i := 1) rfl (.inl rfl)) (d_pa_cons (d_ix (d_var (i := 2) rfl (.inl rfl)) d_int) d_pa_nil))))) (d_single (d_ret (d_tup (d_pa_cons (d_tup (d_pa_cons d_int d_pa_nil)) (d_pa_cons d_str d_pa_nil))))) d_nil)
      (d_seq (d_if (d_not (d_tval (d_call ((w_LRowOf T).mono (by decide)) hr rfl (d_pa_cons (d_ix (d_var (i := 2) rfl (.inl rfl)) d_int) (d_pa_cons d_int (d_pa_cons d_int d_pa_nil)))))) (d_single (d_ret (d_tup (d_pa_cons (d_tup (d_pa_cons d_int d_pa_nil)) (d_pa_cons d_str d_pa_nil))))) d_nil)
      (d_seq (d_for PassesOwn.never rfl (di_r1 rfl T.n_range (d_pa_cons (d_len rfl T.n_len (d_pa_cons (d_ix (d_var (i := 2) rfl (.inl rfl)) d_int) d_pa_nil)) d_pa_nil)) (dg_name (i := 3) sc_LWayWord.nd rfl (Or.inl rfl)) (d_seq (d_set (i := 4) sc_LWayWord.nd rfl (Or.inl rfl) (d_call ((w_LPartWord T).mono (by decide)) hr rfl (d_pa_cons (d_var (i := 1) rfl (.inl rfl)) (d_pa_cons (d_ix (d_ix (d_var (i := 2) rfl (.inl rfl)) d_int) (d_var (i := 3) rfl (.inl rfl))) d_pa_nil))))
      (d_single (d_if (d_tpc (d_notN (d_var (i := 4) rfl (.inl rfl)))) (d_single (d_ret (d_tup (d_pa_cons (d_add (d_tup (d_pa_cons d_int (d_pa_cons (d_var (i := 3) rfl (.inl rfl)) d_pa_nil))) (d_ix (d_var (i := 4) rfl (.inl rfl)) d_int)) (d_pa_cons (d_ix (d_var (i := 4) rfl (.inl rfl)) d_int) d_pa_nil))))) d_nil))))
      (d_seq (d_if (d_tw (d_or (d_not (d_tval (d_isi hf_str (by decide +kernel) rfl T.n_isinstance rfl T.n_str (d_ix (d_var (i := 2) rfl (.inl rfl)) d_int)))) (d_or1 (d_tw (d_and (dt_ne hr.units (d_ix (d_var (i := 2) rfl (.inl rfl)) d_int) d_str) (d_and1 (dt_ne hr.units (d_ix (d_var (i := 2) rfl (.inl rfl)) d_int) d_str))))))) (d_single (d_ret (d_tup (d_pa_cons (d_tup (d_pa_cons d_int d_pa_nil)) (d_pa_cons d_str d_pa_nil))))) d_nil)
      (d_seq (d_if (d_not (d_tval (d_call ((w_LRising T).mono (by decide)) hr rfl (d_pa_cons (d_ix (d_var (i := 2) rfl (.inl rfl)) d_int) (d_pa_cons (d_var (i := 0) rfl (.inl rfl)) d_pa_nil))))) (d_single (d_ret (d_tup (d_pa_cons (d_tup (d_pa_cons d_int d_pa_nil)) (d_pa_cons d_str d_pa_nil))))) d_nil)
      (d_single (d_ret (d_ix (d_lst (d_pa_cons (d_tup (d_pa_cons (d_tup (d_pa_cons d_int d_pa_nil)) (d_pa_cons d_str d_pa_nil))) (d_pa_cons d_non d_pa_nil))) (d_intB rfl T.n_int (d_pa_cons (d_call ((w_LIs T).mono (by decide)) hr rfl (d_pa_cons (d_ix (d_var (i := 2) rfl (.inl rfl)) d_int) (d_pa_cons d_int (d_pa_cons d_int d_pa_nil)))) d_pa_nil)))))))))))) (fun l M Qd h => ?_)⟩
  obtain ⟨size, ks, s, rfl, hh, h1, h2⟩ := h
  refine ⟨rfl, ?_⟩
  have h20 : ∀ w, Qd (.tup [.tup [], .str w]) M := fun w => h2 _ w (by simp)
  have h21 : ∀ a w, Qd (.tup [.tup [a], .str w]) M := fun a w => h2 _ w (by simp)
  by_cases k1 : s.kind ∈ ks
  case neg => simp [and_assoc, strsOf_map, dVar, dC, dOp, dUn, dNil, dCons, dTup, dLst, dNew, dTest, dAnd, dOr, dNot, dAndV, dOrV, dNotV, dIf, dIsN, dNotN, isN, dChain, dCB, dNext, dSeq, dDrop, dRet, dRetN, dIfS, oI, oI0, oAdd, oC, oIx_tup, oIx_lst, oIx_h, oIx_str, oSl_tup, oSl_lst, oSl_scr, oSl_str, dSl, dNoP, dPart, cLen, cMin2, cInt, uNeg, uBits, uIs, fInt, fBool, fStr, fTup, tyD, dgName, dgNil, dgCons, dgTup, dAsg, dPar, dPar3, dFor, dLc, diTup, diLst, diR1, diR2, diEnT, diEnL, diStr, dCall, dMeth, dMake, dFld, sSetF, startD, dYes, dw, spLRowOf, spLKindIn, kindsD, Way.d, at0, k1, show inR 5 5 5 = true from rfl, h21]
  by_cases k2 : inR 1 s.parts.length 3 = true
  case neg => simp [and_assoc, strsOf_map, dVar, dC, dOp, dUn, dNil, dCons, dTup, dLst, dNew, dTest, dAnd, dOr, dNot, dAndV, dOrV, dNotV, dIf, dIsN, dNotN, isN, dChain, dCB, dNext, dSeq, dDrop, dRet, dRetN, dIfS, oI, oI0, oAdd, oC, oIx_tup, oIx_lst, oIx_h, oIx_str, oSl_tup, oSl_lst, oSl_scr, oSl_str, dSl, dNoP, dPart, cLen, cMin2, cInt, uNeg, uBits, uIs, fInt, fBool, fStr, fTup, tyD, dgName, dgNil, dgCons, dgTup, dAsg, dPar, dPar3, dFor, dLc, diTup, diLst, diR1, diR2, diEnT, diEnL, diStr, dCall, dMeth, dMake, dFld, sSetF, startD, dYes, dw, spLRowOf, spLKindIn, kindsD, Way.d, at0, at1, k1, show inR 5 5 5 = true from rfl, h21, inR_not k2]
  have k2' : 1 ≤ s.parts.length ∧ s.parts.length ≤ 3 := by
    have := k2
    simp [oIx_tup, oIx_lst, oIx_h, oIx_str, inR] at this
    omega
  simp [and_assoc, strsOf_map, dVar, dC, dOp, dUn, dNil, dCons, dTup, dLst, dNew, dTest, dAnd, dOr, dNot, dAndV, dOrV, dNotV, dIf, dIsN, dNotN, isN, dChain, dCB, dNext, dSeq, dDrop, dRet, dRetN, dIfS, oI, oI0, oAdd, oC, oIx_tup, oIx_lst, oIx_h, oIx_str, oSl_tup, oSl_lst, oSl_scr, oSl_str, dSl, dNoP, dPart, cLen, cMin2, cInt, uNeg, uBits, uIs, fInt, fBool, fStr, fTup, tyD, dgName, dgNil, dgCons, dgTup, dAsg, dPar, dPar3, dFor, dLc, diTup, diLst, diR1, diR2, diEnT, diEnL, diStr, dCall, dMeth, dMake, dFld, sSetF, startD, dYes, dw, spLRowOf, spLKindIn, kindsD, Way.d, at0, at1, k1, show inR 5 5 5 = true from rfl, k2]
  have hz : (s.parts.length : Int) ≤ 100000 := by omega
  refine ⟨hz, ?_⟩
  refine for_rngD (lo := 0) (n := s.parts.length) (fun i ds M' => M' = M ∧ (∃ x y, ds = [some (.int size), some (kindsD ks), some s.d, x, y]) ∧ ∀ j p, j < i → s.parts[j]? = some p → OkP ks p) ⟨rfl, ⟨_, _, rfl⟩, by omega⟩ (fun i ds M' K hi ⟨e1, ⟨x, y, e2⟩, f⟩ k => ?_) (fun ds M' ⟨e1, ⟨x, y, e2⟩, f⟩ => ?_)
  · subst e1 e2
    refine ⟨trivial, ?_⟩
    obtain ⟨p, hp⟩ : ∃ p, s.parts[i]? = some p := ⟨_, List.getElem?_eq_getElem hi⟩
    have hx : atI (s.parts.map Prt.d) (i : Int) = some p.d := by rw [atI_nat, List.getElem?_map, hp]; rfl
    simp [and_assoc, strsOf_map, dVar, dC, dOp, dUn, dNil, dCons, dTup, dLst, dNew, dTest, dAnd, dOr, dNot, dAndV, dOrV, dNotV, dIf, dIsN, dNotN, isN, dChain, dCB, dNext, dSeq, dDrop, dRet, dRetN, dIfS, oI, oI0, oAdd, oC, oIx_tup, oIx_lst, oIx_h, oIx_str, oSl_tup, oSl_lst, oSl_scr, oSl_str, dSl, dNoP, dPart, cLen, cMin2, cInt, uNeg, uBits, uIs, fInt, fBool, fStr, fTup, tyD, dgName, dgNil, dgCons, dgTup, dAsg, dPar, dPar3, dFor, dLc, diTup, diLst, diR1, diR2, diEnT, diEnL, diStr, dCall, dMeth, dMake, dFld, sSetF, startD, dYes, dw, Way.d, at1, hx]
    refine ⟨ks, p, rfl, fun ok => ?_, fun q w hq => ?_⟩
    · simp
      refine k _ _ ⟨rfl, ⟨_, _, rfl⟩, fun j p' hj hp' => ?_⟩
      by_cases e : j = i
      · subst e; rw [hp] at hp'; cases hp'; exact ok
      · exact f j p' (by omega) hp'
    · simp [oIx_tup, oIx_lst, oIx_h, oIx_str, at0, at1]
      exact ⟨by omega, h2 _ w (by simp; omega)⟩
  · subst e1 e2
    refine ⟨trivial, ?_⟩
    have okp : ∀ p ∈ s.parts, OkP ks p := fun p hp => by
      obtain ⟨j, hj, e⟩ := List.mem_iff_getElem.mp hp
      exact f j p hj (by rw [List.getElem?_eq_getElem hj, e])
    simp [and_assoc, strsOf_map, dVar, dC, dOp, dUn, dNil, dCons, dTup, dLst, dNew, dTest, dAnd, dOr, dNot, dAndV, dOrV, dNotV, dIf, dIsN, dNotN, isN, dChain, dCB, dNext, dSeq, dDrop, dRet, dRetN, dIfS, oI, oI0, oAdd, oC, oIx_tup, oIx_lst, oIx_h, oIx_str, oSl_tup, oSl_lst, oSl_scr, oSl_str, dSl, dNoP, dPart, cLen, cMin2, cInt, uNeg, uBits, uIs, fInt, fBool, fStr, fTup, tyD, dgName, dgNil, dgCons, dgTup, dAsg, dPar, dPar3, dFor, dLc, diTup, diLst, diR1, diR2, diEnT, diEnL, diStr, dCall, dMeth, dMake, dFld, sSetF, startD, dYes, dw, Way.d, at2, at3, at4, oEq, oNe]
    by_cases o : s.keeps = ("oldest" : Str)
    · refine .inl ⟨o, size, s.hours, rfl, hh, fun b hb => ?_⟩
      cases b with
      | false => exact .inl ⟨rfl, h21 _ _⟩
      | true =>
        refine .inr ⟨rfl, ?_⟩
        simp only [spLIs]
        by_cases c : inR 1 s.wait 6 = true
        · rw [c]
          simp [oIx_tup, oIx_lst, oIx_h, oIx_str, at1]
          exact h1 ⟨k1, k2', okp, .inl o, hb rfl, by simpa [inR] using c⟩
        · rw [inR_not c]
          simp [oIx_tup, oIx_lst, oIx_h, oIx_str, at0]
          exact h21 _ _
    by_cases y : s.keeps = ("youngest" : Str)
    · refine .inr ⟨o, .inl ⟨y, size, s.hours, rfl, hh, fun b hb => ?_⟩⟩
      cases b with
      | false => exact .inl ⟨rfl, h21 _ _⟩
      | true =>
        refine .inr ⟨rfl, ?_⟩
        simp only [spLIs]
        by_cases c : inR 1 s.wait 6 = true
        · rw [c]
          simp [oIx_tup, oIx_lst, oIx_h, oIx_str, at1]
          exact h1 ⟨k1, k2', okp, .inr y, hb rfl, by simpa [inR] using c⟩
        · rw [inR_not c]
          simp [oIx_tup, oIx_lst, oIx_h, oIx_str, at0]
          exact h21 _ _
    · exact .inr ⟨o, .inr ⟨y, h21 _ _⟩⟩
/-! ### the shape of what is drawn -/
def ShS (s : Src) : Prop := strG s.kind
def ShP (s : Prt) : Prop := strG s.kind
structure ShW (s : Way) : Prop where
  kind : strG s.kind
  len : s.parts.length ≤ 3
  parts : ∀ p ∈ s.parts, ShP p
  keeps : s.keeps = "oldest" ∨ s.keeps = "youngest"
  hours : s.hours.length ≤ 20
structure Sh (w : Wld) : Prop where
  klen : w.kinds.length ≤ 4
  kinds : ∀ k ∈ w.kinds, strG k
  slen : w.srcs.length ≤ 7
  srcs : ∀ s ∈ w.srcs, ShS s
  wlen : w.ways.length ≤ 9
  ways : ∀ s ∈ w.ways, ShW s
theorem strG_of {s : Str} (h : nameOk s = true) : strG s := by
  obtain ⟨⟨a, b⟩, c⟩ := nameOk_iff.mp h
  exact ⟨by omega, c⟩
theorem okH_len {size : Int} {l : List Int} (h : OkH size l) (hs : size ≤ 6) : l.length ≤ 6 := by
  have : ∀ (i : Nat) (a : Int), l[i]? = some a → (i : Int) ≤ a := by
    intro i
    induction i with
    | zero => intro a ha; exact (h.rng a (List.mem_of_getElem? ha)).1
    | succ i ih =>
      intro a ha
      have hi := (List.getElem?_eq_some_iff.mp ha).1
      have hb : l[i]? = some l[i] := List.getElem?_eq_getElem (by omega)
      have := h.ord i _ a hb ha
      have := ih _ hb
      omega
  refine Nat.le_of_not_lt fun hl => ?_
  have h6 : l[6]? = some l[6] := List.getElem?_eq_getElem hl
  have h7 := this 6 _ h6
  have h8 := (h.rng _ (List.mem_of_getElem? h6)).2
  omega
theorem Ok.sh {w : Wld} (h : Ok w) : Sh w where
  klen := h.kinds.len.2
  kinds := fun k hk => strG_of (h.kinds.name k hk)
  slen := by have := h.slen; omega
  srcs := fun s hs => strG_of (h.kinds.name _ (h.srcs s hs).kind)
  wlen := by have := h.wlen; omega
  ways := fun s hs => by
    have o := h.ways s hs
    exact ⟨strG_of (h.kinds.name _ o.kind), o.len.2, fun p hp => strG_of (h.kinds.name _ (o.parts p hp).kind), o.keeps, by have := okH_len o.hours h.size.2; omega⟩
def spLWorldWord : SpD := fun l M Q => ∃ w : Wld, l = [w.d] ∧ Sh w ∧ Told 5 (Ok w) M Q
theorem sc_LWorldWord : FnScope ["_law_thing", "_law_k", "_law_wrong"] ["_law_thing"] (defScope sLWorldWord) := ⟨rfl, rfl, rfl, by decide +kernel, rfl, by decide +kernel, by decide +kernel⟩
theorem w_LWorldWord {P : Program} {w : World} {K : PySem.W.Frag} {mg : Str → Option Value} {base : Heap} {CG CH : Addr} (T : Tx K w mg CG CH) : GD P w K mg base 4 "_law_world_word" spLWorldWord := by
  obtain ⟨f, fd, hm, F⟩ := T.f_LWorldWord
  refine ⟨f, hm, F.kp, okD (k := 3) F sc_LWorldWord (F.bindsN fun _ _ _ _ _ _ us hl => match us, hl with | [_], _ => rfl)
    (fun cdv A outer s H E hr => (d_seq (d_if (d_not (d_tval (d_call ((w_LRowOf T).mono (by decide)) hr rfl (d_pa_cons (d_var (i := 0) rfl (.inl rfl)) (d_pa_cons d_int (d_pa_cons d_int d_pa_nil)))))) (d_single (d_ret (d_tup (d_pa_cons (d_tup d_pa_nil) (d_pa_cons d_str d_pa_nil))))) d_nil)
      (d_seq (d_if (d_not (d_tval (d_call ((w_LIs T).mono (by decide)) hr rfl (d_pa_cons (d_ix (d_var (i := 0) rfl (.inl rfl)) d_int) (d_pa_cons d_int (d_pa_cons d_int d_pa_nil)))))) (d_single (d_ret (d_tup (d_pa_cons (d_tup (d_pa_cons d_int d_pa_nil)) (d_pa_cons d_str d_pa_nil))))) d_nil)
      (d_seq (d_if (d_not (d_tval (d_call ((w_LRowOf T).mono (by decide)) hr rfl (d_pa_cons (d_ix (d_var (i := 0) rfl (.inl rfl)) d_int) (d_pa_cons d_int (d_pa_cons d_int d_pa_nil)))))) (d_single (d_ret (d_tup (d_pa_cons (d_tup (d_pa_cons d_int d_pa_nil)) (d_pa_cons d_str d_pa_nil))))) d_nil)
      (d_seq (d_for PassesOwn.never rfl (di_r1 rfl T.n_range (d_pa_cons (d_len rfl T.n_len (d_pa_cons (d_ix (d_var (i := 0) rfl (.inl rfl)) d_int) d_pa_nil)) d_pa_nil)) (dg_name (i := 1) sc_LWorldWord.nd rfl (Or.inl rfl)) (d_single (d_if (d_tw (d_or (d_not (d_tval (d_call ((w_LName T).mono (by decide)) hr rfl (d_pa_cons (d_ix (d_ix (d_var (i := 0) rfl (.inl rfl)) d_int) (d_var (i := 1) rfl (.inl rfl))) d_pa_nil)))) (d_or1 (d_tw (d_and (dt_gt (d_var (i := 1) rfl (.inl rfl)) d_int) (d_and1 (dt_ge (d_ix (d_ix (d_var (i := 0) rfl (.inl rfl)) d_int) (d_sub (d_var (i := 1) rfl (.inl rfl)) d_int)) (d_ix (d_ix (d_var (i := 0) rfl (.inl rfl)) d_int) (d_var (i := 1) rfl (.inl rfl)))))))))) (d_single (d_ret (d_tup (d_pa_cons (d_tup (d_pa_cons d_int (d_pa_cons (d_var (i := 1) rfl (.inl rfl)) d_pa_nil))) (d_pa_cons d_str d_pa_nil))))) d_nil)))
      (d_seq (d_if (d_not (d_tval (d_call ((w_LRowOf T).mono (by decide)) hr rfl (d_pa_cons (d_ix (d_var (i := 0) rfl (.inl rfl)) d_int) (d_pa_cons d_int (d_pa_cons d_int d_pa_nil)))))) (d_single (d_ret (d_tup (d_pa_cons (d_tup (d_pa_cons d_int d_pa_nil)) (d_pa_cons d_str d_pa_nil))))) d_nil)
      (d_seq (d_for PassesOwn.never rfl (di_r1 rfl T.n_range (d_pa_cons (d_len rfl T.n_len (d_pa_cons (d_ix (d_var (i := 0) rfl (.inl rfl)) d_int) d_pa_nil)) d_pa_nil)) (dg_name (i := 1) sc_LWorldWord.nd rfl (Or.inl rfl)) (d_seq (d_set (i := 2) sc_LWorldWord.nd rfl (Or.inl rfl) (d_call ((w_LSourceWord T).mono (by decide)) hr rfl (d_pa_cons (d_ix (d_var (i := 0) rfl (.inl rfl)) d_int) (d_pa_cons (d_ix (d_var (i := 0) rfl (.inl rfl)) d_int) (d_pa_cons (d_ix (d_ix (d_var (i := 0) rfl (.inl rfl)) d_int) (d_var (i := 1) rfl (.inl rfl))) d_pa_nil)))))
      (d_single (d_if (d_tpc (d_notN (d_var (i := 2) rfl (.inl rfl)))) (d_single (d_ret (d_tup (d_pa_cons (d_add (d_tup (d_pa_cons d_int (d_pa_cons (d_var (i := 1) rfl (.inl rfl)) d_pa_nil))) (d_ix (d_var (i := 2) rfl (.inl rfl)) d_int)) (d_pa_cons (d_ix (d_var (i := 2) rfl (.inl rfl)) d_int) d_pa_nil))))) d_nil))))
      (d_seq (d_if (d_not (d_tval (d_call ((w_LRowOf T).mono (by decide)) hr rfl (d_pa_cons (d_ix (d_var (i := 0) rfl (.inl rfl)) d_int) (d_pa_cons d_int (d_pa_cons d_int d_pa_nil)))))) (d_single (d_ret (d_tup (d_pa_cons (d_tup (d_pa_cons d_int d_pa_nil)) (d_pa_cons d_str d_pa_nil))))) d_nil)
      (d_seq (d_for PassesOwn.never rfl (di_r1 rfl T.n_range (d_pa_cons (d_len rfl T.n_len (d_pa_cons (d_ix (d_var (i := 0) rfl (.inl rfl)) d_int) d_pa_nil)) d_pa_nil)) (dg_name (i := 1) sc_LWorldWord.nd rfl (Or.inl rfl)) (d_seq (d_set (i := 2) sc_LWorldWord.nd rfl (Or.inl rfl) (d_call ((w_LWayWord T).mono (by decide)) hr rfl (d_pa_cons (d_ix (d_var (i := 0) rfl (.inl rfl)) d_int) (d_pa_cons (d_ix (d_var (i := 0) rfl (.inl rfl)) d_int) (d_pa_cons (d_ix (d_ix (d_var (i := 0) rfl (.inl rfl)) d_int) (d_var (i := 1) rfl (.inl rfl))) d_pa_nil)))))
      (d_single (d_if (d_tpc (d_notN (d_var (i := 2) rfl (.inl rfl)))) (d_single (d_ret (d_tup (d_pa_cons (d_add (d_tup (d_pa_cons d_int (d_pa_cons (d_var (i := 1) rfl (.inl rfl)) d_pa_nil))) (d_ix (d_var (i := 2) rfl (.inl rfl)) d_int)) (d_pa_cons (d_ix (d_var (i := 2) rfl (.inl rfl)) d_int) d_pa_nil))))) d_nil))))
      (d_single (d_ret d_non))))))))))) (fun l M Qd h => ?_)⟩
  obtain ⟨w, rfl, sh, h1, h2⟩ := h
  refine ⟨rfl, ?_⟩
  have h20 : ∀ w, Qd (.tup [.tup [], .str w]) M := fun w => h2 _ w (by simp)
  have h21 : ∀ a w, Qd (.tup [.tup [a], .str w]) M := fun a w => h2 _ w (by simp)
  have h22 : ∀ a b w, Qd (.tup [.tup [a, b], .str w]) M := fun a b w => h2 _ w (by simp)
  by_cases c1 : inR 1 w.size 6 = true
  case neg => simp [and_assoc, strsOf_map, dVar, dC, dOp, dUn, dNil, dCons, dTup, dLst, dNew, dTest, dAnd, dOr, dNot, dAndV, dOrV, dNotV, dIf, dIsN, dNotN, isN, dChain, dCB, dNext, dSeq, dDrop, dRet, dRetN, dIfS, oI, oI0, oAdd, oC, oIx_tup, oIx_lst, oIx_h, oIx_str, oSl_tup, oSl_lst, oSl_scr, oSl_str, dSl, dNoP, dPart, cLen, cMin2, cInt, uNeg, uBits, uIs, fInt, fBool, fStr, fTup, tyD, dgName, dgNil, dgCons, dgTup, dAsg, dPar, dPar3, dFor, dLc, diTup, diLst, diR1, diR2, diEnT, diEnL, diStr, dCall, dMeth, dMake, dFld, sSetF, startD, dYes, dw, spLRowOf, spLIs, Wld.d, at0, inR_not c1, show inR 4 4 4 = true from rfl, h21]
  by_cases c2 : inR 1 w.kinds.length 4 = true
  case neg => simp [and_assoc, strsOf_map, dVar, dC, dOp, dUn, dNil, dCons, dTup, dLst, dNew, dTest, dAnd, dOr, dNot, dAndV, dOrV, dNotV, dIf, dIsN, dNotN, isN, dChain, dCB, dNext, dSeq, dDrop, dRet, dRetN, dIfS, oI, oI0, oAdd, oC, oIx_tup, oIx_lst, oIx_h, oIx_str, oSl_tup, oSl_lst, oSl_scr, oSl_str, dSl, dNoP, dPart, cLen, cMin2, cInt, uNeg, uBits, uIs, fInt, fBool, fStr, fTup, tyD, dgName, dgNil, dgCons, dgTup, dAsg, dPar, dPar3, dFor, dLc, diTup, diLst, diR1, diR2, diEnT, diEnL, diStr, dCall, dMeth, dMake, dFld, sSetF, startD, dYes, dw, spLRowOf, spLIs, kindsD, Wld.d, at0, at1, c1, inR_not c2, show inR 4 4 4 = true from rfl, h21]
  have hk : (w.kinds.length : Int) ≤ 100000 := by have := sh.klen; omega
  simp [and_assoc, strsOf_map, dVar, dC, dOp, dUn, dNil, dCons, dTup, dLst, dNew, dTest, dAnd, dOr, dNot, dAndV, dOrV, dNotV, dIf, dIsN, dNotN, isN, dChain, dCB, dNext, dSeq, dDrop, dRet, dRetN, dIfS, oI, oI0, oAdd, oC, oIx_tup, oIx_lst, oIx_h, oIx_str, oSl_tup, oSl_lst, oSl_scr, oSl_str, dSl, dNoP, dPart, cLen, cMin2, cInt, uNeg, uBits, uIs, fInt, fBool, fStr, fTup, tyD, dgName, dgNil, dgCons, dgTup, dAsg, dPar, dPar3, dFor, dLc, diTup, diLst, diR1, diR2, diEnT, diEnL, diStr, dCall, dMeth, dMake, dFld, sSetF, startD, dYes, dw, spLRowOf, spLIs, kindsD, Wld.d, at0, at1, c1, c2, show inR 4 4 4 = true from rfl]
  refine ⟨hk, ?_⟩
  refine for_rngD (lo := 0) (n := w.kinds.length) (fun i ds M' => M' = M ∧ (∃ x y, ds = [some w.d, x, y]) ∧ (∀ j a, j < i → w.kinds[j]? = some a → nameOk a = true) ∧ ∀ j a b, j + 1 < i → w.kinds[j]? = some a → w.kinds[j + 1]? = some b → sLt a b = true) ⟨rfl, ⟨_, _, rfl⟩, by omega, by omega⟩ (fun i ds M' K hi ⟨e1, ⟨x, y, e2⟩, f, g⟩ k => ?_) (fun ds M' ⟨e1, ⟨x, y, e2⟩, f, g⟩ => ?_)
  · subst e1 e2
    refine ⟨trivial, ?_⟩
    obtain ⟨a, ha⟩ : ∃ a, w.kinds[i]? = some a := ⟨_, List.getElem?_eq_getElem hi⟩
    have hx : atI (w.kinds.map D.str) (i : Int) = some (.str a) := by rw [atI_nat, List.getElem?_map, ha]; rfl
    have ga := sh.kinds a (List.mem_of_getElem? ha)
    simp [and_assoc, strsOf_map, dVar, dC, dOp, dUn, dNil, dCons, dTup, dLst, dNew, dTest, dAnd, dOr, dNot, dAndV, dOrV, dNotV, dIf, dIsN, dNotN, isN, dChain, dCB, dNext, dSeq, dDrop, dRet, dRetN, dIfS, oI, oI0, oAdd, oC, oIx_tup, oIx_lst, oIx_h, oIx_str, oSl_tup, oSl_lst, oSl_scr, oSl_str, dSl, dNoP, dPart, cLen, cMin2, cInt, uNeg, uBits, uIs, fInt, fBool, fStr, fTup, tyD, dgName, dgNil, dgCons, dgTup, dAsg, dPar, dPar3, dFor, dLc, diTup, diLst, diR1, diR2, diEnT, diEnL, diStr, dCall, dMeth, dMake, dFld, sSetF, startD, dYes, dw, spLName, Wld.d, kindsD, at1, hx]
    refine ⟨ga, h22 _ _ _, fun na => ?_⟩
    have f' : ∀ j a, j < i + 1 → w.kinds[j]? = some a → nameOk a = true := fun j b hj hb => by
      by_cases e : j = i
      · subst e; rw [ha] at hb; cases hb; exact na
      · exact f j b (by omega) hb
    cases i with
    | zero => exact .inl ⟨rfl, k _ _ ⟨rfl, ⟨_, _, rfl⟩, f', by omega⟩⟩
    | succ j =>
      obtain ⟨b, hb⟩ : ∃ b, w.kinds[j]? = some b := ⟨_, List.getElem?_eq_getElem (by omega)⟩
      refine .inr ⟨Nat.succ_pos _, .str b, by rw [atI_pred, List.getElem?_map, hb]; rfl, ?_⟩
      simp only [oC]
      by_cases o : b.cps.toList < a.cps.toList
      · refine .inl ⟨by simp [oIx_tup, oIx_lst, oIx_h, oIx_str, o], k _ _ ⟨rfl, ⟨_, _, rfl⟩, f', fun j' a' b' hj' h1' h2' => ?_⟩⟩
        by_cases e : j' = j
        · subst e; rw [hb] at h1'; rw [ha] at h2'; cases h1'; cases h2'; exact decide_eq_true o
        · exact g j' a' b' (by omega) h1' h2'
      · exact .inr ⟨by simp [oIx_tup, oIx_lst, oIx_h, oIx_str, o], h22 _ _ _⟩
  · subst e1 e2
    refine ⟨trivial, ?_⟩
    have okk : OkK w.kinds := ⟨by simpa [inR, ← Int.ofNat_le] using c2, fun s hs => by
      obtain ⟨j, hj, e⟩ := List.mem_iff_getElem.mp hs
      exact f j s hj (by rw [List.getElem?_eq_getElem hj, e]), fun i a b h1 h2 => g i a b (List.getElem?_eq_some_iff.mp h2).1 h1 h2⟩
    by_cases c3 : inR 0 w.srcs.length 6 = true
    case neg => simp [and_assoc, strsOf_map, dVar, dC, dOp, dUn, dNil, dCons, dTup, dLst, dNew, dTest, dAnd, dOr, dNot, dAndV, dOrV, dNotV, dIf, dIsN, dNotN, isN, dChain, dCB, dNext, dSeq, dDrop, dRet, dRetN, dIfS, oI, oI0, oAdd, oC, oIx_tup, oIx_lst, oIx_h, oIx_str, oSl_tup, oSl_lst, oSl_scr, oSl_str, dSl, dNoP, dPart, cLen, cMin2, cInt, uNeg, uBits, uIs, fInt, fBool, fStr, fTup, tyD, dgName, dgNil, dgCons, dgTup, dAsg, dPar, dPar3, dFor, dLc, diTup, diLst, diR1, diR2, diEnT, diEnL, diStr, dCall, dMeth, dMake, dFld, sSetF, startD, dYes, dw, spLRowOf, Wld.d, at2, inR_not c3, h21]
    have hs : (w.srcs.length : Int) ≤ 100000 := by have := sh.slen; omega
    simp [and_assoc, strsOf_map, dVar, dC, dOp, dUn, dNil, dCons, dTup, dLst, dNew, dTest, dAnd, dOr, dNot, dAndV, dOrV, dNotV, dIf, dIsN, dNotN, isN, dChain, dCB, dNext, dSeq, dDrop, dRet, dRetN, dIfS, oI, oI0, oAdd, oC, oIx_tup, oIx_lst, oIx_h, oIx_str, oSl_tup, oSl_lst, oSl_scr, oSl_str, dSl, dNoP, dPart, cLen, cMin2, cInt, uNeg, uBits, uIs, fInt, fBool, fStr, fTup, tyD, dgName, dgNil, dgCons, dgTup, dAsg, dPar, dPar3, dFor, dLc, diTup, diLst, diR1, diR2, diEnT, diEnL, diStr, dCall, dMeth, dMake, dFld, sSetF, startD, dYes, dw, spLRowOf, Wld.d, at2, c3]
    refine ⟨hs, ?_⟩
    refine for_rngD (lo := 0) (n := w.srcs.length) (fun i ds M'' => M'' = M' ∧ (∃ x y, ds = [some w.d, x, y]) ∧ ∀ j a, j < i → w.srcs[j]? = some a → OkS w.size w.kinds a) ⟨rfl, ⟨_, _, rfl⟩, by omega⟩ (fun i ds M'' K hi ⟨e1, ⟨x, y, e2⟩, f⟩ k => ?_) (fun ds M'' ⟨e1, ⟨x, y, e2⟩, fs⟩ => ?_)
    · subst e1 e2
      refine ⟨trivial, ?_⟩
      obtain ⟨a, ha⟩ : ∃ a, w.srcs[i]? = some a := ⟨_, List.getElem?_eq_getElem hi⟩
      have hx : atI (w.srcs.map Src.d) (i : Int) = some a.d := by rw [atI_nat, List.getElem?_map, ha]; rfl
      simp [and_assoc, strsOf_map, dVar, dC, dOp, dUn, dNil, dCons, dTup, dLst, dNew, dTest, dAnd, dOr, dNot, dAndV, dOrV, dNotV, dIf, dIsN, dNotN, isN, dChain, dCB, dNext, dSeq, dDrop, dRet, dRetN, dIfS, oI, oI0, oAdd, oC, oIx_tup, oIx_lst, oIx_h, oIx_str, oSl_tup, oSl_lst, oSl_scr, oSl_str, dSl, dNoP, dPart, cLen, cMin2, cInt, uNeg, uBits, uIs, fInt, fBool, fStr, fTup, tyD, dgName, dgNil, dgCons, dgTup, dAsg, dPar, dPar3, dFor, dLc, diTup, diLst, diR1, diR2, diEnT, diEnL, diStr, dCall, dMeth, dMake, dFld, sSetF, startD, dYes, dw, Wld.d, at0, at1, at2, hx]
      refine ⟨_, _, a, rfl, fun ok => ?_, fun q w hq => ?_⟩
      · simp
        refine k _ _ ⟨rfl, ⟨_, _, rfl⟩, fun j b hj hb => ?_⟩
        by_cases e : j = i
        · subst e; rw [ha] at hb; cases hb; exact ok
        · exact f j b (by omega) hb
      · simp [oIx_tup, oIx_lst, oIx_h, oIx_str, at0, at1]
        exact ⟨by omega, h2 _ w (by simp; omega)⟩
    · subst e1 e2
      refine ⟨trivial, ?_⟩
      have oks : ∀ s ∈ w.srcs, OkS w.size w.kinds s := fun s hs => by
        obtain ⟨j, hj, e⟩ := List.mem_iff_getElem.mp hs
        exact fs j s hj (by rw [List.getElem?_eq_getElem hj, e])
      by_cases c4 : inR 0 w.ways.length 8 = true
      case neg => simp [and_assoc, strsOf_map, dVar, dC, dOp, dUn, dNil, dCons, dTup, dLst, dNew, dTest, dAnd, dOr, dNot, dAndV, dOrV, dNotV, dIf, dIsN, dNotN, isN, dChain, dCB, dNext, dSeq, dDrop, dRet, dRetN, dIfS, oI, oI0, oAdd, oC, oIx_tup, oIx_lst, oIx_h, oIx_str, oSl_tup, oSl_lst, oSl_scr, oSl_str, dSl, dNoP, dPart, cLen, cMin2, cInt, uNeg, uBits, uIs, fInt, fBool, fStr, fTup, tyD, dgName, dgNil, dgCons, dgTup, dAsg, dPar, dPar3, dFor, dLc, diTup, diLst, diR1, diR2, diEnT, diEnL, diStr, dCall, dMeth, dMake, dFld, sSetF, startD, dYes, dw, spLRowOf, Wld.d, at3, inR_not c4, h21]
      have hs : (w.ways.length : Int) ≤ 100000 := by have := sh.wlen; omega
      simp [and_assoc, strsOf_map, dVar, dC, dOp, dUn, dNil, dCons, dTup, dLst, dNew, dTest, dAnd, dOr, dNot, dAndV, dOrV, dNotV, dIf, dIsN, dNotN, isN, dChain, dCB, dNext, dSeq, dDrop, dRet, dRetN, dIfS, oI, oI0, oAdd, oC, oIx_tup, oIx_lst, oIx_h, oIx_str, oSl_tup, oSl_lst, oSl_scr, oSl_str, dSl, dNoP, dPart, cLen, cMin2, cInt, uNeg, uBits, uIs, fInt, fBool, fStr, fTup, tyD, dgName, dgNil, dgCons, dgTup, dAsg, dPar, dPar3, dFor, dLc, diTup, diLst, diR1, diR2, diEnT, diEnL, diStr, dCall, dMeth, dMake, dFld, sSetF, startD, dYes, dw, spLRowOf, Wld.d, at3, c4]
      refine ⟨hs, ?_⟩
      refine for_rngD (lo := 0) (n := w.ways.length) (fun i ds M' => M' = M'' ∧ (∃ x y, ds = [some w.d, x, y]) ∧ ∀ j a, j < i → w.ways[j]? = some a → OkW w.size w.kinds a) ⟨rfl, ⟨_, _, rfl⟩, by omega⟩ (fun i ds M' K hi ⟨e1, ⟨x, y, e2⟩, f⟩ k => ?_) (fun ds M' ⟨e1, ⟨x, y, e2⟩, fw⟩ => ?_)
      · subst e1 e2
        refine ⟨trivial, ?_⟩
        obtain ⟨a, ha⟩ : ∃ a, w.ways[i]? = some a := ⟨_, List.getElem?_eq_getElem hi⟩
        have hx : atI (w.ways.map Way.d) (i : Int) = some a.d := by rw [atI_nat, List.getElem?_map, ha]; rfl
        simp [and_assoc, strsOf_map, dVar, dC, dOp, dUn, dNil, dCons, dTup, dLst, dNew, dTest, dAnd, dOr, dNot, dAndV, dOrV, dNotV, dIf, dIsN, dNotN, isN, dChain, dCB, dNext, dSeq, dDrop, dRet, dRetN, dIfS, oI, oI0, oAdd, oC, oIx_tup, oIx_lst, oIx_h, oIx_str, oSl_tup, oSl_lst, oSl_scr, oSl_str, dSl, dNoP, dPart, cLen, cMin2, cInt, uNeg, uBits, uIs, fInt, fBool, fStr, fTup, tyD, dgName, dgNil, dgCons, dgTup, dAsg, dPar, dPar3, dFor, dLc, diTup, diLst, diR1, diR2, diEnT, diEnL, diStr, dCall, dMeth, dMake, dFld, sSetF, startD, dYes, dw, Wld.d, at0, at1, at3, hx]
        refine ⟨_, _, a, rfl, (sh.ways a (List.mem_of_getElem? ha)).hours, fun ok => ?_, fun q w hq => ?_⟩
        · simp
          refine k _ _ ⟨rfl, ⟨_, _, rfl⟩, fun j b hj hb => ?_⟩
          by_cases e : j = i
          · subst e; rw [ha] at hb; cases hb; exact ok
          · exact f j b (by omega) hb
        · simp [oIx_tup, oIx_lst, oIx_h, oIx_str, at0, at1]
          exact ⟨by omega, h2 _ w (by simp; omega)⟩
      · subst e1 e2
        refine ⟨trivial, h1 ⟨by simpa [inR] using c1, okk, ?_, oks, ?_, fun s hs => ?_⟩⟩
        · simp [oIx_tup, oIx_lst, oIx_h, oIx_str, inR] at c3; omega
        · simp [oIx_tup, oIx_lst, oIx_h, oIx_str, inR] at c4; omega
        · obtain ⟨j, hj, e⟩ := List.mem_iff_getElem.mp hs
          exact fw j s hj (by rw [List.getElem?_eq_getElem hj, e])
end My

set_option Elab.async false
set_option linter.all false
set_option maxRecDepth 100000
set_option maxHeartbeats 4000000
namespace My
open PySem PySem.Spec PyProof.Rows L2
theorem cut_take {α : Type} (l : List α) (i : Nat) : cut l none (some (i : Int)) = l.take i := by
  unfold cut
  rw [HT.sIx_nat, HT.sIx_none, List.drop_zero, Nat.sub_zero]
  by_cases h : i ≤ l.length
  · rw [Nat.min_eq_left h]
  · rw [Nat.min_eq_right (by omega), List.take_of_length_le (Nat.le_refl _), List.take_of_length_le (by omega)]
theorem cut_drop {α : Type} (l : List α) (i : Nat) : cut l (some (i : Int)) none = l.drop i := by
  unfold cut
  rw [HT.sIx_nat, HT.sIx_none]
  by_cases h : i ≤ l.length
  · rw [Nat.min_eq_left h]
    exact List.take_of_length_le (by rw [List.length_drop]; omega)
  · rw [Nat.min_eq_right (by omega), List.drop_of_length_le (Nat.le_refl _), List.drop_of_length_le (by omega), List.take_nil]
theorem cut_drop1 {α : Type} (l : List α) (i : Nat) : cut l (some ((i : Int) + 1)) none = l.drop (i + 1) := cut_drop l (i + 1)
theorem set_cut {α : Type} (l : List α) (i : Nat) (d : α) (h : i < l.length) : l.take i ++ (d :: l.drop (i + 1)) = l.set i d := by
  rw [List.set_eq_take_append_cons_drop, if_pos h]
theorem erase_cut {α : Type} (l : List α) (i : Nat) : l.take i ++ l.drop (i + 1) = l.eraseIdx i := (List.eraseIdx_eq_take_drop_succ l i).symm
def spLPut : SpD
  | [.tup m, .int i, d], M, Q => 0 ≤ i ∧ i < m.length ∧ m.length ≤ 100 ∧ Q (.tup (m.set i.toNat d)) M
  | _, _, _ => False
theorem sc_LPut : FnScope ["_law_row", "_law_spot", "_law_thing"] ["_law_row", "_law_spot", "_law_thing"] (defScope sLPut) := ⟨rfl, rfl, rfl, by decide +kernel, rfl, by decide +kernel, by decide +kernel⟩
theorem w_LPut {P : Program} {w : World} {K : PySem.W.Frag} {mg : Str → Option Value} {base : Heap} {CG CH : Addr} (T : Tx K w mg CG CH) : GD P w K mg base 1 "_law_put" spLPut := by
  obtain ⟨f, fd, hm, F⟩ := T.f_LPut
  refine ⟨f, hm, F.kp, okD (k := 0) F sc_LPut (F.bindsN fun _ _ _ _ _ _ us hl => match us, hl with | [_, _, _], _ => rfl)
    (fun cdv A outer s H E hr => (d_single (d_ret (d_add (d_add (d_slice (d_var (i := 0) rfl (.inl rfl)) d_no (d_part (d_var (i := 1) rfl (.inl rfl)))) (d_tup (d_pa_cons (d_var (i := 2) rfl (.inl rfl)) d_pa_nil))) (d_slice (d_var (i := 0) rfl (.inl rfl)) (d_part (d_add (d_var (i := 1) rfl (.inl rfl)) d_int)) d_no))))) (fun l M Qd h => ?_)⟩
  match l, h with
  | [.tup m, .int i, d], ⟨h0, hi, hl, h⟩ =>
  refine ⟨rfl, ?_⟩
  obtain ⟨i, rfl⟩ := Int.eq_ofNat_of_zero_le h0
  have hi : i < m.length := by omega
  rw [Int.toNat_natCast, ← set_cut m i d hi] at h
  simp [and_assoc, strsOf_map, dVar, dC, dOp, dUn, dNil, dCons, dTup, dLst, dNew, dTest, dAnd, dOr, dNot, dAndV, dOrV, dNotV, dIf, dIsN, dNotN, isN, dChain, dCB, dNext, dSeq, dDrop, dRet, dRetN, dIfS, oI, oI0, oAdd, oC, oIx_tup, oIx_lst, oIx_h, oIx_str, oSl_tup, oSl_lst, oSl_scr, oSl_str, dSl, dNoP, dPart, cLen, cMin2, cInt, uNeg, uBits, uIs, fInt, fBool, fStr, fTup, tyD, dgName, dgNil, dgCons, dgTup, dAsg, dPar, dPar3, dFor, dLc, diTup, diLst, diR1, diR2, diEnT, diEnL, diStr, dCall, dMeth, dMake, dFld, sSetF, startD, dYes, dw, cut_take, cut_drop1]
  exact ⟨by omega, by omega, h⟩
/-! ### deeds -/
inductive Deed where
  | bring (s : Src) | way (x : Way) | stop (n : Nat) | shut (n : Nat) | hours (n : Nat) (hs : List Int) | window (n m : Nat) (lo hi : Int)
def Deed.word : Deed → Str
  | .bring _ => "bring"
  | .way _ => "way"
  | .stop _ => "stop"
  | .shut _ => "shut"
  | .hours _ _ => "hours"
  | .window _ _ _ _ => "window"
def Deed.d : Deed → D
  | .bring s => .tup [.str "bring", s.d]
  | .way x => .tup [.str "way", x.d]
  | .stop n => .tup [.str "stop", .int n]
  | .shut n => .tup [.str "shut", .int n]
  | .hours n hs => .tup [.str "hours", .int n, .tup (hs.map .int)]
  | .window n m lo hi => .tup [.str "window", .int n, .int m, .int lo, .int hi]
def app (w : Wld) : Deed → Option Wld
  | .bring s => some { w with srcs := w.srcs ++ [s] }
  | .way x => some { w with ways := w.ways ++ [x] }
  | .stop n => if n < w.srcs.length then some { w with srcs := w.srcs.eraseIdx n } else none
  | .shut n => if n < w.ways.length then some { w with ways := w.ways.eraseIdx n } else none
  | .hours n hs => match w.ways[n]? with
    | some x => some { w with ways := w.ways.set n { x with hours := hs } }
    | none => none
  | .window n m lo hi => match w.ways[n]? with
    | some x => match x.parts[m]? with
      | some p => some { w with ways := w.ways.set n { x with parts := x.parts.set m ⟨p.kind, lo, hi⟩ } }
      | none => none
    | none => none
def ShD : Deed → Prop
  | .bring s => ShS s
  | .way x => ShW x
  | .hours _ hs => hs.length ≤ 20
  | _ => True
structure Sh5 (w : Wld) : Prop where
  sh : Sh w
  s6 : w.srcs.length ≤ 6
  w8 : w.ways.length ≤ 8
theorem mem_set {α : Type} {l : List α} {n : Nat} {x a : α} (h : a ∈ l.set n x) : a ∈ l ∨ a = x := List.mem_or_eq_of_mem_set h
theorem app_sh {w w' : Wld} {d : Deed} (h : Sh5 w) (hd : ShD d) (e : app w d = some w') : Sh w' := by
  obtain ⟨⟨a1, a2, a3, a4, a5, a6⟩, b1, b2⟩ := h
  cases d with
  | bring s =>
    cases e
    exact ⟨a1, a2, by simp; omega, fun x hx => by rcases List.mem_append.mp hx with h | h; exact a4 x h; rw [List.mem_singleton.mp h]; exact hd, a5, a6⟩
  | way s =>
    cases e
    exact ⟨a1, a2, a3, a4, by simp; omega, fun x hx => by rcases List.mem_append.mp hx with h | h; exact a6 x h; rw [List.mem_singleton.mp h]; exact hd⟩
  | stop n =>
    simp only [app] at e
    split at e
    · cases e
      exact ⟨a1, a2, Nat.le_trans (List.length_eraseIdx_le ..) a3, fun x hx => a4 x (List.mem_of_mem_eraseIdx hx), a5, a6⟩
    · cases e
  | shut n =>
    simp only [app] at e
    split at e
    · cases e
      exact ⟨a1, a2, a3, a4, Nat.le_trans (List.length_eraseIdx_le ..) a5, fun x hx => a6 x (List.mem_of_mem_eraseIdx hx)⟩
    · cases e
  | hours n hs =>
    simp only [app] at e
    cases q : w.ways[n]? with
    | none => rw [q] at e; cases e
    | some x =>
      rw [q] at e; cases e
      have ox := a6 x (List.mem_of_getElem? q)
      exact ⟨a1, a2, a3, a4, by simp; exact a5, fun y hy => by
        rcases mem_set hy with h | h
        · exact a6 y h
        · subst h; exact ⟨ox.kind, ox.len, ox.parts, ox.keeps, hd⟩⟩
  | window n m lo hi =>
    simp only [app] at e
    cases q : w.ways[n]? with
    | none => rw [q] at e; cases e
    | some x =>
      rw [q] at e
      cases q2 : x.parts[m]? with
      | none => simp only [q2] at e; cases e
      | some p =>
        simp only [q2] at e; cases e
        have ox := a6 x (List.mem_of_getElem? q)
        exact ⟨a1, a2, a3, a4, by simp; exact a5, fun y hy => by
          rcases mem_set hy with h | h
          · exact a6 y h
          · subst h; exact ⟨ox.kind, by simp; exact ox.len, fun z hz => by
              rcases mem_set hz with h | h
              · exact ox.parts z h
              · subst h; exact ox.parts p (List.mem_of_getElem? q2), ox.keeps, ox.hours⟩⟩
theorem Ok.sh5 {w : Wld} (h : Ok w) : Sh5 w := ⟨h.sh, h.slen, h.wlen⟩
theorem nw_bring_way : ((Str.ofString "bring" : Str) = Str.ofString "way") = False := eq_false (by decide)
theorem nw_bring_stop : ((Str.ofString "bring" : Str) = Str.ofString "stop") = False := eq_false (by decide)
theorem nw_bring_shut : ((Str.ofString "bring" : Str) = Str.ofString "shut") = False := eq_false (by decide)
theorem nw_bring_hours : ((Str.ofString "bring" : Str) = Str.ofString "hours") = False := eq_false (by decide)
theorem nw_bring_window : ((Str.ofString "bring" : Str) = Str.ofString "window") = False := eq_false (by decide)
theorem nw_bring_oldest : ((Str.ofString "bring" : Str) = Str.ofString "oldest") = False := eq_false (by decide)
theorem nw_bring_youngest : ((Str.ofString "bring" : Str) = Str.ofString "youngest") = False := eq_false (by decide)
theorem nw_bring_world : ((Str.ofString "bring" : Str) = Str.ofString "world") = False := eq_false (by decide)
theorem nw_way_bring : ((Str.ofString "way" : Str) = Str.ofString "bring") = False := eq_false (by decide)
theorem nw_way_stop : ((Str.ofString "way" : Str) = Str.ofString "stop") = False := eq_false (by decide)
theorem nw_way_shut : ((Str.ofString "way" : Str) = Str.ofString "shut") = False := eq_false (by decide)
theorem nw_way_hours : ((Str.ofString "way" : Str) = Str.ofString "hours") = False := eq_false (by decide)
theorem nw_way_window : ((Str.ofString "way" : Str) = Str.ofString "window") = False := eq_false (by decide)
theorem nw_way_oldest : ((Str.ofString "way" : Str) = Str.ofString "oldest") = False := eq_false (by decide)
theorem nw_way_youngest : ((Str.ofString "way" : Str) = Str.ofString "youngest") = False := eq_false (by decide)
theorem nw_way_world : ((Str.ofString "way" : Str) = Str.ofString "world") = False := eq_false (by decide)
theorem nw_stop_bring : ((Str.ofString "stop" : Str) = Str.ofString "bring") = False := eq_false (by decide)
theorem nw_stop_way : ((Str.ofString "stop" : Str) = Str.ofString "way") = False := eq_false (by decide)
theorem nw_stop_shut : ((Str.ofString "stop" : Str) = Str.ofString "shut") = False := eq_false (by decide)
theorem nw_stop_hours : ((Str.ofString "stop" : Str) = Str.ofString "hours") = False := eq_false (by decide)
theorem nw_stop_window : ((Str.ofString "stop" : Str) = Str.ofString "window") = False := eq_false (by decide)
theorem nw_stop_oldest : ((Str.ofString "stop" : Str) = Str.ofString "oldest") = False := eq_false (by decide)
theorem nw_stop_youngest : ((Str.ofString "stop" : Str) = Str.ofString "youngest") = False := eq_false (by decide)
theorem nw_stop_world : ((Str.ofString "stop" : Str) = Str.ofString "world") = False := eq_false (by decide)
theorem nw_shut_bring : ((Str.ofString "shut" : Str) = Str.ofString "bring") = False := eq_false (by decide)
theorem nw_shut_way : ((Str.ofString "shut" : Str) = Str.ofString "way") = False := eq_false (by decide)
theorem nw_shut_stop : ((Str.ofString "shut" : Str) = Str.ofString "stop") = False := eq_false (by decide)
theorem nw_shut_hours : ((Str.ofString "shut" : Str) = Str.ofString "hours") = False := eq_false (by decide)
theorem nw_shut_window : ((Str.ofString "shut" : Str) = Str.ofString "window") = False := eq_false (by decide)
theorem nw_shut_oldest : ((Str.ofString "shut" : Str) = Str.ofString "oldest") = False := eq_false (by decide)
theorem nw_shut_youngest : ((Str.ofString "shut" : Str) = Str.ofString "youngest") = False := eq_false (by decide)
theorem nw_shut_world : ((Str.ofString "shut" : Str) = Str.ofString "world") = False := eq_false (by decide)
theorem nw_hours_bring : ((Str.ofString "hours" : Str) = Str.ofString "bring") = False := eq_false (by decide)
theorem nw_hours_way : ((Str.ofString "hours" : Str) = Str.ofString "way") = False := eq_false (by decide)
theorem nw_hours_stop : ((Str.ofString "hours" : Str) = Str.ofString "stop") = False := eq_false (by decide)
theorem nw_hours_shut : ((Str.ofString "hours" : Str) = Str.ofString "shut") = False := eq_false (by decide)
theorem nw_hours_window : ((Str.ofString "hours" : Str) = Str.ofString "window") = False := eq_false (by decide)
theorem nw_hours_oldest : ((Str.ofString "hours" : Str) = Str.ofString "oldest") = False := eq_false (by decide)
theorem nw_hours_youngest : ((Str.ofString "hours" : Str) = Str.ofString "youngest") = False := eq_false (by decide)
theorem nw_hours_world : ((Str.ofString "hours" : Str) = Str.ofString "world") = False := eq_false (by decide)
theorem nw_window_bring : ((Str.ofString "window" : Str) = Str.ofString "bring") = False := eq_false (by decide)
theorem nw_window_way : ((Str.ofString "window" : Str) = Str.ofString "way") = False := eq_false (by decide)
theorem nw_window_stop : ((Str.ofString "window" : Str) = Str.ofString "stop") = False := eq_false (by decide)
theorem nw_window_shut : ((Str.ofString "window" : Str) = Str.ofString "shut") = False := eq_false (by decide)
theorem nw_window_hours : ((Str.ofString "window" : Str) = Str.ofString "hours") = False := eq_false (by decide)
theorem nw_window_oldest : ((Str.ofString "window" : Str) = Str.ofString "oldest") = False := eq_false (by decide)
theorem nw_window_youngest : ((Str.ofString "window" : Str) = Str.ofString "youngest") = False := eq_false (by decide)
theorem nw_window_world : ((Str.ofString "window" : Str) = Str.ofString "world") = False := eq_false (by decide)
theorem nw_oldest_bring : ((Str.ofString "oldest" : Str) = Str.ofString "bring") = False := eq_false (by decide)
theorem nw_oldest_way : ((Str.ofString "oldest" : Str) = Str.ofString "way") = False := eq_false (by decide)
theorem nw_oldest_stop : ((Str.ofString "oldest" : Str) = Str.ofString "stop") = False := eq_false (by decide)
theorem nw_oldest_shut : ((Str.ofString "oldest" : Str) = Str.ofString "shut") = False := eq_false (by decide)
theorem nw_oldest_hours : ((Str.ofString "oldest" : Str) = Str.ofString "hours") = False := eq_false (by decide)
theorem nw_oldest_window : ((Str.ofString "oldest" : Str) = Str.ofString "window") = False := eq_false (by decide)
theorem nw_oldest_youngest : ((Str.ofString "oldest" : Str) = Str.ofString "youngest") = False := eq_false (by decide)
theorem nw_oldest_world : ((Str.ofString "oldest" : Str) = Str.ofString "world") = False := eq_false (by decide)
theorem nw_youngest_bring : ((Str.ofString "youngest" : Str) = Str.ofString "bring") = False := eq_false (by decide)
theorem nw_youngest_way : ((Str.ofString "youngest" : Str) = Str.ofString "way") = False := eq_false (by decide)
theorem nw_youngest_stop : ((Str.ofString "youngest" : Str) = Str.ofString "stop") = False := eq_false (by decide)
theorem nw_youngest_shut : ((Str.ofString "youngest" : Str) = Str.ofString "shut") = False := eq_false (by decide)
theorem nw_youngest_hours : ((Str.ofString "youngest" : Str) = Str.ofString "hours") = False := eq_false (by decide)
theorem nw_youngest_window : ((Str.ofString "youngest" : Str) = Str.ofString "window") = False := eq_false (by decide)
theorem nw_youngest_oldest : ((Str.ofString "youngest" : Str) = Str.ofString "oldest") = False := eq_false (by decide)
theorem nw_youngest_world : ((Str.ofString "youngest" : Str) = Str.ofString "world") = False := eq_false (by decide)
theorem nw_world_bring : ((Str.ofString "world" : Str) = Str.ofString "bring") = False := eq_false (by decide)
theorem nw_world_way : ((Str.ofString "world" : Str) = Str.ofString "way") = False := eq_false (by decide)
theorem nw_world_stop : ((Str.ofString "world" : Str) = Str.ofString "stop") = False := eq_false (by decide)
theorem nw_world_shut : ((Str.ofString "world" : Str) = Str.ofString "shut") = False := eq_false (by decide)
theorem nw_world_hours : ((Str.ofString "world" : Str) = Str.ofString "hours") = False := eq_false (by decide)
theorem nw_world_window : ((Str.ofString "world" : Str) = Str.ofString "window") = False := eq_false (by decide)
theorem nw_world_oldest : ((Str.ofString "world" : Str) = Str.ofString "oldest") = False := eq_false (by decide)
theorem nw_world_youngest : ((Str.ofString "world" : Str) = Str.ofString "youngest") = False := eq_false (by decide)
/-- after: the world behind the deed, where it fits and is a world; else a word -/
def spLAfter : SpD := fun l M Q => ∃ (w : Wld) (d : Deed), l = [w.d, d.d] ∧ Sh5 w ∧ ShD d ∧ (∀ w', app w d = some w' → Ok w' → Q (.tup [.str "world", w'.d]) M) ∧ ∀ x r, ¬ x = ("world" : Str) → Q (.tup (.str x :: r)) M
theorem seq_cut {t u : DSt} {E : DEnds} {ds : DS} {M : S} (Mid : DS → S → Prop) (h1 : ∀ N : DS → S → Prop, (∀ ds' M', Mid ds' M' → N ds' M') → t { E with nx := N } ds M) (h2 : ∀ ds' M', Mid ds' M' → u E ds' M') : dSeq t u E ds M := h1 _ h2
theorem in_str3 {neg : Bool} {s a b c : Str} {M : S} {Q : KD} : oIn neg (.str s) (.lst [.str a, .str b, .str c]) M Q ↔ Q (.bl (if neg then !decide (s ∈ [a, b, c]) else decide (s ∈ [a, b, c]))) M := by
  constructor
  · rintro ⟨w, ws, h1, h2, q⟩
    cases h1
    have e : List.mapM fl [D.str a, D.str b, D.str c] = some [V.str a, V.str b, V.str c] := rfl
    rw [e] at h2
    cases h2
    have := inV_str s [a, b, c]
    rw [show ([V.str a, V.str b, V.str c]) = [a, b, c].map V.str from rfl, this] at q
    exact q
  · intro h
    exact in_strsL (ks := [a, b, c]) h
theorem if_word {i : Nat} {x s : Str} {t u : DSt} {E : DEnds} {ds : DS} {M : S} (hx : ds[i]? = some (some (.str x))) : dIfS (dTest (dOp oEq (dVar i) (dC (.str s)))) t u E ds M ↔ if x = s then t E ds M else u E ds M := by
  constructor
  · rintro ⟨d, hd, q⟩
    rw [hx] at hd
    cases hd
    obtain ⟨b, e, q⟩ := (show ∃ b, D.bl (decide (x = s)) = D.bl b ∧ (if b = true then t E ds M else u E ds M) from q)
    cases e
    by_cases c : x = s
    · rw [if_pos c]; rw [if_pos (decide_eq_true c)] at q; exact q
    · rw [if_neg c]; rw [if_neg (by simp [oIx_tup, oIx_lst, oIx_h, oIx_str, c])] at q; exact q
  · intro q
    refine ⟨.str x, hx, ?_⟩
    show ∃ b, D.bl (decide (x = s)) = D.bl b ∧ (if b = true then t E ds M else u E ds M)
    refine ⟨decide (x = s), rfl, ?_⟩
    by_cases c : x = s
    · rw [if_pos c] at q; rw [if_pos (decide_eq_true c)]; exact q
    · rw [if_neg c] at q; rw [if_neg (by simp [oIx_tup, oIx_lst, oIx_h, oIx_str, c])]; exact q
theorem if_is {i : Nat} {x s : Str} {t u : DSt} {E : DEnds} {ds : DS} {M : S} (hx : ds[i]? = some (some (.str x))) (e : x = s) (h : t E ds M) : dIfS (dTest (dOp oEq (dVar i) (dC (.str s)))) t u E ds M := (if_word hx).mpr (by rw [if_pos e]; exact h)
theorem if_no {i : Nat} {x s : Str} {t u : DSt} {E : DEnds} {ds : DS} {M : S} (hx : ds[i]? = some (some (.str x))) (e : ¬ x = s) (h : u E ds M) : dIfS (dTest (dOp oEq (dVar i) (dC (.str s)))) t u E ds M := (if_word hx).mpr (by rw [if_neg e]; exact h)
theorem decide_mem_shut {x : Str} : decide (x ∈ [("shut" : Str), "hours", "window"]) = (decide (x = ("shut" : Str)) || decide (x = ("hours" : Str)) || decide (x = ("window" : Str))) := by
  by_cases a : x = ("shut" : Str) <;> by_cases b : x = ("hours" : Str) <;> by_cases c : x = ("window" : Str) <;> simp [oIx_tup, oIx_lst, oIx_h, oIx_str, a, b, c]
theorem sc_LAfter : FnScope ["_law_world_here", "_law_deed", "_law_size", "_law_kinds_here", "_law_sources", "_law_ways", "_law_word", "_law_thing", "_law_part_here", "_law_parts", "_law_new", "_law_wrong"] ["_law_world_here", "_law_deed"] (defScope sLAfter) := ⟨rfl, rfl, rfl, by decide +kernel, rfl, by decide +kernel, by decide +kernel⟩
theorem w_LAfter {P : Program} {w : World} {K : PySem.W.Frag} {mg : Str → Option Value} {base : Heap} {CG CH : Addr} (T : Tx K w mg CG CH) : GD P w K mg base 5 "_law_after" spLAfter := by
  obtain ⟨f, fd, hm, F⟩ := T.f_LAfter
  refine ⟨f, hm, F.kp, okD (k := 4) F sc_LAfter (F.bindsN fun _ _ _ _ _ _ us hl => match us, hl with | [_, _], _ => rfl)
    (fun cdv A outer s H E hr => (d_seq (d_asg (d_var (i := 0) rfl (.inl rfl)) (dg_tup (n := 4) rfl (dg_cons (dg_name (i := 2) sc_LAfter.nd rfl (Or.inl rfl)) (dg_cons (dg_name (i := 3) sc_LAfter.nd rfl (Or.inl rfl)) (dg_cons (dg_name (i := 4) sc_LAfter.nd rfl (Or.inl rfl)) (dg_cons (dg_name (i := 5) sc_LAfter.nd rfl (Or.inl rfl)) dg_nil))))))
      (d_seq (d_par (i := 6) (j := 7) rfl sc_LAfter.nd rfl rfl (by decide) rfl rfl (d_pa_cons (d_ix (d_var (i := 1) rfl (.inl rfl)) d_int) (d_pa_cons (d_ix (d_var (i := 1) rfl (.inl rfl)) d_int) d_pa_nil)))
      (d_seq (d_if (d_tw (d_and (dt_eq hr.units (d_var (i := 6) rfl (.inl rfl)) d_str) (d_and1 (d_not (d_tval (d_call ((w_LIs T).mono (by decide)) hr rfl (d_pa_cons (d_var (i := 7) rfl (.inl rfl)) (d_pa_cons d_int (d_pa_cons (d_sub (d_len rfl T.n_len (d_pa_cons (d_var (i := 4) rfl (.inl rfl)) d_pa_nil)) d_int) d_pa_nil))))))))) (d_single (d_ret (d_tup (d_pa_cons d_str (d_pa_cons (d_var (i := 7) rfl (.inl rfl)) d_pa_nil))))) d_nil)
      (d_seq (d_if (d_tw (d_and (dt_in (d_var (i := 6) rfl (.inl rfl)) (d_lst (d_pa_cons d_str (d_pa_cons d_str (d_pa_cons d_str d_pa_nil))))) (d_and1 (d_not (d_tval (d_call ((w_LIs T).mono (by decide)) hr rfl (d_pa_cons (d_var (i := 7) rfl (.inl rfl)) (d_pa_cons d_int (d_pa_cons (d_sub (d_len rfl T.n_len (d_pa_cons (d_var (i := 5) rfl (.inl rfl)) d_pa_nil)) d_int) d_pa_nil))))))))) (d_single (d_ret (d_tup (d_pa_cons d_str (d_pa_cons (d_var (i := 7) rfl (.inl rfl)) d_pa_nil))))) d_nil)
      (d_seq (d_if (d_tw (d_and (dt_eq hr.units (d_var (i := 6) rfl (.inl rfl)) d_str) (d_and1 (d_not (d_tval (d_call ((w_LIs T).mono (by decide)) hr rfl (d_pa_cons (d_ix (d_var (i := 1) rfl (.inl rfl)) d_int) (d_pa_cons d_int (d_pa_cons (d_sub (d_len rfl T.n_len (d_pa_cons (d_ix (d_ix (d_var (i := 5) rfl (.inl rfl)) (d_var (i := 7) rfl (.inl rfl))) d_int) d_pa_nil)) d_int) d_pa_nil))))))))) (d_single (d_ret (d_tup (d_pa_cons d_str (d_pa_cons (d_ix (d_var (i := 1) rfl (.inl rfl)) d_int) d_pa_nil))))) d_nil)
      (d_seq (d_if (dt_eq hr.units (d_var (i := 6) rfl (.inl rfl)) d_str) (d_single (d_set (i := 4) sc_LAfter.nd rfl (Or.inl rfl) (d_add (d_var (i := 4) rfl (.inl rfl)) (d_tup (d_pa_cons (d_var (i := 7) rfl (.inl rfl)) d_pa_nil))))) (d_single (d_if (dt_eq hr.units (d_var (i := 6) rfl (.inl rfl)) d_str) (d_single (d_set (i := 5) sc_LAfter.nd rfl (Or.inl rfl) (d_add (d_var (i := 5) rfl (.inl rfl)) (d_tup (d_pa_cons (d_var (i := 7) rfl (.inl rfl)) d_pa_nil))))) (d_single (d_if (dt_eq hr.units (d_var (i := 6) rfl (.inl rfl)) d_str) (d_single (d_set (i := 4) sc_LAfter.nd rfl (Or.inl rfl) (d_add (d_slice (d_var (i := 4) rfl (.inl rfl)) d_no (d_part (d_var (i := 7) rfl (.inl rfl)))) (d_slice (d_var (i := 4) rfl (.inl rfl)) (d_part (d_add (d_var (i := 7) rfl (.inl rfl)) d_int)) d_no)))) (d_single (d_if (dt_eq hr.units (d_var (i := 6) rfl (.inl rfl)) d_str) (d_single (d_set (i := 5) sc_LAfter.nd rfl (Or.inl rfl) (d_add (d_slice (d_var (i := 5) rfl (.inl rfl)) d_no (d_part (d_var (i := 7) rfl (.inl rfl)))) (d_slice (d_var (i := 5) rfl (.inl rfl)) (d_part (d_add (d_var (i := 7) rfl (.inl rfl)) d_int)) d_no)))) (d_single (d_if (dt_eq hr.units (d_var (i := 6) rfl (.inl rfl)) d_str) (d_single (d_set (i := 5) sc_LAfter.nd rfl (Or.inl rfl) (d_call ((w_LPut T).mono (by decide)) hr rfl (d_pa_cons (d_var (i := 5) rfl (.inl rfl)) (d_pa_cons (d_var (i := 7) rfl (.inl rfl)) (d_pa_cons (d_call ((w_LPut T).mono (by decide)) hr rfl (d_pa_cons (d_ix (d_var (i := 5) rfl (.inl rfl)) (d_var (i := 7) rfl (.inl rfl))) (d_pa_cons d_int (d_pa_cons (d_ix (d_var (i := 1) rfl (.inl rfl)) d_int) d_pa_nil)))) d_pa_nil)))))) (d_seq (d_set (i := 8) sc_LAfter.nd rfl (Or.inl rfl) (d_tup (d_pa_cons (d_ix (d_ix (d_ix (d_ix (d_var (i := 5) rfl (.inl rfl)) (d_var (i := 7) rfl (.inl rfl))) d_int) (d_ix (d_var (i := 1) rfl (.inl rfl)) d_int)) d_int) (d_pa_cons (d_ix (d_var (i := 1) rfl (.inl rfl)) d_int) (d_pa_cons (d_ix (d_var (i := 1) rfl (.inl rfl)) d_int) d_pa_nil)))))
      (d_seq (d_set (i := 9) sc_LAfter.nd rfl (Or.inl rfl) (d_call ((w_LPut T).mono (by decide)) hr rfl (d_pa_cons (d_ix (d_ix (d_var (i := 5) rfl (.inl rfl)) (d_var (i := 7) rfl (.inl rfl))) d_int) (d_pa_cons (d_ix (d_var (i := 1) rfl (.inl rfl)) d_int) (d_pa_cons (d_var (i := 8) rfl (.inl rfl)) d_pa_nil)))))
      (d_single (d_set (i := 5) sc_LAfter.nd rfl (Or.inl rfl) (d_call ((w_LPut T).mono (by decide)) hr rfl (d_pa_cons (d_var (i := 5) rfl (.inl rfl)) (d_pa_cons (d_var (i := 7) rfl (.inl rfl)) (d_pa_cons (d_call ((w_LPut T).mono (by decide)) hr rfl (d_pa_cons (d_ix (d_var (i := 5) rfl (.inl rfl)) (d_var (i := 7) rfl (.inl rfl))) (d_pa_cons d_int (d_pa_cons (d_var (i := 9) rfl (.inl rfl)) d_pa_nil)))) d_pa_nil)))))))))))))))))
      (d_seq (d_set (i := 10) sc_LAfter.nd rfl (Or.inl rfl) (d_tup (d_pa_cons (d_var (i := 2) rfl (.inl rfl)) (d_pa_cons (d_var (i := 3) rfl (.inl rfl)) (d_pa_cons (d_var (i := 4) rfl (.inl rfl)) (d_pa_cons (d_var (i := 5) rfl (.inl rfl)) d_pa_nil))))))
      (d_seq (d_set (i := 11) sc_LAfter.nd rfl (Or.inl rfl) (d_call ((w_LWorldWord T).mono (by decide)) hr rfl (d_pa_cons (d_var (i := 10) rfl (.inl rfl)) d_pa_nil)))
      (d_seq (d_if (d_tpc (d_notN (d_var (i := 11) rfl (.inl rfl)))) (d_single (d_ret (d_tup (d_pa_cons d_str (d_pa_cons (d_ix (d_var (i := 11) rfl (.inl rfl)) d_int) (d_pa_cons (d_ix (d_var (i := 11) rfl (.inl rfl)) d_int) d_pa_nil)))))) d_nil)
      (d_single (d_ret (d_tup (d_pa_cons d_str (d_pa_cons (d_var (i := 10) rfl (.inl rfl)) d_pa_nil))))))))))))))) (fun l M Qd h => ?_)⟩
  obtain ⟨w, d, rfl, hw, hd, h1, h2⟩ := h
  refine ⟨rfl, ?_⟩
  -- the world and the deed taken apart
  obtain ⟨th, rest, ed⟩ : ∃ th rest, d.d = .tup (.str d.word :: th :: rest) := by cases d <;> exact ⟨_, _, rfl⟩
  refine seq_cut (fun ds' M' => M' = M ∧ ds' = [some w.d, some d.d, some (.int w.size), some (kindsD w.kinds), some (.tup (w.srcs.map Src.d)), some (.tup (w.ways.map Way.d)), none, none, none, none, none, none]) (fun N k => ?_) ?_
  · simp [and_assoc, strsOf_map, dVar, dC, dOp, dUn, dNil, dCons, dTup, dLst, dNew, dTest, dAnd, dOr, dNot, dAndV, dOrV, dNotV, dIf, dIsN, dNotN, isN, dChain, dCB, dNext, dSeq, dDrop, dRet, dRetN, dIfS, oI, oI0, oAdd, oC, oIx_tup, oIx_lst, oIx_h, oIx_str, oSl_tup, oSl_lst, oSl_scr, oSl_str, dSl, dNoP, dPart, cLen, cMin2, cInt, uNeg, uBits, uIs, fInt, fBool, fStr, fTup, tyD, dgName, dgNil, dgCons, dgTup, dAsg, dPar, dPar3, dFor, dLc, diTup, diLst, diR1, diR2, diEnT, diEnL, diStr, dCall, dMeth, dMake, dFld, sSetF, startD, dYes, dw, Wld.d]; exact k _ _ ⟨rfl, rfl⟩
  rintro ds' M' ⟨rfl, rfl⟩
  refine seq_cut (fun ds' M'' => M'' = M' ∧ ds' = [some w.d, some d.d, some (.int w.size), some (kindsD w.kinds), some (.tup (w.srcs.map Src.d)), some (.tup (w.ways.map Way.d)), some (.str d.word), some th, none, none, none, none]) (fun N k => ?_) ?_
  · simp [and_assoc, strsOf_map, dVar, dC, dOp, dUn, dNil, dCons, dTup, dLst, dNew, dTest, dAnd, dOr, dNot, dAndV, dOrV, dNotV, dIf, dIsN, dNotN, isN, dChain, dCB, dNext, dSeq, dDrop, dRet, dRetN, dIfS, oI, oI0, oAdd, oC, oIx_tup, oIx_lst, oIx_h, oIx_str, oSl_tup, oSl_lst, oSl_scr, oSl_str, dSl, dNoP, dPart, cLen, cMin2, cInt, uNeg, uBits, uIs, fInt, fBool, fStr, fTup, tyD, dgName, dgNil, dgCons, dgTup, dAsg, dPar, dPar3, dFor, dLc, diTup, diLst, diR1, diR2, diEnT, diEnL, diStr, dCall, dMeth, dMake, dFld, sSetF, startD, dYes, dw, ed, at0, at1]; exact k _ _ ⟨rfl, by rw [ed]⟩
  rintro ds' M ⟨rfl, rfl⟩
  -- does it fit?
  have hs7 : w.srcs.length ≤ 7 := hw.sh.slen
  have hw9 : w.ways.length ≤ 9 := hw.sh.wlen
  refine seq_cut (fun ds' M'' => M'' = M ∧ ds' = [some w.d, some d.d, some (.int w.size), some (kindsD w.kinds), some (.tup (w.srcs.map Src.d)), some (.tup (w.ways.map Way.d)), some (.str d.word), some th, none, none, none, none] ∧ ∀ n, d = .stop n → n < w.srcs.length) (fun N k => ?_) ?_
  · cases d with
    | stop n =>
      cases ed
      by_cases c : n < w.srcs.length
      · have c' : inR 0 (n : Int) ((w.srcs.length : Int) - 1) = true := by simp [oIx_tup, oIx_lst, oIx_h, oIx_str, inR]; omega
        simp [and_assoc, strsOf_map, dVar, dC, dOp, dUn, dNil, dCons, dTup, dLst, dNew, dTest, dAnd, dOr, dNot, dAndV, dOrV, dNotV, dIf, dIsN, dNotN, isN, dChain, dCB, dNext, dSeq, dDrop, dRet, dRetN, dIfS, oI, oI0, oAdd, oC, oIx_tup, oIx_lst, oIx_h, oIx_str, oSl_tup, oSl_lst, oSl_scr, oSl_str, dSl, dNoP, dPart, cLen, cMin2, cInt, uNeg, uBits, uIs, fInt, fBool, fStr, fTup, tyD, dgName, dgNil, dgCons, dgTup, dAsg, dPar, dPar3, dFor, dLc, diTup, diLst, diR1, diR2, diEnT, diEnL, diStr, dCall, dMeth, dMake, dFld, sSetF, startD, dYes, dw, Deed.word, oEq, spLIs, c']
        exact k _ _ ⟨rfl, rfl, fun m e => by cases e; exact c⟩
      · have c' : inR 0 (n : Int) ((w.srcs.length : Int) - 1) = false := by simp [oIx_tup, oIx_lst, oIx_h, oIx_str, inR]; omega
        simp [and_assoc, strsOf_map, dVar, dC, dOp, dUn, dNil, dCons, dTup, dLst, dNew, dTest, dAnd, dOr, dNot, dAndV, dOrV, dNotV, dIf, dIsN, dNotN, isN, dChain, dCB, dNext, dSeq, dDrop, dRet, dRetN, dIfS, oI, oI0, oAdd, oC, oIx_tup, oIx_lst, oIx_h, oIx_str, oSl_tup, oSl_lst, oSl_scr, oSl_str, dSl, dNoP, dPart, cLen, cMin2, cInt, uNeg, uBits, uIs, fInt, fBool, fStr, fTup, tyD, dgName, dgNil, dgCons, dgTup, dAsg, dPar, dPar3, dFor, dLc, diTup, diLst, diR1, diR2, diEnT, diEnL, diStr, dCall, dMeth, dMake, dFld, sSetF, startD, dYes, dw, Deed.word, oEq, spLIs, c']
        exact h2 _ _ (by decide)
    | _ =>
      simp [and_assoc, strsOf_map, dVar, dC, dOp, dUn, dNil, dCons, dTup, dLst, dNew, dTest, dAnd, dOr, dNot, dAndV, dOrV, dNotV, dIf, dIsN, dNotN, isN, dChain, dCB, dNext, dSeq, dDrop, dRet, dRetN, dIfS, oI, oI0, oAdd, oC, oIx_tup, oIx_lst, oIx_h, oIx_str, oSl_tup, oSl_lst, oSl_scr, oSl_str, dSl, dNoP, dPart, cLen, cMin2, cInt, uNeg, uBits, uIs, fInt, fBool, fStr, fTup, tyD, dgName, dgNil, dgCons, dgTup, dAsg, dPar, dPar3, dFor, dLc, diTup, diLst, diR1, diR2, diEnT, diEnL, diStr, dCall, dMeth, dMake, dFld, sSetF, startD, dYes, dw, Deed.word, oEq, nw_bring_way, nw_bring_stop, nw_bring_shut, nw_bring_hours, nw_bring_window, nw_bring_oldest, nw_bring_youngest, nw_bring_world, nw_way_bring, nw_way_stop, nw_way_shut, nw_way_hours, nw_way_window, nw_way_oldest, nw_way_youngest, nw_way_world, nw_stop_bring, nw_stop_way, nw_stop_shut, nw_stop_hours, nw_stop_window, nw_stop_oldest, nw_stop_youngest, nw_stop_world, nw_shut_bring, nw_shut_way, nw_shut_stop, nw_shut_hours, nw_shut_window, nw_shut_oldest, nw_shut_youngest, nw_shut_world, nw_hours_bring, nw_hours_way, nw_hours_stop, nw_hours_shut, nw_hours_window, nw_hours_oldest, nw_hours_youngest, nw_hours_world, nw_window_bring, nw_window_way, nw_window_stop, nw_window_shut, nw_window_hours, nw_window_oldest, nw_window_youngest, nw_window_world, nw_oldest_bring, nw_oldest_way, nw_oldest_stop, nw_oldest_shut, nw_oldest_hours, nw_oldest_window, nw_oldest_youngest, nw_oldest_world, nw_youngest_bring, nw_youngest_way, nw_youngest_stop, nw_youngest_shut, nw_youngest_hours, nw_youngest_window, nw_youngest_oldest, nw_youngest_world, nw_world_bring, nw_world_way, nw_world_stop, nw_world_shut, nw_world_hours, nw_world_window, nw_world_oldest, nw_world_youngest]
      exact k _ _ ⟨rfl, rfl, fun m e => nomatch e⟩
  rintro ds' M'' ⟨rfl, rfl, fit1⟩
  refine seq_cut (fun ds' M' => M' = M'' ∧ ds' = [some w.d, some d.d, some (.int w.size), some (kindsD w.kinds), some (.tup (w.srcs.map Src.d)), some (.tup (w.ways.map Way.d)), some (.str d.word), some th, none, none, none, none] ∧ (∀ n, d = .shut n → n < w.ways.length) ∧ (∀ n hs, d = .hours n hs → n < w.ways.length) ∧ (∀ n m lo hi, d = .window n m lo hi → n < w.ways.length)) (fun N k => ?_) ?_
  · cases d with
    | shut n =>
      cases ed
      by_cases c : n < w.ways.length
      · have c' : inR 0 (n : Int) ((w.ways.length : Int) - 1) = true := by simp [oIx_tup, oIx_lst, oIx_h, oIx_str, inR]; omega
        simp [and_assoc, strsOf_map, dVar, dC, dOp, dUn, dNil, dCons, dTup, dLst, dNew, dTest, dAnd, dOr, dNot, dAndV, dOrV, dNotV, dIf, dIsN, dNotN, isN, dChain, dCB, dNext, dSeq, dDrop, dRet, dRetN, dIfS, oI, oI0, oAdd, oC, oIx_tup, oIx_lst, oIx_h, oIx_str, oSl_tup, oSl_lst, oSl_scr, oSl_str, dSl, dNoP, dPart, cLen, cMin2, cInt, uNeg, uBits, uIs, fInt, fBool, fStr, fTup, tyD, dgName, dgNil, dgCons, dgTup, dAsg, dPar, dPar3, dFor, dLc, diTup, diLst, diR1, diR2, diEnT, diEnL, diStr, dCall, dMeth, dMake, dFld, sSetF, startD, dYes, dw, Deed.word, in_str3, spLIs, c', nw_bring_way, nw_bring_stop, nw_bring_shut, nw_bring_hours, nw_bring_window, nw_bring_oldest, nw_bring_youngest, nw_bring_world, nw_way_bring, nw_way_stop, nw_way_shut, nw_way_hours, nw_way_window, nw_way_oldest, nw_way_youngest, nw_way_world, nw_stop_bring, nw_stop_way, nw_stop_shut, nw_stop_hours, nw_stop_window, nw_stop_oldest, nw_stop_youngest, nw_stop_world, nw_shut_bring, nw_shut_way, nw_shut_stop, nw_shut_hours, nw_shut_window, nw_shut_oldest, nw_shut_youngest, nw_shut_world, nw_hours_bring, nw_hours_way, nw_hours_stop, nw_hours_shut, nw_hours_window, nw_hours_oldest, nw_hours_youngest, nw_hours_world, nw_window_bring, nw_window_way, nw_window_stop, nw_window_shut, nw_window_hours, nw_window_oldest, nw_window_youngest, nw_window_world, nw_oldest_bring, nw_oldest_way, nw_oldest_stop, nw_oldest_shut, nw_oldest_hours, nw_oldest_window, nw_oldest_youngest, nw_oldest_world, nw_youngest_bring, nw_youngest_way, nw_youngest_stop, nw_youngest_shut, nw_youngest_hours, nw_youngest_window, nw_youngest_oldest, nw_youngest_world, nw_world_bring, nw_world_way, nw_world_stop, nw_world_shut, nw_world_hours, nw_world_window, nw_world_oldest, nw_world_youngest]
        exact k _ _ ⟨rfl, rfl, (fun m e => by cases e; exact c), (fun m hs e => nomatch e), (fun a b lo hi e => nomatch e)⟩
      · have c' : inR 0 (n : Int) ((w.ways.length : Int) - 1) = false := by simp [oIx_tup, oIx_lst, oIx_h, oIx_str, inR]; omega
        simp [and_assoc, strsOf_map, dVar, dC, dOp, dUn, dNil, dCons, dTup, dLst, dNew, dTest, dAnd, dOr, dNot, dAndV, dOrV, dNotV, dIf, dIsN, dNotN, isN, dChain, dCB, dNext, dSeq, dDrop, dRet, dRetN, dIfS, oI, oI0, oAdd, oC, oIx_tup, oIx_lst, oIx_h, oIx_str, oSl_tup, oSl_lst, oSl_scr, oSl_str, dSl, dNoP, dPart, cLen, cMin2, cInt, uNeg, uBits, uIs, fInt, fBool, fStr, fTup, tyD, dgName, dgNil, dgCons, dgTup, dAsg, dPar, dPar3, dFor, dLc, diTup, diLst, diR1, diR2, diEnT, diEnL, diStr, dCall, dMeth, dMake, dFld, sSetF, startD, dYes, dw, Deed.word, in_str3, spLIs, c', nw_bring_way, nw_bring_stop, nw_bring_shut, nw_bring_hours, nw_bring_window, nw_bring_oldest, nw_bring_youngest, nw_bring_world, nw_way_bring, nw_way_stop, nw_way_shut, nw_way_hours, nw_way_window, nw_way_oldest, nw_way_youngest, nw_way_world, nw_stop_bring, nw_stop_way, nw_stop_shut, nw_stop_hours, nw_stop_window, nw_stop_oldest, nw_stop_youngest, nw_stop_world, nw_shut_bring, nw_shut_way, nw_shut_stop, nw_shut_hours, nw_shut_window, nw_shut_oldest, nw_shut_youngest, nw_shut_world, nw_hours_bring, nw_hours_way, nw_hours_stop, nw_hours_shut, nw_hours_window, nw_hours_oldest, nw_hours_youngest, nw_hours_world, nw_window_bring, nw_window_way, nw_window_stop, nw_window_shut, nw_window_hours, nw_window_oldest, nw_window_youngest, nw_window_world, nw_oldest_bring, nw_oldest_way, nw_oldest_stop, nw_oldest_shut, nw_oldest_hours, nw_oldest_window, nw_oldest_youngest, nw_oldest_world, nw_youngest_bring, nw_youngest_way, nw_youngest_stop, nw_youngest_shut, nw_youngest_hours, nw_youngest_window, nw_youngest_oldest, nw_youngest_world, nw_world_bring, nw_world_way, nw_world_stop, nw_world_shut, nw_world_hours, nw_world_window, nw_world_oldest, nw_world_youngest]
        exact h2 _ _ (by decide)
    | hours n hs =>
      cases ed
      by_cases c : n < w.ways.length
      · have c' : inR 0 (n : Int) ((w.ways.length : Int) - 1) = true := by simp [oIx_tup, oIx_lst, oIx_h, oIx_str, inR]; omega
        simp [and_assoc, strsOf_map, dVar, dC, dOp, dUn, dNil, dCons, dTup, dLst, dNew, dTest, dAnd, dOr, dNot, dAndV, dOrV, dNotV, dIf, dIsN, dNotN, isN, dChain, dCB, dNext, dSeq, dDrop, dRet, dRetN, dIfS, oI, oI0, oAdd, oC, oIx_tup, oIx_lst, oIx_h, oIx_str, oSl_tup, oSl_lst, oSl_scr, oSl_str, dSl, dNoP, dPart, cLen, cMin2, cInt, uNeg, uBits, uIs, fInt, fBool, fStr, fTup, tyD, dgName, dgNil, dgCons, dgTup, dAsg, dPar, dPar3, dFor, dLc, diTup, diLst, diR1, diR2, diEnT, diEnL, diStr, dCall, dMeth, dMake, dFld, sSetF, startD, dYes, dw, Deed.word, in_str3, spLIs, c', nw_bring_way, nw_bring_stop, nw_bring_shut, nw_bring_hours, nw_bring_window, nw_bring_oldest, nw_bring_youngest, nw_bring_world, nw_way_bring, nw_way_stop, nw_way_shut, nw_way_hours, nw_way_window, nw_way_oldest, nw_way_youngest, nw_way_world, nw_stop_bring, nw_stop_way, nw_stop_shut, nw_stop_hours, nw_stop_window, nw_stop_oldest, nw_stop_youngest, nw_stop_world, nw_shut_bring, nw_shut_way, nw_shut_stop, nw_shut_hours, nw_shut_window, nw_shut_oldest, nw_shut_youngest, nw_shut_world, nw_hours_bring, nw_hours_way, nw_hours_stop, nw_hours_shut, nw_hours_window, nw_hours_oldest, nw_hours_youngest, nw_hours_world, nw_window_bring, nw_window_way, nw_window_stop, nw_window_shut, nw_window_hours, nw_window_oldest, nw_window_youngest, nw_window_world, nw_oldest_bring, nw_oldest_way, nw_oldest_stop, nw_oldest_shut, nw_oldest_hours, nw_oldest_window, nw_oldest_youngest, nw_oldest_world, nw_youngest_bring, nw_youngest_way, nw_youngest_stop, nw_youngest_shut, nw_youngest_hours, nw_youngest_window, nw_youngest_oldest, nw_youngest_world, nw_world_bring, nw_world_way, nw_world_stop, nw_world_shut, nw_world_hours, nw_world_window, nw_world_oldest, nw_world_youngest]
        exact k _ _ ⟨rfl, rfl, (fun m e => nomatch e), (fun m hs e => by cases e; exact c), (fun a b lo hi e => nomatch e)⟩
      · have c' : inR 0 (n : Int) ((w.ways.length : Int) - 1) = false := by simp [oIx_tup, oIx_lst, oIx_h, oIx_str, inR]; omega
        simp [and_assoc, strsOf_map, dVar, dC, dOp, dUn, dNil, dCons, dTup, dLst, dNew, dTest, dAnd, dOr, dNot, dAndV, dOrV, dNotV, dIf, dIsN, dNotN, isN, dChain, dCB, dNext, dSeq, dDrop, dRet, dRetN, dIfS, oI, oI0, oAdd, oC, oIx_tup, oIx_lst, oIx_h, oIx_str, oSl_tup, oSl_lst, oSl_scr, oSl_str, dSl, dNoP, dPart, cLen, cMin2, cInt, uNeg, uBits, uIs, fInt, fBool, fStr, fTup, tyD, dgName, dgNil, dgCons, dgTup, dAsg, dPar, dPar3, dFor, dLc, diTup, diLst, diR1, diR2, diEnT, diEnL, diStr, dCall, dMeth, dMake, dFld, sSetF, startD, dYes, dw, Deed.word, in_str3, spLIs, c', nw_bring_way, nw_bring_stop, nw_bring_shut, nw_bring_hours, nw_bring_window, nw_bring_oldest, nw_bring_youngest, nw_bring_world, nw_way_bring, nw_way_stop, nw_way_shut, nw_way_hours, nw_way_window, nw_way_oldest, nw_way_youngest, nw_way_world, nw_stop_bring, nw_stop_way, nw_stop_shut, nw_stop_hours, nw_stop_window, nw_stop_oldest, nw_stop_youngest, nw_stop_world, nw_shut_bring, nw_shut_way, nw_shut_stop, nw_shut_hours, nw_shut_window, nw_shut_oldest, nw_shut_youngest, nw_shut_world, nw_hours_bring, nw_hours_way, nw_hours_stop, nw_hours_shut, nw_hours_window, nw_hours_oldest, nw_hours_youngest, nw_hours_world, nw_window_bring, nw_window_way, nw_window_stop, nw_window_shut, nw_window_hours, nw_window_oldest, nw_window_youngest, nw_window_world, nw_oldest_bring, nw_oldest_way, nw_oldest_stop, nw_oldest_shut, nw_oldest_hours, nw_oldest_window, nw_oldest_youngest, nw_oldest_world, nw_youngest_bring, nw_youngest_way, nw_youngest_stop, nw_youngest_shut, nw_youngest_hours, nw_youngest_window, nw_youngest_oldest, nw_youngest_world, nw_world_bring, nw_world_way, nw_world_stop, nw_world_shut, nw_world_hours, nw_world_window, nw_world_oldest, nw_world_youngest]
        exact h2 _ _ (by decide)
    | window n m lo hi =>
      cases ed
      by_cases c : n < w.ways.length
      · have c' : inR 0 (n : Int) ((w.ways.length : Int) - 1) = true := by simp [oIx_tup, oIx_lst, oIx_h, oIx_str, inR]; omega
        simp [and_assoc, strsOf_map, dVar, dC, dOp, dUn, dNil, dCons, dTup, dLst, dNew, dTest, dAnd, dOr, dNot, dAndV, dOrV, dNotV, dIf, dIsN, dNotN, isN, dChain, dCB, dNext, dSeq, dDrop, dRet, dRetN, dIfS, oI, oI0, oAdd, oC, oIx_tup, oIx_lst, oIx_h, oIx_str, oSl_tup, oSl_lst, oSl_scr, oSl_str, dSl, dNoP, dPart, cLen, cMin2, cInt, uNeg, uBits, uIs, fInt, fBool, fStr, fTup, tyD, dgName, dgNil, dgCons, dgTup, dAsg, dPar, dPar3, dFor, dLc, diTup, diLst, diR1, diR2, diEnT, diEnL, diStr, dCall, dMeth, dMake, dFld, sSetF, startD, dYes, dw, Deed.word, in_str3, spLIs, c', nw_bring_way, nw_bring_stop, nw_bring_shut, nw_bring_hours, nw_bring_window, nw_bring_oldest, nw_bring_youngest, nw_bring_world, nw_way_bring, nw_way_stop, nw_way_shut, nw_way_hours, nw_way_window, nw_way_oldest, nw_way_youngest, nw_way_world, nw_stop_bring, nw_stop_way, nw_stop_shut, nw_stop_hours, nw_stop_window, nw_stop_oldest, nw_stop_youngest, nw_stop_world, nw_shut_bring, nw_shut_way, nw_shut_stop, nw_shut_hours, nw_shut_window, nw_shut_oldest, nw_shut_youngest, nw_shut_world, nw_hours_bring, nw_hours_way, nw_hours_stop, nw_hours_shut, nw_hours_window, nw_hours_oldest, nw_hours_youngest, nw_hours_world, nw_window_bring, nw_window_way, nw_window_stop, nw_window_shut, nw_window_hours, nw_window_oldest, nw_window_youngest, nw_window_world, nw_oldest_bring, nw_oldest_way, nw_oldest_stop, nw_oldest_shut, nw_oldest_hours, nw_oldest_window, nw_oldest_youngest, nw_oldest_world, nw_youngest_bring, nw_youngest_way, nw_youngest_stop, nw_youngest_shut, nw_youngest_hours, nw_youngest_window, nw_youngest_oldest, nw_youngest_world, nw_world_bring, nw_world_way, nw_world_stop, nw_world_shut, nw_world_hours, nw_world_window, nw_world_oldest, nw_world_youngest]
        exact k _ _ ⟨rfl, rfl, (fun m e => nomatch e), (fun m hs e => nomatch e), (fun a b lo hi e => by cases e; exact c)⟩
      · have c' : inR 0 (n : Int) ((w.ways.length : Int) - 1) = false := by simp [oIx_tup, oIx_lst, oIx_h, oIx_str, inR]; omega
        simp [and_assoc, strsOf_map, dVar, dC, dOp, dUn, dNil, dCons, dTup, dLst, dNew, dTest, dAnd, dOr, dNot, dAndV, dOrV, dNotV, dIf, dIsN, dNotN, isN, dChain, dCB, dNext, dSeq, dDrop, dRet, dRetN, dIfS, oI, oI0, oAdd, oC, oIx_tup, oIx_lst, oIx_h, oIx_str, oSl_tup, oSl_lst, oSl_scr, oSl_str, dSl, dNoP, dPart, cLen, cMin2, cInt, uNeg, uBits, uIs, fInt, fBool, fStr, fTup, tyD, dgName, dgNil, dgCons, dgTup, dAsg, dPar, dPar3, dFor, dLc, diTup, diLst, diR1, diR2, diEnT, diEnL, diStr, dCall, dMeth, dMake, dFld, sSetF, startD, dYes, dw, Deed.word, in_str3, spLIs, c', nw_bring_way, nw_bring_stop, nw_bring_shut, nw_bring_hours, nw_bring_window, nw_bring_oldest, nw_bring_youngest, nw_bring_world, nw_way_bring, nw_way_stop, nw_way_shut, nw_way_hours, nw_way_window, nw_way_oldest, nw_way_youngest, nw_way_world, nw_stop_bring, nw_stop_way, nw_stop_shut, nw_stop_hours, nw_stop_window, nw_stop_oldest, nw_stop_youngest, nw_stop_world, nw_shut_bring, nw_shut_way, nw_shut_stop, nw_shut_hours, nw_shut_window, nw_shut_oldest, nw_shut_youngest, nw_shut_world, nw_hours_bring, nw_hours_way, nw_hours_stop, nw_hours_shut, nw_hours_window, nw_hours_oldest, nw_hours_youngest, nw_hours_world, nw_window_bring, nw_window_way, nw_window_stop, nw_window_shut, nw_window_hours, nw_window_oldest, nw_window_youngest, nw_window_world, nw_oldest_bring, nw_oldest_way, nw_oldest_stop, nw_oldest_shut, nw_oldest_hours, nw_oldest_window, nw_oldest_youngest, nw_oldest_world, nw_youngest_bring, nw_youngest_way, nw_youngest_stop, nw_youngest_shut, nw_youngest_hours, nw_youngest_window, nw_youngest_oldest, nw_youngest_world, nw_world_bring, nw_world_way, nw_world_stop, nw_world_shut, nw_world_hours, nw_world_window, nw_world_oldest, nw_world_youngest]
        exact h2 _ _ (by decide)
    | _ =>
      simp [and_assoc, strsOf_map, dVar, dC, dOp, dUn, dNil, dCons, dTup, dLst, dNew, dTest, dAnd, dOr, dNot, dAndV, dOrV, dNotV, dIf, dIsN, dNotN, isN, dChain, dCB, dNext, dSeq, dDrop, dRet, dRetN, dIfS, oI, oI0, oAdd, oC, oIx_tup, oIx_lst, oIx_h, oIx_str, oSl_tup, oSl_lst, oSl_scr, oSl_str, dSl, dNoP, dPart, cLen, cMin2, cInt, uNeg, uBits, uIs, fInt, fBool, fStr, fTup, tyD, dgName, dgNil, dgCons, dgTup, dAsg, dPar, dPar3, dFor, dLc, diTup, diLst, diR1, diR2, diEnT, diEnL, diStr, dCall, dMeth, dMake, dFld, sSetF, startD, dYes, dw, Deed.word, in_str3, nw_bring_way, nw_bring_stop, nw_bring_shut, nw_bring_hours, nw_bring_window, nw_bring_oldest, nw_bring_youngest, nw_bring_world, nw_way_bring, nw_way_stop, nw_way_shut, nw_way_hours, nw_way_window, nw_way_oldest, nw_way_youngest, nw_way_world, nw_stop_bring, nw_stop_way, nw_stop_shut, nw_stop_hours, nw_stop_window, nw_stop_oldest, nw_stop_youngest, nw_stop_world, nw_shut_bring, nw_shut_way, nw_shut_stop, nw_shut_hours, nw_shut_window, nw_shut_oldest, nw_shut_youngest, nw_shut_world, nw_hours_bring, nw_hours_way, nw_hours_stop, nw_hours_shut, nw_hours_window, nw_hours_oldest, nw_hours_youngest, nw_hours_world, nw_window_bring, nw_window_way, nw_window_stop, nw_window_shut, nw_window_hours, nw_window_oldest, nw_window_youngest, nw_window_world, nw_oldest_bring, nw_oldest_way, nw_oldest_stop, nw_oldest_shut, nw_oldest_hours, nw_oldest_window, nw_oldest_youngest, nw_oldest_world, nw_youngest_bring, nw_youngest_way, nw_youngest_stop, nw_youngest_shut, nw_youngest_hours, nw_youngest_window, nw_youngest_oldest, nw_youngest_world, nw_world_bring, nw_world_way, nw_world_stop, nw_world_shut, nw_world_hours, nw_world_window, nw_world_oldest, nw_world_youngest]
      exact k _ _ ⟨rfl, rfl, (fun m e => nomatch e), (fun m hs e => nomatch e), (fun a b lo hi e => nomatch e)⟩
  rintro ds' M ⟨rfl, rfl, fit2, fit3, fit4⟩
  -- the part
  refine seq_cut (fun ds' M' => M' = M ∧ ds' = [some w.d, some d.d, some (.int w.size), some (kindsD w.kinds), some (.tup (w.srcs.map Src.d)), some (.tup (w.ways.map Way.d)), some (.str d.word), some th, none, none, none, none] ∧ ∃ w', app w d = some w') (fun N k => ?_) ?_
  · cases d with
    | window n m lo hi =>
      cases ed
      have hn := fit4 n m lo hi rfl
      obtain ⟨x, hx⟩ : ∃ x, w.ways[n]? = some x := ⟨_, List.getElem?_eq_getElem hn⟩
      have hy : atI (w.ways.map Way.d) (n : Int) = some x.d := by rw [atI_nat, List.getElem?_map, hx]; rfl
      by_cases c : m < x.parts.length
      · have c' : inR 0 (m : Int) ((x.parts.length : Int) - 1) = true := by simp [oIx_tup, oIx_lst, oIx_h, oIx_str, inR]; omega
        simp [and_assoc, strsOf_map, dVar, dC, dOp, dUn, dNil, dCons, dTup, dLst, dNew, dTest, dAnd, dOr, dNot, dAndV, dOrV, dNotV, dIf, dIsN, dNotN, isN, dChain, dCB, dNext, dSeq, dDrop, dRet, dRetN, dIfS, oI, oI0, oAdd, oC, oIx_tup, oIx_lst, oIx_h, oIx_str, oSl_tup, oSl_lst, oSl_scr, oSl_str, dSl, dNoP, dPart, cLen, cMin2, cInt, uNeg, uBits, uIs, fInt, fBool, fStr, fTup, tyD, dgName, dgNil, dgCons, dgTup, dAsg, dPar, dPar3, dFor, dLc, diTup, diLst, diR1, diR2, diEnT, diEnL, diStr, dCall, dMeth, dMake, dFld, sSetF, startD, dYes, dw, Deed.word, Deed.d, oEq, hy, Way.d, at1, at2, spLIs, c', nw_bring_way, nw_bring_stop, nw_bring_shut, nw_bring_hours, nw_bring_window, nw_bring_oldest, nw_bring_youngest, nw_bring_world, nw_way_bring, nw_way_stop, nw_way_shut, nw_way_hours, nw_way_window, nw_way_oldest, nw_way_youngest, nw_way_world, nw_stop_bring, nw_stop_way, nw_stop_shut, nw_stop_hours, nw_stop_window, nw_stop_oldest, nw_stop_youngest, nw_stop_world, nw_shut_bring, nw_shut_way, nw_shut_stop, nw_shut_hours, nw_shut_window, nw_shut_oldest, nw_shut_youngest, nw_shut_world, nw_hours_bring, nw_hours_way, nw_hours_stop, nw_hours_shut, nw_hours_window, nw_hours_oldest, nw_hours_youngest, nw_hours_world, nw_window_bring, nw_window_way, nw_window_stop, nw_window_shut, nw_window_hours, nw_window_oldest, nw_window_youngest, nw_window_world, nw_oldest_bring, nw_oldest_way, nw_oldest_stop, nw_oldest_shut, nw_oldest_hours, nw_oldest_window, nw_oldest_youngest, nw_oldest_world, nw_youngest_bring, nw_youngest_way, nw_youngest_stop, nw_youngest_shut, nw_youngest_hours, nw_youngest_window, nw_youngest_oldest, nw_youngest_world, nw_world_bring, nw_world_way, nw_world_stop, nw_world_shut, nw_world_hours, nw_world_window, nw_world_oldest, nw_world_youngest]
        exact k _ _ ⟨rfl, rfl, by simp [oIx_tup, oIx_lst, oIx_h, oIx_str, app, hx, List.getElem?_eq_getElem c]⟩
      · have c' : inR 0 (m : Int) ((x.parts.length : Int) - 1) = false := by simp [oIx_tup, oIx_lst, oIx_h, oIx_str, inR]; omega
        simp [and_assoc, strsOf_map, dVar, dC, dOp, dUn, dNil, dCons, dTup, dLst, dNew, dTest, dAnd, dOr, dNot, dAndV, dOrV, dNotV, dIf, dIsN, dNotN, isN, dChain, dCB, dNext, dSeq, dDrop, dRet, dRetN, dIfS, oI, oI0, oAdd, oC, oIx_tup, oIx_lst, oIx_h, oIx_str, oSl_tup, oSl_lst, oSl_scr, oSl_str, dSl, dNoP, dPart, cLen, cMin2, cInt, uNeg, uBits, uIs, fInt, fBool, fStr, fTup, tyD, dgName, dgNil, dgCons, dgTup, dAsg, dPar, dPar3, dFor, dLc, diTup, diLst, diR1, diR2, diEnT, diEnL, diStr, dCall, dMeth, dMake, dFld, sSetF, startD, dYes, dw, Deed.word, Deed.d, oEq, hy, Way.d, at1, at2, spLIs, c', nw_bring_way, nw_bring_stop, nw_bring_shut, nw_bring_hours, nw_bring_window, nw_bring_oldest, nw_bring_youngest, nw_bring_world, nw_way_bring, nw_way_stop, nw_way_shut, nw_way_hours, nw_way_window, nw_way_oldest, nw_way_youngest, nw_way_world, nw_stop_bring, nw_stop_way, nw_stop_shut, nw_stop_hours, nw_stop_window, nw_stop_oldest, nw_stop_youngest, nw_stop_world, nw_shut_bring, nw_shut_way, nw_shut_stop, nw_shut_hours, nw_shut_window, nw_shut_oldest, nw_shut_youngest, nw_shut_world, nw_hours_bring, nw_hours_way, nw_hours_stop, nw_hours_shut, nw_hours_window, nw_hours_oldest, nw_hours_youngest, nw_hours_world, nw_window_bring, nw_window_way, nw_window_stop, nw_window_shut, nw_window_hours, nw_window_oldest, nw_window_youngest, nw_window_world, nw_oldest_bring, nw_oldest_way, nw_oldest_stop, nw_oldest_shut, nw_oldest_hours, nw_oldest_window, nw_oldest_youngest, nw_oldest_world, nw_youngest_bring, nw_youngest_way, nw_youngest_stop, nw_youngest_shut, nw_youngest_hours, nw_youngest_window, nw_youngest_oldest, nw_youngest_world, nw_world_bring, nw_world_way, nw_world_stop, nw_world_shut, nw_world_hours, nw_world_window, nw_world_oldest, nw_world_youngest]
        exact h2 _ _ (by decide)
    | bring s =>
      simp [and_assoc, strsOf_map, dVar, dC, dOp, dUn, dNil, dCons, dTup, dLst, dNew, dTest, dAnd, dOr, dNot, dAndV, dOrV, dNotV, dIf, dIsN, dNotN, isN, dChain, dCB, dNext, dSeq, dDrop, dRet, dRetN, dIfS, oI, oI0, oAdd, oC, oIx_tup, oIx_lst, oIx_h, oIx_str, oSl_tup, oSl_lst, oSl_scr, oSl_str, dSl, dNoP, dPart, cLen, cMin2, cInt, uNeg, uBits, uIs, fInt, fBool, fStr, fTup, tyD, dgName, dgNil, dgCons, dgTup, dAsg, dPar, dPar3, dFor, dLc, diTup, diLst, diR1, diR2, diEnT, diEnL, diStr, dCall, dMeth, dMake, dFld, sSetF, startD, dYes, dw, Deed.word, oEq, nw_bring_way, nw_bring_stop, nw_bring_shut, nw_bring_hours, nw_bring_window, nw_bring_oldest, nw_bring_youngest, nw_bring_world, nw_way_bring, nw_way_stop, nw_way_shut, nw_way_hours, nw_way_window, nw_way_oldest, nw_way_youngest, nw_way_world, nw_stop_bring, nw_stop_way, nw_stop_shut, nw_stop_hours, nw_stop_window, nw_stop_oldest, nw_stop_youngest, nw_stop_world, nw_shut_bring, nw_shut_way, nw_shut_stop, nw_shut_hours, nw_shut_window, nw_shut_oldest, nw_shut_youngest, nw_shut_world, nw_hours_bring, nw_hours_way, nw_hours_stop, nw_hours_shut, nw_hours_window, nw_hours_oldest, nw_hours_youngest, nw_hours_world, nw_window_bring, nw_window_way, nw_window_stop, nw_window_shut, nw_window_hours, nw_window_oldest, nw_window_youngest, nw_window_world, nw_oldest_bring, nw_oldest_way, nw_oldest_stop, nw_oldest_shut, nw_oldest_hours, nw_oldest_window, nw_oldest_youngest, nw_oldest_world, nw_youngest_bring, nw_youngest_way, nw_youngest_stop, nw_youngest_shut, nw_youngest_hours, nw_youngest_window, nw_youngest_oldest, nw_youngest_world, nw_world_bring, nw_world_way, nw_world_stop, nw_world_shut, nw_world_hours, nw_world_window, nw_world_oldest, nw_world_youngest]
      exact k _ _ ⟨rfl, rfl, _, rfl⟩
    | way s =>
      simp [and_assoc, strsOf_map, dVar, dC, dOp, dUn, dNil, dCons, dTup, dLst, dNew, dTest, dAnd, dOr, dNot, dAndV, dOrV, dNotV, dIf, dIsN, dNotN, isN, dChain, dCB, dNext, dSeq, dDrop, dRet, dRetN, dIfS, oI, oI0, oAdd, oC, oIx_tup, oIx_lst, oIx_h, oIx_str, oSl_tup, oSl_lst, oSl_scr, oSl_str, dSl, dNoP, dPart, cLen, cMin2, cInt, uNeg, uBits, uIs, fInt, fBool, fStr, fTup, tyD, dgName, dgNil, dgCons, dgTup, dAsg, dPar, dPar3, dFor, dLc, diTup, diLst, diR1, diR2, diEnT, diEnL, diStr, dCall, dMeth, dMake, dFld, sSetF, startD, dYes, dw, Deed.word, oEq, nw_bring_way, nw_bring_stop, nw_bring_shut, nw_bring_hours, nw_bring_window, nw_bring_oldest, nw_bring_youngest, nw_bring_world, nw_way_bring, nw_way_stop, nw_way_shut, nw_way_hours, nw_way_window, nw_way_oldest, nw_way_youngest, nw_way_world, nw_stop_bring, nw_stop_way, nw_stop_shut, nw_stop_hours, nw_stop_window, nw_stop_oldest, nw_stop_youngest, nw_stop_world, nw_shut_bring, nw_shut_way, nw_shut_stop, nw_shut_hours, nw_shut_window, nw_shut_oldest, nw_shut_youngest, nw_shut_world, nw_hours_bring, nw_hours_way, nw_hours_stop, nw_hours_shut, nw_hours_window, nw_hours_oldest, nw_hours_youngest, nw_hours_world, nw_window_bring, nw_window_way, nw_window_stop, nw_window_shut, nw_window_hours, nw_window_oldest, nw_window_youngest, nw_window_world, nw_oldest_bring, nw_oldest_way, nw_oldest_stop, nw_oldest_shut, nw_oldest_hours, nw_oldest_window, nw_oldest_youngest, nw_oldest_world, nw_youngest_bring, nw_youngest_way, nw_youngest_stop, nw_youngest_shut, nw_youngest_hours, nw_youngest_window, nw_youngest_oldest, nw_youngest_world, nw_world_bring, nw_world_way, nw_world_stop, nw_world_shut, nw_world_hours, nw_world_window, nw_world_oldest, nw_world_youngest]
      exact k _ _ ⟨rfl, rfl, _, rfl⟩
    | stop n =>
      simp [and_assoc, strsOf_map, dVar, dC, dOp, dUn, dNil, dCons, dTup, dLst, dNew, dTest, dAnd, dOr, dNot, dAndV, dOrV, dNotV, dIf, dIsN, dNotN, isN, dChain, dCB, dNext, dSeq, dDrop, dRet, dRetN, dIfS, oI, oI0, oAdd, oC, oIx_tup, oIx_lst, oIx_h, oIx_str, oSl_tup, oSl_lst, oSl_scr, oSl_str, dSl, dNoP, dPart, cLen, cMin2, cInt, uNeg, uBits, uIs, fInt, fBool, fStr, fTup, tyD, dgName, dgNil, dgCons, dgTup, dAsg, dPar, dPar3, dFor, dLc, diTup, diLst, diR1, diR2, diEnT, diEnL, diStr, dCall, dMeth, dMake, dFld, sSetF, startD, dYes, dw, Deed.word, oEq, nw_bring_way, nw_bring_stop, nw_bring_shut, nw_bring_hours, nw_bring_window, nw_bring_oldest, nw_bring_youngest, nw_bring_world, nw_way_bring, nw_way_stop, nw_way_shut, nw_way_hours, nw_way_window, nw_way_oldest, nw_way_youngest, nw_way_world, nw_stop_bring, nw_stop_way, nw_stop_shut, nw_stop_hours, nw_stop_window, nw_stop_oldest, nw_stop_youngest, nw_stop_world, nw_shut_bring, nw_shut_way, nw_shut_stop, nw_shut_hours, nw_shut_window, nw_shut_oldest, nw_shut_youngest, nw_shut_world, nw_hours_bring, nw_hours_way, nw_hours_stop, nw_hours_shut, nw_hours_window, nw_hours_oldest, nw_hours_youngest, nw_hours_world, nw_window_bring, nw_window_way, nw_window_stop, nw_window_shut, nw_window_hours, nw_window_oldest, nw_window_youngest, nw_window_world, nw_oldest_bring, nw_oldest_way, nw_oldest_stop, nw_oldest_shut, nw_oldest_hours, nw_oldest_window, nw_oldest_youngest, nw_oldest_world, nw_youngest_bring, nw_youngest_way, nw_youngest_stop, nw_youngest_shut, nw_youngest_hours, nw_youngest_window, nw_youngest_oldest, nw_youngest_world, nw_world_bring, nw_world_way, nw_world_stop, nw_world_shut, nw_world_hours, nw_world_window, nw_world_oldest, nw_world_youngest]
      exact k _ _ ⟨rfl, rfl, _, by simp only [app]; rw [if_pos (fit1 n rfl)]⟩
    | shut n =>
      simp [and_assoc, strsOf_map, dVar, dC, dOp, dUn, dNil, dCons, dTup, dLst, dNew, dTest, dAnd, dOr, dNot, dAndV, dOrV, dNotV, dIf, dIsN, dNotN, isN, dChain, dCB, dNext, dSeq, dDrop, dRet, dRetN, dIfS, oI, oI0, oAdd, oC, oIx_tup, oIx_lst, oIx_h, oIx_str, oSl_tup, oSl_lst, oSl_scr, oSl_str, dSl, dNoP, dPart, cLen, cMin2, cInt, uNeg, uBits, uIs, fInt, fBool, fStr, fTup, tyD, dgName, dgNil, dgCons, dgTup, dAsg, dPar, dPar3, dFor, dLc, diTup, diLst, diR1, diR2, diEnT, diEnL, diStr, dCall, dMeth, dMake, dFld, sSetF, startD, dYes, dw, Deed.word, oEq, nw_bring_way, nw_bring_stop, nw_bring_shut, nw_bring_hours, nw_bring_window, nw_bring_oldest, nw_bring_youngest, nw_bring_world, nw_way_bring, nw_way_stop, nw_way_shut, nw_way_hours, nw_way_window, nw_way_oldest, nw_way_youngest, nw_way_world, nw_stop_bring, nw_stop_way, nw_stop_shut, nw_stop_hours, nw_stop_window, nw_stop_oldest, nw_stop_youngest, nw_stop_world, nw_shut_bring, nw_shut_way, nw_shut_stop, nw_shut_hours, nw_shut_window, nw_shut_oldest, nw_shut_youngest, nw_shut_world, nw_hours_bring, nw_hours_way, nw_hours_stop, nw_hours_shut, nw_hours_window, nw_hours_oldest, nw_hours_youngest, nw_hours_world, nw_window_bring, nw_window_way, nw_window_stop, nw_window_shut, nw_window_hours, nw_window_oldest, nw_window_youngest, nw_window_world, nw_oldest_bring, nw_oldest_way, nw_oldest_stop, nw_oldest_shut, nw_oldest_hours, nw_oldest_window, nw_oldest_youngest, nw_oldest_world, nw_youngest_bring, nw_youngest_way, nw_youngest_stop, nw_youngest_shut, nw_youngest_hours, nw_youngest_window, nw_youngest_oldest, nw_youngest_world, nw_world_bring, nw_world_way, nw_world_stop, nw_world_shut, nw_world_hours, nw_world_window, nw_world_oldest, nw_world_youngest]
      exact k _ _ ⟨rfl, rfl, _, by simp only [app]; rw [if_pos (fit2 n rfl)]⟩
    | hours n hs =>
      simp [and_assoc, strsOf_map, dVar, dC, dOp, dUn, dNil, dCons, dTup, dLst, dNew, dTest, dAnd, dOr, dNot, dAndV, dOrV, dNotV, dIf, dIsN, dNotN, isN, dChain, dCB, dNext, dSeq, dDrop, dRet, dRetN, dIfS, oI, oI0, oAdd, oC, oIx_tup, oIx_lst, oIx_h, oIx_str, oSl_tup, oSl_lst, oSl_scr, oSl_str, dSl, dNoP, dPart, cLen, cMin2, cInt, uNeg, uBits, uIs, fInt, fBool, fStr, fTup, tyD, dgName, dgNil, dgCons, dgTup, dAsg, dPar, dPar3, dFor, dLc, diTup, diLst, diR1, diR2, diEnT, diEnL, diStr, dCall, dMeth, dMake, dFld, sSetF, startD, dYes, dw, Deed.word, oEq, nw_bring_way, nw_bring_stop, nw_bring_shut, nw_bring_hours, nw_bring_window, nw_bring_oldest, nw_bring_youngest, nw_bring_world, nw_way_bring, nw_way_stop, nw_way_shut, nw_way_hours, nw_way_window, nw_way_oldest, nw_way_youngest, nw_way_world, nw_stop_bring, nw_stop_way, nw_stop_shut, nw_stop_hours, nw_stop_window, nw_stop_oldest, nw_stop_youngest, nw_stop_world, nw_shut_bring, nw_shut_way, nw_shut_stop, nw_shut_hours, nw_shut_window, nw_shut_oldest, nw_shut_youngest, nw_shut_world, nw_hours_bring, nw_hours_way, nw_hours_stop, nw_hours_shut, nw_hours_window, nw_hours_oldest, nw_hours_youngest, nw_hours_world, nw_window_bring, nw_window_way, nw_window_stop, nw_window_shut, nw_window_hours, nw_window_oldest, nw_window_youngest, nw_window_world, nw_oldest_bring, nw_oldest_way, nw_oldest_stop, nw_oldest_shut, nw_oldest_hours, nw_oldest_window, nw_oldest_youngest, nw_oldest_world, nw_youngest_bring, nw_youngest_way, nw_youngest_stop, nw_youngest_shut, nw_youngest_hours, nw_youngest_window, nw_youngest_oldest, nw_youngest_world, nw_world_bring, nw_world_way, nw_world_stop, nw_world_shut, nw_world_hours, nw_world_window, nw_world_oldest, nw_world_youngest]
      exact k _ _ ⟨rfl, rfl, _, by simp only [app]; rw [List.getElem?_eq_getElem (fit3 n hs rfl)]⟩
  rintro ds' M' ⟨rfl, rfl, w', ew⟩
  -- the deed done
  refine seq_cut (fun ds' M'' => M'' = M' ∧ ∃ x y, ds' = [some w.d, some d.d, some (.int w.size), some (kindsD w.kinds), some (.tup (w'.srcs.map Src.d)), some (.tup (w'.ways.map Way.d)), some (.str d.word), some th, x, y, none, none] ∧ w'.size = w.size ∧ w'.kinds = w.kinds) (fun N k => ?_) ?_
  · cases d with
    | bring s =>
      cases ed; cases ew
      refine if_is rfl rfl ?_
      simp [and_assoc, strsOf_map, dVar, dC, dOp, dUn, dNil, dCons, dTup, dLst, dNew, dTest, dAnd, dOr, dNot, dAndV, dOrV, dNotV, dIf, dIsN, dNotN, isN, dChain, dCB, dNext, dSeq, dDrop, dRet, dRetN, dIfS, oI, oI0, oAdd, oC, oIx_tup, oIx_lst, oIx_h, oIx_str, oSl_tup, oSl_lst, oSl_scr, oSl_str, dSl, dNoP, dPart, cLen, cMin2, cInt, uNeg, uBits, uIs, fInt, fBool, fStr, fTup, tyD, dgName, dgNil, dgCons, dgTup, dAsg, dPar, dPar3, dFor, dLc, diTup, diLst, diR1, diR2, diEnT, diEnL, diStr, dCall, dMeth, dMake, dFld, sSetF, startD, dYes, dw]
      refine ⟨by omega, k _ _ ⟨rfl, none, none, ?_, rfl, rfl⟩⟩
      simp
    | way s =>
      cases ed; cases ew
      refine if_no rfl (of_eq_false nw_way_bring) (if_is rfl rfl ?_)
      simp [and_assoc, strsOf_map, dVar, dC, dOp, dUn, dNil, dCons, dTup, dLst, dNew, dTest, dAnd, dOr, dNot, dAndV, dOrV, dNotV, dIf, dIsN, dNotN, isN, dChain, dCB, dNext, dSeq, dDrop, dRet, dRetN, dIfS, oI, oI0, oAdd, oC, oIx_tup, oIx_lst, oIx_h, oIx_str, oSl_tup, oSl_lst, oSl_scr, oSl_str, dSl, dNoP, dPart, cLen, cMin2, cInt, uNeg, uBits, uIs, fInt, fBool, fStr, fTup, tyD, dgName, dgNil, dgCons, dgTup, dAsg, dPar, dPar3, dFor, dLc, diTup, diLst, diR1, diR2, diEnT, diEnL, diStr, dCall, dMeth, dMake, dFld, sSetF, startD, dYes, dw]
      refine ⟨by omega, k _ _ ⟨rfl, none, none, ?_, rfl, rfl⟩⟩
      simp
    | stop n =>
      cases ed
      simp only [app] at ew
      rw [if_pos (fit1 n rfl)] at ew
      cases ew
      refine if_no rfl (of_eq_false nw_stop_bring) (if_no rfl (of_eq_false nw_stop_way) (if_is rfl rfl ?_))
      simp [and_assoc, strsOf_map, dVar, dC, dOp, dUn, dNil, dCons, dTup, dLst, dNew, dTest, dAnd, dOr, dNot, dAndV, dOrV, dNotV, dIf, dIsN, dNotN, isN, dChain, dCB, dNext, dSeq, dDrop, dRet, dRetN, dIfS, oI, oI0, oAdd, oC, oIx_tup, oIx_lst, oIx_h, oIx_str, oSl_tup, oSl_lst, oSl_scr, oSl_str, dSl, dNoP, dPart, cLen, cMin2, cInt, uNeg, uBits, uIs, fInt, fBool, fStr, fTup, tyD, dgName, dgNil, dgCons, dgTup, dAsg, dPar, dPar3, dFor, dLc, diTup, diLst, diR1, diR2, diEnT, diEnL, diStr, dCall, dMeth, dMake, dFld, sSetF, startD, dYes, dw, cut_take, cut_drop1]
      refine ⟨by omega, k _ _ ⟨rfl, none, none, ?_, rfl, rfl⟩⟩
      simp [oIx_tup, oIx_lst, oIx_h, oIx_str, ← erase_cut]
    | shut n =>
      cases ed
      simp only [app] at ew
      rw [if_pos (fit2 n rfl)] at ew
      cases ew
      refine if_no rfl (of_eq_false nw_shut_bring) (if_no rfl (of_eq_false nw_shut_way) (if_no rfl (of_eq_false nw_shut_stop) (if_is rfl rfl ?_)))
      simp [and_assoc, strsOf_map, dVar, dC, dOp, dUn, dNil, dCons, dTup, dLst, dNew, dTest, dAnd, dOr, dNot, dAndV, dOrV, dNotV, dIf, dIsN, dNotN, isN, dChain, dCB, dNext, dSeq, dDrop, dRet, dRetN, dIfS, oI, oI0, oAdd, oC, oIx_tup, oIx_lst, oIx_h, oIx_str, oSl_tup, oSl_lst, oSl_scr, oSl_str, dSl, dNoP, dPart, cLen, cMin2, cInt, uNeg, uBits, uIs, fInt, fBool, fStr, fTup, tyD, dgName, dgNil, dgCons, dgTup, dAsg, dPar, dPar3, dFor, dLc, diTup, diLst, diR1, diR2, diEnT, diEnL, diStr, dCall, dMeth, dMake, dFld, sSetF, startD, dYes, dw, cut_take, cut_drop1]
      refine ⟨by omega, k _ _ ⟨rfl, none, none, ?_, rfl, rfl⟩⟩
      simp [oIx_tup, oIx_lst, oIx_h, oIx_str, ← erase_cut]
    | hours n hs =>
      cases ed
      have hn := fit3 n hs rfl
      obtain ⟨x, hx⟩ : ∃ x, w.ways[n]? = some x := ⟨_, List.getElem?_eq_getElem hn⟩
      have hy : atI (w.ways.map Way.d) (n : Int) = some x.d := by rw [atI_nat, List.getElem?_map, hx]; rfl
      simp only [app, hx] at ew
      cases ew
      refine if_no rfl (of_eq_false nw_hours_bring) (if_no rfl (of_eq_false nw_hours_way) (if_no rfl (of_eq_false nw_hours_stop) (if_no rfl (of_eq_false nw_hours_shut) (if_is rfl rfl ?_))))
      simp [and_assoc, strsOf_map, dVar, dC, dOp, dUn, dNil, dCons, dTup, dLst, dNew, dTest, dAnd, dOr, dNot, dAndV, dOrV, dNotV, dIf, dIsN, dNotN, isN, dChain, dCB, dNext, dSeq, dDrop, dRet, dRetN, dIfS, oI, oI0, oAdd, oC, oIx_tup, oIx_lst, oIx_h, oIx_str, oSl_tup, oSl_lst, oSl_scr, oSl_str, dSl, dNoP, dPart, cLen, cMin2, cInt, uNeg, uBits, uIs, fInt, fBool, fStr, fTup, tyD, dgName, dgNil, dgCons, dgTup, dAsg, dPar, dPar3, dFor, dLc, diTup, diLst, diR1, diR2, diEnT, diEnL, diStr, dCall, dMeth, dMake, dFld, sSetF, startD, dYes, dw, Deed.d, hy, at2, spLPut]
      refine ⟨by simp, by simp, by simp, hn, by omega, ?_⟩
      refine k _ _ ⟨rfl, none, none, ?_, rfl, rfl⟩
      simp [oIx_tup, oIx_lst, oIx_h, oIx_str, Way.d, Deed.d]
    | window n m lo hi =>
      cases ed
      have hn := fit4 n m lo hi rfl
      obtain ⟨x, hx⟩ : ∃ x, w.ways[n]? = some x := ⟨_, List.getElem?_eq_getElem hn⟩
      have hy : atI (w.ways.map Way.d) (n : Int) = some x.d := by rw [atI_nat, List.getElem?_map, hx]; rfl
      simp only [app, hx] at ew
      cases hp : x.parts[m]? with
      | none => rw [hp] at ew; cases ew
      | some p =>
        rw [hp] at ew
        cases ew
        have hq : atI (x.parts.map Prt.d) (m : Int) = some p.d := by rw [atI_nat, List.getElem?_map, hp]; rfl
        have hm := (List.getElem?_eq_some_iff.mp hp).1
        have ox := hw.sh.ways x (List.mem_of_getElem? hx)
        have hl := ox.len
        refine if_no rfl (of_eq_false nw_window_bring) (if_no rfl (of_eq_false nw_window_way) (if_no rfl (of_eq_false nw_window_stop) (if_no rfl (of_eq_false nw_window_shut) (if_no rfl (of_eq_false nw_window_hours) (?_)))))
        refine seq_cut (fun ds' M'' => M'' = M' ∧ ds' = [some w.d, some (Deed.window n m lo hi).d, some (.int w.size), some (kindsD w.kinds), some (.tup (w.srcs.map Src.d)), some (.tup (w.ways.map Way.d)), some (.str "window"), some (.int n), some (.tup [.str p.kind, .int lo, .int hi]), none, none, none]) (fun N k => ?_) ?_
        · simp [and_assoc, strsOf_map, dVar, dC, dOp, dUn, dNil, dCons, dTup, dLst, dNew, dTest, dAnd, dOr, dNot, dAndV, dOrV, dNotV, dIf, dIsN, dNotN, isN, dChain, dCB, dNext, dSeq, dDrop, dRet, dRetN, dIfS, oI, oI0, oAdd, oC, oIx_tup, oIx_lst, oIx_h, oIx_str, oSl_tup, oSl_lst, oSl_scr, oSl_str, dSl, dNoP, dPart, cLen, cMin2, cInt, uNeg, uBits, uIs, fInt, fBool, fStr, fTup, tyD, dgName, dgNil, dgCons, dgTup, dAsg, dPar, dPar3, dFor, dLc, diTup, diLst, diR1, diR2, diEnT, diEnL, diStr, dCall, dMeth, dMake, dFld, sSetF, startD, dYes, dw, Deed.d, Deed.word, hy, at0, at1, at2, at3, at4, Way.d, hq, Prt.d]
          exact k _ _ ⟨rfl, rfl⟩
        rintro ds' M'' ⟨rfl, rfl⟩
        refine seq_cut (fun ds' M' => M' = M'' ∧ ds' = [some w.d, some (Deed.window n m lo hi).d, some (.int w.size), some (kindsD w.kinds), some (.tup (w.srcs.map Src.d)), some (.tup (w.ways.map Way.d)), some (.str "window"), some (.int n), some (.tup [.str p.kind, .int lo, .int hi]), some (.tup ((x.parts.map Prt.d).set m (.tup [.str p.kind, .int lo, .int hi]))), none, none]) (fun N k => ?_) ?_
        · simp [and_assoc, strsOf_map, dVar, dC, dOp, dUn, dNil, dCons, dTup, dLst, dNew, dTest, dAnd, dOr, dNot, dAndV, dOrV, dNotV, dIf, dIsN, dNotN, isN, dChain, dCB, dNext, dSeq, dDrop, dRet, dRetN, dIfS, oI, oI0, oAdd, oC, oIx_tup, oIx_lst, oIx_h, oIx_str, oSl_tup, oSl_lst, oSl_scr, oSl_str, dSl, dNoP, dPart, cLen, cMin2, cInt, uNeg, uBits, uIs, fInt, fBool, fStr, fTup, tyD, dgName, dgNil, dgCons, dgTup, dAsg, dPar, dPar3, dFor, dLc, diTup, diLst, diR1, diR2, diEnT, diEnL, diStr, dCall, dMeth, dMake, dFld, sSetF, startD, dYes, dw, Deed.d, hy, at1, at2, Way.d, spLPut]
          exact ⟨by omega, by omega, k _ _ ⟨rfl, rfl⟩⟩
        rintro ds' M' ⟨rfl, rfl⟩
        simp [and_assoc, strsOf_map, dVar, dC, dOp, dUn, dNil, dCons, dTup, dLst, dNew, dTest, dAnd, dOr, dNot, dAndV, dOrV, dNotV, dIf, dIsN, dNotN, isN, dChain, dCB, dNext, dSeq, dDrop, dRet, dRetN, dIfS, oI, oI0, oAdd, oC, oIx_tup, oIx_lst, oIx_h, oIx_str, oSl_tup, oSl_lst, oSl_scr, oSl_str, dSl, dNoP, dPart, cLen, cMin2, cInt, uNeg, uBits, uIs, fInt, fBool, fStr, fTup, tyD, dgName, dgNil, dgCons, dgTup, dAsg, dPar, dPar3, dFor, dLc, diTup, diLst, diR1, diR2, diEnT, diEnL, diStr, dCall, dMeth, dMake, dFld, sSetF, startD, dYes, dw, hy, Way.d, spLPut]
        refine ⟨by omega, by omega, ?_⟩
        refine k _ _ ⟨rfl, some (.tup [.str p.kind, .int lo, .int hi]), some (.tup ((x.parts.map Prt.d).set m (.tup [.str p.kind, .int lo, .int hi]))), ?_, rfl, rfl⟩
        simp [oIx_tup, oIx_lst, oIx_h, oIx_str, Way.d, Prt.d, Deed.word]
  rintro ds' M'' ⟨rfl, x, y, rfl, es, ek⟩
  have sh' := app_sh hw hd ew
  have ed' : w'.d = .tup [.int w.size, kindsD w.kinds, .tup (w'.srcs.map Src.d), .tup (w'.ways.map Way.d)] := by rw [← es, ← ek]; rfl
  simp [and_assoc, strsOf_map, dVar, dC, dOp, dUn, dNil, dCons, dTup, dLst, dNew, dTest, dAnd, dOr, dNot, dAndV, dOrV, dNotV, dIf, dIsN, dNotN, isN, dChain, dCB, dNext, dSeq, dDrop, dRet, dRetN, dIfS, oI, oI0, oAdd, oC, oIx_tup, oIx_lst, oIx_h, oIx_str, oSl_tup, oSl_lst, oSl_scr, oSl_str, dSl, dNoP, dPart, cLen, cMin2, cInt, uNeg, uBits, uIs, fInt, fBool, fStr, fTup, tyD, dgName, dgNil, dgCons, dgTup, dAsg, dPar, dPar3, dFor, dLc, diTup, diLst, diR1, diR2, diEnT, diEnL, diStr, dCall, dMeth, dMake, dFld, sSetF, startD, dYes, dw, ← ed']
  refine ⟨w', rfl, sh', fun ok => ?_, fun p x hp => ?_⟩
  · simp
    exact h1 w' ew ok
  · simp [oIx_tup, oIx_lst, oIx_h, oIx_str, at0, at1]
    exact h2 _ _ (by decide)
theorem atI_last {α : Type} {l : List α} {a : α} : atI (l ++ [a]) (-1) = some a := by
  unfold atI ixN
  rw [if_neg (by omega), if_pos (by simp; omega)]
  have e : (-1 + ((l ++ [a]).length : Int)).toNat = l.length := by simp; omega
  rw [e]
  simp
theorem set_last {M : S} {o o' : O} : (M ++ [o]).set M.length o' = M ++ [o'] := by simp
theorem get_last {M : S} {o : O} : (M ++ [o])[M.length]? = some o := by simp
/-- goes: the worlds one behind another, or none -/
def spLGoes : SpD := fun l M Q => ∃ (w : Wld) (d1 d2 : Deed), l = [w.d, .lst [d1.d, d2.d]] ∧ Sh5 w ∧ ShD d1 ∧ ShD d2 ∧ (∀ w1 w2, app w d1 = some w1 → Ok w1 → app w1 d2 = some w2 → Ok w2 → Q (.h M.length) (M ++ [.lst [w.d, w1.d, w2.d]])) ∧ ∀ o, Q .non (M ++ [o])
theorem sc_LGoes : FnScope ["_law_world_here", "_law_pair_here", "_law_found", "_law_deed", "_law_behind"] ["_law_world_here", "_law_pair_here"] (defScope sLGoes) := ⟨rfl, rfl, rfl, by decide +kernel, rfl, by decide +kernel, by decide +kernel⟩
theorem w_LGoes {P : Program} {w : World} {K : PySem.W.Frag} {mg : Str → Option Value} {base : Heap} {CG CH : Addr} (T : Tx K w mg CG CH) : GD P w K mg base 6 "_law_goes" spLGoes := by
  obtain ⟨f, fd, hm, F⟩ := T.f_LGoes
  refine ⟨f, hm, F.kp, okD (k := 5) F sc_LGoes (F.bindsN fun _ _ _ _ _ _ us hl => match us, hl with | [_, _], _ => rfl)
    (fun cdv A outer s H E hr => (d_seq (d_set (i := 2) sc_LGoes.nd rfl (Or.inl rfl) (d_new (d_pa_cons (d_var (i := 0) rfl (.inl rfl)) d_pa_nil)))
      (d_seq (d_for PassesOwn.never rfl (di_lst (d_var (i := 1) rfl (.inl rfl))) (dg_name (i := 3) sc_LGoes.nd rfl (Or.inl rfl)) (d_seq (d_set (i := 4) sc_LGoes.nd rfl (Or.inl rfl) (d_call ((w_LAfter T).mono (by decide)) hr rfl (d_pa_cons (d_ix (d_var (i := 2) rfl (.inl rfl)) (d_neg d_int)) (d_pa_cons (d_var (i := 3) rfl (.inl rfl)) d_pa_nil))))
      (d_seq (d_if (dt_ne hr.units (d_ix (d_var (i := 4) rfl (.inl rfl)) d_int) d_str) (d_single (d_ret d_non)) d_nil)
      (d_single (d_expr (d_app (d_var (i := 2) rfl (.inl rfl)) (d_ix (d_var (i := 4) rfl (.inl rfl)) d_int)))))))
      (d_single (d_ret (d_var (i := 2) rfl (.inl rfl))))))) (fun l M Qd h => ?_)⟩
  obtain ⟨w, d1, d2, rfl, hw, s1, s2, h1, h2⟩ := h
  refine ⟨rfl, ?_⟩
  refine seq_cut (fun ds' M' => M' = M ++ [.lst [w.d]] ∧ ds' = [some w.d, some (.lst [d1.d, d2.d]), some (.h M.length), none, none]) (fun N k => ?_) ?_
  · simp [and_assoc, strsOf_map, dVar, dC, dOp, dUn, dNil, dCons, dTup, dLst, dNew, dTest, dAnd, dOr, dNot, dAndV, dOrV, dNotV, dIf, dIsN, dNotN, isN, dChain, dCB, dNext, dSeq, dDrop, dRet, dRetN, dIfS, oI, oI0, oAdd, oC, oIx_tup, oIx_lst, oIx_h, oIx_str, oSl_tup, oSl_lst, oSl_scr, oSl_str, dSl, dNoP, dPart, cLen, cMin2, cInt, uNeg, uBits, uIs, fInt, fBool, fStr, fTup, tyD, dgName, dgNil, dgCons, dgTup, dAsg, dPar, dPar3, dFor, dLc, diTup, diLst, diR1, diR2, diEnT, diEnL, diStr, dCall, dMeth, dMake, dFld, sSetF, startD, dYes, dw]; exact k _ _ ⟨rfl, rfl⟩
  rintro ds' M' ⟨rfl, rfl⟩
  refine seq_cut (fun ds' M' => (∃ x y, ds' = [some w.d, some (.lst [d1.d, d2.d]), some (.h M.length), x, y]) ∧ ∃ w1 w2, app w d1 = some w1 ∧ Ok w1 ∧ app w1 d2 = some w2 ∧ Ok w2 ∧ M' = M ++ [.lst [w.d, w1.d, w2.d]]) (fun N k => ?_) ?_
  · simp [and_assoc, strsOf_map, dVar, dC, dOp, dUn, dNil, dCons, dTup, dLst, dNew, dTest, dAnd, dOr, dNot, dAndV, dOrV, dNotV, dIf, dIsN, dNotN, isN, dChain, dCB, dNext, dSeq, dDrop, dRet, dRetN, dIfS, oI, oI0, oAdd, oC, oIx_tup, oIx_lst, oIx_h, oIx_str, oSl_tup, oSl_lst, oSl_scr, oSl_str, dSl, dNoP, dPart, cLen, cMin2, cInt, uNeg, uBits, uIs, fInt, fBool, fStr, fTup, tyD, dgName, dgNil, dgCons, dgTup, dAsg, dPar, dPar3, dFor, dLc, diTup, diLst, diR1, diR2, diEnT, diEnL, diStr, dCall, dMeth, dMake, dFld, sSetF, startD, dYes, dw]
    have body : ∀ (i : Nat) (d : Deed) (u : Wld) (ws : List D) (x y : Option D) (K : DS → S → Prop), Sh5 u → ShD d → ws.length ≤ 5 → (∀ u' x y, app u d = some u' → Ok u' → K [some w.d, some (.lst [d1.d, d2.d]), some (.h M.length), x, y] (M ++ [.lst (ws ++ [u.d] ++ [u'.d])])) →
        dgName 3 d.d [some w.d, some (.lst [d1.d, d2.d]), some (.h M.length), x, y] fun ds2 => (dSeq (dAsg (dCall spLAfter (dCons (dOp oIx (dVar 2) (dUn uNeg (dC (.int 1)))) (dCons (dVar 3) dNil))) (dgName 4)) (dSeq (dIfS (dTest (dOp oNe (dOp oIx (dVar 4) (dC (.int 0))) (dC (.str "world")))) (dRet (dC .non)) dNext) (dDrop (dApp (dVar 2) (dOp oIx (dVar 4) (dC (.int 1))))))) { nx := K, rt := Qd, bk := N, ct := K } ds2 (M ++ [.lst (ws ++ [u.d])]) := by
      intro i d u ws x y K hu hd hl kk
      refine seq_cut (fun ds' M' => M' = M ++ [.lst (ws ++ [u.d])] ∧ ((∃ u', app u d = some u' ∧ Ok u' ∧ ds' = [some w.d, some (.lst [d1.d, d2.d]), some (.h M.length), some d.d, some (.tup [.str "world", u'.d])]) ∨ ∃ z r, ¬ z = ("world" : Str) ∧ ds' = [some w.d, some (.lst [d1.d, d2.d]), some (.h M.length), some d.d, some (.tup (.str z :: r))])) (fun N k => ?_) ?_
      · simp [and_assoc, strsOf_map, dVar, dC, dOp, dUn, dNil, dCons, dTup, dLst, dNew, dTest, dAnd, dOr, dNot, dAndV, dOrV, dNotV, dIf, dIsN, dNotN, isN, dChain, dCB, dNext, dSeq, dDrop, dRet, dRetN, dIfS, oI, oI0, oAdd, oC, oIx_tup, oIx_lst, oIx_h, oIx_str, oSl_tup, oSl_lst, oSl_scr, oSl_str, dSl, dNoP, dPart, cLen, cMin2, cInt, uNeg, uBits, uIs, fInt, fBool, fStr, fTup, tyD, dgName, dgNil, dgCons, dgTup, dAsg, dPar, dPar3, dFor, dLc, diTup, diLst, diR1, diR2, diEnT, diEnL, diStr, dCall, dMeth, dMake, dFld, sSetF, startD, dYes, dw, atI_last]
        exact ⟨u, d, rfl, hu, hd, fun u' e ok => k _ _ ⟨rfl, .inl ⟨u', e, ok, rfl⟩⟩, fun z r hz => k _ _ ⟨rfl, .inr ⟨z, r, hz, rfl⟩⟩⟩
      · rintro ds' M' ⟨rfl, ⟨u', e, ok, rfl⟩ | ⟨z, r, hz, rfl⟩⟩
        · simp [and_assoc, strsOf_map, dVar, dC, dOp, dUn, dNil, dCons, dTup, dLst, dNew, dTest, dAnd, dOr, dNot, dAndV, dOrV, dNotV, dIf, dIsN, dNotN, isN, dChain, dCB, dNext, dSeq, dDrop, dRet, dRetN, dIfS, oI, oI0, oAdd, oC, oIx_tup, oIx_lst, oIx_h, oIx_str, oSl_tup, oSl_lst, oSl_scr, oSl_str, dSl, dNoP, dPart, cLen, cMin2, cInt, uNeg, uBits, uIs, fInt, fBool, fStr, fTup, tyD, dgName, dgNil, dgCons, dgTup, dAsg, dPar, dPar3, dFor, dLc, diTup, diLst, diR1, diR2, diEnT, diEnL, diStr, dCall, dMeth, dMake, dFld, sSetF, startD, dYes, dw, at0, at1, oNe, dApp]
          have := kk u' (some d.d) (some (.tup [.str "world", u'.d])) e ok
          simp at this
          exact ⟨by omega, this⟩
        · simp [and_assoc, strsOf_map, dVar, dC, dOp, dUn, dNil, dCons, dTup, dLst, dNew, dTest, dAnd, dOr, dNot, dAndV, dOrV, dNotV, dIf, dIsN, dNotN, isN, dChain, dCB, dNext, dSeq, dDrop, dRet, dRetN, dIfS, oI, oI0, oAdd, oC, oIx_tup, oIx_lst, oIx_h, oIx_str, oSl_tup, oSl_lst, oSl_scr, oSl_str, dSl, dNoP, dPart, cLen, cMin2, cInt, uNeg, uBits, uIs, fInt, fBool, fStr, fTup, tyD, dgName, dgNil, dgCons, dgTup, dAsg, dPar, dPar3, dFor, dLc, diTup, diLst, diR1, diR2, diEnT, diEnL, diStr, dCall, dMeth, dMake, dFld, sSetF, startD, dYes, dw, at0, oNe, hz]
          exact h2 _
    refine ⟨trivial, body 0 d1 w [] none none _ hw s1 (by simp) fun w1 x y e1 ok1 => ?_⟩
    refine ⟨trivial, body 1 d2 w1 [w.d] x y _ ok1.sh5 s2 (by simp) fun w2 x y e2 ok2 => ?_⟩
    exact ⟨trivial, k _ _ ⟨⟨x, y, rfl⟩, w1, w2, e1, ok1, e2, ok2, rfl⟩⟩
  rintro ds' M' ⟨⟨x, y, rfl⟩, w1, w2, e1, ok1, e2, ok2, rfl⟩
  simp [and_assoc, strsOf_map, dVar, dC, dOp, dUn, dNil, dCons, dTup, dLst, dNew, dTest, dAnd, dOr, dNot, dAndV, dOrV, dNotV, dIf, dIsN, dNotN, isN, dChain, dCB, dNext, dSeq, dDrop, dRet, dRetN, dIfS, oI, oI0, oAdd, oC, oIx_tup, oIx_lst, oIx_h, oIx_str, oSl_tup, oSl_lst, oSl_scr, oSl_str, dSl, dNoP, dPart, cLen, cMin2, cInt, uNeg, uBits, uIs, fInt, fBool, fStr, fTup, tyD, dgName, dgNil, dgCons, dgTup, dAsg, dPar, dPar3, dFor, dLc, diTup, diLst, diR1, diR2, diEnT, diEnL, diStr, dCall, dMeth, dMake, dFld, sSetF, startD, dYes, dw]
  exact h1 w1 w2 e1 ok1 e2 ok2
/-! ### apart -/
theorem shapedAll_strs : ∀ l : List Str, (∀ s ∈ l, PyData.strOk s = true) → PyData.canLayAll0 (pys (l.map D.str)) = true ∧ PyData.depthAll (pys (l.map D.str)) ≤ 1 ∧ plains (l.map D.str) = true
  | [], _ => ⟨rfl, Nat.zero_le _, rfl⟩
  | a :: l, h => by
    obtain ⟨h1, h2, h3⟩ := shapedAll_strs l fun s hs => h s (List.mem_cons_of_mem _ hs)
    refine ⟨?_, ?_, ?_⟩
    · show (PyData.canLay0 (.str a) && PyData.canLayAll0 (pys (l.map D.str))) = true
      rw [h1, Bool.and_true]
      exact h a List.mem_cons_self
    · show max (PyData.depth (.str a)) (PyData.depthAll (pys (l.map D.str))) ≤ 1
      have : PyData.depth (.str a) ≤ 1 := by simp [oIx_tup, oIx_lst, oIx_h, oIx_str, PyData.depth]
      omega
    · show (plain (.str a) && plains (l.map D.str)) = true
      rw [h3]; rfl
theorem sh_strs (l : List Str) (h : ∀ s ∈ l, PyData.strOk s = true) : sh (.lst (l.map D.str)) = true := by
  obtain ⟨h1, h2, h3⟩ := shapedAll_strs l h
  unfold sh SeqAt.shaped
  have e1 : plain (.lst (l.map D.str)) = true := h3
  have e2 : PyData.canLay0 (py (.lst (l.map D.str))) = true := h1
  have e3 : PyData.depth (py (.lst (l.map D.str))) ≤ 64 := by
    show PyData.depthAll (pys (l.map D.str)) + 1 ≤ 64
    omega
  rw [e1, e2, decide_eq_true e3]; rfl
theorem word_ok (d : Deed) : PyData.strOk d.word = true := by
  cases d <;> first | exact (by decide +kernel : PyData.strOk "bring" = true) | exact (by decide +kernel : PyData.strOk "way" = true) | exact (by decide +kernel : PyData.strOk "stop" = true) | exact (by decide +kernel : PyData.strOk "shut" = true) | exact (by decide +kernel : PyData.strOk "hours" = true) | exact (by decide +kernel : PyData.strOk "window" = true)
theorem perm_two {ys : List Str} {a b : Str} (h : ys.Perm [a, b]) : ys = [a, b] ∨ ys = [b, a] := by
  match ys, h.length_eq, h with
  | [p, q], _, h =>
    have hm : p ∈ [a, b] := h.mem_iff.mp List.mem_cons_self
    simp at hm
    rcases hm with e | e
    · subst e
      have := (List.perm_cons _).mp h
      rw [List.perm_singleton] at this
      exact .inl (by rw [this])
    · subst e
      have := (List.perm_cons _).mp (h.trans (List.Perm.swap ..))
      rw [List.perm_singleton] at this
      exact .inr (by rw [this])
def apartOk (a b : Str) : Prop := ∀ x y : Str, (x = "hours" ∧ y = "shut") ∨ (x = "shut" ∧ y = "window") ∨ (x = "shut" ∧ y = "way") ∨ (x = "bring" ∧ y = "stop") → ¬ (a = x ∧ b = y) ∧ ¬ (a = y ∧ b = x)
def spLApart : SpD := fun l M Q => ∃ (d1 d2 : Deed), l = [.lst [d1.d, d2.d]] ∧ ∀ b, (b = true → apartOk d1.word d2.word) → Q (.bl b) M
theorem sc_LApart : FnScope ["_law_pair_here", "_law_words", "_law_deed"] ["_law_pair_here"] (defScope sLApart) := ⟨rfl, rfl, rfl, by decide +kernel, rfl, by decide +kernel, by decide +kernel⟩
theorem w_LApart {P : Program} {w : World} {K : PySem.W.Frag} {mg : Str → Option Value} {base : Heap} {CG CH : Addr} (T : Tx K w mg CG CH) : GD P w K mg base 1 "_law_apart" spLApart := by
  obtain ⟨f, fd, hm, F⟩ := T.f_LApart
  refine ⟨f, hm, F.kp, okD (k := 0) F sc_LApart (F.bindsN fun _ _ _ _ _ _ us hl => match us, hl with | [_], _ => rfl)
    (fun cdv A outer s H E hr => (d_seq (d_set (i := 1) sc_LApart.nd rfl (Or.inl rfl) (d_sortS rfl T.n_sorted (d_pa_cons (d_lc (own := [("_law_deed", 2)]) rfl sc_LApart.nd (di_lst (d_var (i := 0) rfl (.inl rfl))) (blkOk_by (N := ["_law_pair_here", "_law_words", "_law_deed"]) (sc := defScope sLApart) (by decide +kernel)) (by decide) (fun _ _ _ _ _ => (dg_name (i := 2) sc_LApart.nd rfl (Or.inl rfl))) (fun _ _ _ _ _ => d_noif) (fun _ _ _ _ _ => (d_ix (d_var (i := 2) rfl (.inl rfl)) d_int))) d_pa_nil)))
      (d_single (d_ret (d_niL hr.u65 (d_var (i := 1) rfl (.inl rfl)) (d_lst (d_pa_cons (d_lst (d_pa_cons d_str (d_pa_cons d_str d_pa_nil))) (d_pa_cons (d_lst (d_pa_cons d_str (d_pa_cons d_str d_pa_nil))) (d_pa_cons (d_lst (d_pa_cons d_str (d_pa_cons d_str d_pa_nil))) (d_pa_cons (d_lst (d_pa_cons d_str (d_pa_cons d_str d_pa_nil))) d_pa_nil)))))))))) (fun l M Qd h => ?_)⟩
  obtain ⟨d1, d2, rfl, h⟩ := h
  refine ⟨rfl, ?_⟩
  refine seq_cut (fun ds' M' => M' = M ∧ ∃ ys : List Str, ys.Perm [d1.word, d2.word] ∧ sortedS ys = true ∧ ∃ x, ds' = [some (.lst [d1.d, d2.d]), some (.lst (ys.map .str)), x]) (fun N k => ?_) ?_
  · simp [and_assoc, strsOf_map, dVar, dC, dOp, dUn, dNil, dCons, dTup, dLst, dNew, dTest, dAnd, dOr, dNot, dAndV, dOrV, dNotV, dIf, dIsN, dNotN, isN, dChain, dCB, dNext, dSeq, dDrop, dRet, dRetN, dIfS, oI, oI0, oAdd, oC, oIx_tup, oIx_lst, oIx_h, oIx_str, oSl_tup, oSl_lst, oSl_scr, oSl_str, dSl, dNoP, dPart, cLen, cMin2, cInt, uNeg, uBits, uIs, fInt, fBool, fStr, fTup, tyD, dgName, dgNil, dgCons, dgTup, dAsg, dPar, dPar3, dFor, dLc, diTup, diLst, diR1, diR2, diEnT, diEnL, diStr, dCall, dMeth, dMake, dFld, sSetF, startD, dYes, dw]
    refine lc_map (f := Deed.d) (l := [d1, d2]) (fun i acc M' => M' = M ∧ acc = ([d1, d2].take i).map fun d => D.str d.word) ⟨rfl, rfl⟩ (fun i a acc M' K ha ⟨e1, e2⟩ kk => ?_) (fun acc M' ⟨e1, e2⟩ => ?_)
    · subst e1 e2
      obtain ⟨r, ea⟩ : ∃ r, a.d = .tup (.str a.word :: r) := by cases a <;> exact ⟨_, rfl⟩
      have hi := (List.getElem?_eq_some_iff.mp ha).1
      simp at hi
      refine ⟨trivial, by simp; omega, ?_⟩
      simp [and_assoc, strsOf_map, dVar, dC, dOp, dUn, dNil, dCons, dTup, dLst, dNew, dTest, dAnd, dOr, dNot, dAndV, dOrV, dNotV, dIf, dIsN, dNotN, isN, dChain, dCB, dNext, dSeq, dDrop, dRet, dRetN, dIfS, oI, oI0, oAdd, oC, oIx_tup, oIx_lst, oIx_h, oIx_str, oSl_tup, oSl_lst, oSl_scr, oSl_str, dSl, dNoP, dPart, cLen, cMin2, cInt, uNeg, uBits, uIs, fInt, fBool, fStr, fTup, tyD, dgName, dgNil, dgCons, dgTup, dAsg, dPar, dPar3, dFor, dLc, diTup, diLst, diR1, diR2, diEnT, diEnL, diStr, dCall, dMeth, dMake, dFld, sSetF, startD, dYes, dw, ea, at0]
      refine kk _ _ ⟨rfl, ?_⟩
      rw [List.take_add_one, ha]
      simp
    · subst e1 e2
      refine ⟨trivial, _, [d1.word, d2.word], rfl, by simp [oIx_tup, oIx_lst, oIx_h, oIx_str, itL], by simp, fun ys hp hs => ?_⟩
      exact k _ _ ⟨rfl, ys, hp, hs, _, rfl⟩
  rintro ds' M' ⟨rfl, ys, hp, hs, x, rfl⟩
  simp [and_assoc, strsOf_map, dVar, dC, dOp, dUn, dNil, dCons, dTup, dLst, dNew, dTest, dAnd, dOr, dNot, dAndV, dOrV, dNotV, dIf, dIsN, dNotN, isN, dChain, dCB, dNext, dSeq, dDrop, dRet, dRetN, dIfS, oI, oI0, oAdd, oC, oIx_tup, oIx_lst, oIx_h, oIx_str, oSl_tup, oSl_lst, oSl_scr, oSl_str, dSl, dNoP, dPart, cLen, cMin2, cInt, uNeg, uBits, uIs, fInt, fBool, fStr, fTup, tyD, dgName, dgNil, dgCons, dgTup, dAsg, dPar, dPar3, dFor, dLc, diTup, diLst, diR1, diR2, diEnT, diEnL, diStr, dCall, dMeth, dMake, dFld, sSetF, startD, dYes, dw]
  have hok : ∀ s ∈ ys, PyData.strOk s = true := fun s hm => by
    have := hp.mem_iff.mp hm
    simp at this
    rcases this with e | e <;> rw [e] <;> exact word_ok _
  refine ⟨_, rfl, sh_strs ys hok, by decide +kernel, h _ fun hb => ?_⟩
  have key : ∀ x y : Str, (x = "hours" ∧ y = "shut") ∨ (x = "shut" ∧ y = "window") ∨ (x = "shut" ∧ y = "way") ∨ (x = "bring" ∧ y = "stop") → ¬ (ys = [x, y] ∨ ys = [y, x]) := by
    intro x y hxy hys
    rcases hxy with ⟨rfl, rfl⟩ | ⟨rfl, rfl⟩ | ⟨rfl, rfl⟩ | ⟨rfl, rfl⟩ <;> rcases hys with rfl | rfl <;> first | (revert hb; decide +kernel) | (revert hs; decide +kernel)
  intro x y hxy
  refine ⟨fun ⟨e1, e2⟩ => key x y hxy ?_, fun ⟨e1, e2⟩ => key x y hxy ?_⟩
  · rw [e1, e2] at hp; exact perm_two hp
  · rw [e1, e2] at hp; exact (perm_two hp).symm
end My

set_option Elab.async false
set_option linter.all false
set_option maxRecDepth 100000
set_option maxHeartbeats 4000000
namespace My
open PySem PySem.Spec PyProof.Rows L2
def spLDraws : SpD := fun l M Q => ∃ ns, l = [.scr ns] ∧ ns.length ≤ 63 ∧ ∀ (cs rs : List Int), rs.length = cs.length → 0 < cs.length → cs.length ≤ 100 → Q (.h (M.length + 1)) (M ++ [.lst (rs.map .int)] ++ [.lst [.lst (cs.map .int), .int 0, .h M.length]])
theorem sc_LDraws : FnScope ["_law_script", "_law_cells", "_law_cell"] ["_law_script"] (defScope sLDraws) := ⟨rfl, rfl, rfl, by decide +kernel, rfl, by decide +kernel, by decide +kernel⟩
theorem w_LDraws {P : Program} {w : World} {K : PySem.W.Frag} {mg : Str → Option Value} {base : Heap} {CG CH : Addr} (T : Tx K w mg CG CH) : GD P w K mg base 1 "_law_draws" spLDraws := by
  obtain ⟨f, fd, hm, F⟩ := T.f_LDraws
  refine ⟨f, hm, F.kp, okD (k := 0) F sc_LDraws (F.bindsN fun _ _ _ _ _ _ us hl => match us, hl with | [_], _ => rfl)
    (fun cdv A outer s H E hr => (d_seq (d_set (i := 1) sc_LDraws.nd rfl (Or.inl rfl) (d_add (d_list rfl T.n_list (d_pa_cons (d_slice (d_var (i := 0) rfl (.inl rfl)) d_no (d_part d_int)) d_pa_nil)) (d_rep (d_lst (d_pa_cons d_int d_pa_nil)) (d_intB rfl T.n_int (d_pa_cons (d_eq hr.units (d_len rfl T.n_len (d_pa_cons (d_var (i := 0) rfl (.inl rfl)) d_pa_nil)) d_int) d_pa_nil)))))
      (d_single (d_ret (d_new (d_pa_cons (d_var (i := 1) rfl (.inl rfl)) (d_pa_cons d_int (d_pa_cons (d_lcH (own := [("_law_cell", 2)]) rfl sc_LDraws.nd (di_lst (d_var (i := 1) rfl (.inl rfl))) (blkOk_by (N := ["_law_script", "_law_cells", "_law_cell"]) (sc := defScope sLDraws) (by decide +kernel)) (by decide) (fun _ _ _ _ _ => (dg_name (i := 2) sc_LDraws.nd rfl (Or.inl rfl))) (fun _ _ _ _ _ => d_noif) (fun _ _ _ _ _ => (d_mul (d_var (i := 2) rfl (.inl rfl)) (d_intB rfl T.n_int (d_pa_cons (d_ge (d_var (i := 2) rfl (.inl rfl)) (d_pow d_int d_int)) d_pa_nil))))) d_pa_nil)))))))) (fun l M Qd h => ?_)⟩
  obtain ⟨ns, rfl, hn, h⟩ := h
  refine ⟨rfl, ?_⟩
  refine seq_cut (fun ds' M' => M' = M ∧ ∃ (cs : List Int) (x : Option D), 0 < cs.length ∧ cs.length ≤ 64 ∧ ds' = [some (.scr ns), some (.lst (cs.map .int)), x]) (fun N k => ?_) ?_
  · have hc : (cut ns none (some 63)) = ns := by
      rw [show (63 : Int) = ((63 : Nat) : Int) from rfl, cut_take, List.take_of_length_le hn]
    simp [and_assoc, strsOf_map, dVar, dC, dOp, dUn, dNil, dCons, dTup, dLst, dNew, dTest, dAnd, dOr, dNot, dAndV, dOrV, dNotV, dIf, dIsN, dNotN, isN, dChain, dCB, dNext, dSeq, dDrop, dRet, dRetN, dIfS, oI, oI0, oAdd, oC, oIx_tup, oIx_lst, oIx_h, oIx_str, oSl_tup, oSl_lst, oSl_scr, oSl_str, dSl, dNoP, dPart, cLen, cMin2, cInt, uNeg, uBits, uIs, fInt, fBool, fStr, fTup, tyD, dgName, dgNil, dgCons, dgTup, dAsg, dPar, dPar3, dFor, dLc, diTup, diLst, diR1, diR2, diEnT, diEnL, diStr, dCall, dMeth, dMake, dFld, sSetF, startD, dYes, dw, cLst, itL, hc, oRep]
    by_cases e : ns = []
    · subst e
      simp [oIx_tup, oIx_lst, oIx_h, oIx_str, oEq]
      exact k _ _ ⟨rfl, [0], _, by simp, by simp, rfl⟩
    · have e2 : ns.length ≠ 0 := fun z => e (List.length_eq_zero_iff.mp z)
      simp [oIx_tup, oIx_lst, oIx_h, oIx_str, oEq, e]
      exact ⟨by omega, k _ _ ⟨rfl, ns, _, by omega, by omega, rfl⟩⟩
  rintro ds' M' ⟨rfl, cs, x, h1, h2, rfl⟩
  simp [and_assoc, strsOf_map, dVar, dC, dOp, dUn, dNil, dCons, dTup, dLst, dNew, dTest, dAnd, dOr, dNot, dAndV, dOrV, dNotV, dIf, dIsN, dNotN, isN, dChain, dCB, dNext, dSeq, dDrop, dRet, dRetN, dIfS, oI, oI0, oAdd, oC, oIx_tup, oIx_lst, oIx_h, oIx_str, oSl_tup, oSl_lst, oSl_scr, oSl_str, dSl, dNoP, dPart, cLen, cMin2, cInt, uNeg, uBits, uIs, fInt, fBool, fStr, fTup, tyD, dgName, dgNil, dgCons, dgTup, dAsg, dPar, dPar3, dFor, dLc, diTup, diLst, diR1, diR2, diEnT, diEnL, diStr, dCall, dMeth, dMake, dFld, sSetF, startD, dYes, dw, dLcH]
  refine lcF_map (f := D.int) (l := cs) (fun i acc M'' => M'' = M' ∧ i ≤ cs.length ∧ ∃ rs : List Int, rs.length = i ∧ acc = rs.map .int) ⟨rfl, Nat.zero_le _, [], rfl, rfl⟩ (fun i a acc M'' K ha ⟨e1, hi, rs, hr, e2⟩ k => ?_) (fun acc M'' ⟨e1, hi, rs, hr, e2⟩ => ?_)
  · subst e1 e2
    have hi' := (List.getElem?_eq_some_iff.mp ha).1
    refine ⟨trivial, by simp; omega, ?_⟩
    simp [and_assoc, strsOf_map, dVar, dC, dOp, dUn, dNil, dCons, dTup, dLst, dNew, dTest, dAnd, dOr, dNot, dAndV, dOrV, dNotV, dIf, dIsN, dNotN, isN, dChain, dCB, dNext, dSeq, dDrop, dRet, dRetN, dIfS, oI, oI0, oAdd, oC, oIx_tup, oIx_lst, oIx_h, oIx_str, oSl_tup, oSl_lst, oSl_scr, oSl_str, dSl, dNoP, dPart, cLen, cMin2, cInt, uNeg, uBits, uIs, fInt, fBool, fStr, fTup, tyD, dgName, dgNil, dgCons, dgTup, dAsg, dPar, dPar3, dFor, dLc, diTup, diLst, diR1, diR2, diEnT, diEnL, diStr, dCall, dMeth, dMake, dFld, sSetF, startD, dYes, dw]
    refine ⟨⟨by decide, by decide, by decide⟩, ?_⟩
    by_cases c : (1000000000000000000 : Int) ≤ a
    · simp only [c, if_true]
      exact ⟨.inr ⟨by decide, by decide⟩, k _ _ ⟨rfl, hi', rs ++ [a], by simp [oIx_tup, oIx_lst, oIx_h, oIx_str, hr], by simp⟩⟩
    · simp only [c, if_false]
      exact ⟨.inr ⟨by decide, by decide⟩, k _ _ ⟨rfl, hi', rs ++ [0], by simp [oIx_tup, oIx_lst, oIx_h, oIx_str, hr], by simp⟩⟩
  · subst e1 e2
    have := h cs rs hr (by omega) (by omega)
    simpa using this
/-- the draws' state: two objects at the head of the store -/
def DB (b : Nat) (R : S) (M : S) : Prop := ∃ (t : Nat) (cs rs : List Int), t ≤ b ∧ 0 < cs.length ∧ cs.length ≤ 100 ∧ rs.length = cs.length ∧ M = .lst (rs.map .int) :: .lst [.lst (cs.map .int), .int (t : Int), .h 0] :: R
theorem DB.mono {b c : Nat} {R M : S} (h : DB b R M) (l : b ≤ c) : DB c R M := let ⟨t, cs, rs, a, r⟩ := h; ⟨t, cs, rs, Nat.le_trans a l, r⟩
def spLNext : SpD := fun l M Q => ∃ (n : Int) (b : Nat) (R : S), l = [.h 1, .int n] ∧ 0 < n ∧ n < 1000000 ∧ DB b R M ∧ b < 1000000 ∧ ∀ d M', 0 ≤ d → d < n → DB (b + 1) R M' → Q (.int d) M'
theorem sc_LNext : FnScope ["_law_drawn", "_law_below", "_law_cells", "_law_turn", "_law_rests", "_law_spot", "_law_digit", "_law_mixed", "_law_again"] ["_law_drawn", "_law_below"] (defScope sLNext) := ⟨rfl, rfl, rfl, by decide +kernel, rfl, by decide +kernel, by decide +kernel⟩
theorem w_LNext {P : Program} {w : World} {K : PySem.W.Frag} {mg : Str → Option Value} {base : Heap} {CG CH : Addr} (T : Tx K w mg CG CH) : GD P w K mg base 1 "_law_next" spLNext := by
  obtain ⟨f, fd, hm, F⟩ := T.f_LNext
  refine ⟨f, hm, F.kp, okD (k := 0) F sc_LNext (F.bindsN fun _ _ _ _ _ _ us hl => match us, hl with | [_, _], _ => rfl)
    (fun cdv A outer s H E hr => (d_seq (d_asgL (n := 3) rfl (d_var (i := 0) rfl (.inl rfl)) (dg_cons (dg_name (i := 2) sc_LNext.nd rfl (Or.inl rfl)) (dg_cons (dg_name (i := 3) sc_LNext.nd rfl (Or.inl rfl)) (dg_cons (dg_name (i := 4) sc_LNext.nd rfl (Or.inl rfl)) dg_nil))))
      (d_seq (d_set (i := 5) sc_LNext.nd rfl (Or.inl rfl) (d_mod (d_var (i := 3) rfl (.inl rfl)) (d_len rfl T.n_len (d_pa_cons (d_var (i := 2) rfl (.inl rfl)) d_pa_nil))))
      (d_seq (d_setL (d_var (i := 0) rfl (.inl rfl)) d_int (d_add (d_var (i := 3) rfl (.inl rfl)) d_int))
      (d_seq (d_if (dt_gt (d_ix (d_var (i := 4) rfl (.inl rfl)) (d_var (i := 5) rfl (.inl rfl))) d_int) (d_seq (d_set (i := 6) sc_LNext.nd rfl (Or.inl rfl) (d_mod (d_ix (d_var (i := 4) rfl (.inl rfl)) (d_var (i := 5) rfl (.inl rfl))) (d_var (i := 1) rfl (.inl rfl))))
      (d_seq (d_setL (d_var (i := 4) rfl (.inl rfl)) (d_var (i := 5) rfl (.inl rfl)) (d_fdiv (d_ix (d_var (i := 4) rfl (.inl rfl)) (d_var (i := 5) rfl (.inl rfl))) (d_var (i := 1) rfl (.inl rfl))))
      (d_single (d_ret (d_var (i := 6) rfl (.inl rfl)))))) d_nil)
      (d_seq (d_set (i := 7) sc_LNext.nd rfl (Or.inl rfl) (d_mod (d_pow (d_add (d_add (d_mod (d_ix (d_var (i := 2) rfl (.inl rfl)) (d_var (i := 5) rfl (.inl rfl))) d_int) (d_mul d_int (d_var (i := 3) rfl (.inl rfl)))) d_int) d_int) d_int))
      (d_seq (d_set (i := 8) sc_LNext.nd rfl (Or.inl rfl) (d_mod (d_pow (d_add (d_add (d_var (i := 7) rfl (.inl rfl)) (d_mul (d_mul d_int (d_var (i := 3) rfl (.inl rfl))) (d_var (i := 3) rfl (.inl rfl)))) d_int) d_int) d_int))
      (d_single (d_ret (d_mod (d_mod (d_add (d_mul (d_var (i := 8) rfl (.inl rfl)) d_int) (d_var (i := 7) rfl (.inl rfl))) d_int) (d_var (i := 1) rfl (.inl rfl)))))))))))) (fun l M Qd h => ?_)⟩
  obtain ⟨n, b, R, rfl, hn0, hn1, ⟨t, cs, rs, ht, hc0, hc1, hrs, rfl⟩, hb, h⟩ := h
  refine ⟨rfl, ?_⟩
  refine seq_cut (fun ds' M' => M' = .lst (rs.map .int) :: .lst [.lst (cs.map .int), .int (t : Int), .h 0] :: R ∧ ds' = [some (.h 1), some (.int n), some (.lst (cs.map .int)), some (.int (t : Int)), some (.h 0), none, none, none, none]) (fun N k => ?_) ?_
  · simp [and_assoc, strsOf_map, dVar, dC, dOp, dUn, dNil, dCons, dTup, dLst, dNew, dTest, dAnd, dOr, dNot, dAndV, dOrV, dNotV, dIf, dIsN, dNotN, isN, dChain, dCB, dNext, dSeq, dDrop, dRet, dRetN, dIfS, oI, oI0, oAdd, oC, oIx_tup, oIx_lst, oIx_h, oIx_str, oSl_tup, oSl_lst, oSl_scr, oSl_str, dSl, dNoP, dPart, cLen, cMin2, cInt, uNeg, uBits, uIs, fInt, fBool, fStr, fTup, tyD, dgName, dgNil, dgCons, dgTup, dAsg, dPar, dPar3, dFor, dLc, diTup, diLst, diR1, diR2, diEnT, diEnL, diStr, dCall, dMeth, dMake, dFld, sSetF, startD, dYes, dw, dAsgL]
    exact k _ _ ⟨rfl, rfl⟩
  rintro ds' M' ⟨rfl, rfl⟩
  refine seq_cut (fun ds' M' => M' = .lst (rs.map .int) :: .lst [.lst (cs.map .int), .int (t : Int), .h 0] :: R ∧ ∃ j : Nat, j < cs.length ∧ ds' = [some (.h 1), some (.int n), some (.lst (cs.map .int)), some (.int (t : Int)), some (.h 0), some (.int (j : Int)), none, none, none]) (fun N k => ?_) ?_
  · simp [and_assoc, strsOf_map, dVar, dC, dOp, dUn, dNil, dCons, dTup, dLst, dNew, dTest, dAnd, dOr, dNot, dAndV, dOrV, dNotV, dIf, dIsN, dNotN, isN, dChain, dCB, dNext, dSeq, dDrop, dRet, dRetN, dIfS, oI, oI0, oAdd, oC, oIx_tup, oIx_lst, oIx_h, oIx_str, oSl_tup, oSl_lst, oSl_scr, oSl_str, dSl, dNoP, dPart, cLen, cMin2, cInt, uNeg, uBits, uIs, fInt, fBool, fStr, fTup, tyD, dgName, dgNil, dgCons, dgTup, dAsg, dPar, dPar3, dFor, dLc, diTup, diLst, diR1, diR2, diEnT, diEnL, diStr, dCall, dMeth, dMake, dFld, sSetF, startD, dYes, dw]
    refine ⟨by omega, k _ _ ⟨rfl, t % cs.length, Nat.mod_lt _ hc0, rfl⟩⟩
  rintro ds' M' ⟨rfl, j, hj, rfl⟩
  obtain ⟨cj, hcj⟩ : ∃ c, cs[j]? = some c := ⟨_, List.getElem?_eq_getElem hj⟩
  obtain ⟨rj, hrj⟩ : ∃ c, rs[j]? = some c := ⟨_, List.getElem?_eq_getElem (by omega)⟩
  have xc : atI (cs.map D.int) (j : Int) = some (.int cj) := by rw [atI_nat, List.getElem?_map, hcj]; rfl
  have xr : atI (rs.map D.int) (j : Int) = some (.int rj) := by rw [atI_nat, List.getElem?_map, hrj]; rfl
  refine seq_cut (fun ds' M' => M' = .lst (rs.map .int) :: .lst [.lst (cs.map .int), .int ((t : Int) + 1), .h 0] :: R ∧ ds' = [some (.h 1), some (.int n), some (.lst (cs.map .int)), some (.int (t : Int)), some (.h 0), some (.int (j : Int)), none, none, none]) (fun N k => ?_) ?_
  · simp [and_assoc, strsOf_map, dVar, dC, dOp, dUn, dNil, dCons, dTup, dLst, dNew, dTest, dAnd, dOr, dNot, dAndV, dOrV, dNotV, dIf, dIsN, dNotN, isN, dChain, dCB, dNext, dSeq, dDrop, dRet, dRetN, dIfS, oI, oI0, oAdd, oC, oIx_tup, oIx_lst, oIx_h, oIx_str, oSl_tup, oSl_lst, oSl_scr, oSl_str, dSl, dNoP, dPart, cLen, cMin2, cInt, uNeg, uBits, uIs, fInt, fBool, fStr, fTup, tyD, dgName, dgNil, dgCons, dgTup, dAsg, dPar, dPar3, dFor, dLc, diTup, diLst, diR1, diR2, diEnT, diEnL, diStr, dCall, dMeth, dMake, dFld, sSetF, startD, dYes, dw, gSetL, ixN]
    exact k _ _ ⟨rfl, rfl⟩
  rintro ds' M' ⟨rfl, rfl⟩
  have db : ∀ rs' : List Int, rs'.length = cs.length → DB (b + 1) R (.lst (rs'.map .int) :: .lst [.lst (cs.map .int), .int ((t : Int) + 1), .h 0] :: R) := fun rs' h' => ⟨t + 1, cs, rs', by omega, hc0, hc1, h', rfl⟩
  refine seq_cut (fun ds' M' => M' = .lst (rs.map .int) :: .lst [.lst (cs.map .int), .int ((t : Int) + 1), .h 0] :: R ∧ ds' = [some (.h 1), some (.int n), some (.lst (cs.map .int)), some (.int (t : Int)), some (.h 0), some (.int (j : Int)), none, none, none]) (fun N k => ?_) ?_
  · by_cases c : 0 < rj
    · simp [and_assoc, strsOf_map, dVar, dC, dOp, dUn, dNil, dCons, dTup, dLst, dNew, dTest, dAnd, dOr, dNot, dAndV, dOrV, dNotV, dIf, dIsN, dNotN, isN, dChain, dCB, dNext, dSeq, dDrop, dRet, dRetN, dIfS, oI, oI0, oAdd, oC, oIx_tup, oIx_lst, oIx_h, oIx_str, oSl_tup, oSl_lst, oSl_scr, oSl_str, dSl, dNoP, dPart, cLen, cMin2, cInt, uNeg, uBits, uIs, fInt, fBool, fStr, fTup, tyD, dgName, dgNil, dgCons, dgTup, dAsg, dPar, dPar3, dFor, dLc, diTup, diLst, diR1, diR2, diEnT, diEnL, diStr, dCall, dMeth, dMake, dFld, sSetF, startD, dYes, dw, xr, c, gSetL, ixN, hrs, hj]
      refine ⟨hn0, ⟨by omega, by omega⟩, ?_⟩
      refine h _ _ (Int.emod_nonneg _ (by omega)) (Int.emod_lt_of_pos _ hn0) ?_
      have := db (rs.set j (rj.fdiv n)) (by simp [oIx_tup, oIx_lst, oIx_h, oIx_str, hrs])
      simpa using this
    · simp [and_assoc, strsOf_map, dVar, dC, dOp, dUn, dNil, dCons, dTup, dLst, dNew, dTest, dAnd, dOr, dNot, dAndV, dOrV, dNotV, dIf, dIsN, dNotN, isN, dChain, dCB, dNext, dSeq, dDrop, dRet, dRetN, dIfS, oI, oI0, oAdd, oC, oIx_tup, oIx_lst, oIx_h, oIx_str, oSl_tup, oSl_lst, oSl_scr, oSl_str, dSl, dNoP, dPart, cLen, cMin2, cInt, uNeg, uBits, uIs, fInt, fBool, fStr, fTup, tyD, dgName, dgNil, dgCons, dgTup, dAsg, dPar, dPar3, dFor, dLc, diTup, diLst, diR1, diR2, diEnT, diEnL, diStr, dCall, dMeth, dMake, dFld, sSetF, startD, dYes, dw, xr, c]
      exact k _ _ ⟨rfl, rfl⟩
  rintro ds' M' ⟨rfl, rfl⟩
  refine seq_cut (fun ds' M' => M' = .lst (rs.map .int) :: .lst [.lst (cs.map .int), .int ((t : Int) + 1), .h 0] :: R ∧ ∃ m : Int, 0 ≤ m ∧ m < 2147483587 ∧ ds' = [some (.h 1), some (.int n), some (.lst (cs.map .int)), some (.int (t : Int)), some (.h 0), some (.int (j : Int)), none, some (.int m), none]) (fun N k => ?_) ?_
  · have q0 : 0 ≤ cj % 2147483629 := Int.emod_nonneg _ (by decide)
    have q1 : cj % 2147483629 < 2147483629 := Int.emod_lt_of_pos _ (by decide)
    simp [and_assoc, strsOf_map, dVar, dC, dOp, dUn, dNil, dCons, dTup, dLst, dNew, dTest, dAnd, dOr, dNot, dAndV, dOrV, dNotV, dIf, dIsN, dNotN, isN, dChain, dCB, dNext, dSeq, dDrop, dRet, dRetN, dIfS, oI, oI0, oAdd, oC, oIx_tup, oIx_lst, oIx_h, oIx_str, oSl_tup, oSl_lst, oSl_scr, oSl_str, dSl, dNoP, dPart, cLen, cMin2, cInt, uNeg, uBits, uIs, fInt, fBool, fStr, fTup, tyD, dgName, dgNil, dgCons, dgTup, dAsg, dPar, dPar3, dFor, dLc, diTup, diLst, diR1, diR2, diEnT, diEnL, diStr, dCall, dMeth, dMake, dFld, sSetF, startD, dYes, dw, xc]
    refine ⟨.inl ⟨by decide, by decide⟩, ⟨by decide, by decide, by omega⟩, k _ _ ⟨rfl, _, Int.emod_nonneg _ (by decide), Int.emod_lt_of_pos _ (by decide), rfl⟩⟩
  rintro ds' M' ⟨rfl, m, hm0, hm1, rfl⟩
  refine seq_cut (fun ds' M' => M' = .lst (rs.map .int) :: .lst [.lst (cs.map .int), .int ((t : Int) + 1), .h 0] :: R ∧ ∃ m g : Int, 0 ≤ g ∧ g < 2147483563 ∧ ds' = [some (.h 1), some (.int n), some (.lst (cs.map .int)), some (.int (t : Int)), some (.h 0), some (.int (j : Int)), none, some (.int m), some (.int g)]) (fun N k => ?_) ?_
  · have hu : 4409 * (t : Int) * (t : Int) ≤ 4409 * 1000000 * 1000000 := by
      have h1 : t ≤ 1000000 := by omega
      have h2 : t * t ≤ 1000000 * 1000000 := Nat.mul_le_mul h1 h1
      have h3 : ((t * t : Nat) : Int) ≤ ((1000000 * 1000000 : Nat) : Int) := Int.ofNat_le.mpr h2
      rw [Int.natCast_mul] at h3
      rw [Int.mul_assoc]; omega
    have hu0 : 0 ≤ 4409 * (t : Int) * (t : Int) := Int.mul_nonneg (by omega) (by omega)
    simp [and_assoc, strsOf_map, dVar, dC, dOp, dUn, dNil, dCons, dTup, dLst, dNew, dTest, dAnd, dOr, dNot, dAndV, dOrV, dNotV, dIf, dIsN, dNotN, isN, dChain, dCB, dNext, dSeq, dDrop, dRet, dRetN, dIfS, oI, oI0, oAdd, oC, oIx_tup, oIx_lst, oIx_h, oIx_str, oSl_tup, oSl_lst, oSl_scr, oSl_str, dSl, dNoP, dPart, cLen, cMin2, cInt, uNeg, uBits, uIs, fInt, fBool, fStr, fTup, tyD, dgName, dgNil, dgCons, dgTup, dAsg, dPar, dPar3, dFor, dLc, diTup, diLst, diR1, diR2, diEnT, diEnL, diStr, dCall, dMeth, dMake, dFld, sSetF, startD, dYes, dw]
    refine ⟨.inl ⟨by decide, by decide⟩, .inl ⟨by omega, by omega⟩, ⟨by decide, by decide, by omega⟩, k _ _ ⟨rfl, _, _, Int.emod_nonneg _ (by decide), Int.emod_lt_of_pos _ (by decide), rfl⟩⟩
  rintro ds' M' ⟨rfl, m, g, hg0, hg1, rfl⟩
  simp [and_assoc, strsOf_map, dVar, dC, dOp, dUn, dNil, dCons, dTup, dLst, dNew, dTest, dAnd, dOr, dNot, dAndV, dOrV, dNotV, dIf, dIsN, dNotN, isN, dChain, dCB, dNext, dSeq, dDrop, dRet, dRetN, dIfS, oI, oI0, oAdd, oC, oIx_tup, oIx_lst, oIx_h, oIx_str, oSl_tup, oSl_lst, oSl_scr, oSl_str, dSl, dNoP, dPart, cLen, cMin2, cInt, uNeg, uBits, uIs, fInt, fBool, fStr, fTup, tyD, dgName, dgNil, dgCons, dgTup, dAsg, dPar, dPar3, dFor, dLc, diTup, diLst, diR1, diR2, diEnT, diEnL, diStr, dCall, dMeth, dMake, dFld, sSetF, startD, dYes, dw]
  exact ⟨.inl ⟨by omega, by omega⟩, hn0, h _ _ (Int.emod_nonneg _ (by omega)) (Int.emod_lt_of_pos _ hn0) (db rs hrs)⟩
/-- one of the wares -/
def spLOne : SpD := fun l M Q => ∃ (w : D) (b : Nat) (R : S), l = [.h 1, w] ∧ DB b R M ∧ b < 1000000 ∧
  ((∃ z : Str, w = .str z ∧ 0 < z.length ∧ z.length ≤ 100 ∧ ∀ c ∈ z.cps.toList, ∀ M', DB (b + 1) R M' → Q (.str ⟨#[c]⟩) M') ∨ ∃ m, (w = .tup m ∨ w = .lst m) ∧ 0 < m.length ∧ m.length ≤ 100 ∧ ∀ d ∈ m, ∀ M', DB (b + 1) R M' → Q d M')
theorem sc_LOne : FnScope ["_law_drawn", "_law_wares"] ["_law_drawn", "_law_wares"] (defScope sLOne) := ⟨rfl, rfl, rfl, by decide +kernel, rfl, by decide +kernel, by decide +kernel⟩
theorem w_LOne {P : Program} {w : World} {K : PySem.W.Frag} {mg : Str → Option Value} {base : Heap} {CG CH : Addr} (T : Tx K w mg CG CH) : GD P w K mg base 2 "_law_one" spLOne := by
  obtain ⟨f, fd, hm, F⟩ := T.f_LOne
  refine ⟨f, hm, F.kp, okD (k := 1) F sc_LOne (F.bindsN fun _ _ _ _ _ _ us hl => match us, hl with | [_, _], _ => rfl)
    (fun cdv A outer s H E hr => (d_single (d_ret (d_ix (d_var (i := 1) rfl (.inl rfl)) (d_call ((w_LNext T).mono (by decide)) hr rfl (d_pa_cons (d_var (i := 0) rfl (.inl rfl)) (d_pa_cons (d_len rfl T.n_len (d_pa_cons (d_var (i := 1) rfl (.inl rfl)) d_pa_nil)) d_pa_nil))))))) (fun l M Qd h => ?_)⟩
  obtain ⟨w, b, R, rfl, hd, hb, h⟩ := h
  refine ⟨rfl, ?_⟩
  rcases h with ⟨z, rfl, h0, h1, h⟩ | ⟨m, rfl | rfl, h0, h1, h⟩
  · simp [and_assoc, strsOf_map, dVar, dC, dOp, dUn, dNil, dCons, dTup, dLst, dNew, dTest, dAnd, dOr, dNot, dAndV, dOrV, dNotV, dIf, dIsN, dNotN, isN, dChain, dCB, dNext, dSeq, dDrop, dRet, dRetN, dIfS, oI, oI0, oAdd, oC, oIx_tup, oIx_lst, oIx_h, oIx_str, oSl_tup, oSl_lst, oSl_scr, oSl_str, dSl, dNoP, dPart, cLen, cMin2, cInt, uNeg, uBits, uIs, fInt, fBool, fStr, fTup, tyD, dgName, dgNil, dgCons, dgTup, dAsg, dPar, dPar3, dFor, dLc, diTup, diLst, diR1, diR2, diEnT, diEnL, diStr, dCall, dMeth, dMake, dFld, sSetF, startD, dYes, dw]
    have hz : z.length ≤ 100000 := by omega
    refine ⟨hz, _, b, R, rfl, by omega, by omega, hd, hb, fun d M' d0 d1 hd' => ?_⟩
    obtain ⟨i, rfl⟩ := Int.eq_ofNat_of_zero_le d0
    have hi : i < z.cps.toList.length := by rw [Array.length_toList]; exact Int.ofNat_lt.mp d1
    refine oIx_str.mpr ⟨hz, _, by rw [atI_nat, List.getElem?_eq_getElem hi], h _ (List.getElem_mem hi) M' hd'⟩
  · simp [and_assoc, strsOf_map, dVar, dC, dOp, dUn, dNil, dCons, dTup, dLst, dNew, dTest, dAnd, dOr, dNot, dAndV, dOrV, dNotV, dIf, dIsN, dNotN, isN, dChain, dCB, dNext, dSeq, dDrop, dRet, dRetN, dIfS, oI, oI0, oAdd, oC, oIx_tup, oIx_lst, oIx_h, oIx_str, oSl_tup, oSl_lst, oSl_scr, oSl_str, dSl, dNoP, dPart, cLen, cMin2, cInt, uNeg, uBits, uIs, fInt, fBool, fStr, fTup, tyD, dgName, dgNil, dgCons, dgTup, dAsg, dPar, dPar3, dFor, dLc, diTup, diLst, diR1, diR2, diEnT, diEnL, diStr, dCall, dMeth, dMake, dFld, sSetF, startD, dYes, dw]
    refine ⟨_, b, R, rfl, by omega, by omega, hd, hb, fun d M' d0 d1 hd' => ?_⟩
    obtain ⟨i, rfl⟩ := Int.eq_ofNat_of_zero_le d0
    have hi : i < m.length := Int.ofNat_lt.mp d1
    exact oIx_tup.mpr ⟨_, by rw [atI_nat, List.getElem?_eq_getElem hi], h _ (List.getElem_mem hi) M' hd'⟩
  · simp [and_assoc, strsOf_map, dVar, dC, dOp, dUn, dNil, dCons, dTup, dLst, dNew, dTest, dAnd, dOr, dNot, dAndV, dOrV, dNotV, dIf, dIsN, dNotN, isN, dChain, dCB, dNext, dSeq, dDrop, dRet, dRetN, dIfS, oI, oI0, oAdd, oC, oIx_tup, oIx_lst, oIx_h, oIx_str, oSl_tup, oSl_lst, oSl_scr, oSl_str, dSl, dNoP, dPart, cLen, cMin2, cInt, uNeg, uBits, uIs, fInt, fBool, fStr, fTup, tyD, dgName, dgNil, dgCons, dgTup, dAsg, dPar, dPar3, dFor, dLc, diTup, diLst, diR1, diR2, diEnT, diEnL, diStr, dCall, dMeth, dMake, dFld, sSetF, startD, dYes, dw]
    refine ⟨_, b, R, rfl, by omega, by omega, hd, hb, fun d M' d0 d1 hd' => ?_⟩
    obtain ⟨i, rfl⟩ := Int.eq_ofNat_of_zero_le d0
    have hi : i < m.length := Int.ofNat_lt.mp d1
    exact oIx_lst.mpr ⟨_, by rw [atI_nat, List.getElem?_eq_getElem hi], h _ (List.getElem_mem hi) M' hd'⟩
/-! ### what is drawn -/
theorem atI_lt {α : Type} {l : List α} {d : Int} (d0 : 0 ≤ d) (d1 : d < l.length) : ∃ x ∈ l, atI l d = some x := by
  obtain ⟨i, rfl⟩ := Int.eq_ofNat_of_zero_le d0
  have hi : i < l.length := Int.ofNat_lt.mp d1
  exact ⟨l[i], List.getElem_mem hi, by rw [atI_nat, List.getElem?_eq_getElem hi]⟩
def spLSource : SpD := fun l M Q => ∃ (size : Int) (ks : List Str) (old : Int) (b : Nat) (R : S), l = [.h 1, .int size, kindsD ks, .int old] ∧ 0 < size ∧ size ≤ 100 ∧ 0 < ks.length ∧ ks.length ≤ 100 ∧ 0 ≤ old ∧ old ≤ 100 ∧ DB b R M ∧ b + 20 < 1000000 ∧
  ∀ (s : Src) M', s.kind ∈ ks → DB (b + 20) R M' → Q s.d M'
theorem sc_LSource : FnScope ["_law_drawn", "_law_size", "_law_kinds_here", "_law_old", "_law_since", "_law_age", "_law_kind", "_law_place"] ["_law_drawn", "_law_size", "_law_kinds_here", "_law_old"] (defScope sLSource) := ⟨rfl, rfl, rfl, by decide +kernel, rfl, by decide +kernel, by decide +kernel⟩
theorem w_LSource {P : Program} {w : World} {K : PySem.W.Frag} {mg : Str → Option Value} {base : Heap} {CG CH : Addr} (T : Tx K w mg CG CH) : GD P w K mg base 3 "_law_source" spLSource := by
  obtain ⟨f, fd, hm, F⟩ := T.f_LSource
  refine ⟨f, hm, F.kp, okD (k := 2) F sc_LSource (F.bindsN fun _ _ _ _ _ _ us hl => match us, hl with | [_, _, _, _], _ => rfl)
    (fun cdv A outer s H E hr => (d_seq (d_set (i := 4) sc_LSource.nd rfl (Or.inl rfl) (d_ix (d_lst (d_pa_cons d_int (d_pa_cons (d_call ((w_LNext T).mono (by decide)) hr rfl (d_pa_cons (d_var (i := 0) rfl (.inl rfl)) (d_pa_cons d_int d_pa_nil))) (d_pa_cons (d_call ((w_LNext T).mono (by decide)) hr rfl (d_pa_cons (d_var (i := 0) rfl (.inl rfl)) (d_pa_cons d_int d_pa_nil))) (d_pa_cons (d_sub (d_pow d_int d_int) (d_call ((w_LNext T).mono (by decide)) hr rfl (d_pa_cons (d_var (i := 0) rfl (.inl rfl)) (d_pa_cons d_int d_pa_nil)))) d_pa_nil))))) (d_call ((w_LNext T).mono (by decide)) hr rfl (d_pa_cons (d_var (i := 0) rfl (.inl rfl)) (d_pa_cons d_int d_pa_nil)))))
      (d_seq (d_set (i := 5) sc_LSource.nd rfl (Or.inl rfl) (d_mul (d_call ((w_LNext T).mono (by decide)) hr rfl (d_pa_cons (d_var (i := 0) rfl (.inl rfl)) (d_pa_cons (d_add (d_var (i := 3) rfl (.inl rfl)) d_int) d_pa_nil))) (d_call ((w_LNext T).mono (by decide)) hr rfl (d_pa_cons (d_var (i := 0) rfl (.inl rfl)) (d_pa_cons d_int d_pa_nil)))))
      (d_seq (d_par (i := 6) (j := 7) rfl sc_LSource.nd rfl rfl (by decide) rfl rfl (d_pa_cons (d_call ((w_LOne T).mono (by decide)) hr rfl (d_pa_cons (d_var (i := 0) rfl (.inl rfl)) (d_pa_cons (d_var (i := 2) rfl (.inl rfl)) d_pa_nil))) (d_pa_cons (d_call ((w_LNext T).mono (by decide)) hr rfl (d_pa_cons (d_var (i := 0) rfl (.inl rfl)) (d_pa_cons (d_var (i := 1) rfl (.inl rfl)) d_pa_nil))) d_pa_nil)))
      (d_single (d_ret (d_tup (d_pa_cons (d_var (i := 6) rfl (.inl rfl)) (d_pa_cons (d_var (i := 5) rfl (.inl rfl)) (d_pa_cons (d_var (i := 7) rfl (.inl rfl)) (d_pa_cons (d_var (i := 4) rfl (.inl rfl)) (d_pa_cons (d_add d_int (d_call ((w_LNext T).mono (by decide)) hr rfl (d_pa_cons (d_var (i := 0) rfl (.inl rfl)) (d_pa_cons d_int d_pa_nil)))) d_pa_nil)))))))))))) (fun l M Qd h => ?_)⟩
  obtain ⟨size, ks, old, b, R, rfl, hs0, hs1, hk0, hk1, ho0, ho1, hd, hb, h⟩ := h
  refine ⟨rfl, ?_⟩
  refine seq_cut (fun ds' M' => DB (b + 4) R M' ∧ ∃ x : Int, ds' = [some (.h 1), some (.int size), some (kindsD ks), some (.int old), some (.int x), none, none, none]) (fun N k => ?_) ?_
  · simp [and_assoc, strsOf_map, dVar, dC, dOp, dUn, dNil, dCons, dTup, dLst, dNew, dTest, dAnd, dOr, dNot, dAndV, dOrV, dNotV, dIf, dIsN, dNotN, isN, dChain, dCB, dNext, dSeq, dDrop, dRet, dRetN, dIfS, oI, oI0, oAdd, oC, oIx_tup, oIx_lst, oIx_h, oIx_str, oSl_tup, oSl_lst, oSl_scr, oSl_str, dSl, dNoP, dPart, cLen, cMin2, cInt, uNeg, uBits, uIs, fInt, fBool, fStr, fTup, tyD, dgName, dgNil, dgCons, dgTup, dAsg, dPar, dPar3, dFor, dLc, diTup, diLst, diR1, diR2, diEnT, diEnL, diStr, dCall, dMeth, dMake, dFld, sSetF, startD, dYes, dw, spLNext]
    refine ⟨b, R, hd, by omega, fun d1 M1 _ _ h1 => ⟨_, _, h1, by omega, fun d2 M2 _ _ h2 => ⟨⟨by decide, by decide, by decide⟩, _, _, h2, by omega, fun d3 M3 _ _ h3 => ⟨_, _, h3, by omega, fun d4 M4 e0 e1 h4 => ?_⟩⟩⟩⟩
    have : ∃ x : Int, atI [D.int 0, D.int d1, D.int d2, D.int (1000000 - d3)] d4 = some (.int x) := by
      obtain ⟨x, hx, e⟩ := atI_lt (l := [D.int 0, D.int d1, D.int d2, D.int (1000000 - d3)]) e0 (by simpa using e1)
      simp at hx
      rcases hx with rfl | rfl | rfl | rfl <;> exact ⟨_, e⟩
    obtain ⟨x, hx⟩ := this
    exact ⟨_, hx, k _ _ ⟨h4, x, rfl⟩⟩
  rintro ds' M1 ⟨hd1, x, rfl⟩
  refine seq_cut (fun ds' M' => DB (b + 6) R M' ∧ ∃ y : Int, ds' = [some (.h 1), some (.int size), some (kindsD ks), some (.int old), some (.int x), some (.int y), none, none]) (fun N k => ?_) ?_
  · simp [and_assoc, strsOf_map, dVar, dC, dOp, dUn, dNil, dCons, dTup, dLst, dNew, dTest, dAnd, dOr, dNot, dAndV, dOrV, dNotV, dIf, dIsN, dNotN, isN, dChain, dCB, dNext, dSeq, dDrop, dRet, dRetN, dIfS, oI, oI0, oAdd, oC, oIx_tup, oIx_lst, oIx_h, oIx_str, oSl_tup, oSl_lst, oSl_scr, oSl_str, dSl, dNoP, dPart, cLen, cMin2, cInt, uNeg, uBits, uIs, fInt, fBool, fStr, fTup, tyD, dgName, dgNil, dgCons, dgTup, dAsg, dPar, dPar3, dFor, dLc, diTup, diLst, diR1, diR2, diEnT, diEnL, diStr, dCall, dMeth, dMake, dFld, sSetF, startD, dYes, dw, spLNext]
    refine ⟨by omega, by omega, _, _, hd1, by omega, fun d1 M1 _ _ h1 => ⟨_, _, h1, by omega, fun d2 M2 e0 e1 h2 => ⟨.inr ⟨by omega, by omega⟩, k _ _ ⟨h2, _, rfl⟩⟩⟩⟩
  rintro ds' M2 ⟨hd2, y, rfl⟩
  refine seq_cut (fun ds' M' => DB (b + 8) R M' ∧ ∃ (s : Str) (z : Int), s ∈ ks ∧ ds' = [some (.h 1), some (.int size), some (kindsD ks), some (.int old), some (.int x), some (.int y), some (.str s), some (.int z)]) (fun N k => ?_) ?_
  · simp [and_assoc, strsOf_map, dVar, dC, dOp, dUn, dNil, dCons, dTup, dLst, dNew, dTest, dAnd, dOr, dNot, dAndV, dOrV, dNotV, dIf, dIsN, dNotN, isN, dChain, dCB, dNext, dSeq, dDrop, dRet, dRetN, dIfS, oI, oI0, oAdd, oC, oIx_tup, oIx_lst, oIx_h, oIx_str, oSl_tup, oSl_lst, oSl_scr, oSl_str, dSl, dNoP, dPart, cLen, cMin2, cInt, uNeg, uBits, uIs, fInt, fBool, fStr, fTup, tyD, dgName, dgNil, dgCons, dgTup, dAsg, dPar, dPar3, dFor, dLc, diTup, diLst, diR1, diR2, diEnT, diEnL, diStr, dCall, dMeth, dMake, dFld, sSetF, startD, dYes, dw, spLNext, spLOne]
    refine ⟨_, _, hd2, by omega, .inr ⟨ks.map .str, .inl rfl, by simpa using hk0, by simpa using hk1, fun d hm M3 h3 => ?_⟩⟩
    obtain ⟨s, hs, rfl⟩ := List.mem_map.mp hm
    exact ⟨hs0, by omega, _, _, h3, by omega, fun d4 M4 _ _ h4 => k _ _ ⟨h4, s, d4, hs, rfl⟩⟩
  rintro ds' M3 ⟨hd3, s, z, hs, rfl⟩
  simp [and_assoc, strsOf_map, dVar, dC, dOp, dUn, dNil, dCons, dTup, dLst, dNew, dTest, dAnd, dOr, dNot, dAndV, dOrV, dNotV, dIf, dIsN, dNotN, isN, dChain, dCB, dNext, dSeq, dDrop, dRet, dRetN, dIfS, oI, oI0, oAdd, oC, oIx_tup, oIx_lst, oIx_h, oIx_str, oSl_tup, oSl_lst, oSl_scr, oSl_str, dSl, dNoP, dPart, cLen, cMin2, cInt, uNeg, uBits, uIs, fInt, fBool, fStr, fTup, tyD, dgName, dgNil, dgCons, dgTup, dAsg, dPar, dPar3, dFor, dLc, diTup, diLst, diR1, diR2, diEnT, diEnL, diStr, dCall, dMeth, dMake, dFld, sSetF, startD, dYes, dw, spLNext]
  exact ⟨_, _, hd3, by omega, fun d4 M4 _ _ h4 => h ⟨s, y, z, x, 1 + d4⟩ M4 hs (h4.mono (by omega))⟩
def spLPart : SpD := fun l M Q => ∃ (ks : List Str) (old : Int) (b : Nat) (R : S), l = [.h 1, kindsD ks, .int old] ∧ 0 < ks.length ∧ ks.length ≤ 100 ∧ 0 ≤ old ∧ old ≤ 100 ∧ DB b R M ∧ b + 20 < 1000000 ∧
  ∀ (p : Prt) M', p.kind ∈ ks → DB (b + 10) R M' → Q p.d M'
theorem sc_LPart : FnScope ["_law_drawn", "_law_kinds_here", "_law_old", "_law_least", "_law_greatest"] ["_law_drawn", "_law_kinds_here", "_law_old"] (defScope sLPart) := ⟨rfl, rfl, rfl, by decide +kernel, rfl, by decide +kernel, by decide +kernel⟩
theorem w_LPart {P : Program} {w : World} {K : PySem.W.Frag} {mg : Str → Option Value} {base : Heap} {CG CH : Addr} (T : Tx K w mg CG CH) : GD P w K mg base 3 "_law_part" spLPart := by
  obtain ⟨f, fd, hm, F⟩ := T.f_LPart
  refine ⟨f, hm, F.kp, okD (k := 2) F sc_LPart (F.bindsN fun _ _ _ _ _ _ us hl => match us, hl with | [_, _, _], _ => rfl)
    (fun cdv A outer s H E hr => (d_seq (d_set (i := 3) sc_LPart.nd rfl (Or.inl rfl) (d_call ((w_LNext T).mono (by decide)) hr rfl (d_pa_cons (d_var (i := 0) rfl (.inl rfl)) (d_pa_cons (d_add (d_var (i := 2) rfl (.inl rfl)) d_int) d_pa_nil))))
      (d_seq (d_set (i := 4) sc_LPart.nd rfl (Or.inl rfl) (d_ix (d_lst (d_pa_cons (d_var (i := 3) rfl (.inl rfl)) (d_pa_cons (d_min2 rfl rfl T.n_min (d_pa_cons (d_var (i := 2) rfl (.inl rfl)) (d_pa_cons (d_add (d_var (i := 3) rfl (.inl rfl)) (d_call ((w_LNext T).mono (by decide)) hr rfl (d_pa_cons (d_var (i := 0) rfl (.inl rfl)) (d_pa_cons d_int d_pa_nil)))) d_pa_nil))) (d_pa_cons (d_var (i := 2) rfl (.inl rfl)) d_pa_nil)))) (d_call ((w_LNext T).mono (by decide)) hr rfl (d_pa_cons (d_var (i := 0) rfl (.inl rfl)) (d_pa_cons d_int d_pa_nil)))))
      (d_single (d_ret (d_tup (d_pa_cons (d_call ((w_LOne T).mono (by decide)) hr rfl (d_pa_cons (d_var (i := 0) rfl (.inl rfl)) (d_pa_cons (d_var (i := 1) rfl (.inl rfl)) d_pa_nil))) (d_pa_cons (d_ix (d_lst (d_pa_cons (d_var (i := 3) rfl (.inl rfl)) (d_pa_cons (d_var (i := 3) rfl (.inl rfl)) (d_pa_cons d_int d_pa_nil)))) (d_call ((w_LNext T).mono (by decide)) hr rfl (d_pa_cons (d_var (i := 0) rfl (.inl rfl)) (d_pa_cons d_int d_pa_nil)))) (d_pa_cons (d_var (i := 4) rfl (.inl rfl)) d_pa_nil))))))))) (fun l M Qd h => ?_)⟩
  obtain ⟨ks, old, b, R, rfl, hk0, hk1, ho0, ho1, hd, hb, h⟩ := h
  refine ⟨rfl, ?_⟩
  refine seq_cut (fun ds' M' => DB (b + 1) R M' ∧ ∃ x : Int, ds' = [some (.h 1), some (kindsD ks), some (.int old), some (.int x), none]) (fun N k => ?_) ?_
  · simp [and_assoc, strsOf_map, dVar, dC, dOp, dUn, dNil, dCons, dTup, dLst, dNew, dTest, dAnd, dOr, dNot, dAndV, dOrV, dNotV, dIf, dIsN, dNotN, isN, dChain, dCB, dNext, dSeq, dDrop, dRet, dRetN, dIfS, oI, oI0, oAdd, oC, oIx_tup, oIx_lst, oIx_h, oIx_str, oSl_tup, oSl_lst, oSl_scr, oSl_str, dSl, dNoP, dPart, cLen, cMin2, cInt, uNeg, uBits, uIs, fInt, fBool, fStr, fTup, tyD, dgName, dgNil, dgCons, dgTup, dAsg, dPar, dPar3, dFor, dLc, diTup, diLst, diR1, diR2, diEnT, diEnL, diStr, dCall, dMeth, dMake, dFld, sSetF, startD, dYes, dw, spLNext]
    exact ⟨by omega, by omega, _, _, hd, by omega, fun d1 M1 _ _ h1 => k _ _ ⟨h1, d1, rfl⟩⟩
  rintro ds' M1 ⟨hd1, x, rfl⟩
  refine seq_cut (fun ds' M' => DB (b + 3) R M' ∧ ∃ y : Int, ds' = [some (.h 1), some (kindsD ks), some (.int old), some (.int x), some (.int y)]) (fun N k => ?_) ?_
  · simp [and_assoc, strsOf_map, dVar, dC, dOp, dUn, dNil, dCons, dTup, dLst, dNew, dTest, dAnd, dOr, dNot, dAndV, dOrV, dNotV, dIf, dIsN, dNotN, isN, dChain, dCB, dNext, dSeq, dDrop, dRet, dRetN, dIfS, oI, oI0, oAdd, oC, oIx_tup, oIx_lst, oIx_h, oIx_str, oSl_tup, oSl_lst, oSl_scr, oSl_str, dSl, dNoP, dPart, cLen, cMin2, cInt, uNeg, uBits, uIs, fInt, fBool, fStr, fTup, tyD, dgName, dgNil, dgCons, dgTup, dAsg, dPar, dPar3, dFor, dLc, diTup, diLst, diR1, diR2, diEnT, diEnL, diStr, dCall, dMeth, dMake, dFld, sSetF, startD, dYes, dw, spLNext]
    refine ⟨_, _, hd1, by omega, fun d1 M1 _ _ h1 => ⟨_, _, h1, by omega, fun d2 M2 e0 e1 h2 => ?_⟩⟩
    obtain ⟨v, hx, e⟩ := atI_lt (l := [D.int x, D.int (if x + d1 < old then x + d1 else old), D.int old]) e0 (by simpa using e1)
    simp at hx
    rcases hx with rfl | rfl | rfl <;> exact ⟨_, e, k _ _ ⟨h2, _, rfl⟩⟩
  rintro ds' M2 ⟨hd2, y, rfl⟩
  simp [and_assoc, strsOf_map, dVar, dC, dOp, dUn, dNil, dCons, dTup, dLst, dNew, dTest, dAnd, dOr, dNot, dAndV, dOrV, dNotV, dIf, dIsN, dNotN, isN, dChain, dCB, dNext, dSeq, dDrop, dRet, dRetN, dIfS, oI, oI0, oAdd, oC, oIx_tup, oIx_lst, oIx_h, oIx_str, oSl_tup, oSl_lst, oSl_scr, oSl_str, dSl, dNoP, dPart, cLen, cMin2, cInt, uNeg, uBits, uIs, fInt, fBool, fStr, fTup, tyD, dgName, dgNil, dgCons, dgTup, dAsg, dPar, dPar3, dFor, dLc, diTup, diLst, diR1, diR2, diEnT, diEnL, diStr, dCall, dMeth, dMake, dFld, sSetF, startD, dYes, dw, spLNext, spLOne]
  refine ⟨_, _, hd2, by omega, .inr ⟨ks.map .str, .inl rfl, by simpa using hk0, by simpa using hk1, fun d hm M3 h3 => ?_⟩⟩
  obtain ⟨s, hs, rfl⟩ := List.mem_map.mp hm
  refine ⟨_, _, h3, by omega, fun d4 M4 e0 e1 h4 => ?_⟩
  obtain ⟨v, hx, e⟩ := atI_lt (l := [D.int x, D.int x, D.int 0]) e0 (by simpa using e1)
  simp at hx
  rcases hx with rfl | rfl <;> exact ⟨_, e, h ⟨s, _, y⟩ M4 hs (h4.mono (by omega))⟩
end My

set_option Elab.async false
set_option linter.all false
set_option maxRecDepth 100000
set_option maxHeartbeats 4000000
namespace My
open PySem PySem.Spec PyProof.Rows L2
def ltr (s : Str) : Prop := ∀ c ∈ s.cps.toList, c ∈ letters.cps.toList
theorem ltr_app {a b : Str} (ha : ltr a) (hb : ltr b) : ltr (a ++ b) := fun c h => by
  have h : c ∈ (a.cps ++ b.cps).toList := h
  rw [Array.toList_append] at h
  rcases List.mem_append.mp h with h | h
  · exact ha c h
  · exact hb c h
theorem len_app (a b : Str) : (a ++ b).length = a.length + b.length := by
  show (a.cps ++ b.cps).size = _
  rw [Array.size_append]; rfl
theorem ltr_join : ∀ l : List Str, (∀ s ∈ l, ltr s) → ltr (Str.join (Str.ofString "") l)
  | [], _ => fun c h => by
    have h : c ∈ (#[] : Array Nat).toList := h
    simp at h
  | [x], h => h x (List.mem_singleton.mpr rfl)
  | x :: y :: r, h => ltr_app (ltr_app (h x List.mem_cons_self) fun c hc => by
      have hc : c ∈ (Str.ofString "").cps.toList := hc
      have e : (Str.ofString "").cps.toList = [] := by decide
      rw [e] at hc; cases hc) (ltr_join (y :: r) fun s hs => h s (List.mem_cons_of_mem _ hs))
theorem ltr_cut {s : Str} {lo hi : Option Int} (h : ltr s) : ltr (cutS s lo hi) := fun c hc => by
  have hc : c ∈ ((s.cps.toList.drop (HT.sIx s.length 0 lo)).take (HT.sIx s.length s.length hi - HT.sIx s.length 0 lo)) := by simpa [cutS] using hc
  exact h c (List.mem_of_mem_drop (List.mem_of_mem_take hc))
theorem ltr_one {c : Nat} (h : c ∈ letters.cps.toList) : ltr ⟨#[c]⟩ := fun d hd => by
  have hd : d ∈ [c] := hd
  rw [List.mem_singleton.mp hd]; exact h
theorem ltr_m : ∀ k : Nat, k < 4 → ltr (Txt.mul "m" ((k : Int) + 1)) ∧ (Txt.mul "m" ((k : Int) + 1)).length ≤ 4 := by
  intro k hk
  have : k = 0 ∨ k = 1 ∨ k = 2 ∨ k = 3 := by omega
  unfold ltr
  rcases this with rfl | rfl | rfl | rfl <;> decide +kernel
def spLKinds : SpD := fun l M Q => ∃ (n : Nat) (b : Nat) (R : S), l = [.h 1, .int (n : Int)] ∧ 0 < n ∧ n ≤ 4 ∧ DB b R M ∧ b + 20 < 1000000 ∧ ∀ (ks : List Str) M', ks.length = n → (∀ s ∈ ks, strG s) → DB (b + 20) R M' → Q (kindsD ks) M'
theorem sc_LKinds : FnScope ["_law_drawn", "_law_many", "_law_stem", "_law_first", "_law_way_here", "_law_found", "_law_k"] ["_law_drawn", "_law_many"] (defScope sLKinds) := ⟨rfl, rfl, rfl, by decide +kernel, rfl, by decide +kernel, by decide +kernel⟩
theorem w_LKinds {P : Program} {w : World} {K : PySem.W.Frag} {mg : Str → Option Value} {base : Heap} {CG CH : Addr} (T : Tx K w mg CG CH) : GD P w K mg base 3 "_law_kinds" spLKinds := by
  obtain ⟨f, fd, hm, F⟩ := T.f_LKinds
  refine ⟨f, hm, F.kp, okD (k := 2) F sc_LKinds (F.bindsN fun _ _ _ _ _ _ us hl => match us, hl with | [_, _], _ => rfl)
    (fun cdv A outer s H E hr => (d_seq (d_set (i := 2) sc_LKinds.nd rfl (Or.inr rfl) (d_join d_str (d_lc (own := [("_law_k", 6)]) rfl sc_LKinds.nd (di_r1 rfl T.n_range (d_pa_cons (d_call ((w_LNext T).mono (by decide)) hr rfl (d_pa_cons (d_var (i := 0) rfl (.inr (.inl rfl))) (d_pa_cons d_int d_pa_nil))) d_pa_nil)) (blkOk_by (N := ["_law_drawn", "_law_many", "_law_stem", "_law_first", "_law_way_here", "_law_found", "_law_k"]) (sc := defScope sLKinds) (by decide +kernel)) (by decide) (fun _ _ _ _ _ => (dg_name (i := 6) sc_LKinds.nd rfl (Or.inl rfl))) (fun _ _ _ _ _ => d_noif) (fun _ _ _ _ _ => (d_call ((w_LOne T).mono (by decide)) hr rfl (d_pa_cons (d_var (i := 0) rfl (.inr (.inl rfl))) (d_pa_cons d_str d_pa_nil)))))))
      (d_seq (d_set (i := 3) sc_LKinds.nd rfl (Or.inr rfl) (d_call ((w_LNext T).mono (by decide)) hr rfl (d_pa_cons (d_var (i := 0) rfl (.inr (.inl rfl))) (d_pa_cons d_int d_pa_nil))))
      (d_seq (d_set (i := 4) sc_LKinds.nd rfl (Or.inl rfl) (d_call ((w_LNext T).mono (by decide)) hr rfl (d_pa_cons (d_var (i := 0) rfl (.inr (.inl rfl))) (d_pa_cons d_int d_pa_nil))))
      (d_seq (d_setLc (i := 5) (own := [("_law_k", 6)]) rfl sc_LKinds.nd rfl rfl (sw_true rfl rfl rfl rfl) (di_r1 rfl T.n_range (d_pa_cons (d_var (i := 1) rfl (.inr (.inl rfl))) d_pa_nil)) (blkOk_by (N := ["_law_drawn", "_law_many", "_law_stem", "_law_first", "_law_way_here", "_law_found", "_law_k"]) (sc := defScope sLKinds) (by decide +kernel)) (by decide) (fun _ _ _ _ _ => (dg_name (i := 6) sc_LKinds.nd rfl (Or.inl rfl))) (fun _ _ _ _ _ => d_noif) (fun _ _ _ _ _ => (d_add (d_var (i := 2) rfl (.inr (.inl rfl))) (d_ix d_str (d_add (d_var (i := 3) rfl (.inr (.inl rfl))) (d_var (i := 6) rfl (.inl rfl)))))))
      (d_seq (d_if (dt_eq hr.units (d_var (i := 4) rfl (.inl rfl)) d_int) (d_single (d_setLc (i := 5) (own := [("_law_k", 6)]) rfl sc_LKinds.nd rfl rfl (sw_true rfl rfl rfl rfl) (di_r1 rfl T.n_range (d_pa_cons (d_var (i := 1) rfl (.inr (.inl rfl))) d_pa_nil)) (blkOk_by (N := ["_law_drawn", "_law_many", "_law_stem", "_law_first", "_law_way_here", "_law_found", "_law_k"]) (sc := defScope sLKinds) (by decide +kernel)) (by decide) (fun _ _ _ _ _ => (dg_name (i := 6) sc_LKinds.nd rfl (Or.inl rfl))) (fun _ _ _ _ _ => d_noif) (fun _ _ _ _ _ => (d_slice (d_add (d_mulS d_str (d_add (d_var (i := 6) rfl (.inl rfl)) d_int)) (d_var (i := 2) rfl (.inr (.inl rfl)))) d_no (d_part (d_add (d_add (d_sub d_int (d_var (i := 1) rfl (.inr (.inl rfl)))) (d_var (i := 6) rfl (.inl rfl))) d_int)))))) d_nil)
      (d_single (d_ret (d_tuple rfl T.n_tuple (d_pa_cons (d_sortS rfl T.n_sorted (d_pa_cons (d_var (i := 5) rfl (.inl rfl)) d_pa_nil)) d_pa_nil)))))))))) (fun l M Qd h => ?_)⟩
  obtain ⟨n, b, R, rfl, hn0, hn1, hd, hb, h⟩ := h
  refine ⟨rfl, ?_⟩
  refine seq_cut (fun ds' M' => DB (b + 9) R M' ∧ ∃ z : Str, ltr z ∧ z.length ≤ 8 ∧ ds' = [some (.h 1), some (.int (n : Int)), some (.str z), none, none, none, none]) (fun N k => ?_) ?_
  · simp [and_assoc, strsOf_map, dVar, dC, dOp, dUn, dNil, dCons, dTup, dLst, dNew, dTest, dAnd, dOr, dNot, dAndV, dOrV, dNotV, dIf, dIsN, dNotN, isN, dChain, dCB, dNext, dSeq, dDrop, dRet, dRetN, dIfS, oI, oI0, oAdd, oC, oIx_tup, oIx_lst, oIx_h, oIx_str, oSl_tup, oSl_lst, oSl_scr, oSl_str, dSl, dNoP, dPart, cLen, cMin2, cInt, uNeg, uBits, uIs, fInt, fBool, fStr, fTup, tyD, dgName, dgNil, dgCons, dgTup, dAsg, dPar, dPar3, dFor, dLc, diTup, diLst, diR1, diR2, diEnT, diEnL, diStr, dCall, dMeth, dMake, dFld, sSetF, startD, dYes, dw, dJoin, spLNext]
    refine ⟨_, _, hd, by omega, fun d M1 d0 d1 h1 => ⟨by omega, by omega, ?_⟩⟩
    refine lc_rngD (lo := 0) (n := d.toNat) (fun i acc M' => DB (b + 1 + i) R M' ∧ ∃ ys : List Str, acc = ys.map .str ∧ ys.length = i ∧ ∀ s ∈ ys, ltr s ∧ s.length = 1) ⟨h1, [], rfl, rfl, by simp⟩ (fun i acc M' K hi ⟨hdb, ys, e, hl, hy⟩ k => ?_) (fun acc M' ⟨hdb, ys, e, hl, hy⟩ => ?_)
    · subst e
      refine ⟨trivial, by simp; omega, ?_⟩
      simp [and_assoc, strsOf_map, dVar, dC, dOp, dUn, dNil, dCons, dTup, dLst, dNew, dTest, dAnd, dOr, dNot, dAndV, dOrV, dNotV, dIf, dIsN, dNotN, isN, dChain, dCB, dNext, dSeq, dDrop, dRet, dRetN, dIfS, oI, oI0, oAdd, oC, oIx_tup, oIx_lst, oIx_h, oIx_str, oSl_tup, oSl_lst, oSl_scr, oSl_str, dSl, dNoP, dPart, cLen, cMin2, cInt, uNeg, uBits, uIs, fInt, fBool, fStr, fTup, tyD, dgName, dgNil, dgCons, dgTup, dAsg, dPar, dPar3, dFor, dLc, diTup, diLst, diR1, diR2, diEnT, diEnL, diStr, dCall, dMeth, dMake, dFld, sSetF, startD, dYes, dw, spLOne]
      refine ⟨_, _, hdb, by omega, by decide, by decide, fun c hc M2 h2 => k _ _ ⟨h2, ys ++ [⟨#[c]⟩], by simp, by simp [oIx_tup, oIx_lst, oIx_h, oIx_str, hl], fun s hs => ?_⟩⟩
      have hc : c ∈ letters.cps.toList := by simpa [letters] using hc
      rcases List.mem_append.mp hs with hs | hs
      · exact hy s hs
      · rw [List.mem_singleton.mp hs]; exact ⟨ltr_one hc, rfl⟩
    · subst e
      refine ⟨trivial, Str.ofString "", ys, rfl, by simp [oIx_tup, oIx_lst, oIx_h, oIx_str, itL], ?_, ?_⟩
      · have e0 : (Str.ofString "").length = 0 := by decide
        have e1 : (ys.map (·.length)) = List.replicate ys.length 1 := List.eq_replicate_iff.mpr ⟨by simp, fun x hx => by
          obtain ⟨s, hs, rfl⟩ := List.mem_map.mp hx
          exact (hy s hs).2⟩
        rw [e0, e1]; simp; omega
      · refine k _ _ ⟨hdb.mono (by omega), _, ?_, ?_, rfl⟩
        · show ltr (Builtin.Str.glued (Str.ofString "") ys)
          rw [StrLaws.glued_eq_join]
          exact ltr_join ys fun s hs => (hy s hs).1
        · rw [PySem.W.KT.join_ones ys fun s hs => (hy s hs).2]; omega
  rintro ds' M1 ⟨hd1, z, hz, hzl, rfl⟩
  refine seq_cut (fun ds' M' => DB (b + 10) R M' ∧ ∃ f : Nat, f < 23 ∧ ds' = [some (.h 1), some (.int (n : Int)), some (.str z), some (.int (f : Int)), none, none, none]) (fun N k => ?_) ?_
  · simp [and_assoc, strsOf_map, dVar, dC, dOp, dUn, dNil, dCons, dTup, dLst, dNew, dTest, dAnd, dOr, dNot, dAndV, dOrV, dNotV, dIf, dIsN, dNotN, isN, dChain, dCB, dNext, dSeq, dDrop, dRet, dRetN, dIfS, oI, oI0, oAdd, oC, oIx_tup, oIx_lst, oIx_h, oIx_str, oSl_tup, oSl_lst, oSl_scr, oSl_str, dSl, dNoP, dPart, cLen, cMin2, cInt, uNeg, uBits, uIs, fInt, fBool, fStr, fTup, tyD, dgName, dgNil, dgCons, dgTup, dAsg, dPar, dPar3, dFor, dLc, diTup, diLst, diR1, diR2, diEnT, diEnL, diStr, dCall, dMeth, dMake, dFld, sSetF, startD, dYes, dw, spLNext]
    refine ⟨_, _, hd1, by omega, fun d M2 d0 d1 h2 => ?_⟩
    obtain ⟨f, rfl⟩ := Int.eq_ofNat_of_zero_le d0
    exact k _ _ ⟨h2, f, by omega, rfl⟩
  rintro ds' M2 ⟨hd2, f, hf, rfl⟩
  refine seq_cut (fun ds' M' => DB (b + 11) R M' ∧ ∃ x : Int, ds' = [some (.h 1), some (.int (n : Int)), some (.str z), some (.int (f : Int)), some (.int x), none, none]) (fun N k => ?_) ?_
  · simp [and_assoc, strsOf_map, dVar, dC, dOp, dUn, dNil, dCons, dTup, dLst, dNew, dTest, dAnd, dOr, dNot, dAndV, dOrV, dNotV, dIf, dIsN, dNotN, isN, dChain, dCB, dNext, dSeq, dDrop, dRet, dRetN, dIfS, oI, oI0, oAdd, oC, oIx_tup, oIx_lst, oIx_h, oIx_str, oSl_tup, oSl_lst, oSl_scr, oSl_str, dSl, dNoP, dPart, cLen, cMin2, cInt, uNeg, uBits, uIs, fInt, fBool, fStr, fTup, tyD, dgName, dgNil, dgCons, dgTup, dAsg, dPar, dPar3, dFor, dLc, diTup, diLst, diR1, diR2, diEnT, diEnL, diStr, dCall, dMeth, dMake, dFld, sSetF, startD, dYes, dw, spLNext]
    exact ⟨_, _, hd2, by omega, fun d M3 d0 d1 h3 => k _ _ ⟨h3, _, rfl⟩⟩
  rintro ds' M3 ⟨hd3, x, rfl⟩
  refine seq_cut (fun ds' M' => DB (b + 11) R M' ∧ ∃ ks : List Str, ks.length = n ∧ (∀ s ∈ ks, strG s) ∧ ds' = [some (.h 1), some (.int (n : Int)), some (.str z), some (.int (f : Int)), some (.int x), some (.lst (ks.map .str)), none]) (fun N k => ?_) ?_
  · simp [and_assoc, strsOf_map, dVar, dC, dOp, dUn, dNil, dCons, dTup, dLst, dNew, dTest, dAnd, dOr, dNot, dAndV, dOrV, dNotV, dIf, dIsN, dNotN, isN, dChain, dCB, dNext, dSeq, dDrop, dRet, dRetN, dIfS, oI, oI0, oAdd, oC, oIx_tup, oIx_lst, oIx_h, oIx_str, oSl_tup, oSl_lst, oSl_scr, oSl_str, dSl, dNoP, dPart, cLen, cMin2, cInt, uNeg, uBits, uIs, fInt, fBool, fStr, fTup, tyD, dgName, dgNil, dgCons, dgTup, dAsg, dPar, dPar3, dFor, dLc, diTup, diLst, diR1, diR2, diEnT, diEnL, diStr, dCall, dMeth, dMake, dFld, sSetF, startD, dYes, dw]
    refine ⟨by omega, ?_⟩
    refine lc_rngD (lo := 0) (n := n) (fun i acc M' => M' = M3 ∧ ∃ ys : List Str, acc = ys.map .str ∧ ys.length = i ∧ ∀ s ∈ ys, strG s) ⟨rfl, [], rfl, rfl, by simp⟩ (fun i acc M' K hi ⟨e1, ys, e, hl, hy⟩ k => ?_) (fun acc M' ⟨e1, ys, e, hl, hy⟩ => ?_)
    · subst e1 e
      refine ⟨trivial, by simp; omega, ?_⟩
      simp [and_assoc, strsOf_map, dVar, dC, dOp, dUn, dNil, dCons, dTup, dLst, dNew, dTest, dAnd, dOr, dNot, dAndV, dOrV, dNotV, dIf, dIsN, dNotN, isN, dChain, dCB, dNext, dSeq, dDrop, dRet, dRetN, dIfS, oI, oI0, oAdd, oC, oIx_tup, oIx_lst, oIx_h, oIx_str, oSl_tup, oSl_lst, oSl_scr, oSl_str, dSl, dNoP, dPart, cLen, cMin2, cInt, uNeg, uBits, uIs, fInt, fBool, fStr, fTup, tyD, dgName, dgNil, dgCons, dgTup, dAsg, dPar, dPar3, dFor, dLc, diTup, diLst, diR1, diR2, diEnT, diEnL, diStr, dCall, dMeth, dMake, dFld, sSetF, startD, dYes, dw]
      have hx : ∃ c ∈ letters.cps.toList, atI letters.cps.toList ((f : Int) + (i : Int)) = some c := atI_lt (by omega) (by rw [show letters.cps.toList.length = 26 by decide]; omega)
      obtain ⟨c, hc, ec⟩ := hx
      refine ⟨by decide, c, by simpa [letters] using ec, ?_, ?_⟩
      · show z.length + 1 ≤ 100000; omega
      · refine k _ _ ⟨rfl, ys ++ [z ++ ⟨#[c]⟩], by simp, by simp [oIx_tup, oIx_lst, oIx_h, oIx_str, hl], fun s hs => ?_⟩
        rcases List.mem_append.mp hs with hs | hs
        · exact hy s hs
        · rw [List.mem_singleton.mp hs]; exact ⟨by rw [len_app]; show z.length + 1 ≤ 30; omega, ltr_app hz (ltr_one hc)⟩
    · subst e1 e
      exact ⟨trivial, k _ _ ⟨hd3, ys, hl, hy, rfl⟩⟩
  rintro ds' M4 ⟨hd4, ks, hkl, hks, rfl⟩
  refine seq_cut (fun ds' M' => DB (b + 11) R M' ∧ ∃ ks : List Str, ks.length = n ∧ (∀ s ∈ ks, strG s) ∧ ds' = [some (.h 1), some (.int (n : Int)), some (.str z), some (.int (f : Int)), some (.int x), some (.lst (ks.map .str)), none]) (fun N k => ?_) ?_
  · by_cases c : x = 0
    · simp [and_assoc, strsOf_map, dVar, dC, dOp, dUn, dNil, dCons, dTup, dLst, dNew, dTest, dAnd, dOr, dNot, dAndV, dOrV, dNotV, dIf, dIsN, dNotN, isN, dChain, dCB, dNext, dSeq, dDrop, dRet, dRetN, dIfS, oI, oI0, oAdd, oC, oIx_tup, oIx_lst, oIx_h, oIx_str, oSl_tup, oSl_lst, oSl_scr, oSl_str, dSl, dNoP, dPart, cLen, cMin2, cInt, uNeg, uBits, uIs, fInt, fBool, fStr, fTup, tyD, dgName, dgNil, dgCons, dgTup, dAsg, dPar, dPar3, dFor, dLc, diTup, diLst, diR1, diR2, diEnT, diEnL, diStr, dCall, dMeth, dMake, dFld, sSetF, startD, dYes, dw, oEq, c]
      refine ⟨by omega, ?_⟩
      refine lc_rngD (lo := 0) (n := n) (fun i acc M' => M' = M4 ∧ ∃ ys : List Str, acc = ys.map .str ∧ ys.length = i ∧ ∀ s ∈ ys, strG s) ⟨rfl, [], rfl, rfl, by simp⟩ (fun i acc M' K hi ⟨e1, ys, e, hl, hy⟩ k => ?_) (fun acc M' ⟨e1, ys, e, hl, hy⟩ => ?_)
      · subst e1 e
        refine ⟨trivial, by simp; omega, ?_⟩
        obtain ⟨m1, m2⟩ := ltr_m i (by omega)
        have ml : (Txt.mul (Str.ofString "m") ((i : Int) + 1)).length + z.length ≤ 100000 := by omega
        have mc : (Txt.mul (Str.ofString "m") ((i : Int) + 1) ++ z).length ≤ 100000 := by rw [len_app]; exact ml
        simp [and_assoc, strsOf_map, dVar, dC, dOp, dUn, dNil, dCons, dTup, dLst, dNew, dTest, dAnd, dOr, dNot, dAndV, dOrV, dNotV, dIf, dIsN, dNotN, isN, dChain, dCB, dNext, dSeq, dDrop, dRet, dRetN, dIfS, oI, oI0, oAdd, oC, oIx_tup, oIx_lst, oIx_h, oIx_str, oSl_tup, oSl_lst, oSl_scr, oSl_str, dSl, dNoP, dPart, cLen, cMin2, cInt, uNeg, uBits, uIs, fInt, fBool, fStr, fTup, tyD, dgName, dgNil, dgCons, dgTup, dAsg, dPar, dPar3, dFor, dLc, diTup, diLst, diR1, diR2, diEnT, diEnL, diStr, dCall, dMeth, dMake, dFld, sSetF, startD, dYes, dw, oMulS, ml, mc]
        refine ⟨by decide, by omega, by omega, ?_⟩
        have cl := cutS_length (Txt.mul (Str.ofString "m") ((i : Int) + 1) ++ z) none (some (8 - (n : Int) + (i : Int) + 1))
        rw [len_app] at cl
        refine k _ _ ⟨rfl, ys ++ [cutS (Txt.mul (Str.ofString "m") ((i : Int) + 1) ++ z) none (some (8 - (n : Int) + (i : Int) + 1))], by simp, by simp [oIx_tup, oIx_lst, oIx_h, oIx_str, hl], fun s hs => ?_⟩
        rcases List.mem_append.mp hs with hs | hs
        · exact hy s hs
        · rw [List.mem_singleton.mp hs]
          exact ⟨by omega, ltr_cut (ltr_app m1 hz)⟩
      · subst e1 e
        exact ⟨trivial, k _ _ ⟨hd4, ys, hl, hy, by rw [c]⟩⟩
    · simp [and_assoc, strsOf_map, dVar, dC, dOp, dUn, dNil, dCons, dTup, dLst, dNew, dTest, dAnd, dOr, dNot, dAndV, dOrV, dNotV, dIf, dIsN, dNotN, isN, dChain, dCB, dNext, dSeq, dDrop, dRet, dRetN, dIfS, oI, oI0, oAdd, oC, oIx_tup, oIx_lst, oIx_h, oIx_str, oSl_tup, oSl_lst, oSl_scr, oSl_str, dSl, dNoP, dPart, cLen, cMin2, cInt, uNeg, uBits, uIs, fInt, fBool, fStr, fTup, tyD, dgName, dgNil, dgCons, dgTup, dAsg, dPar, dPar3, dFor, dLc, diTup, diLst, diR1, diR2, diEnT, diEnL, diStr, dCall, dMeth, dMake, dFld, sSetF, startD, dYes, dw, oEq, c]
      exact k _ _ ⟨hd4, ks, hkl, hks, rfl⟩
  rintro ds' M5 ⟨hd5, ks, hkl, hks, rfl⟩
  simp [and_assoc, strsOf_map, dVar, dC, dOp, dUn, dNil, dCons, dTup, dLst, dNew, dTest, dAnd, dOr, dNot, dAndV, dOrV, dNotV, dIf, dIsN, dNotN, isN, dChain, dCB, dNext, dSeq, dDrop, dRet, dRetN, dIfS, oI, oI0, oAdd, oC, oIx_tup, oIx_lst, oIx_h, oIx_str, oSl_tup, oSl_lst, oSl_scr, oSl_str, dSl, dNoP, dPart, cLen, cMin2, cInt, uNeg, uBits, uIs, fInt, fBool, fStr, fTup, tyD, dgName, dgNil, dgCons, dgTup, dAsg, dPar, dPar3, dFor, dLc, diTup, diLst, diR1, diR2, diEnT, diEnL, diStr, dCall, dMeth, dMake, dFld, sSetF, startD, dYes, dw]
  refine ⟨_, ks, rfl, by simp [oIx_tup, oIx_lst, oIx_h, oIx_str, itL], by omega, fun ys hp hs => ⟨_, rfl, .inl ⟨_, by simp [oIx_tup, oIx_lst, oIx_h, oIx_str, itL], h ys M5 (by rw [hp.length_eq]; exact hkl) (fun s hm => hks s (hp.mem_iff.mp hm)) (hd5.mono (by omega))⟩⟩⟩
structure GWay (ks : List Str) (x : Way) : Prop where
  kind : x.kind ∈ ks
  len : 1 ≤ x.parts.length ∧ x.parts.length ≤ 3
  parts : ∀ p ∈ x.parts, p.kind ∈ ks
  keeps : x.keeps = "oldest" ∨ x.keeps = "youngest"
  hours : x.hours.length ≤ 20
def spLWay : SpD := fun l M Q => ∃ (size : Int) (ks : List Str) (old : Int) (b : Nat) (R : S), l = [.h 1, .int size, kindsD ks, .int old] ∧ 0 < size ∧ size ≤ 20 ∧ 0 < ks.length ∧ ks.length ≤ 100 ∧ 0 ≤ old ∧ old ≤ 100 ∧ DB b R M ∧ b + 100 < 1000000 ∧
  ∀ (x : Way) M', GWay ks x → DB (b + 100) R M' → Q x.d M'
theorem sc_LWay : FnScope ["_law_drawn", "_law_size", "_law_kinds_here", "_law_old", "_law_parts", "_law_hours", "_law_keeps", "_law_k", "_law_place"] ["_law_drawn", "_law_size", "_law_kinds_here", "_law_old"] (defScope sLWay) := ⟨rfl, rfl, rfl, by decide +kernel, rfl, by decide +kernel, by decide +kernel⟩
theorem w_LWay {P : Program} {w : World} {K : PySem.W.Frag} {mg : Str → Option Value} {base : Heap} {CG CH : Addr} (T : Tx K w mg CG CH) : GD P w K mg base 4 "_law_way" spLWay := by
  obtain ⟨f, fd, hm, F⟩ := T.f_LWay
  refine ⟨f, hm, F.kp, okD (k := 3) F sc_LWay (F.bindsN fun _ _ _ _ _ _ us hl => match us, hl with | [_, _, _, _], _ => rfl)
    (fun cdv A outer s H E hr => (d_seq (d_set (i := 4) sc_LWay.nd rfl (Or.inl rfl) (d_tuple rfl T.n_tuple (d_pa_cons (d_lc (own := [("_law_k", 7)]) rfl sc_LWay.nd (di_r1 rfl T.n_range (d_pa_cons (d_ix (d_lst (d_pa_cons d_int (d_pa_cons d_int (d_pa_cons d_int (d_pa_cons d_int d_pa_nil))))) (d_call ((w_LNext T).mono (by decide)) hr rfl (d_pa_cons (d_var (i := 0) rfl (.inr (.inl rfl))) (d_pa_cons d_int d_pa_nil)))) d_pa_nil)) (blkOk_by (N := ["_law_drawn", "_law_size", "_law_kinds_here", "_law_old", "_law_parts", "_law_hours", "_law_keeps", "_law_k", "_law_place"]) (sc := defScope sLWay) (by decide +kernel)) (by decide) (fun _ _ _ _ _ => (dg_name (i := 7) sc_LWay.nd rfl (Or.inl rfl))) (fun _ _ _ _ _ => d_noif) (fun _ _ _ _ _ => (d_call ((w_LPart T).mono (by decide)) hr rfl (d_pa_cons (d_var (i := 0) rfl (.inr (.inl rfl))) (d_pa_cons (d_var (i := 2) rfl (.inr (.inl rfl))) (d_pa_cons (d_var (i := 3) rfl (.inr (.inl rfl))) d_pa_nil)))))) d_pa_nil)))
      (d_seq (d_set (i := 5) sc_LWay.nd rfl (Or.inl rfl) (d_tuple rfl T.n_tuple (d_pa_cons (d_lc (own := [("_law_place", 8)]) rfl sc_LWay.nd (di_r1 rfl T.n_range (d_pa_cons (d_var (i := 1) rfl (.inl rfl)) d_pa_nil)) (blkOk_by (N := ["_law_drawn", "_law_size", "_law_kinds_here", "_law_old", "_law_parts", "_law_hours", "_law_keeps", "_law_k", "_law_place"]) (sc := defScope sLWay) (by decide +kernel)) (by decide) (fun _ _ _ _ _ => (dg_name (i := 8) sc_LWay.nd rfl (Or.inl rfl))) (fun _ _ _ _ _ => (d_oneif (dt_gt (d_call ((w_LNext T).mono (by decide)) hr rfl (d_pa_cons (d_var (i := 0) rfl (.inr (.inl rfl))) (d_pa_cons d_int d_pa_nil))) d_int))) (fun _ _ _ _ _ => (d_var (i := 8) rfl (.inl rfl)))) d_pa_nil)))
      (d_seq (d_set (i := 6) sc_LWay.nd rfl (Or.inl rfl) (d_call ((w_LOne T).mono (by decide)) hr rfl (d_pa_cons (d_var (i := 0) rfl (.inr (.inl rfl))) (d_pa_cons (d_lst (d_pa_cons d_str (d_pa_cons d_str d_pa_nil))) d_pa_nil))))
      (d_single (d_ret (d_tup (d_pa_cons (d_call ((w_LOne T).mono (by decide)) hr rfl (d_pa_cons (d_var (i := 0) rfl (.inr (.inl rfl))) (d_pa_cons (d_var (i := 2) rfl (.inr (.inl rfl))) d_pa_nil))) (d_pa_cons (d_var (i := 4) rfl (.inl rfl)) (d_pa_cons (d_var (i := 6) rfl (.inl rfl)) (d_pa_cons (d_var (i := 5) rfl (.inl rfl)) (d_pa_cons (d_add d_int (d_call ((w_LNext T).mono (by decide)) hr rfl (d_pa_cons (d_var (i := 0) rfl (.inr (.inl rfl))) (d_pa_cons d_int d_pa_nil)))) d_pa_nil)))))))))))) (fun l M Qd h => ?_)⟩
  obtain ⟨size, ks, old, b, R, rfl, hs0, hs1, hk0, hk1, ho0, ho1, hd, hb, h⟩ := h
  refine ⟨rfl, ?_⟩
  refine seq_cut (fun ds' M' => DB (b + 31) R M' ∧ ∃ ps : List Prt, 1 ≤ ps.length ∧ ps.length ≤ 3 ∧ (∀ p ∈ ps, p.kind ∈ ks) ∧ ds' = [some (.h 1), some (.int size), some (kindsD ks), some (.int old), some (.tup (ps.map Prt.d)), none, none, none, none]) (fun N k => ?_) ?_
  · simp [and_assoc, strsOf_map, dVar, dC, dOp, dUn, dNil, dCons, dTup, dLst, dNew, dTest, dAnd, dOr, dNot, dAndV, dOrV, dNotV, dIf, dIsN, dNotN, isN, dChain, dCB, dNext, dSeq, dDrop, dRet, dRetN, dIfS, oI, oI0, oAdd, oC, oIx_tup, oIx_lst, oIx_h, oIx_str, oSl_tup, oSl_lst, oSl_scr, oSl_str, dSl, dNoP, dPart, cLen, cMin2, cInt, uNeg, uBits, uIs, fInt, fBool, fStr, fTup, tyD, dgName, dgNil, dgCons, dgTup, dAsg, dPar, dPar3, dFor, dLc, diTup, diLst, diR1, diR2, diEnT, diEnL, diStr, dCall, dMeth, dMake, dFld, sSetF, startD, dYes, dw, spLNext]
    refine ⟨_, _, hd, by omega, fun d M1 d0 d1 h1 => ?_⟩
    obtain ⟨v, hv, e⟩ := atI_lt (l := [D.int 1, D.int 2, D.int 2, D.int 3]) d0 (by simpa using d1)
    obtain ⟨n, rfl, n1, n3⟩ : ∃ n : Nat, v = .int (n : Int) ∧ 1 ≤ n ∧ n ≤ 3 := by
      simp at hv
      rcases hv with rfl | rfl | rfl
      · exact ⟨1, rfl, by omega, by omega⟩
      · exact ⟨2, rfl, by omega, by omega⟩
      · exact ⟨3, rfl, by omega, by omega⟩
    refine ⟨_, e, _, rfl, by omega, by omega, ?_⟩
    refine lc_rngD (lo := 0) (n := n) (fun i acc M' => DB (b + 1 + 10 * i) R M' ∧ ∃ ys : List Prt, acc = ys.map Prt.d ∧ ys.length = i ∧ ∀ s ∈ ys, s.kind ∈ ks) ⟨h1, [], rfl, rfl, by simp⟩ (fun i acc M' K hi ⟨hdb, ys, e, hl, hy⟩ k => ?_) (fun acc M' ⟨hdb, ys, e, hl, hy⟩ => ?_)
    · subst e
      refine ⟨trivial, by simp; omega, ?_⟩
      simp [and_assoc, strsOf_map, dVar, dC, dOp, dUn, dNil, dCons, dTup, dLst, dNew, dTest, dAnd, dOr, dNot, dAndV, dOrV, dNotV, dIf, dIsN, dNotN, isN, dChain, dCB, dNext, dSeq, dDrop, dRet, dRetN, dIfS, oI, oI0, oAdd, oC, oIx_tup, oIx_lst, oIx_h, oIx_str, oSl_tup, oSl_lst, oSl_scr, oSl_str, dSl, dNoP, dPart, cLen, cMin2, cInt, uNeg, uBits, uIs, fInt, fBool, fStr, fTup, tyD, dgName, dgNil, dgCons, dgTup, dAsg, dPar, dPar3, dFor, dLc, diTup, diLst, diR1, diR2, diEnT, diEnL, diStr, dCall, dMeth, dMake, dFld, sSetF, startD, dYes, dw]
      refine ⟨ks, old, _, R, rfl, hk0, hk1, ho0, ho1, hdb, by omega, fun p M2 hp h2 => k _ _ ⟨h2.mono (by omega), ys ++ [p], by simp, by simp [oIx_tup, oIx_lst, oIx_h, oIx_str, hl], fun s hs => ?_⟩⟩
      rcases List.mem_append.mp hs with hs | hs
      · exact hy s hs
      · rw [List.mem_singleton.mp hs]; exact hp
    · subst e
      exact ⟨trivial, _, rfl, .inl ⟨_, rfl, k _ _ ⟨hdb.mono (by omega), ys, by omega, by omega, hy, rfl⟩⟩⟩
  rintro ds' M1 ⟨hd1, ps, p1, p3, hps, rfl⟩
  refine seq_cut (fun ds' M' => DB (b + 60) R M' ∧ ∃ hs : List Int, hs.length ≤ 20 ∧ ds' = [some (.h 1), some (.int size), some (kindsD ks), some (.int old), some (.tup (ps.map Prt.d)), some (.tup (hs.map .int)), none, none, none]) (fun N k => ?_) ?_
  · simp [and_assoc, strsOf_map, dVar, dC, dOp, dUn, dNil, dCons, dTup, dLst, dNew, dTest, dAnd, dOr, dNot, dAndV, dOrV, dNotV, dIf, dIsN, dNotN, isN, dChain, dCB, dNext, dSeq, dDrop, dRet, dRetN, dIfS, oI, oI0, oAdd, oC, oIx_tup, oIx_lst, oIx_h, oIx_str, oSl_tup, oSl_lst, oSl_scr, oSl_str, dSl, dNoP, dPart, cLen, cMin2, cInt, uNeg, uBits, uIs, fInt, fBool, fStr, fTup, tyD, dgName, dgNil, dgCons, dgTup, dAsg, dPar, dPar3, dFor, dLc, diTup, diLst, diR1, diR2, diEnT, diEnL, diStr, dCall, dMeth, dMake, dFld, sSetF, startD, dYes, dw]
    refine ⟨by omega, by omega, ?_⟩
    refine lc_rngD (lo := 0) (n := size.toNat) (fun i acc M' => DB (b + 31 + i) R M' ∧ ∃ ys : List Int, acc = ys.map .int ∧ ys.length ≤ i) ⟨hd1, [], rfl, Nat.le_refl _⟩ (fun i acc M' K hi ⟨hdb, ys, e, hl⟩ k => ?_) (fun acc M' ⟨hdb, ys, e, hl⟩ => ?_)
    · subst e
      refine ⟨trivial, by simp; omega, ?_⟩
      simp [and_assoc, strsOf_map, dVar, dC, dOp, dUn, dNil, dCons, dTup, dLst, dNew, dTest, dAnd, dOr, dNot, dAndV, dOrV, dNotV, dIf, dIsN, dNotN, isN, dChain, dCB, dNext, dSeq, dDrop, dRet, dRetN, dIfS, oI, oI0, oAdd, oC, oIx_tup, oIx_lst, oIx_h, oIx_str, oSl_tup, oSl_lst, oSl_scr, oSl_str, dSl, dNoP, dPart, cLen, cMin2, cInt, uNeg, uBits, uIs, fInt, fBool, fStr, fTup, tyD, dgName, dgNil, dgCons, dgTup, dAsg, dPar, dPar3, dFor, dLc, diTup, diLst, diR1, diR2, diEnT, diEnL, diStr, dCall, dMeth, dMake, dFld, sSetF, startD, dYes, dw, spLNext]
      refine ⟨_, _, hdb, by omega, fun d M2 d0 d1 h2 => ?_⟩
      by_cases c : 0 < d
      · simp [oIx_tup, oIx_lst, oIx_h, oIx_str, c]
        exact .inr (k (ys.map D.int ++ [.int (i : Int)]) _ ⟨h2, ys ++ [(i : Int)], by simp, by simp; omega⟩)
      · simp [oIx_tup, oIx_lst, oIx_h, oIx_str, c]
        exact ⟨by omega, k _ _ ⟨h2, ys, rfl, by omega⟩⟩
    · subst e
      exact ⟨trivial, _, rfl, .inl ⟨_, rfl, k _ _ ⟨hdb.mono (by omega), ys, by omega, rfl⟩⟩⟩
  rintro ds' M2 ⟨hd2, hs, hhs, rfl⟩
  refine seq_cut (fun ds' M' => DB (b + 61) R M' ∧ ∃ z : Str, (z = "oldest" ∨ z = "youngest") ∧ ds' = [some (.h 1), some (.int size), some (kindsD ks), some (.int old), some (.tup (ps.map Prt.d)), some (.tup (hs.map .int)), some (.str z), none, none]) (fun N k => ?_) ?_
  · simp [and_assoc, strsOf_map, dVar, dC, dOp, dUn, dNil, dCons, dTup, dLst, dNew, dTest, dAnd, dOr, dNot, dAndV, dOrV, dNotV, dIf, dIsN, dNotN, isN, dChain, dCB, dNext, dSeq, dDrop, dRet, dRetN, dIfS, oI, oI0, oAdd, oC, oIx_tup, oIx_lst, oIx_h, oIx_str, oSl_tup, oSl_lst, oSl_scr, oSl_str, dSl, dNoP, dPart, cLen, cMin2, cInt, uNeg, uBits, uIs, fInt, fBool, fStr, fTup, tyD, dgName, dgNil, dgCons, dgTup, dAsg, dPar, dPar3, dFor, dLc, diTup, diLst, diR1, diR2, diEnT, diEnL, diStr, dCall, dMeth, dMake, dFld, sSetF, startD, dYes, dw, spLOne]
    exact ⟨_, _, hd2, by omega, fun M3 h3 => k _ _ ⟨h3, _, .inl rfl, rfl⟩, fun M3 h3 => k _ _ ⟨h3, _, .inr rfl, rfl⟩⟩
  rintro ds' M3 ⟨hd3, z, hz, rfl⟩
  simp [and_assoc, strsOf_map, dVar, dC, dOp, dUn, dNil, dCons, dTup, dLst, dNew, dTest, dAnd, dOr, dNot, dAndV, dOrV, dNotV, dIf, dIsN, dNotN, isN, dChain, dCB, dNext, dSeq, dDrop, dRet, dRetN, dIfS, oI, oI0, oAdd, oC, oIx_tup, oIx_lst, oIx_h, oIx_str, oSl_tup, oSl_lst, oSl_scr, oSl_str, dSl, dNoP, dPart, cLen, cMin2, cInt, uNeg, uBits, uIs, fInt, fBool, fStr, fTup, tyD, dgName, dgNil, dgCons, dgTup, dAsg, dPar, dPar3, dFor, dLc, diTup, diLst, diR1, diR2, diEnT, diEnL, diStr, dCall, dMeth, dMake, dFld, sSetF, startD, dYes, dw, spLNext, spLOne]
  refine ⟨_, _, hd3, by omega, .inr ⟨ks.map .str, .inl rfl, by simpa using hk0, by simpa using hk1, fun d hm M3 h3 => ?_⟩⟩
  obtain ⟨s, hsk, rfl⟩ := List.mem_map.mp hm
  exact ⟨_, _, h3, by omega, fun d4 M4 e0 e1 h4 => h ⟨s, ps, z, hs, 1 + d4⟩ M4 ⟨hsk, ⟨p1, p3⟩, hps, hz, hhs⟩ (h4.mono (by omega))⟩
structure GWld (w : Wld) : Prop where
  size : 1 ≤ w.size ∧ w.size ≤ 6
  klen : 1 ≤ w.kinds.length ∧ w.kinds.length ≤ 4
  kinds : ∀ s ∈ w.kinds, strG s
  slen : w.srcs.length ≤ 6
  srcs : ∀ s ∈ w.srcs, s.kind ∈ w.kinds
  wlen : 1 ≤ w.ways.length ∧ w.ways.length ≤ 8
  ways : ∀ s ∈ w.ways, GWay w.kinds s
def spLWorld : SpD := fun l M Q => ∃ (b : Nat) (R : S), l = [.h 1, .int 6, .int 9] ∧ DB b R M ∧ b + 1500 < 1000000 ∧ ∀ (w : Wld) M', GWld w → DB (b + 1500) R M' → Q w.d M'
theorem sc_LWorld : FnScope ["_law_drawn", "_law_wide", "_law_old", "_law_size", "_law_kinds_here", "_law_many", "_law_sources", "_law_ways", "_law_k"] ["_law_drawn", "_law_wide", "_law_old"] (defScope sLWorld) := ⟨rfl, rfl, rfl, by decide +kernel, rfl, by decide +kernel, by decide +kernel⟩
theorem w_LWorld {P : Program} {w : World} {K : PySem.W.Frag} {mg : Str → Option Value} {base : Heap} {CG CH : Addr} (T : Tx K w mg CG CH) : GD P w K mg base 5 "_law_world" spLWorld := by
  obtain ⟨f, fd, hm, F⟩ := T.f_LWorld
  refine ⟨f, hm, F.kp, okD (k := 4) F sc_LWorld (F.bindsN fun _ _ _ _ _ _ us hl => match us, hl with | [_, _, _], _ => rfl)
    (fun cdv A outer s H E hr => (d_seq (d_set (i := 3) sc_LWorld.nd rfl (Or.inr rfl) (d_add d_int (d_call ((w_LNext T).mono (by decide)) hr rfl (d_pa_cons (d_var (i := 0) rfl (.inr (.inl rfl))) (d_pa_cons (d_var (i := 1) rfl (.inl rfl)) d_pa_nil)))))
      (d_seq (d_set (i := 4) sc_LWorld.nd rfl (Or.inr rfl) (d_call ((w_LKinds T).mono (by decide)) hr rfl (d_pa_cons (d_var (i := 0) rfl (.inr (.inl rfl))) (d_pa_cons (d_add d_int (d_call ((w_LNext T).mono (by decide)) hr rfl (d_pa_cons (d_var (i := 0) rfl (.inr (.inl rfl))) (d_pa_cons d_int d_pa_nil)))) d_pa_nil))))
      (d_seq (d_set (i := 5) sc_LWorld.nd rfl (Or.inl rfl) (d_ix (d_lst (d_pa_cons d_int (d_pa_cons d_int (d_pa_cons d_int (d_pa_cons d_int (d_pa_cons d_int (d_pa_cons d_int d_pa_nil))))))) (d_call ((w_LNext T).mono (by decide)) hr rfl (d_pa_cons (d_var (i := 0) rfl (.inr (.inl rfl))) (d_pa_cons d_int d_pa_nil)))))
      (d_seq (d_set (i := 6) sc_LWorld.nd rfl (Or.inl rfl) (d_tuple rfl T.n_tuple (d_pa_cons (d_lc (own := [("_law_k", 8)]) rfl sc_LWorld.nd (di_r1 rfl T.n_range (d_pa_cons (d_var (i := 5) rfl (.inl rfl)) d_pa_nil)) (blkOk_by (N := ["_law_drawn", "_law_wide", "_law_old", "_law_size", "_law_kinds_here", "_law_many", "_law_sources", "_law_ways", "_law_k"]) (sc := defScope sLWorld) (by decide +kernel)) (by decide) (fun _ _ _ _ _ => (dg_name (i := 8) sc_LWorld.nd rfl (Or.inl rfl))) (fun _ _ _ _ _ => d_noif) (fun _ _ _ _ _ => (d_call ((w_LSource T).mono (by decide)) hr rfl (d_pa_cons (d_var (i := 0) rfl (.inr (.inl rfl))) (d_pa_cons (d_var (i := 3) rfl (.inr (.inl rfl))) (d_pa_cons (d_var (i := 4) rfl (.inr (.inl rfl))) (d_pa_cons (d_var (i := 2) rfl (.inr (.inl rfl))) d_pa_nil))))))) d_pa_nil)))
      (d_seq (d_set (i := 5) sc_LWorld.nd rfl (Or.inl rfl) (d_ix (d_lst (d_pa_cons d_int (d_pa_cons d_int (d_pa_cons d_int (d_pa_cons d_int (d_pa_cons d_int (d_pa_cons d_int d_pa_nil))))))) (d_call ((w_LNext T).mono (by decide)) hr rfl (d_pa_cons (d_var (i := 0) rfl (.inr (.inl rfl))) (d_pa_cons d_int d_pa_nil)))))
      (d_seq (d_set (i := 7) sc_LWorld.nd rfl (Or.inl rfl) (d_tuple rfl T.n_tuple (d_pa_cons (d_lc (own := [("_law_k", 8)]) rfl sc_LWorld.nd (di_r1 rfl T.n_range (d_pa_cons (d_var (i := 5) rfl (.inl rfl)) d_pa_nil)) (blkOk_by (N := ["_law_drawn", "_law_wide", "_law_old", "_law_size", "_law_kinds_here", "_law_many", "_law_sources", "_law_ways", "_law_k"]) (sc := defScope sLWorld) (by decide +kernel)) (by decide) (fun _ _ _ _ _ => (dg_name (i := 8) sc_LWorld.nd rfl (Or.inl rfl))) (fun _ _ _ _ _ => d_noif) (fun _ _ _ _ _ => (d_call ((w_LWay T).mono (by decide)) hr rfl (d_pa_cons (d_var (i := 0) rfl (.inr (.inl rfl))) (d_pa_cons (d_var (i := 3) rfl (.inr (.inl rfl))) (d_pa_cons (d_var (i := 4) rfl (.inr (.inl rfl))) (d_pa_cons (d_var (i := 2) rfl (.inr (.inl rfl))) d_pa_nil))))))) d_pa_nil)))
      (d_single (d_ret (d_tup (d_pa_cons (d_var (i := 3) rfl (.inr (.inl rfl))) (d_pa_cons (d_var (i := 4) rfl (.inr (.inl rfl))) (d_pa_cons (d_var (i := 6) rfl (.inl rfl)) (d_pa_cons (d_var (i := 7) rfl (.inl rfl)) d_pa_nil)))))))))))))) (fun l M Qd h => ?_)⟩
  obtain ⟨b, R, rfl, hd, hb, h⟩ := h
  refine ⟨rfl, ?_⟩
  refine seq_cut (fun ds' M' => DB (b + 1) R M' ∧ ∃ size : Int, 1 ≤ size ∧ size ≤ 6 ∧ ds' = [some (.h 1), some (.int 6), some (.int 9), some (.int size), none, none, none, none, none]) (fun N k => ?_) ?_
  · simp [and_assoc, strsOf_map, dVar, dC, dOp, dUn, dNil, dCons, dTup, dLst, dNew, dTest, dAnd, dOr, dNot, dAndV, dOrV, dNotV, dIf, dIsN, dNotN, isN, dChain, dCB, dNext, dSeq, dDrop, dRet, dRetN, dIfS, oI, oI0, oAdd, oC, oIx_tup, oIx_lst, oIx_h, oIx_str, oSl_tup, oSl_lst, oSl_scr, oSl_str, dSl, dNoP, dPart, cLen, cMin2, cInt, uNeg, uBits, uIs, fInt, fBool, fStr, fTup, tyD, dgName, dgNil, dgCons, dgTup, dAsg, dPar, dPar3, dFor, dLc, diTup, diLst, diR1, diR2, diEnT, diEnL, diStr, dCall, dMeth, dMake, dFld, sSetF, startD, dYes, dw, spLNext]
    exact ⟨_, _, hd, by omega, fun d M1 d0 d1 h1 => k _ _ ⟨h1, _, by omega, by omega, rfl⟩⟩
  rintro ds' M1 ⟨hd1, size, z1, z2, rfl⟩
  refine seq_cut (fun ds' M' => DB (b + 22) R M' ∧ ∃ ks : List Str, 1 ≤ ks.length ∧ ks.length ≤ 4 ∧ (∀ s ∈ ks, strG s) ∧ ds' = [some (.h 1), some (.int 6), some (.int 9), some (.int size), some (kindsD ks), none, none, none, none]) (fun N k => ?_) ?_
  · simp [and_assoc, strsOf_map, dVar, dC, dOp, dUn, dNil, dCons, dTup, dLst, dNew, dTest, dAnd, dOr, dNot, dAndV, dOrV, dNotV, dIf, dIsN, dNotN, isN, dChain, dCB, dNext, dSeq, dDrop, dRet, dRetN, dIfS, oI, oI0, oAdd, oC, oIx_tup, oIx_lst, oIx_h, oIx_str, oSl_tup, oSl_lst, oSl_scr, oSl_str, dSl, dNoP, dPart, cLen, cMin2, cInt, uNeg, uBits, uIs, fInt, fBool, fStr, fTup, tyD, dgName, dgNil, dgCons, dgTup, dAsg, dPar, dPar3, dFor, dLc, diTup, diLst, diR1, diR2, diEnT, diEnL, diStr, dCall, dMeth, dMake, dFld, sSetF, startD, dYes, dw, spLNext, spLKinds]
    refine ⟨_, _, hd1, by omega, fun d M1 d0 d1 h1 => ?_⟩
    obtain ⟨i, rfl⟩ := Int.eq_ofNat_of_zero_le d0
    exact ⟨i + 1, by simp; omega, by omega, by omega, b + 1 + 1, R, h1, by omega, fun ks M2 hl hk h2 => k _ _ ⟨h2.mono (by omega), ks, by omega, by omega, hk, rfl⟩⟩
  rintro ds' M2 ⟨hd2, ks, k1, k4, hks, rfl⟩
  refine seq_cut (fun ds' M' => DB (b + 23) R M' ∧ ∃ n : Nat, n ≤ 6 ∧ ds' = [some (.h 1), some (.int 6), some (.int 9), some (.int size), some (kindsD ks), some (.int (n : Int)), none, none, none]) (fun N k => ?_) ?_
  · simp [and_assoc, strsOf_map, dVar, dC, dOp, dUn, dNil, dCons, dTup, dLst, dNew, dTest, dAnd, dOr, dNot, dAndV, dOrV, dNotV, dIf, dIsN, dNotN, isN, dChain, dCB, dNext, dSeq, dDrop, dRet, dRetN, dIfS, oI, oI0, oAdd, oC, oIx_tup, oIx_lst, oIx_h, oIx_str, oSl_tup, oSl_lst, oSl_scr, oSl_str, dSl, dNoP, dPart, cLen, cMin2, cInt, uNeg, uBits, uIs, fInt, fBool, fStr, fTup, tyD, dgName, dgNil, dgCons, dgTup, dAsg, dPar, dPar3, dFor, dLc, diTup, diLst, diR1, diR2, diEnT, diEnL, diStr, dCall, dMeth, dMake, dFld, sSetF, startD, dYes, dw, spLNext]
    refine ⟨_, _, hd2, by omega, fun d M1 d0 d1 h1 => ?_⟩
    obtain ⟨v, hv, e⟩ := atI_lt (l := [D.int 1, D.int 1, D.int 2, D.int 3, D.int 6, D.int 0]) d0 (by simpa using d1)
    refine ⟨_, e, ?_⟩
    simp at hv
    rcases hv with rfl | rfl | rfl | rfl | rfl
    · exact k _ _ ⟨h1, 1, by omega, rfl⟩
    · exact k _ _ ⟨h1, 2, by omega, rfl⟩
    · exact k _ _ ⟨h1, 3, by omega, rfl⟩
    · exact k _ _ ⟨h1, 6, by omega, rfl⟩
    · exact k _ _ ⟨h1, 0, by omega, rfl⟩
  rintro ds' M3 ⟨hd3, n, hn, rfl⟩
  refine seq_cut (fun ds' M' => DB (b + 200) R M' ∧ ∃ ss : List Src, ss.length ≤ 6 ∧ (∀ s ∈ ss, s.kind ∈ ks) ∧ ds' = [some (.h 1), some (.int 6), some (.int 9), some (.int size), some (kindsD ks), some (.int (n : Int)), some (.tup (ss.map Src.d)), none, none]) (fun N k => ?_) ?_
  · simp [and_assoc, strsOf_map, dVar, dC, dOp, dUn, dNil, dCons, dTup, dLst, dNew, dTest, dAnd, dOr, dNot, dAndV, dOrV, dNotV, dIf, dIsN, dNotN, isN, dChain, dCB, dNext, dSeq, dDrop, dRet, dRetN, dIfS, oI, oI0, oAdd, oC, oIx_tup, oIx_lst, oIx_h, oIx_str, oSl_tup, oSl_lst, oSl_scr, oSl_str, dSl, dNoP, dPart, cLen, cMin2, cInt, uNeg, uBits, uIs, fInt, fBool, fStr, fTup, tyD, dgName, dgNil, dgCons, dgTup, dAsg, dPar, dPar3, dFor, dLc, diTup, diLst, diR1, diR2, diEnT, diEnL, diStr, dCall, dMeth, dMake, dFld, sSetF, startD, dYes, dw]
    refine ⟨by omega, ?_⟩
    refine lc_rngD (lo := 0) (n := n) (fun i acc M' => DB (b + 23 + 20 * i) R M' ∧ ∃ ys : List Src, acc = ys.map Src.d ∧ ys.length = i ∧ ∀ s ∈ ys, s.kind ∈ ks) ⟨hd3, [], rfl, rfl, by simp⟩ (fun i acc M' K hi ⟨hdb, ys, e, hl, hy⟩ k => ?_) (fun acc M' ⟨hdb, ys, e, hl, hy⟩ => ?_)
    · subst e
      refine ⟨trivial, by simp; omega, ?_⟩
      simp [and_assoc, strsOf_map, dVar, dC, dOp, dUn, dNil, dCons, dTup, dLst, dNew, dTest, dAnd, dOr, dNot, dAndV, dOrV, dNotV, dIf, dIsN, dNotN, isN, dChain, dCB, dNext, dSeq, dDrop, dRet, dRetN, dIfS, oI, oI0, oAdd, oC, oIx_tup, oIx_lst, oIx_h, oIx_str, oSl_tup, oSl_lst, oSl_scr, oSl_str, dSl, dNoP, dPart, cLen, cMin2, cInt, uNeg, uBits, uIs, fInt, fBool, fStr, fTup, tyD, dgName, dgNil, dgCons, dgTup, dAsg, dPar, dPar3, dFor, dLc, diTup, diLst, diR1, diR2, diEnT, diEnL, diStr, dCall, dMeth, dMake, dFld, sSetF, startD, dYes, dw]
      refine ⟨size, ks, 9, _, R, rfl, by omega, by omega, by omega, by omega, by omega, by omega, hdb, by omega, fun p M2 hp h2 => k _ _ ⟨h2.mono (by omega), ys ++ [p], by simp, by simp [oIx_tup, oIx_lst, oIx_h, oIx_str, hl], fun s hs => ?_⟩⟩
      rcases List.mem_append.mp hs with hs | hs
      · exact hy s hs
      · rw [List.mem_singleton.mp hs]; exact hp
    · subst e
      exact ⟨trivial, _, rfl, .inl ⟨_, rfl, k _ _ ⟨hdb.mono (by omega), ys, by omega, hy, rfl⟩⟩⟩
  rintro ds' M4 ⟨hd4, ss, hsl, hss, rfl⟩
  refine seq_cut (fun ds' M' => DB (b + 201) R M' ∧ ∃ n : Nat, 1 ≤ n ∧ n ≤ 8 ∧ ds' = [some (.h 1), some (.int 6), some (.int 9), some (.int size), some (kindsD ks), some (.int (n : Int)), some (.tup (ss.map Src.d)), none, none]) (fun N k => ?_) ?_
  · simp [and_assoc, strsOf_map, dVar, dC, dOp, dUn, dNil, dCons, dTup, dLst, dNew, dTest, dAnd, dOr, dNot, dAndV, dOrV, dNotV, dIf, dIsN, dNotN, isN, dChain, dCB, dNext, dSeq, dDrop, dRet, dRetN, dIfS, oI, oI0, oAdd, oC, oIx_tup, oIx_lst, oIx_h, oIx_str, oSl_tup, oSl_lst, oSl_scr, oSl_str, dSl, dNoP, dPart, cLen, cMin2, cInt, uNeg, uBits, uIs, fInt, fBool, fStr, fTup, tyD, dgName, dgNil, dgCons, dgTup, dAsg, dPar, dPar3, dFor, dLc, diTup, diLst, diR1, diR2, diEnT, diEnL, diStr, dCall, dMeth, dMake, dFld, sSetF, startD, dYes, dw, spLNext]
    refine ⟨_, _, hd4, by omega, fun d M1 d0 d1 h1 => ?_⟩
    obtain ⟨v, hv, e⟩ := atI_lt (l := [D.int 1, D.int 2, D.int 2, D.int 3, D.int 5, D.int 8]) d0 (by simpa using d1)
    refine ⟨_, e, ?_⟩
    simp at hv
    rcases hv with rfl | rfl | rfl | rfl | rfl
    · exact k _ _ ⟨h1, 1, by omega, by omega, rfl⟩
    · exact k _ _ ⟨h1, 2, by omega, by omega, rfl⟩
    · exact k _ _ ⟨h1, 3, by omega, by omega, rfl⟩
    · exact k _ _ ⟨h1, 5, by omega, by omega, rfl⟩
    · exact k _ _ ⟨h1, 8, by omega, by omega, rfl⟩
  rintro ds' M5 ⟨hd5, n, hn1, hn8, rfl⟩
  refine seq_cut (fun ds' M' => DB (b + 1100) R M' ∧ ∃ ws : List Way, ws.length = n ∧ (∀ s ∈ ws, GWay ks s) ∧ ds' = [some (.h 1), some (.int 6), some (.int 9), some (.int size), some (kindsD ks), some (.int (n : Int)), some (.tup (ss.map Src.d)), some (.tup (ws.map Way.d)), none]) (fun N k => ?_) ?_
  · simp [and_assoc, strsOf_map, dVar, dC, dOp, dUn, dNil, dCons, dTup, dLst, dNew, dTest, dAnd, dOr, dNot, dAndV, dOrV, dNotV, dIf, dIsN, dNotN, isN, dChain, dCB, dNext, dSeq, dDrop, dRet, dRetN, dIfS, oI, oI0, oAdd, oC, oIx_tup, oIx_lst, oIx_h, oIx_str, oSl_tup, oSl_lst, oSl_scr, oSl_str, dSl, dNoP, dPart, cLen, cMin2, cInt, uNeg, uBits, uIs, fInt, fBool, fStr, fTup, tyD, dgName, dgNil, dgCons, dgTup, dAsg, dPar, dPar3, dFor, dLc, diTup, diLst, diR1, diR2, diEnT, diEnL, diStr, dCall, dMeth, dMake, dFld, sSetF, startD, dYes, dw]
    refine ⟨by omega, ?_⟩
    refine lc_rngD (lo := 0) (n := n) (fun i acc M' => DB (b + 201 + 100 * i) R M' ∧ ∃ ys : List Way, acc = ys.map Way.d ∧ ys.length = i ∧ ∀ s ∈ ys, GWay ks s) ⟨hd5, [], rfl, rfl, by simp⟩ (fun i acc M' K hi ⟨hdb, ys, e, hl, hy⟩ k => ?_) (fun acc M' ⟨hdb, ys, e, hl, hy⟩ => ?_)
    · subst e
      refine ⟨trivial, by simp; omega, ?_⟩
      simp [and_assoc, strsOf_map, dVar, dC, dOp, dUn, dNil, dCons, dTup, dLst, dNew, dTest, dAnd, dOr, dNot, dAndV, dOrV, dNotV, dIf, dIsN, dNotN, isN, dChain, dCB, dNext, dSeq, dDrop, dRet, dRetN, dIfS, oI, oI0, oAdd, oC, oIx_tup, oIx_lst, oIx_h, oIx_str, oSl_tup, oSl_lst, oSl_scr, oSl_str, dSl, dNoP, dPart, cLen, cMin2, cInt, uNeg, uBits, uIs, fInt, fBool, fStr, fTup, tyD, dgName, dgNil, dgCons, dgTup, dAsg, dPar, dPar3, dFor, dLc, diTup, diLst, diR1, diR2, diEnT, diEnL, diStr, dCall, dMeth, dMake, dFld, sSetF, startD, dYes, dw]
      refine ⟨size, ks, 9, _, R, rfl, by omega, by omega, by omega, by omega, by omega, by omega, hdb, by omega, fun p M2 hp h2 => k _ _ ⟨h2.mono (by omega), ys ++ [p], by simp, by simp [oIx_tup, oIx_lst, oIx_h, oIx_str, hl], fun s hs => ?_⟩⟩
      rcases List.mem_append.mp hs with hs | hs
      · exact hy s hs
      · rw [List.mem_singleton.mp hs]; exact hp
    · subst e
      exact ⟨trivial, _, rfl, .inl ⟨_, rfl, k _ _ ⟨hdb.mono (by omega), ys, hl, hy, rfl⟩⟩⟩
  rintro ds' M6 ⟨hd6, ws, hwl, hws, rfl⟩
  simp [and_assoc, strsOf_map, dVar, dC, dOp, dUn, dNil, dCons, dTup, dLst, dNew, dTest, dAnd, dOr, dNot, dAndV, dOrV, dNotV, dIf, dIsN, dNotN, isN, dChain, dCB, dNext, dSeq, dDrop, dRet, dRetN, dIfS, oI, oI0, oAdd, oC, oIx_tup, oIx_lst, oIx_h, oIx_str, oSl_tup, oSl_lst, oSl_scr, oSl_str, dSl, dNoP, dPart, cLen, cMin2, cInt, uNeg, uBits, uIs, fInt, fBool, fStr, fTup, tyD, dgName, dgNil, dgCons, dgTup, dAsg, dPar, dPar3, dFor, dLc, diTup, diLst, diR1, diR2, diEnT, diEnL, diStr, dCall, dMeth, dMake, dFld, sSetF, startD, dYes, dw]
  exact h ⟨size, ks, ss, ws⟩ M6 ⟨⟨z1, z2⟩, ⟨k1, k4⟩, hks, hsl, hss, ⟨by rw [hwl]; exact hn1, by rw [hwl]; exact hn8⟩, hws⟩ (hd6.mono (by omega))
end My

set_option Elab.async false
set_option linter.all false
set_option maxRecDepth 100000
set_option maxHeartbeats 4000000
namespace My
open PySem PySem.Spec PyProof.Rows L2
theorem DB.len {b : Nat} {R M : S} (h : DB b R M) : M.length = R.length + 2 := by
  obtain ⟨t, cs, rs, _, _, _, _, rfl⟩ := h
  rfl
theorem DB.new {b : Nat} {R M : S} (h : DB b R M) (o : O) : DB b (R ++ [o]) (M ++ [o]) := by
  obtain ⟨t, cs, rs, h1, h2, h3, h4, rfl⟩ := h
  exact ⟨t, cs, rs, h1, h2, h3, h4, rfl⟩
theorem DB.get {b : Nat} {R M : S} {o : O} (h : DB b (R ++ [o]) M) : M[R.length + 2]? = some o := by
  obtain ⟨t, cs, rs, h1, h2, h3, h4, rfl⟩ := h
  show (R ++ [o])[R.length]? = some o
  simp
theorem DB.set {b : Nat} {R M : S} {o o' : O} (h : DB b (R ++ [o]) M) : DB b (R ++ [o']) (M.set (R.length + 2) o') := by
  obtain ⟨t, cs, rs, h1, h2, h3, h4, rfl⟩ := h
  refine ⟨t, cs, rs, h1, h2, h3, h4, ?_⟩
  show _ :: _ :: (R ++ [o]).set R.length o' = _
  rw [set_last]
structure Gd (n : Nat) (d : D) : Prop where
  pl : plain d = true
  lay : PyData.canLay0 (py d) = true
  dep : PyData.depth (py d) ≤ n
theorem gd_int (i : Int) : Gd 0 (.int i) := ⟨rfl, rfl, by simp [oIx_tup, oIx_lst, oIx_h, oIx_str, py, PyData.depth]⟩
theorem gd_non : Gd 0 .non := ⟨rfl, rfl, by simp [oIx_tup, oIx_lst, oIx_h, oIx_str, py, PyData.depth]⟩
theorem strG_ok {s : Str} (h : strG s) : PyData.strOk s = true := by
  unfold PyData.strOk
  rw [← Array.all_toList, List.all_eq_true]
  intro c hc
  have hl : ∀ c ∈ letters.cps.toList, c < 1114112 := by decide
  exact decide_eq_true (hl c (h.2 c hc))
theorem gd_str {s : Str} (h : PyData.strOk s = true) : Gd 0 (.str s) := ⟨rfl, h, by simp [oIx_tup, oIx_lst, oIx_h, oIx_str, py, PyData.depth]⟩
theorem Gd.mono {m n : Nat} {d : D} (h : Gd m d) (l : m ≤ n) : Gd n d := ⟨h.pl, h.lay, Nat.le_trans h.dep l⟩
theorem gds {n : Nat} : ∀ l : List D, (∀ d ∈ l, Gd n d) → plains l = true ∧ PyData.canLayAll0 (pys l) = true ∧ PyData.depthAll (pys l) ≤ n
  | [], _ => ⟨rfl, rfl, Nat.zero_le _⟩
  | d :: l, h => by
    obtain ⟨h1, h2, h3⟩ := gds l fun x hx => h x (List.mem_cons_of_mem _ hx)
    have hd := h d List.mem_cons_self
    refine ⟨?_, ?_, ?_⟩
    · show (plain d && plains l) = true
      rw [hd.pl, h1]; rfl
    · show (PyData.canLay0 (py d) && PyData.canLayAll0 (pys l)) = true
      rw [hd.lay, h2]; rfl
    · show max (PyData.depth (py d)) (PyData.depthAll (pys l)) ≤ n
      exact Nat.max_le.mpr ⟨hd.dep, h3⟩
theorem gd_tup {n : Nat} {l : List D} (h : ∀ d ∈ l, Gd n d) : Gd (n + 1) (.tup l) := by
  obtain ⟨h1, h2, h3⟩ := gds l h
  exact ⟨h1, h2, by show PyData.depthAll (pys l) + 1 ≤ n + 1; omega⟩
theorem gd_lst {n : Nat} {l : List D} (h : ∀ d ∈ l, Gd n d) : Gd (n + 1) (.lst l) := by
  obtain ⟨h1, h2, h3⟩ := gds l h
  exact ⟨h1, h2, by show PyData.depthAll (pys l) + 1 ≤ n + 1; omega⟩
theorem Gd.sh {d : D} (h : Gd 64 d) : sh d = true := by
  unfold My.sh SeqAt.shaped
  rw [h.pl, h.lay, decide_eq_true h.dep]; rfl
theorem gd_src {s : Src} (h : strG s.kind) : Gd 1 s.d := gd_tup fun d hd => by
  simp at hd
  rcases hd with rfl | rfl | rfl | rfl | rfl
  · exact gd_str (strG_ok h)
  all_goals exact gd_int _
theorem gd_prt {s : Prt} (h : strG s.kind) : Gd 1 s.d := gd_tup fun d hd => by
  simp at hd
  rcases hd with rfl | rfl | rfl
  · exact gd_str (strG_ok h)
  all_goals exact gd_int _
theorem gd_map {α : Type} {f : α → D} {n : Nat} {l : List α} (h : ∀ a ∈ l, Gd n (f a)) : Gd (n + 1) (.tup (l.map f)) := gd_tup fun d hd => by
  obtain ⟨a, ha, rfl⟩ := List.mem_map.mp hd
  exact h a ha
theorem gd_way {s : Way} (h1 : strG s.kind) (h2 : ∀ p ∈ s.parts, strG p.kind) (h3 : s.keeps = "oldest" ∨ s.keeps = "youngest") : Gd 3 s.d := gd_tup fun d hd => by
  simp at hd
  rcases hd with rfl | rfl | rfl | rfl | rfl
  · exact (gd_str (strG_ok h1)).mono (by omega)
  · exact gd_map fun p hp => gd_prt (h2 p hp)
  · rcases h3 with e | e <;> rw [e]
    · exact (gd_str (by decide +kernel)).mono (by omega)
    · exact (gd_str (by decide +kernel)).mono (by omega)
  · exact (gd_map fun a _ => gd_int a).mono (by omega)
  · exact (gd_int _).mono (by omega)
theorem eq_nilT (l : List D) : PyData.eqv (py (.tup l)) (py (.tup [])) = l.isEmpty := by cases l <;> rfl
/-- a deed that is drawn for the world w; num: the number that hours and window share -/
def Cand (w : Wld) (num : Nat) : Deed → Prop
  | .bring s => s.kind ∈ w.kinds
  | .way x => GWay w.kinds x
  | .stop n => n < w.srcs.length
  | .shut n => n + 1 = w.ways.length
  | .hours n hs => n = num ∧ n < w.ways.length ∧ hs.length ≤ 20
  | .window n m _ _ => n = num ∧ n < w.ways.length ∧ ∃ x, w.ways[n]? = some x ∧ m < x.parts.length
def spLPair : SpD := fun l M Q => ∃ (w : Wld) (b : Nat) (R : S), l = [.h 1, w.d] ∧ GWld w ∧ DB b R M ∧ b + 500 < 1000000 ∧ ∀ (d1 d2 : Deed) (num : Nat) (o : O) M', Cand w num d1 → Cand w num d2 → d1.word ≠ d2.word → DB (b + 500) (R ++ [o]) M' → Q (.lst [d1.d, d2.d]) M'
theorem sc_LPair : FnScope ["_law_drawn", "_law_world_here", "_law_size", "_law_kinds_here", "_law_sources", "_law_ways", "_law_some", "_law_number", "_law_part_here", "_law_one_here", "_law_other", "_law_k"] ["_law_drawn", "_law_world_here"] (defScope sLPair) := ⟨rfl, rfl, rfl, by decide +kernel, rfl, by decide +kernel, by decide +kernel⟩
theorem w_LPair {P : Program} {w : World} {K : PySem.W.Frag} {mg : Str → Option Value} {base : Heap} {CG CH : Addr} (T : Tx K w mg CG CH) : GD P w K mg base 5 "_law_pair" spLPair := by
  obtain ⟨f, fd, hm, F⟩ := T.f_LPair
  refine ⟨f, hm, F.kp, okD (k := 4) F sc_LPair (F.bindsN fun _ _ _ _ _ _ us hl => match us, hl with | [_, _], _ => rfl)
    (fun cdv A outer s H E hr => (d_seq (d_asg (d_var (i := 1) rfl (.inl rfl)) (dg_tup (n := 4) rfl (dg_cons (dg_name (i := 2) sc_LPair.nd rfl (Or.inl rfl)) (dg_cons (dg_name (i := 3) sc_LPair.nd rfl (Or.inl rfl)) (dg_cons (dg_name (i := 4) sc_LPair.nd rfl (Or.inl rfl)) (dg_cons (dg_name (i := 5) sc_LPair.nd rfl (Or.inl rfl)) dg_nil))))))
      (d_seq (d_set (i := 6) sc_LPair.nd rfl (Or.inl rfl) (d_new (d_pa_cons (d_tup (d_pa_cons d_str (d_pa_cons (d_call ((w_LSource T).mono (by decide)) hr rfl (d_pa_cons (d_var (i := 0) rfl (.inr (.inl rfl))) (d_pa_cons (d_var (i := 2) rfl (.inl rfl)) (d_pa_cons (d_var (i := 3) rfl (.inl rfl)) (d_pa_cons d_int d_pa_nil))))) d_pa_nil))) d_pa_nil)))
      (d_seq (d_expr (d_app (d_var (i := 6) rfl (.inl rfl)) (d_tup (d_pa_cons d_str (d_pa_cons (d_call ((w_LWay T).mono (by decide)) hr rfl (d_pa_cons (d_var (i := 0) rfl (.inr (.inl rfl))) (d_pa_cons (d_var (i := 2) rfl (.inl rfl)) (d_pa_cons (d_var (i := 3) rfl (.inl rfl)) (d_pa_cons d_int d_pa_nil))))) d_pa_nil)))))
      (d_seq (d_if (dt_ne hr.units (d_var (i := 4) rfl (.inl rfl)) (d_tup d_pa_nil)) (d_single (d_expr (d_app (d_var (i := 6) rfl (.inl rfl)) (d_tup (d_pa_cons d_str (d_pa_cons (d_call ((w_LNext T).mono (by decide)) hr rfl (d_pa_cons (d_var (i := 0) rfl (.inr (.inl rfl))) (d_pa_cons (d_len rfl T.n_len (d_pa_cons (d_var (i := 4) rfl (.inl rfl)) d_pa_nil)) d_pa_nil))) d_pa_nil)))))) d_nil)
      (d_seq (d_if (dt_ne hr.units (d_var (i := 5) rfl (.inl rfl)) (d_tup d_pa_nil)) (d_seq (d_set (i := 7) sc_LPair.nd rfl (Or.inl rfl) (d_call ((w_LNext T).mono (by decide)) hr rfl (d_pa_cons (d_var (i := 0) rfl (.inr (.inl rfl))) (d_pa_cons (d_len rfl T.n_len (d_pa_cons (d_var (i := 5) rfl (.inl rfl)) d_pa_nil)) d_pa_nil))))
      (d_seq (d_expr (d_app (d_var (i := 6) rfl (.inl rfl)) (d_tup (d_pa_cons d_str (d_pa_cons (d_var (i := 7) rfl (.inl rfl)) (d_pa_cons (d_tuple rfl T.n_tuple (d_pa_cons (d_lc (own := [("_law_k", 11)]) rfl sc_LPair.nd (di_r1 rfl T.n_range (d_pa_cons (d_var (i := 2) rfl (.inl rfl)) d_pa_nil)) (blkOk_by (N := ["_law_drawn", "_law_world_here", "_law_size", "_law_kinds_here", "_law_sources", "_law_ways", "_law_some", "_law_number", "_law_part_here", "_law_one_here", "_law_other", "_law_k"]) (sc := defScope sLPair) (by decide +kernel)) (by decide) (fun _ _ _ _ _ => (dg_name (i := 11) sc_LPair.nd rfl (Or.inl rfl))) (fun _ _ _ _ _ => (d_oneif (dt_eq hr.units (d_call ((w_LNext T).mono (by decide)) hr rfl (d_pa_cons (d_var (i := 0) rfl (.inr (.inl rfl))) (d_pa_cons d_int d_pa_nil))) d_int))) (fun _ _ _ _ _ => (d_var (i := 11) rfl (.inl rfl)))) d_pa_nil)) d_pa_nil))))))
      (d_seq (d_set (i := 8) sc_LPair.nd rfl (Or.inl rfl) (d_call ((w_LPart T).mono (by decide)) hr rfl (d_pa_cons (d_var (i := 0) rfl (.inr (.inl rfl))) (d_pa_cons (d_var (i := 3) rfl (.inl rfl)) (d_pa_cons d_int d_pa_nil)))))
      (d_seq (d_expr (d_app (d_var (i := 6) rfl (.inl rfl)) (d_tup (d_pa_cons d_str (d_pa_cons (d_var (i := 7) rfl (.inl rfl)) (d_pa_cons (d_call ((w_LNext T).mono (by decide)) hr rfl (d_pa_cons (d_var (i := 0) rfl (.inr (.inl rfl))) (d_pa_cons (d_len rfl T.n_len (d_pa_cons (d_ix (d_ix (d_var (i := 5) rfl (.inl rfl)) (d_var (i := 7) rfl (.inl rfl))) d_int) d_pa_nil)) d_pa_nil))) (d_pa_cons (d_ix (d_var (i := 8) rfl (.inl rfl)) d_int) (d_pa_cons (d_ix (d_var (i := 8) rfl (.inl rfl)) d_int) d_pa_nil))))))))
      (d_single (d_expr (d_app (d_var (i := 6) rfl (.inl rfl)) (d_tup (d_pa_cons d_str (d_pa_cons (d_sub (d_len rfl T.n_len (d_pa_cons (d_var (i := 5) rfl (.inl rfl)) d_pa_nil)) d_int) d_pa_nil)))))))))) d_nil)
      (d_seq (d_set (i := 9) sc_LPair.nd rfl (Or.inl rfl) (d_call ((w_LNext T).mono (by decide)) hr rfl (d_pa_cons (d_var (i := 0) rfl (.inr (.inl rfl))) (d_pa_cons (d_len rfl T.n_len (d_pa_cons (d_var (i := 6) rfl (.inl rfl)) d_pa_nil)) d_pa_nil))))
      (d_seq (d_set (i := 10) sc_LPair.nd rfl (Or.inl rfl) (d_mod (d_add (d_add (d_var (i := 9) rfl (.inl rfl)) d_int) (d_call ((w_LNext T).mono (by decide)) hr rfl (d_pa_cons (d_var (i := 0) rfl (.inr (.inl rfl))) (d_pa_cons (d_sub (d_len rfl T.n_len (d_pa_cons (d_var (i := 6) rfl (.inl rfl)) d_pa_nil)) d_int) d_pa_nil)))) (d_len rfl T.n_len (d_pa_cons (d_var (i := 6) rfl (.inl rfl)) d_pa_nil))))
      (d_single (d_ret (d_lst (d_pa_cons (d_ix (d_var (i := 6) rfl (.inl rfl)) (d_var (i := 9) rfl (.inl rfl))) (d_pa_cons (d_ix (d_var (i := 6) rfl (.inl rfl)) (d_var (i := 10) rfl (.inl rfl))) d_pa_nil))))))))))))) (fun l M Qd h => ?_)⟩
  obtain ⟨w, b, R, rfl, gw, hd, hb, h⟩ := h
  refine ⟨rfl, ?_⟩
  refine seq_cut (fun ds' M' => M' = M ∧ ds' = [some (.h 1), some w.d, some (.int w.size), some (kindsD w.kinds), some (.tup (w.srcs.map Src.d)), some (.tup (w.ways.map Way.d)), none, none, none, none, none, none]) (fun N k => ?_) ?_
  · simp [and_assoc, strsOf_map, dVar, dC, dOp, dUn, dNil, dCons, dTup, dLst, dNew, dTest, dAnd, dOr, dNot, dAndV, dOrV, dNotV, dIf, dIsN, dNotN, isN, dChain, dCB, dNext, dSeq, dDrop, dRet, dRetN, dIfS, oI, oI0, oAdd, oC, oIx_tup, oIx_lst, oIx_h, oIx_str, oSl_tup, oSl_lst, oSl_scr, oSl_str, dSl, dNoP, dPart, cLen, cMin2, cInt, uNeg, uBits, uIs, fInt, fBool, fStr, fTup, tyD, dgName, dgNil, dgCons, dgTup, dAsg, dPar, dPar3, dFor, dLc, diTup, diLst, diR1, diR2, diEnT, diEnL, diStr, dCall, dMeth, dMake, dFld, sSetF, startD, dYes, dw, Wld.d]; exact k _ _ ⟨rfl, rfl⟩
  rintro ds' M ⟨rfl, rfl⟩
  obtain ⟨z1, z6⟩ := gw.size
  obtain ⟨k1, k4⟩ := gw.klen
  refine seq_cut (fun ds' M' => ∃ s : Src, s.kind ∈ w.kinds ∧ DB (b + 20) (R ++ [.lst [(Deed.bring s).d]]) M' ∧ ds' = [some (.h 1), some w.d, some (.int w.size), some (kindsD w.kinds), some (.tup (w.srcs.map Src.d)), some (.tup (w.ways.map Way.d)), some (.h (R.length + 2)), none, none, none, none, none]) (fun N k => ?_) ?_
  · simp [and_assoc, strsOf_map, dVar, dC, dOp, dUn, dNil, dCons, dTup, dLst, dNew, dTest, dAnd, dOr, dNot, dAndV, dOrV, dNotV, dIf, dIsN, dNotN, isN, dChain, dCB, dNext, dSeq, dDrop, dRet, dRetN, dIfS, oI, oI0, oAdd, oC, oIx_tup, oIx_lst, oIx_h, oIx_str, oSl_tup, oSl_lst, oSl_scr, oSl_str, dSl, dNoP, dPart, cLen, cMin2, cInt, uNeg, uBits, uIs, fInt, fBool, fStr, fTup, tyD, dgName, dgNil, dgCons, dgTup, dAsg, dPar, dPar3, dFor, dLc, diTup, diLst, diR1, diR2, diEnT, diEnL, diStr, dCall, dMeth, dMake, dFld, sSetF, startD, dYes, dw]
    refine ⟨w.size, w.kinds, 9, b, R, rfl, by omega, by omega, by omega, by omega, by omega, by omega, hd, by omega, fun s M1 hs h1 => ?_⟩
    show N [_, _, _, _, _, _, some (D.h (List.length M1)), _, _, _, _, _] _
    rw [h1.len]
    exact k _ _ ⟨s, hs, h1.new _, rfl⟩
  rintro ds' M1 ⟨s, hs, hd1, rfl⟩
  refine seq_cut (fun ds' M' => ∃ x : Way, GWay w.kinds x ∧ DB (b + 120) (R ++ [.lst [(Deed.bring s).d, (Deed.way x).d]]) M' ∧ ds' = [some (.h 1), some w.d, some (.int w.size), some (kindsD w.kinds), some (.tup (w.srcs.map Src.d)), some (.tup (w.ways.map Way.d)), some (.h (R.length + 2)), none, none, none, none, none]) (fun N k => ?_) ?_
  · simp [and_assoc, strsOf_map, dVar, dC, dOp, dUn, dNil, dCons, dTup, dLst, dNew, dTest, dAnd, dOr, dNot, dAndV, dOrV, dNotV, dIf, dIsN, dNotN, isN, dChain, dCB, dNext, dSeq, dDrop, dRet, dRetN, dIfS, oI, oI0, oAdd, oC, oIx_tup, oIx_lst, oIx_h, oIx_str, oSl_tup, oSl_lst, oSl_scr, oSl_str, dSl, dNoP, dPart, cLen, cMin2, cInt, uNeg, uBits, uIs, fInt, fBool, fStr, fTup, tyD, dgName, dgNil, dgCons, dgTup, dAsg, dPar, dPar3, dFor, dLc, diTup, diLst, diR1, diR2, diEnT, diEnL, diStr, dCall, dMeth, dMake, dFld, sSetF, startD, dYes, dw, dApp, hd1.get]
    refine ⟨w.size, w.kinds, 9, b + 20, _, rfl, by omega, by omega, by omega, by omega, by omega, by omega, hd1, by omega, fun x M2 hx h2 => ?_⟩
    refine ⟨_, h2.get, by simp, k _ _ ⟨x, hx, h2.set, rfl⟩⟩
  rintro ds' M2 ⟨x, hx, hd2, rfl⟩
  have shs : sh (.tup (w.srcs.map Src.d)) = true := ((gd_map fun a ha => gd_src (gw.kinds _ (gw.srcs a ha))).mono (by omega)).sh
  have shw : sh (.tup (w.ways.map Way.d)) = true := ((gd_map fun a ha => gd_way (gw.kinds _ (gw.ways a ha).kind) (fun p hp => gw.kinds _ ((gw.ways a ha).parts p hp)) (gw.ways a ha).keeps).mono (by omega)).sh
  have sh0 : sh (.tup []) = true := by decide +kernel
  refine seq_cut (fun ds' M' => ∃ pre : List Deed, (pre = [.bring s, .way x] ∨ ∃ n, n < w.srcs.length ∧ pre = [.bring s, .way x, .stop n]) ∧ DB (b + 121) (R ++ [.lst (pre.map Deed.d)]) M' ∧ ds' = [some (.h 1), some w.d, some (.int w.size), some (kindsD w.kinds), some (.tup (w.srcs.map Src.d)), some (.tup (w.ways.map Way.d)), some (.h (R.length + 2)), none, none, none, none, none]) (fun N k => ?_) ?_
  · by_cases c : w.srcs = []
    · simp [and_assoc, strsOf_map, dVar, dC, dOp, dUn, dNil, dCons, dTup, dLst, dNew, dTest, dAnd, dOr, dNot, dAndV, dOrV, dNotV, dIf, dIsN, dNotN, isN, dChain, dCB, dNext, dSeq, dDrop, dRet, dRetN, dIfS, oI, oI0, oAdd, oC, oIx_tup, oIx_lst, oIx_h, oIx_str, oSl_tup, oSl_lst, oSl_scr, oSl_str, dSl, dNoP, dPart, cLen, cMin2, cInt, uNeg, uBits, uIs, fInt, fBool, fStr, fTup, tyD, dgName, dgNil, dgCons, dgTup, dAsg, dPar, dPar3, dFor, dLc, diTup, diLst, diR1, diR2, diEnT, diEnL, diStr, dCall, dMeth, dMake, dFld, sSetF, startD, dYes, dw, oNe, oEqG, shs, sh0, eq_nilT, c]
      exact k _ _ ⟨_, .inl rfl, hd2.mono (by omega), by rw [c]; rfl⟩
    · have c0 : 0 < w.srcs.length := by
        cases e : w.srcs with
        | nil => exact absurd e c
        | cons a l => simp
      have c6 := gw.slen
      simp [and_assoc, strsOf_map, dVar, dC, dOp, dUn, dNil, dCons, dTup, dLst, dNew, dTest, dAnd, dOr, dNot, dAndV, dOrV, dNotV, dIf, dIsN, dNotN, isN, dChain, dCB, dNext, dSeq, dDrop, dRet, dRetN, dIfS, oI, oI0, oAdd, oC, oIx_tup, oIx_lst, oIx_h, oIx_str, oSl_tup, oSl_lst, oSl_scr, oSl_str, dSl, dNoP, dPart, cLen, cMin2, cInt, uNeg, uBits, uIs, fInt, fBool, fStr, fTup, tyD, dgName, dgNil, dgCons, dgTup, dAsg, dPar, dPar3, dFor, dLc, diTup, diLst, diR1, diR2, diEnT, diEnL, diStr, dCall, dMeth, dMake, dFld, sSetF, startD, dYes, dw, oNe, oEqG, shs, sh0, eq_nilT, c, dApp, hd2.get, spLNext]
      refine ⟨by omega, by omega, _, _, hd2, by omega, fun d M3 d0 d1 h3 => ?_⟩
      obtain ⟨n, rfl⟩ := Int.eq_ofNat_of_zero_le d0
      exact ⟨_, h3.get, by simp, k _ _ ⟨[.bring s, .way x, .stop n], .inr ⟨n, by omega, rfl⟩, h3.set, rfl⟩⟩
  rintro ds' M3 ⟨pre, hpre, hd3, rfl⟩
  obtain ⟨w1, w8⟩ := gw.wlen
  have hne : ¬ w.ways = [] := fun e => by rw [e] at w1; simp at w1
  have pl : pre.length ≤ 3 := by rcases hpre with rfl | ⟨n, _, rfl⟩ <;> simp
  refine seq_cut (fun ds' M' => ∃ (num : Nat) (hs : List Int) (mm : Nat) (lo hi : Int) (y : Option D), Cand w num (.hours num hs) ∧ Cand w num (.window num mm lo hi) ∧ DB (b + 200) (R ++ [.lst ((pre ++ [Deed.hours num hs, Deed.window num mm lo hi, Deed.shut (w.ways.length - 1)]).map Deed.d)]) M' ∧ ds' = [some (.h 1), some w.d, some (.int w.size), some (kindsD w.kinds), some (.tup (w.srcs.map Src.d)), some (.tup (w.ways.map Way.d)), some (.h (R.length + 2)), some (.int (num : Int)), y, none, none, none]) (fun N k => ?_) ?_
  · simp [oIx_tup, oIx_lst, oIx_h, oIx_str, dIfS, dTest, dOp, oNe, oEqG, dVar, dTup, dNil, shw, sh0, eq_nilT, hne]
    refine seq_cut (fun ds' M' => DB (b + 122) (R ++ [.lst (pre.map Deed.d)]) M' ∧ ∃ num : Nat, num < w.ways.length ∧ ds' = [some (.h 1), some w.d, some (.int w.size), some (kindsD w.kinds), some (.tup (w.srcs.map Src.d)), some (.tup (w.ways.map Way.d)), some (.h (R.length + 2)), some (.int (num : Int)), none, none, none, none]) (fun N k => ?_) ?_
    · simp [and_assoc, strsOf_map, dVar, dC, dOp, dUn, dNil, dCons, dTup, dLst, dNew, dTest, dAnd, dOr, dNot, dAndV, dOrV, dNotV, dIf, dIsN, dNotN, isN, dChain, dCB, dNext, dSeq, dDrop, dRet, dRetN, dIfS, oI, oI0, oAdd, oC, oIx_tup, oIx_lst, oIx_h, oIx_str, oSl_tup, oSl_lst, oSl_scr, oSl_str, dSl, dNoP, dPart, cLen, cMin2, cInt, uNeg, uBits, uIs, fInt, fBool, fStr, fTup, tyD, dgName, dgNil, dgCons, dgTup, dAsg, dPar, dPar3, dFor, dLc, diTup, diLst, diR1, diR2, diEnT, diEnL, diStr, dCall, dMeth, dMake, dFld, sSetF, startD, dYes, dw, spLNext]
      refine ⟨by omega, by omega, _, _, hd3, by omega, fun d M3 d0 d1 h3 => ?_⟩
      obtain ⟨n, rfl⟩ := Int.eq_ofNat_of_zero_le d0
      exact k _ _ ⟨h3, n, by omega, rfl⟩
    rintro ds' M4 ⟨hd4, num, hnum, rfl⟩
    obtain ⟨wx, hwx⟩ : ∃ x, w.ways[num]? = some x := ⟨_, List.getElem?_eq_getElem hnum⟩
    have gx := gw.ways wx (List.mem_of_getElem? hwx)
    have hatx : atI (w.ways.map Way.d) (num : Int) = some wx.d := by rw [atI_nat, List.getElem?_map, hwx]; rfl
    refine seq_cut (fun ds' M' => ∃ hs : List Int, hs.length ≤ 20 ∧ DB (b + 140) (R ++ [.lst ((pre ++ [Deed.hours num hs]).map Deed.d)]) M' ∧ ds' = [some (.h 1), some w.d, some (.int w.size), some (kindsD w.kinds), some (.tup (w.srcs.map Src.d)), some (.tup (w.ways.map Way.d)), some (.h (R.length + 2)), some (.int (num : Int)), none, none, none, none]) (fun N k => ?_) ?_
    · simp [and_assoc, strsOf_map, dVar, dC, dOp, dUn, dNil, dCons, dTup, dLst, dNew, dTest, dAnd, dOr, dNot, dAndV, dOrV, dNotV, dIf, dIsN, dNotN, isN, dChain, dCB, dNext, dSeq, dDrop, dRet, dRetN, dIfS, oI, oI0, oAdd, oC, oIx_tup, oIx_lst, oIx_h, oIx_str, oSl_tup, oSl_lst, oSl_scr, oSl_str, dSl, dNoP, dPart, cLen, cMin2, cInt, uNeg, uBits, uIs, fInt, fBool, fStr, fTup, tyD, dgName, dgNil, dgCons, dgTup, dAsg, dPar, dPar3, dFor, dLc, diTup, diLst, diR1, diR2, diEnT, diEnL, diStr, dCall, dMeth, dMake, dFld, sSetF, startD, dYes, dw, dApp, hd4.get]
      refine ⟨by omega, by omega, ?_⟩
      refine lc_rngD (lo := 0) (n := w.size.toNat) (fun i acc M' => DB (b + 122 + i) (R ++ [.lst (pre.map Deed.d)]) M' ∧ ∃ ys : List Int, acc = ys.map .int ∧ ys.length ≤ i) ⟨hd4, [], rfl, Nat.le_refl _⟩ (fun i acc M' K hi ⟨hdb, ys, e, hl⟩ k => ?_) (fun acc M' ⟨hdb, ys, e, hl⟩ => ?_)
      · subst e
        refine ⟨trivial, by simp; omega, ?_⟩
        simp [and_assoc, strsOf_map, dVar, dC, dOp, dUn, dNil, dCons, dTup, dLst, dNew, dTest, dAnd, dOr, dNot, dAndV, dOrV, dNotV, dIf, dIsN, dNotN, isN, dChain, dCB, dNext, dSeq, dDrop, dRet, dRetN, dIfS, oI, oI0, oAdd, oC, oIx_tup, oIx_lst, oIx_h, oIx_str, oSl_tup, oSl_lst, oSl_scr, oSl_str, dSl, dNoP, dPart, cLen, cMin2, cInt, uNeg, uBits, uIs, fInt, fBool, fStr, fTup, tyD, dgName, dgNil, dgCons, dgTup, dAsg, dPar, dPar3, dFor, dLc, diTup, diLst, diR1, diR2, diEnT, diEnL, diStr, dCall, dMeth, dMake, dFld, sSetF, startD, dYes, dw, spLNext]
        refine ⟨_, _, hdb, by omega, fun d M2 d0 d1 h2 => ?_⟩
        by_cases c : d = 0
        · simp [oIx_tup, oIx_lst, oIx_h, oIx_str, oEq, c]
          exact k (ys.map D.int ++ [.int (i : Int)]) _ ⟨h2, ys ++ [(i : Int)], by simp, by simp; omega⟩
        · simp [oIx_tup, oIx_lst, oIx_h, oIx_str, oEq, c]
          exact k _ _ ⟨h2, ys, rfl, by omega⟩
      · subst e
        refine ⟨trivial, _, rfl, .inl ⟨_, rfl, ?_⟩⟩
        refine ⟨_, hdb.get, by simp; omega, k _ _ ⟨ys, by omega, ?_, rfl⟩⟩
        have := (hdb.set (o' := .lst ((pre ++ [Deed.hours num ys]).map Deed.d))).mono (show b + 122 + w.size.toNat ≤ b + 140 by omega)
        simpa [Deed.d] using this
    rintro ds' M5 ⟨hs', hhs, hd5, rfl⟩
    refine seq_cut (fun ds' M' => DB (b + 150) (R ++ [.lst ((pre ++ [Deed.hours num hs']).map Deed.d)]) M' ∧ ∃ p : Prt, ds' = [some (.h 1), some w.d, some (.int w.size), some (kindsD w.kinds), some (.tup (w.srcs.map Src.d)), some (.tup (w.ways.map Way.d)), some (.h (R.length + 2)), some (.int (num : Int)), some p.d, none, none, none]) (fun N k => ?_) ?_
    · simp [and_assoc, strsOf_map, dVar, dC, dOp, dUn, dNil, dCons, dTup, dLst, dNew, dTest, dAnd, dOr, dNot, dAndV, dOrV, dNotV, dIf, dIsN, dNotN, isN, dChain, dCB, dNext, dSeq, dDrop, dRet, dRetN, dIfS, oI, oI0, oAdd, oC, oIx_tup, oIx_lst, oIx_h, oIx_str, oSl_tup, oSl_lst, oSl_scr, oSl_str, dSl, dNoP, dPart, cLen, cMin2, cInt, uNeg, uBits, uIs, fInt, fBool, fStr, fTup, tyD, dgName, dgNil, dgCons, dgTup, dAsg, dPar, dPar3, dFor, dLc, diTup, diLst, diR1, diR2, diEnT, diEnL, diStr, dCall, dMeth, dMake, dFld, sSetF, startD, dYes, dw]
      exact ⟨w.kinds, 9, b + 140, _, rfl, by omega, by omega, by omega, by omega, hd5, by omega, fun p M2 _ h2 => k _ _ ⟨h2, p, rfl⟩⟩
    rintro ds' M6 ⟨hd6, p, rfl⟩
    refine seq_cut (fun ds' M' => ∃ mm : Nat, mm < wx.parts.length ∧ DB (b + 151) (R ++ [.lst ((pre ++ [Deed.hours num hs', Deed.window num mm p.lo p.hi]).map Deed.d)]) M' ∧ ds' = [some (.h 1), some w.d, some (.int w.size), some (kindsD w.kinds), some (.tup (w.srcs.map Src.d)), some (.tup (w.ways.map Way.d)), some (.h (R.length + 2)), some (.int (num : Int)), some p.d, none, none, none]) (fun N k => ?_) ?_
    · have hg6 := hd6.get
      simp [and_assoc, strsOf_map, dVar, dC, dOp, dUn, dNil, dCons, dTup, dLst, dNew, dTest, dAnd, dOr, dNot, dAndV, dOrV, dNotV, dIf, dIsN, dNotN, isN, dChain, dCB, dNext, dSeq, dDrop, dRet, dRetN, dIfS, oI, oI0, oAdd, oC, oIx_tup, oIx_lst, oIx_h, oIx_str, oSl_tup, oSl_lst, oSl_scr, oSl_str, dSl, dNoP, dPart, cLen, cMin2, cInt, uNeg, uBits, uIs, fInt, fBool, fStr, fTup, tyD, dgName, dgNil, dgCons, dgTup, dAsg, dPar, dPar3, dFor, dLc, diTup, diLst, diR1, diR2, diEnT, diEnL, diStr, dCall, dMeth, dMake, dFld, sSetF, startD, dYes, dw, dApp, hg6, hatx, Way.d, at1, spLNext, Prt.d, at2]
      obtain ⟨p1, p3⟩ := gx.len
      refine ⟨by omega, by omega, _, _, hd6, by omega, fun d M3 d0 d1 h3 => ?_⟩
      obtain ⟨mm, rfl⟩ := Int.eq_ofNat_of_zero_le d0
      refine ⟨_, h3.get, by simp; omega, k _ _ ⟨mm, by omega, ?_, rfl⟩⟩
      have := h3.set (o' := .lst ((pre ++ [Deed.hours num hs', Deed.window num mm p.lo p.hi]).map Deed.d))
      simpa [Deed.d] using this
    rintro ds' M7 ⟨mm, hmm, hd7, rfl⟩
    have hg7 := hd7.get
    simp [and_assoc, strsOf_map, dVar, dC, dOp, dUn, dNil, dCons, dTup, dLst, dNew, dTest, dAnd, dOr, dNot, dAndV, dOrV, dNotV, dIf, dIsN, dNotN, isN, dChain, dCB, dNext, dSeq, dDrop, dRet, dRetN, dIfS, oI, oI0, oAdd, oC, oIx_tup, oIx_lst, oIx_h, oIx_str, oSl_tup, oSl_lst, oSl_scr, oSl_str, dSl, dNoP, dPart, cLen, cMin2, cInt, uNeg, uBits, uIs, fInt, fBool, fStr, fTup, tyD, dgName, dgNil, dgCons, dgTup, dAsg, dPar, dPar3, dFor, dLc, diTup, diLst, diR1, diR2, diEnT, diEnL, diStr, dCall, dMeth, dMake, dFld, sSetF, startD, dYes, dw, dApp, hg7]
    refine ⟨by omega, k _ _ ⟨num, hs', mm, p.lo, p.hi, some p.d, ⟨rfl, hnum, hhs⟩, ⟨rfl, hnum, wx, hwx, hmm⟩, ?_, rfl⟩⟩
    have := (hd7.set (o' := .lst ((pre ++ [Deed.hours num hs', Deed.window num mm p.lo p.hi, Deed.shut (w.ways.length - 1)]).map Deed.d))).mono (show b + 151 ≤ b + 200 by omega)
    have e : ((w.ways.length - 1 : Nat) : Int) = (w.ways.length : Int) - 1 := by omega
    simpa [Deed.d, e] using this
  rintro ds' M4 ⟨num, hs', mm, lo, hi, y, c1, c2, hd4, rfl⟩
  obtain ⟨ds, eds⟩ : ∃ ds, ds = pre ++ [Deed.hours num hs', Deed.window num mm lo hi, Deed.shut (w.ways.length - 1)] := ⟨_, rfl⟩
  rw [← eds] at hd4
  have cand : ∀ d ∈ ds, Cand w num d := by
    intro d hm
    rw [eds] at hm
    rcases List.mem_append.mp hm with hm | hm
    · rcases hpre with rfl | ⟨n, hn, rfl⟩ <;> simp at hm
      · rcases hm with rfl | rfl
        · exact hs
        · exact hx
      · rcases hm with rfl | rfl | rfl
        · exact hs
        · exact hx
        · exact hn
    · simp at hm
      rcases hm with rfl | rfl | rfl
      · exact c1
      · exact c2
      · show w.ways.length - 1 + 1 = w.ways.length; omega
  have nd : (ds.map Deed.word).Nodup := by
    rw [eds]
    rcases hpre with rfl | ⟨n, hn, rfl⟩
    · exact (by decide +kernel : (["bring", "way", "hours", "window", "shut"] : List Str).Nodup)
    · exact (by decide +kernel : (["bring", "way", "stop", "hours", "window", "shut"] : List Str).Nodup)
  have dl : 5 ≤ ds.length ∧ ds.length ≤ 6 := by
    rw [eds]
    rcases hpre with rfl | ⟨n, hn, rfl⟩ <;> simp
  refine seq_cut (fun ds' M' => DB (b + 201) (R ++ [.lst (ds.map Deed.d)]) M' ∧ ∃ i : Nat, i < ds.length ∧ ds' = [some (.h 1), some w.d, some (.int w.size), some (kindsD w.kinds), some (.tup (w.srcs.map Src.d)), some (.tup (w.ways.map Way.d)), some (.h (R.length + 2)), some (.int (num : Int)), y, some (.int (i : Int)), none, none]) (fun N k => ?_) ?_
  · have hg := hd4.get
    simp [and_assoc, strsOf_map, dVar, dC, dOp, dUn, dNil, dCons, dTup, dLst, dNew, dTest, dAnd, dOr, dNot, dAndV, dOrV, dNotV, dIf, dIsN, dNotN, isN, dChain, dCB, dNext, dSeq, dDrop, dRet, dRetN, dIfS, oI, oI0, oAdd, oC, oIx_tup, oIx_lst, oIx_h, oIx_str, oSl_tup, oSl_lst, oSl_scr, oSl_str, dSl, dNoP, dPart, cLen, cMin2, cInt, uNeg, uBits, uIs, fInt, fBool, fStr, fTup, tyD, dgName, dgNil, dgCons, dgTup, dAsg, dPar, dPar3, dFor, dLc, diTup, diLst, diR1, diR2, diEnT, diEnL, diStr, dCall, dMeth, dMake, dFld, sSetF, startD, dYes, dw, hg, spLNext]
    refine ⟨by omega, by omega, _, _, hd4, by omega, fun d M3 d0 d1 h3 => ?_⟩
    obtain ⟨n, rfl⟩ := Int.eq_ofNat_of_zero_le d0
    exact k _ _ ⟨h3, n, by omega, rfl⟩
  rintro ds' M5 ⟨hd5, i, hi, rfl⟩
  refine seq_cut (fun ds' M' => DB (b + 202) (R ++ [.lst (ds.map Deed.d)]) M' ∧ ∃ j : Nat, j < ds.length ∧ j ≠ i ∧ ds' = [some (.h 1), some w.d, some (.int w.size), some (kindsD w.kinds), some (.tup (w.srcs.map Src.d)), some (.tup (w.ways.map Way.d)), some (.h (R.length + 2)), some (.int (num : Int)), y, some (.int (i : Int)), some (.int (j : Int)), none]) (fun N k => ?_) ?_
  · have hg := hd5.get
    simp [and_assoc, strsOf_map, dVar, dC, dOp, dUn, dNil, dCons, dTup, dLst, dNew, dTest, dAnd, dOr, dNot, dAndV, dOrV, dNotV, dIf, dIsN, dNotN, isN, dChain, dCB, dNext, dSeq, dDrop, dRet, dRetN, dIfS, oI, oI0, oAdd, oC, oIx_tup, oIx_lst, oIx_h, oIx_str, oSl_tup, oSl_lst, oSl_scr, oSl_str, dSl, dNoP, dPart, cLen, cMin2, cInt, uNeg, uBits, uIs, fInt, fBool, fStr, fTup, tyD, dgName, dgNil, dgCons, dgTup, dAsg, dPar, dPar3, dFor, dLc, diTup, diLst, diR1, diR2, diEnT, diEnL, diStr, dCall, dMeth, dMake, dFld, sSetF, startD, dYes, dw, hg, spLNext]
    refine ⟨by omega, by omega, _, _, hd5, by omega, fun d M3 d0 d1 h3 => ?_⟩
    obtain ⟨n, rfl⟩ := Int.eq_ofNat_of_zero_le d0
    refine ⟨_, h3.get, ?_⟩
    simp
    refine ⟨by omega, k _ _ ⟨h3, (i + 1 + n) % ds.length, Nat.mod_lt _ (by omega), ?_, ?_⟩⟩
    · by_cases c : i + 1 + n < ds.length
      · rw [Nat.mod_eq_of_lt c]; omega
      · rw [Nat.mod_eq_sub_mod (by omega), Nat.mod_eq_of_lt (by omega)]; omega
    · rfl
  rintro ds' M6 ⟨hd6, j, hj, hij, rfl⟩
  have hg := hd6.get
  have e1 : atI (ds.map Deed.d) (i : Int) = some ds[i].d := by rw [atI_nat, List.getElem?_map, List.getElem?_eq_getElem hi]; rfl
  have e2 : atI (ds.map Deed.d) (j : Int) = some ds[j].d := by rw [atI_nat, List.getElem?_map, List.getElem?_eq_getElem hj]; rfl
  simp [and_assoc, strsOf_map, dVar, dC, dOp, dUn, dNil, dCons, dTup, dLst, dNew, dTest, dAnd, dOr, dNot, dAndV, dOrV, dNotV, dIf, dIsN, dNotN, isN, dChain, dCB, dNext, dSeq, dDrop, dRet, dRetN, dIfS, oI, oI0, oAdd, oC, oIx_tup, oIx_lst, oIx_h, oIx_str, oSl_tup, oSl_lst, oSl_scr, oSl_str, dSl, dNoP, dPart, cLen, cMin2, cInt, uNeg, uBits, uIs, fInt, fBool, fStr, fTup, tyD, dgName, dgNil, dgCons, dgTup, dAsg, dPar, dPar3, dFor, dLc, diTup, diLst, diR1, diR2, diEnT, diEnL, diStr, dCall, dMeth, dMake, dFld, sSetF, startD, dYes, dw, hg, e1, e2]
  refine h _ _ num _ _ (cand _ (List.getElem_mem hi)) (cand _ (List.getElem_mem hj)) (fun e => hij ?_) (hd6.mono (by omega))
  have hi' : i < (ds.map Deed.word).length := by simpa using hi
  have hj' : j < (ds.map Deed.word).length := by simpa using hj
  exact ((List.getElem_inj nd (h₀ := hi') (h₁ := hj')).mp (by simpa using e)).symm
end My

set_option Elab.async false
set_option linter.all false
set_option maxRecDepth 100000
set_option maxHeartbeats 4000000
namespace My
open PySem PySem.Spec PyProof.Rows L2
/-! ### the hall -/
def spWithoutOne : SpD
  | [.tup m, .int i], M, Q => 0 ≤ i ∧ m.length ≤ 100 ∧ Q (.tup (m.eraseIdx i.toNat)) M
  | _, _, _ => False
theorem sc_PWithoutOne : FnScope ["row", "number"] ["row", "number"] (defScope sPWithoutOne) := ⟨rfl, rfl, rfl, by decide +kernel, rfl, by decide +kernel, by decide +kernel⟩
theorem w_PWithoutOne {P : Program} {w : World} {K : PySem.W.Frag} {mg : Str → Option Value} {base : Heap} {CG CH : Addr} (T : Tx K w mg CG CH) : GD P w K mg base 1 "without_one" spWithoutOne := by
  obtain ⟨f, fd, hm, F⟩ := T.f_PWithoutOne
  refine ⟨f, hm, F.kp, okD (k := 0) F sc_PWithoutOne (F.bindsN fun _ _ _ _ _ _ us hl => match us, hl with | [_, _], _ => rfl)
    (fun cdv A outer s H E hr => (d_single (d_ret (d_add (d_slice (d_var (i := 0) rfl (.inl rfl)) d_no (d_part (d_var (i := 1) rfl (.inl rfl)))) (d_slice (d_var (i := 0) rfl (.inl rfl)) (d_part (d_add (d_var (i := 1) rfl (.inl rfl)) d_int)) d_no))))) (fun l M Qd h => ?_)⟩
  match l, h with
  | [.tup m, .int i], ⟨h0, hl, h⟩ =>
  refine ⟨rfl, ?_⟩
  obtain ⟨i, rfl⟩ := Int.eq_ofNat_of_zero_le h0
  rw [Int.toNat_natCast, ← erase_cut] at h
  simp [and_assoc, strsOf_map, dVar, dC, dOp, dUn, dNil, dCons, dTup, dLst, dNew, dTest, dAnd, dOr, dNot, dAndV, dOrV, dNotV, dIf, dIsN, dNotN, isN, dChain, dCB, dNext, dSeq, dDrop, dRet, dRetN, dIfS, oI, oI0, oAdd, oC, oIx_tup, oIx_lst, oIx_h, oIx_str, oSl_tup, oSl_lst, oSl_scr, oSl_str, dSl, dNoP, dPart, cLen, cMin2, cInt, uNeg, uBits, uIs, fInt, fBool, fStr, fTup, tyD, dgName, dgNil, dgCons, dgTup, dAsg, dPar, dPar3, dFor, dLc, diTup, diLst, diR1, diR2, diEnT, diEnL, diStr, dCall, dMeth, dMake, dFld, sSetF, startD, dYes, dw, cut_take, cut_drop1]
  exact ⟨by omega, h⟩
def spWithOne : SpD
  | [.tup m, .int i, d], M, Q => 0 ≤ i ∧ i < m.length ∧ m.length ≤ 100 ∧ Q (.tup (m.set i.toNat d)) M
  | _, _, _ => False
theorem sc_PWithOne : FnScope ["row", "number", "thing"] ["row", "number", "thing"] (defScope sPWithOne) := ⟨rfl, rfl, rfl, by decide +kernel, rfl, by decide +kernel, by decide +kernel⟩
theorem w_PWithOne {P : Program} {w : World} {K : PySem.W.Frag} {mg : Str → Option Value} {base : Heap} {CG CH : Addr} (T : Tx K w mg CG CH) : GD P w K mg base 1 "with_one" spWithOne := by
  obtain ⟨f, fd, hm, F⟩ := T.f_PWithOne
  refine ⟨f, hm, F.kp, okD (k := 0) F sc_PWithOne (F.bindsN fun _ _ _ _ _ _ us hl => match us, hl with | [_, _, _], _ => rfl)
    (fun cdv A outer s H E hr => (d_single (d_ret (d_add (d_add (d_slice (d_var (i := 0) rfl (.inl rfl)) d_no (d_part (d_var (i := 1) rfl (.inl rfl)))) (d_tup (d_pa_cons (d_var (i := 2) rfl (.inl rfl)) d_pa_nil))) (d_slice (d_var (i := 0) rfl (.inl rfl)) (d_part (d_add (d_var (i := 1) rfl (.inl rfl)) d_int)) d_no))))) (fun l M Qd h => ?_)⟩
  match l, h with
  | [.tup m, .int i, d], ⟨h0, hi, hl, h⟩ =>
  refine ⟨rfl, ?_⟩
  obtain ⟨i, rfl⟩ := Int.eq_ofNat_of_zero_le h0
  have hi : i < m.length := by omega
  rw [Int.toNat_natCast, ← set_cut m i d hi] at h
  simp [and_assoc, strsOf_map, dVar, dC, dOp, dUn, dNil, dCons, dTup, dLst, dNew, dTest, dAnd, dOr, dNot, dAndV, dOrV, dNotV, dIf, dIsN, dNotN, isN, dChain, dCB, dNext, dSeq, dDrop, dRet, dRetN, dIfS, oI, oI0, oAdd, oC, oIx_tup, oIx_lst, oIx_h, oIx_str, oSl_tup, oSl_lst, oSl_scr, oSl_str, dSl, dNoP, dPart, cLen, cMin2, cInt, uNeg, uBits, uIs, fInt, fBool, fStr, fTup, tyD, dgName, dgNil, dgCons, dgTup, dAsg, dPar, dPar3, dFor, dLc, diTup, diLst, diR1, diR2, diEnT, diEnL, diStr, dCall, dMeth, dMake, dFld, sSetF, startD, dYes, dw, cut_take, cut_drop1]
  exact ⟨by omega, by omega, h⟩
def spIsDeed : SpD := fun l M Q => ∃ d : Deed, l = [d.d] ∧ Q (.bl true) M
theorem sc_PIsDeed : FnScope ["thing"] ["thing"] (defScope sPIsDeed) := ⟨rfl, rfl, rfl, by decide +kernel, rfl, by decide +kernel, by decide +kernel⟩
theorem w_PIsDeed {P : Program} {w : World} {K : PySem.W.Frag} {mg : Str → Option Value} {base : Heap} {CG CH : Addr} (T : Tx K w mg CG CH) : GD P w K mg base 1 "is_deed" spIsDeed := by
  obtain ⟨f, fd, hm, F⟩ := T.f_PIsDeed
  obtain ⟨formsD, formsE, formsN, formsK, formsG, formsT⟩ := T.forms
  refine ⟨f, hm, F.kp, okD (k := 0) F sc_PIsDeed (F.bindsN fun _ _ _ _ _ _ us hl => match us, hl with | [_], _ => rfl)
    (fun cdv A outer s H E hr => (d_seq (d_if (d_tw (d_or (d_not (d_tval (d_isi hf_tup (by decide +kernel) rfl T.n_isinstance rfl T.n_tuple (d_var (i := 0) rfl (.inl rfl))))) (d_or (dt_eq hr.units (d_len rfl T.n_len (d_pa_cons (d_var (i := 0) rfl (.inl rfl)) d_pa_nil)) d_int) (d_or1 (d_not (d_tval (d_isi hf_str (by decide +kernel) rfl T.n_isinstance rfl T.n_str (d_ix (d_var (i := 0) rfl (.inl rfl)) d_int)))))))) (d_single (d_ret d_bl)) d_nil)
      (d_single (d_ret (d_eq hr.units (d_len rfl T.n_len (d_pa_cons (d_var (i := 0) rfl (.inl rfl)) d_pa_nil)) (d_kget formsK formsT rfl formsG (d_ix (d_var (i := 0) rfl (.inl rfl)) d_int) d_int)))))) (fun l M Qd h => ?_)⟩
  obtain ⟨d, rfl, h⟩ := h
  refine ⟨rfl, ?_⟩
  cases d <;> simp [and_assoc, strsOf_map, dVar, dC, dOp, dUn, dNil, dCons, dTup, dLst, dNew, dTest, dAnd, dOr, dNot, dAndV, dOrV, dNotV, dIf, dIsN, dNotN, isN, dChain, dCB, dNext, dSeq, dDrop, dRet, dRetN, dIfS, oI, oI0, oAdd, oC, oIx_tup, oIx_lst, oIx_h, oIx_str, oSl_tup, oSl_lst, oSl_scr, oSl_str, dSl, dNoP, dPart, cLen, cMin2, cInt, uNeg, uBits, uIs, fInt, fBool, fStr, fTup, tyD, dgName, dgNil, dgCons, dgTup, dAsg, dPar, dPar3, dFor, dLc, diTup, diLst, diR1, diR2, diEnT, diEnL, diStr, dCall, dMeth, dMake, dFld, sSetF, startD, dYes, dw, Deed.d, dKget, oEq, at0] <;> first | exact h | exact ⟨_, rfl, h⟩
def spHLook : SpD := fun l M Q => ∃ (g : D) (w : Wld), l = [g, w.d] ∧ Ok w ∧ Q .non M
theorem sc_HLook : FnScope ["self", "thing", "fault", "path", "word"] ["self", "thing"] (defScope sHLook) := ⟨rfl, rfl, rfl, by decide +kernel, rfl, by decide +kernel, by decide +kernel⟩
theorem w_HLook {P : Program} {w : World} {K : PySem.W.Frag} {mg : Str → Option Value} {base : Heap} {CG CH : Addr} (T : Tx K w mg CG CH) : MD P w K mg base 5 CH "look" spHLook := by
  obtain ⟨f, fd, hm, F⟩ := T.m_HLook
  refine ⟨f, hm, okD (k := 4) F sc_HLook (F.bindsN fun _ _ _ _ _ _ us hl => match us, hl with | [_, _], _ => rfl)
    (fun cdv A outer s H E hr => (d_seq (d_set (i := 2) sc_HLook.nd rfl (Or.inl rfl) (d_call ((w_PWorldfault T).mono (by decide)) hr rfl (d_pa_cons (d_var (i := 1) rfl (.inl rfl)) d_pa_nil)))
      (d_single (d_if (d_tpc (d_notN (d_var (i := 2) rfl (.inl rfl)))) d_nevers d_nil)))) (fun l M Qd h => ?_)⟩
  obtain ⟨g, w, rfl, ok, h⟩ := h
  refine ⟨rfl, ?_⟩
  simp [and_assoc, strsOf_map, dVar, dC, dOp, dUn, dNil, dCons, dTup, dLst, dNew, dTest, dAnd, dOr, dNot, dAndV, dOrV, dNotV, dIf, dIsN, dNotN, isN, dChain, dCB, dNext, dSeq, dDrop, dRet, dRetN, dIfS, oI, oI0, oAdd, oC, oIx_tup, oIx_lst, oIx_h, oIx_str, oSl_tup, oSl_lst, oSl_scr, oSl_str, dSl, dNoP, dPart, cLen, cMin2, cInt, uNeg, uBits, uIs, fInt, fBool, fStr, fTup, tyD, dgName, dgNil, dgCons, dgTup, dAsg, dPar, dPar3, dFor, dLc, diTup, diLst, diR1, diR2, diEnT, diEnL, diStr, dCall, dMeth, dMake, dFld, sSetF, startD, dYes, dw]
  exact ⟨w, rfl, ok, .inl ⟨rfl, h⟩⟩
/-- the hall's attributes -/
def HD (st sd rw bz : D) : List (Str × D) := [("states", st), ("stand", sd), ("rows", rw), ("busy", bz)]
theorem hd_states {a b c d : D} : (HD a b c d).lookup (Str.ofString "states") = some a := rfl
theorem hd_stand {a b c d : D} : (HD a b c d).lookup (Str.ofString "stand") = some b := rfl
theorem hd_rows {a b c d : D} : (HD a b c d).lookup (Str.ofString "rows") = some c := rfl
theorem hd_busy {a b c d : D} : (HD a b c d).lookup (Str.ofString "busy") = some d := rfl
theorem hd_pstates {a b c d x : D} : putG (Str.ofString "states") x (HD a b c d) = HD x b c d := rfl
theorem hd_pstand {a b c d x : D} : putG (Str.ofString "stand") x (HD a b c d) = HD a x c d := rfl
theorem hd_prows {a b c d x : D} : putG (Str.ofString "rows") x (HD a b c d) = HD a b x d := rfl
theorem hd_pbusy {a b c d x : D} : putG (Str.ofString "busy") x (HD a b c d) = HD a b c x := rfl
theorem hd_len {a b c d : D} : (HD a b c d).length < 1000 := by simp [oIx_tup, oIx_lst, oIx_h, oIx_str, HD]
theorem hd_m_look {a b c d : D} : (HD a b c d).lookup (Str.ofString "look") = none := rfl
theorem hd_m_begin {a b c d : D} : (HD a b c d).lookup (Str.ofString "begin") = none := rfl
theorem hd_m_change {a b c d : D} : (HD a b c d).lookup (Str.ofString "change") = none := rfl
theorem hd_m_world {a b c d : D} : (HD a b c d).lookup (Str.ofString "world") = none := rfl
theorem hd_m_way_of {a b c d : D} : (HD a b c d).lookup (Str.ofString "way_of") = none := rfl
theorem hd_m_bring {a b c d : D} : (HD a b c d).lookup (Str.ofString "bring") = none := rfl
theorem hd_m_way {a b c d : D} : (HD a b c d).lookup (Str.ofString "way") = none := rfl
theorem hd_m_stop {a b c d : D} : (HD a b c d).lookup (Str.ofString "stop") = none := rfl
theorem hd_m_shut {a b c d : D} : (HD a b c d).lookup (Str.ofString "shut") = none := rfl
theorem hd_m_hours {a b c d : D} : (HD a b c d).lookup (Str.ofString "hours") = none := rfl
theorem hd_m_window {a b c d : D} : (HD a b c d).lookup (Str.ofString "window") = none := rfl
theorem hd_m_back {a b c d : D} : (HD a b c d).lookup (Str.ofString "back") = none := rfl
theorem hd_m_do {a b c d : D} : (HD a b c d).lookup (Str.ofString "do") = none := rfl
theorem hd_m_go_through {a b c d : D} : (HD a b c d).lookup (Str.ofString "go_through") = none := rfl
theorem hd_m_tried {a b c d : D} : (HD a b c d).lookup (Str.ofString "tried") = none := rfl
def HF (r : Nat) (ws : List Wld) (ds : List Deed) : List (Str × D) := HD (.tup (ws.map Wld.d)) (.tup (ds.map Deed.d)) (.h r) (.bl false)
def spHWorld (CH : Addr) : SpD := fun l M Q => ∃ g r ws w ds, l = [.h g] ∧ M[g]? = some (.ins CH (HF r (ws ++ [w]) ds)) ∧ Q w.d M
theorem sc_HWorld : FnScope ["self"] ["self"] (defScope sHWorld) := ⟨rfl, rfl, rfl, by decide +kernel, rfl, by decide +kernel, by decide +kernel⟩
theorem w_HWorld {P : Program} {w : World} {K : PySem.W.Frag} {mg : Str → Option Value} {base : Heap} {CG CH : Addr} (T : Tx K w mg CG CH) : MD P w K mg base 1 CH "world" (spHWorld CH) := by
  obtain ⟨f, fd, hm, F⟩ := T.m_HWorld
  refine ⟨f, hm, okD (k := 0) F sc_HWorld (F.bindsN fun _ _ _ _ _ _ us hl => match us, hl with | [_], _ => rfl)
    (fun cdv A outer s H E hr => (d_single (d_ret (d_ix (d_fld T.cH T.naH_states (d_var (i := 0) rfl (.inl rfl))) (d_neg d_int))))) (fun l M Qd h => ?_)⟩
  obtain ⟨g, r, ws, w, ds, rfl, hM, h⟩ := h
  refine ⟨rfl, ?_⟩
  unfold HF at hM
  simp [and_assoc, strsOf_map, dVar, dC, dOp, dUn, dNil, dCons, dTup, dLst, dNew, dTest, dAnd, dOr, dNot, dAndV, dOrV, dNotV, dIf, dIsN, dNotN, isN, dChain, dCB, dNext, dSeq, dDrop, dRet, dRetN, dIfS, oI, oI0, oAdd, oC, oIx_tup, oIx_lst, oIx_h, oIx_str, oSl_tup, oSl_lst, oSl_scr, oSl_str, dSl, dNoP, dPart, cLen, cMin2, cInt, uNeg, uBits, uIs, fInt, fBool, fStr, fTup, tyD, dgName, dgNil, dgCons, dgTup, dAsg, dPar, dPar3, dFor, dLc, diTup, diLst, diR1, diR2, diEnT, diEnL, diStr, dCall, dMeth, dMake, dFld, sSetF, startD, dYes, dw, hM, hd_states, hd_stand, hd_rows, hd_busy, hd_pstates, hd_pstand, hd_prows, hd_pbusy, hd_len, hd_m_look, hd_m_begin, hd_m_change, hd_m_world, hd_m_way_of, hd_m_bring, hd_m_way, hd_m_stop, hd_m_shut, hd_m_hours, hd_m_window, hd_m_back, hd_m_do, hd_m_go_through, hd_m_tried]
  exact ⟨_, atI_last, h⟩
theorem meth_world {CH : Addr} {i g r : Nat} {ws : List Wld} {w : Wld} {ds : List Deed} {vs : DS} {M : S} {Q : KD} (hv : vs[i]? = some (some (.h g))) (hM : M[g]? = some (.ins CH (HF r (ws ++ [w]) ds))) (q : Q w.d M) : dMeth CH "world" (spHWorld CH) (dVar i) dNil vs M Q :=
  ⟨.h g, hv, g, _, rfl, hM, rfl, g, r, ws, w, ds, rfl, hM, q⟩
def spHBegin (CH : Addr) : SpD := fun l M Q => ∃ g r ws ds, l = [.h g] ∧ M[g]? = some (.ins CH (HF r ws ds)) ∧ ds.length < 40 ∧ Q .non M
theorem sc_HBegin : FnScope ["self"] ["self"] (defScope sHBegin) := ⟨rfl, rfl, rfl, by decide +kernel, rfl, by decide +kernel, by decide +kernel⟩
theorem w_HBegin {P : Program} {w : World} {K : PySem.W.Frag} {mg : Str → Option Value} {base : Heap} {CG CH : Addr} (T : Tx K w mg CG CH) : MD P w K mg base 1 CH "begin" (spHBegin CH) := by
  obtain ⟨f, fd, hm, F⟩ := T.m_HBegin
  refine ⟨f, hm, okD (k := 0) F sc_HBegin (F.bindsN fun _ _ _ _ _ _ us hl => match us, hl with | [_], _ => rfl)
    (fun cdv A outer s H E hr => (d_seq (d_if (d_tval (d_fld T.cH T.naH_busy (d_var (i := 0) rfl (.inl rfl)))) d_nevers d_nil)
      (d_single (d_if (dt_eq hr.units (d_len rfl T.n_len (d_pa_cons (d_fld T.cH T.naH_stand (d_var (i := 0) rfl (.inl rfl))) d_pa_nil)) (d_gi rfl T.i_DEEDS)) d_nevers d_nil)))) (fun l M Qd h => ?_)⟩
  obtain ⟨g, r, ws, ds, rfl, hM, hl, h⟩ := h
  refine ⟨rfl, ?_⟩
  have hl2 : ¬ ((ds.length : Int) = 40) := by omega
  unfold HF at hM
  refine seq_cut (fun ds' M' => M' = M ∧ ds' = [some (.h g)]) (fun N k => ?_) ?_
  · simp [and_assoc, strsOf_map, dVar, dC, dOp, dUn, dNil, dCons, dTup, dLst, dNew, dTest, dAnd, dOr, dNot, dAndV, dOrV, dNotV, dIf, dIsN, dNotN, isN, dChain, dCB, dNext, dSeq, dDrop, dRet, dRetN, dIfS, oI, oI0, oAdd, oC, oIx_tup, oIx_lst, oIx_h, oIx_str, oSl_tup, oSl_lst, oSl_scr, oSl_str, dSl, dNoP, dPart, cLen, cMin2, cInt, uNeg, uBits, uIs, fInt, fBool, fStr, fTup, tyD, dgName, dgNil, dgCons, dgTup, dAsg, dPar, dPar3, dFor, dLc, diTup, diLst, diR1, diR2, diEnT, diEnL, diStr, dCall, dMeth, dMake, dFld, sSetF, startD, dYes, dw, hM, hd_states, hd_stand, hd_rows, hd_busy, hd_pstates, hd_pstand, hd_prows, hd_pbusy, hd_len, hd_m_look, hd_m_begin, hd_m_change, hd_m_world, hd_m_way_of, hd_m_bring, hd_m_way, hd_m_stop, hd_m_shut, hd_m_hours, hd_m_window, hd_m_back, hd_m_do, hd_m_go_through, hd_m_tried]
    exact k _ _ ⟨rfl, rfl⟩
  rintro ds' M' ⟨rfl, rfl⟩
  simp [and_assoc, strsOf_map, dVar, dC, dOp, dUn, dNil, dCons, dTup, dLst, dNew, dTest, dAnd, dOr, dNot, dAndV, dOrV, dNotV, dIf, dIsN, dNotN, isN, dChain, dCB, dNext, dSeq, dDrop, dRet, dRetN, dIfS, oI, oI0, oAdd, oC, oIx_tup, oIx_lst, oIx_h, oIx_str, oSl_tup, oSl_lst, oSl_scr, oSl_str, dSl, dNoP, dPart, cLen, cMin2, cInt, uNeg, uBits, uIs, fInt, fBool, fStr, fTup, tyD, dgName, dgNil, dgCons, dgTup, dAsg, dPar, dPar3, dFor, dLc, diTup, diLst, diR1, diR2, diEnT, diEnL, diStr, dCall, dMeth, dMake, dFld, sSetF, startD, dYes, dw, hM, hd_states, hd_stand, hd_rows, hd_busy, hd_pstates, hd_pstand, hd_prows, hd_pbusy, hd_len, hd_m_look, hd_m_begin, hd_m_change, hd_m_world, hd_m_way_of, hd_m_bring, hd_m_way, hd_m_stop, hd_m_shut, hd_m_hours, hd_m_window, hd_m_back, hd_m_do, hd_m_go_through, hd_m_tried, oEq, hl2]
  exact h
def spHChange (CH : Addr) : SpD := fun l M Q => ∃ g r ws w ds, ∃ (d : Deed) (w' : Wld), l = [.h g, d.d, .tup (w'.srcs.map Src.d), .tup (w'.ways.map Way.d)] ∧ M[g]? = some (.ins CH (HF r (ws ++ [w]) ds)) ∧ w'.size = w.size ∧ w'.kinds = w.kinds ∧ Ok w' ∧ ds.length < 40 ∧ ws.length < 50 ∧
  Q .non (M.set g (.ins CH (HF r (ws ++ [w, w']) (ds ++ [d]))))
theorem sc_HChange : FnScope ["self", "deed", "sources", "ways", "size", "kinds", "elder", "others", "new"] ["self", "deed", "sources", "ways"] (defScope sHChange) := ⟨rfl, rfl, rfl, by decide +kernel, rfl, by decide +kernel, by decide +kernel⟩
theorem w_HChange {P : Program} {w : World} {K : PySem.W.Frag} {mg : Str → Option Value} {base : Heap} {CG CH : Addr} (T : Tx K w mg CG CH) : MD P w K mg base 6 CH "change" (spHChange CH) := by
  obtain ⟨f, fd, hm, F⟩ := T.m_HChange
  refine ⟨f, hm, okD (k := 5) F sc_HChange (F.bindsN fun _ _ _ _ _ _ us hl => match us, hl with | [_, _, _, _], _ => rfl)
    (fun cdv A outer s H E hr => (d_seq (d_asg (d_meth0 (d_var (i := 0) rfl (.inl rfl)) T.cH ((w_HWorld T).mono (by decide)) hr) (dg_tup (n := 4) rfl (dg_cons (dg_name (i := 4) sc_HChange.nd rfl (Or.inl rfl)) (dg_cons (dg_name (i := 5) sc_HChange.nd rfl (Or.inl rfl)) (dg_cons (dg_name (i := 6) sc_HChange.nd rfl (Or.inl rfl)) (dg_cons (dg_name (i := 7) sc_HChange.nd rfl (Or.inl rfl)) dg_nil))))))
      (d_seq (d_set (i := 8) sc_HChange.nd rfl (Or.inl rfl) (d_tup (d_pa_cons (d_var (i := 4) rfl (.inl rfl)) (d_pa_cons (d_var (i := 5) rfl (.inl rfl)) (d_pa_cons (d_var (i := 2) rfl (.inl rfl)) (d_pa_cons (d_var (i := 3) rfl (.inl rfl)) d_pa_nil))))))
      (d_seq (d_expr (d_meth (d_var (i := 0) rfl (.inl rfl)) T.cH ((w_HLook T).mono (by decide)) hr (d_pa_cons (d_var (i := 8) rfl (.inl rfl)) d_pa_nil)))
      (d_seq (d_setF T.cH T.naH_states (d_var (i := 0) rfl (.inl rfl)) (d_add (d_fld T.cH T.naH_states (d_var (i := 0) rfl (.inl rfl))) (d_tup (d_pa_cons (d_var (i := 8) rfl (.inl rfl)) d_pa_nil))))
      (d_single (d_setF T.cH T.naH_stand (d_var (i := 0) rfl (.inl rfl)) (d_add (d_fld T.cH T.naH_stand (d_var (i := 0) rfl (.inl rfl))) (d_tup (d_pa_cons (d_var (i := 1) rfl (.inl rfl)) d_pa_nil)))))))))) (fun l M Qd h => ?_)⟩
  obtain ⟨g, r, ws, w, ds, d, w', rfl, hM, e1, e2, ok, hl, hw, h⟩ := h
  refine ⟨rfl, ?_⟩
  have ew : w'.d = .tup [.int w.size, kindsD w.kinds, .tup (w'.srcs.map Src.d), .tup (w'.ways.map Way.d)] := by rw [← e1, ← e2]; rfl
  have hg : g < M.length := (List.getElem?_eq_some_iff.mp hM).1
  refine seq_cut (fun ds' M' => M' = M ∧ ds' = [some (.h g), some d.d, some (.tup (w'.srcs.map Src.d)), some (.tup (w'.ways.map Way.d)), some (.int w.size), some (kindsD w.kinds), some (.tup (w.srcs.map Src.d)), some (.tup (w.ways.map Way.d)), none]) (fun N k => ?_) ?_
  · refine meth_world rfl hM ?_
    simp [and_assoc, strsOf_map, dVar, dC, dOp, dUn, dNil, dCons, dTup, dLst, dNew, dTest, dAnd, dOr, dNot, dAndV, dOrV, dNotV, dIf, dIsN, dNotN, isN, dChain, dCB, dNext, dSeq, dDrop, dRet, dRetN, dIfS, oI, oI0, oAdd, oC, oIx_tup, oIx_lst, oIx_h, oIx_str, oSl_tup, oSl_lst, oSl_scr, oSl_str, dSl, dNoP, dPart, cLen, cMin2, cInt, uNeg, uBits, uIs, fInt, fBool, fStr, fTup, tyD, dgName, dgNil, dgCons, dgTup, dAsg, dPar, dPar3, dFor, dLc, diTup, diLst, diR1, diR2, diEnT, diEnL, diStr, dCall, dMeth, dMake, dFld, sSetF, startD, dYes, dw, Wld.d]
    exact k _ _ ⟨rfl, rfl⟩
  rintro ds' M' ⟨rfl, rfl⟩
  refine seq_cut (fun ds' M'' => M'' = M' ∧ ds' = [some (.h g), some d.d, some (.tup (w'.srcs.map Src.d)), some (.tup (w'.ways.map Way.d)), some (.int w.size), some (kindsD w.kinds), some (.tup (w.srcs.map Src.d)), some (.tup (w.ways.map Way.d)), some w'.d]) (fun N k => ?_) ?_
  · simp [and_assoc, strsOf_map, dVar, dC, dOp, dUn, dNil, dCons, dTup, dLst, dNew, dTest, dAnd, dOr, dNot, dAndV, dOrV, dNotV, dIf, dIsN, dNotN, isN, dChain, dCB, dNext, dSeq, dDrop, dRet, dRetN, dIfS, oI, oI0, oAdd, oC, oIx_tup, oIx_lst, oIx_h, oIx_str, oSl_tup, oSl_lst, oSl_scr, oSl_str, dSl, dNoP, dPart, cLen, cMin2, cInt, uNeg, uBits, uIs, fInt, fBool, fStr, fTup, tyD, dgName, dgNil, dgCons, dgTup, dAsg, dPar, dPar3, dFor, dLc, diTup, diLst, diR1, diR2, diEnT, diEnL, diStr, dCall, dMeth, dMake, dFld, sSetF, startD, dYes, dw, ← ew]
    exact k _ _ ⟨rfl, rfl⟩
  rintro ds' M ⟨rfl, rfl⟩
  refine seq_cut (fun ds' M' => M' = M ∧ ds' = [some (.h g), some d.d, some (.tup (w'.srcs.map Src.d)), some (.tup (w'.ways.map Way.d)), some (.int w.size), some (kindsD w.kinds), some (.tup (w.srcs.map Src.d)), some (.tup (w.ways.map Way.d)), some w'.d]) (fun N k => ?_) ?_
  · exact ⟨.h g, rfl, g, _, rfl, hM, rfl, w'.d, rfl, .h g, w', rfl, ok, k _ _ ⟨rfl, rfl⟩⟩
  rintro ds' M' ⟨rfl, rfl⟩
  unfold HF at hM h
  have hset : ∀ o : O, (M'.set g o)[g]? = some o := fun o => List.getElem?_set_self hg
  refine seq_cut (fun ds' M'' => M'' = M'.set g (.ins CH (HF r (ws ++ [w, w']) ds)) ∧ ds' = [some (.h g), some d.d, some (.tup (w'.srcs.map Src.d)), some (.tup (w'.ways.map Way.d)), some (.int w.size), some (kindsD w.kinds), some (.tup (w.srcs.map Src.d)), some (.tup (w.ways.map Way.d)), some w'.d]) (fun N k => ?_) ?_
  · simp [and_assoc, strsOf_map, dVar, dC, dOp, dUn, dNil, dCons, dTup, dLst, dNew, dTest, dAnd, dOr, dNot, dAndV, dOrV, dNotV, dIf, dIsN, dNotN, isN, dChain, dCB, dNext, dSeq, dDrop, dRet, dRetN, dIfS, oI, oI0, oAdd, oC, oIx_tup, oIx_lst, oIx_h, oIx_str, oSl_tup, oSl_lst, oSl_scr, oSl_str, dSl, dNoP, dPart, cLen, cMin2, cInt, uNeg, uBits, uIs, fInt, fBool, fStr, fTup, tyD, dgName, dgNil, dgCons, dgTup, dAsg, dPar, dPar3, dFor, dLc, diTup, diLst, diR1, diR2, diEnT, diEnL, diStr, dCall, dMeth, dMake, dFld, sSetF, startD, dYes, dw, hM, hd_states, hd_stand, hd_rows, hd_busy, hd_pstates, hd_pstand, hd_prows, hd_pbusy, hd_len, hd_m_look, hd_m_begin, hd_m_change, hd_m_world, hd_m_way_of, hd_m_bring, hd_m_way, hd_m_stop, hd_m_shut, hd_m_hours, hd_m_window, hd_m_back, hd_m_do, hd_m_go_through, hd_m_tried]
    exact ⟨by omega, k _ _ ⟨by simp [oIx_tup, oIx_lst, oIx_h, oIx_str, HF], rfl⟩⟩
  rintro ds' M'' ⟨rfl, rfl⟩
  simp [and_assoc, strsOf_map, dVar, dC, dOp, dUn, dNil, dCons, dTup, dLst, dNew, dTest, dAnd, dOr, dNot, dAndV, dOrV, dNotV, dIf, dIsN, dNotN, isN, dChain, dCB, dNext, dSeq, dDrop, dRet, dRetN, dIfS, oI, oI0, oAdd, oC, oIx_tup, oIx_lst, oIx_h, oIx_str, oSl_tup, oSl_lst, oSl_scr, oSl_str, dSl, dNoP, dPart, cLen, cMin2, cInt, uNeg, uBits, uIs, fInt, fBool, fStr, fTup, tyD, dgName, dgNil, dgCons, dgTup, dAsg, dPar, dPar3, dFor, dLc, diTup, diLst, diR1, diR2, diEnT, diEnL, diStr, dCall, dMeth, dMake, dFld, sSetF, startD, dYes, dw, hset, HF, hd_states, hd_stand, hd_rows, hd_busy, hd_pstates, hd_pstand, hd_prows, hd_pbusy, hd_len, hd_m_look, hd_m_begin, hd_m_change, hd_m_world, hd_m_way_of, hd_m_bring, hd_m_way, hd_m_stop, hd_m_shut, hd_m_hours, hd_m_window, hd_m_back, hd_m_do, hd_m_go_through, hd_m_tried]
  exact ⟨by omega, by simpa using h⟩
theorem meth_begin {CH : Addr} {i g r : Nat} {ws : List Wld} {ds : List Deed} {vs : DS} {M : S} {Q : KD} (hv : vs[i]? = some (some (.h g))) (hM : M[g]? = some (.ins CH (HF r ws ds))) (hl : ds.length < 40) (q : Q .non M) : dMeth CH "begin" (spHBegin CH) (dVar i) dNil vs M Q :=
  ⟨.h g, hv, g, _, rfl, hM, rfl, g, r, ws, ds, rfl, hM, hl, q⟩
/-- a deed done by its method -/
def Mv (CH : Addr) (g r : Nat) (ws : List Wld) (w : Wld) (ds : List Deed) (d : Deed) (M : S) (Q : KD) : Prop :=
  M[g]? = some (.ins CH (HF r (ws ++ [w]) ds)) ∧ ds.length < 40 ∧ ws.length < 50 ∧ Sh5 w ∧ ∃ w', app w d = some w' ∧ Ok w' ∧ Q .non (M.set g (.ins CH (HF r (ws ++ [w, w']) (ds ++ [d]))))
theorem change_ok {CH : Addr} {g r : Nat} {ws : List Wld} {w w' : Wld} {ds : List Deed} {d : Deed} {M : S} {Q : KD} {a b c : D} (h : Mv CH g r ws w ds d M Q) (ew : app w d = some w') (ea : a = d.d) (eb : b = .tup (w'.srcs.map Src.d)) (ec : c = .tup (w'.ways.map Way.d)) : spHChange CH [.h g, a, b, c] M Q := by
  obtain ⟨hM, hl, hw, _, w2, e2, ok, q⟩ := h
  rw [ew] at e2
  cases e2
  refine ⟨g, r, ws, w, ds, d, w', by rw [ea, eb, ec], hM, ?_, ?_, ok, hl, hw, q⟩
  · cases d with
    | bring s => cases ew; rfl
    | way s => cases ew; rfl
    | stop n => simp only [app] at ew; split at ew <;> cases ew; rfl
    | shut n => simp only [app] at ew; split at ew <;> cases ew; rfl
    | hours n hs => simp only [app] at ew; split at ew <;> cases ew; rfl
    | window n m lo hi => simp only [app] at ew; split at ew <;> try cases ew
                          split at ew <;> cases ew; rfl
  · cases d with
    | bring s => cases ew; rfl
    | way s => cases ew; rfl
    | stop n => simp only [app] at ew; split at ew <;> cases ew; rfl
    | shut n => simp only [app] at ew; split at ew <;> cases ew; rfl
    | hours n hs => simp only [app] at ew; split at ew <;> cases ew; rfl
    | window n m lo hi => simp only [app] at ew; split at ew <;> try cases ew
                          split at ew <;> cases ew; rfl
theorem map_erase {α β : Type} (f : α → β) : ∀ (l : List α) (n : Nat), (l.eraseIdx n).map f = (l.map f).eraseIdx n
  | [], n => by simp
  | a :: l, 0 => by simp
  | a :: l, n + 1 => by simp [oIx_tup, oIx_lst, oIx_h, oIx_str, map_erase f l n]
def spHBring (CH : Addr) : SpD := fun l M Q => ∃ g r ws w ds s, l = [.h g, Src.d s] ∧ Mv CH g r ws w ds (.bring s) M Q
theorem sc_HBring : FnScope ["self", "source", "size", "kinds", "sources", "ways"] ["self", "source"] (defScope sHBring) := ⟨rfl, rfl, rfl, by decide +kernel, rfl, by decide +kernel, by decide +kernel⟩
theorem w_HBring {P : Program} {w : World} {K : PySem.W.Frag} {mg : Str → Option Value} {base : Heap} {CG CH : Addr} (T : Tx K w mg CG CH) : MD P w K mg base 7 CH "bring" (spHBring CH) := by
  obtain ⟨f, fd, hm, F⟩ := T.m_HBring
  refine ⟨f, hm, okD (k := 6) F sc_HBring (F.bindsN fun _ _ _ _ _ _ us hl => match us, hl with | [_, _], _ => rfl)
    (fun cdv A outer s H E hr => (d_seq (d_expr (d_meth0 (d_var (i := 0) rfl (.inl rfl)) T.cH ((w_HBegin T).mono (by decide)) hr))
      (d_seq (d_asg (d_meth0 (d_var (i := 0) rfl (.inl rfl)) T.cH ((w_HWorld T).mono (by decide)) hr) (dg_tup (n := 4) rfl (dg_cons (dg_name (i := 2) sc_HBring.nd rfl (Or.inl rfl)) (dg_cons (dg_name (i := 3) sc_HBring.nd rfl (Or.inl rfl)) (dg_cons (dg_name (i := 4) sc_HBring.nd rfl (Or.inl rfl)) (dg_cons (dg_name (i := 5) sc_HBring.nd rfl (Or.inl rfl)) dg_nil))))))
      (d_single (d_expr (d_meth (d_var (i := 0) rfl (.inl rfl)) T.cH ((w_HChange T).mono (by decide)) hr (d_pa_cons (d_tup (d_pa_cons d_str (d_pa_cons (d_var (i := 1) rfl (.inl rfl)) d_pa_nil))) (d_pa_cons (d_add (d_var (i := 4) rfl (.inl rfl)) (d_tup (d_pa_cons (d_var (i := 1) rfl (.inl rfl)) d_pa_nil))) (d_pa_cons (d_var (i := 5) rfl (.inl rfl)) d_pa_nil))))))))) (fun l M Qd h => ?_)⟩
  obtain ⟨g, r, ws, w, ds, s, rfl, mv⟩ := h
  refine ⟨rfl, ?_⟩
  have hM := mv.1
  have s6 := mv.2.2.2.1.s6
  refine seq_cut (fun ds' M' => M' = M ∧ ds' = [some (.h g), some s.d, none, none, none, none]) (fun N k => ?_) ?_
  · exact meth_begin rfl hM mv.2.1 (k _ _ ⟨rfl, rfl⟩)
  rintro ds' M' ⟨rfl, rfl⟩
  refine seq_cut (fun ds' M'' => M'' = M' ∧ ds' = [some (.h g), some s.d, some (.int w.size), some (kindsD w.kinds), some (.tup (w.srcs.map Src.d)), some (.tup (w.ways.map Way.d))]) (fun N k => ?_) ?_
  · refine meth_world rfl hM ?_
    simp [and_assoc, strsOf_map, dVar, dC, dOp, dUn, dNil, dCons, dTup, dLst, dNew, dTest, dAnd, dOr, dNot, dAndV, dOrV, dNotV, dIf, dIsN, dNotN, isN, dChain, dCB, dNext, dSeq, dDrop, dRet, dRetN, dIfS, oI, oI0, oAdd, oC, oIx_tup, oIx_lst, oIx_h, oIx_str, oSl_tup, oSl_lst, oSl_scr, oSl_str, dSl, dNoP, dPart, cLen, cMin2, cInt, uNeg, uBits, uIs, fInt, fBool, fStr, fTup, tyD, dgName, dgNil, dgCons, dgTup, dAsg, dPar, dPar3, dFor, dLc, diTup, diLst, diR1, diR2, diEnT, diEnL, diStr, dCall, dMeth, dMake, dFld, sSetF, startD, dYes, dw, Wld.d]
    exact k _ _ ⟨rfl, rfl⟩
  rintro ds' M ⟨rfl, rfl⟩
  refine ⟨.h g, rfl, g, _, rfl, hM, rfl, ?_⟩
  simp [and_assoc, strsOf_map, dVar, dC, dOp, dUn, dNil, dCons, dTup, dLst, dNew, dTest, dAnd, dOr, dNot, dAndV, dOrV, dNotV, dIf, dIsN, dNotN, isN, dChain, dCB, dNext, dSeq, dDrop, dRet, dRetN, dIfS, oI, oI0, oAdd, oC, oIx_tup, oIx_lst, oIx_h, oIx_str, oSl_tup, oSl_lst, oSl_scr, oSl_str, dSl, dNoP, dPart, cLen, cMin2, cInt, uNeg, uBits, uIs, fInt, fBool, fStr, fTup, tyD, dgName, dgNil, dgCons, dgTup, dAsg, dPar, dPar3, dFor, dLc, diTup, diLst, diR1, diR2, diEnT, diEnL, diStr, dCall, dMeth, dMake, dFld, sSetF, startD, dYes, dw]
  exact ⟨by omega, change_ok mv rfl rfl (by simp) rfl⟩
def spHWay (CH : Addr) : SpD := fun l M Q => ∃ g r ws w ds s, l = [.h g, Way.d s] ∧ Mv CH g r ws w ds (.way s) M Q
theorem sc_HWay : FnScope ["self", "way", "size", "kinds", "sources", "ways"] ["self", "way"] (defScope sHWay) := ⟨rfl, rfl, rfl, by decide +kernel, rfl, by decide +kernel, by decide +kernel⟩
theorem w_HWay {P : Program} {w : World} {K : PySem.W.Frag} {mg : Str → Option Value} {base : Heap} {CG CH : Addr} (T : Tx K w mg CG CH) : MD P w K mg base 7 CH "way" (spHWay CH) := by
  obtain ⟨f, fd, hm, F⟩ := T.m_HWay
  refine ⟨f, hm, okD (k := 6) F sc_HWay (F.bindsN fun _ _ _ _ _ _ us hl => match us, hl with | [_, _], _ => rfl)
    (fun cdv A outer s H E hr => (d_seq (d_expr (d_meth0 (d_var (i := 0) rfl (.inl rfl)) T.cH ((w_HBegin T).mono (by decide)) hr))
      (d_seq (d_asg (d_meth0 (d_var (i := 0) rfl (.inl rfl)) T.cH ((w_HWorld T).mono (by decide)) hr) (dg_tup (n := 4) rfl (dg_cons (dg_name (i := 2) sc_HWay.nd rfl (Or.inl rfl)) (dg_cons (dg_name (i := 3) sc_HWay.nd rfl (Or.inl rfl)) (dg_cons (dg_name (i := 4) sc_HWay.nd rfl (Or.inl rfl)) (dg_cons (dg_name (i := 5) sc_HWay.nd rfl (Or.inl rfl)) dg_nil))))))
      (d_single (d_expr (d_meth (d_var (i := 0) rfl (.inl rfl)) T.cH ((w_HChange T).mono (by decide)) hr (d_pa_cons (d_tup (d_pa_cons d_str (d_pa_cons (d_var (i := 1) rfl (.inl rfl)) d_pa_nil))) (d_pa_cons (d_var (i := 4) rfl (.inl rfl)) (d_pa_cons (d_add (d_var (i := 5) rfl (.inl rfl)) (d_tup (d_pa_cons (d_var (i := 1) rfl (.inl rfl)) d_pa_nil))) d_pa_nil))))))))) (fun l M Qd h => ?_)⟩
  obtain ⟨g, r, ws, w, ds, s, rfl, mv⟩ := h
  refine ⟨rfl, ?_⟩
  have hM := mv.1
  have s6 := mv.2.2.2.1.w8
  refine seq_cut (fun ds' M' => M' = M ∧ ds' = [some (.h g), some s.d, none, none, none, none]) (fun N k => ?_) ?_
  · exact meth_begin rfl hM mv.2.1 (k _ _ ⟨rfl, rfl⟩)
  rintro ds' M' ⟨rfl, rfl⟩
  refine seq_cut (fun ds' M'' => M'' = M' ∧ ds' = [some (.h g), some s.d, some (.int w.size), some (kindsD w.kinds), some (.tup (w.srcs.map Src.d)), some (.tup (w.ways.map Way.d))]) (fun N k => ?_) ?_
  · refine meth_world rfl hM ?_
    simp [and_assoc, strsOf_map, dVar, dC, dOp, dUn, dNil, dCons, dTup, dLst, dNew, dTest, dAnd, dOr, dNot, dAndV, dOrV, dNotV, dIf, dIsN, dNotN, isN, dChain, dCB, dNext, dSeq, dDrop, dRet, dRetN, dIfS, oI, oI0, oAdd, oC, oIx_tup, oIx_lst, oIx_h, oIx_str, oSl_tup, oSl_lst, oSl_scr, oSl_str, dSl, dNoP, dPart, cLen, cMin2, cInt, uNeg, uBits, uIs, fInt, fBool, fStr, fTup, tyD, dgName, dgNil, dgCons, dgTup, dAsg, dPar, dPar3, dFor, dLc, diTup, diLst, diR1, diR2, diEnT, diEnL, diStr, dCall, dMeth, dMake, dFld, sSetF, startD, dYes, dw, Wld.d]
    exact k _ _ ⟨rfl, rfl⟩
  rintro ds' M ⟨rfl, rfl⟩
  refine ⟨.h g, rfl, g, _, rfl, hM, rfl, ?_⟩
  simp [and_assoc, strsOf_map, dVar, dC, dOp, dUn, dNil, dCons, dTup, dLst, dNew, dTest, dAnd, dOr, dNot, dAndV, dOrV, dNotV, dIf, dIsN, dNotN, isN, dChain, dCB, dNext, dSeq, dDrop, dRet, dRetN, dIfS, oI, oI0, oAdd, oC, oIx_tup, oIx_lst, oIx_h, oIx_str, oSl_tup, oSl_lst, oSl_scr, oSl_str, dSl, dNoP, dPart, cLen, cMin2, cInt, uNeg, uBits, uIs, fInt, fBool, fStr, fTup, tyD, dgName, dgNil, dgCons, dgTup, dAsg, dPar, dPar3, dFor, dLc, diTup, diLst, diR1, diR2, diEnT, diEnL, diStr, dCall, dMeth, dMake, dFld, sSetF, startD, dYes, dw]
  exact ⟨by omega, change_ok mv rfl rfl rfl (by simp)⟩
def spHStop (CH : Addr) : SpD := fun l M Q => ∃ g r ws w ds, ∃ n : Nat, l = [.h g, .int (n : Int)] ∧ Mv CH g r ws w ds (.stop n) M Q
theorem sc_HStop : FnScope ["self", "number", "size", "kinds", "sources", "ways"] ["self", "number"] (defScope sHStop) := ⟨rfl, rfl, rfl, by decide +kernel, rfl, by decide +kernel, by decide +kernel⟩
theorem w_HStop {P : Program} {w : World} {K : PySem.W.Frag} {mg : Str → Option Value} {base : Heap} {CG CH : Addr} (T : Tx K w mg CG CH) : MD P w K mg base 7 CH "stop" (spHStop CH) := by
  obtain ⟨f, fd, hm, F⟩ := T.m_HStop
  refine ⟨f, hm, okD (k := 6) F sc_HStop (F.bindsN fun _ _ _ _ _ _ us hl => match us, hl with | [_, _], _ => rfl)
    (fun cdv A outer s H E hr => (d_seq (d_expr (d_meth0 (d_var (i := 0) rfl (.inl rfl)) T.cH ((w_HBegin T).mono (by decide)) hr))
      (d_seq (d_asg (d_meth0 (d_var (i := 0) rfl (.inl rfl)) T.cH ((w_HWorld T).mono (by decide)) hr) (dg_tup (n := 4) rfl (dg_cons (dg_name (i := 2) sc_HStop.nd rfl (Or.inl rfl)) (dg_cons (dg_name (i := 3) sc_HStop.nd rfl (Or.inl rfl)) (dg_cons (dg_name (i := 4) sc_HStop.nd rfl (Or.inl rfl)) (dg_cons (dg_name (i := 5) sc_HStop.nd rfl (Or.inl rfl)) dg_nil))))))
      (d_seq (d_if (d_not (d_tval (d_call ((w_PIsNumber T).mono (by decide)) hr rfl (d_pa_cons (d_var (i := 1) rfl (.inl rfl)) (d_pa_cons d_int (d_pa_cons (d_sub (d_len rfl T.n_len (d_pa_cons (d_var (i := 4) rfl (.inl rfl)) d_pa_nil)) d_int) d_pa_nil)))))) d_nevers d_nil)
      (d_single (d_expr (d_meth (d_var (i := 0) rfl (.inl rfl)) T.cH ((w_HChange T).mono (by decide)) hr (d_pa_cons (d_tup (d_pa_cons d_str (d_pa_cons (d_var (i := 1) rfl (.inl rfl)) d_pa_nil))) (d_pa_cons (d_call ((w_PWithoutOne T).mono (by decide)) hr rfl (d_pa_cons (d_var (i := 4) rfl (.inl rfl)) (d_pa_cons (d_var (i := 1) rfl (.inl rfl)) d_pa_nil))) (d_pa_cons (d_var (i := 5) rfl (.inl rfl)) d_pa_nil)))))))))) (fun l M Qd h => ?_)⟩
  obtain ⟨g, r, ws, w, ds, n, rfl, mv⟩ := h
  refine ⟨rfl, ?_⟩
  have hM := mv.1
  have s6 := mv.2.2.2.1.s6
  obtain ⟨w', ew, _⟩ := mv.2.2.2.2
  have ew0 := ew
  simp only [app] at ew
  split at ew
  case isFalse => cases ew
  case isTrue hn =>
  refine seq_cut (fun ds' M' => M' = M ∧ ds' = [some (.h g), some (.int (n : Int)), none, none, none, none]) (fun N k => ?_) ?_
  · exact meth_begin rfl hM mv.2.1 (k _ _ ⟨rfl, rfl⟩)
  rintro ds' M' ⟨rfl, rfl⟩
  refine seq_cut (fun ds' M'' => M'' = M' ∧ ds' = [some (.h g), some (.int (n : Int)), some (.int w.size), some (kindsD w.kinds), some (.tup (w.srcs.map Src.d)), some (.tup (w.ways.map Way.d))]) (fun N k => ?_) ?_
  · refine meth_world rfl hM ?_
    simp [and_assoc, strsOf_map, dVar, dC, dOp, dUn, dNil, dCons, dTup, dLst, dNew, dTest, dAnd, dOr, dNot, dAndV, dOrV, dNotV, dIf, dIsN, dNotN, isN, dChain, dCB, dNext, dSeq, dDrop, dRet, dRetN, dIfS, oI, oI0, oAdd, oC, oIx_tup, oIx_lst, oIx_h, oIx_str, oSl_tup, oSl_lst, oSl_scr, oSl_str, dSl, dNoP, dPart, cLen, cMin2, cInt, uNeg, uBits, uIs, fInt, fBool, fStr, fTup, tyD, dgName, dgNil, dgCons, dgTup, dAsg, dPar, dPar3, dFor, dLc, diTup, diLst, diR1, diR2, diEnT, diEnL, diStr, dCall, dMeth, dMake, dFld, sSetF, startD, dYes, dw, Wld.d]
    exact k _ _ ⟨rfl, rfl⟩
  rintro ds' M ⟨rfl, rfl⟩
  refine seq_cut (fun ds' M'' => M'' = M ∧ ds' = [some (.h g), some (.int (n : Int)), some (.int w.size), some (kindsD w.kinds), some (.tup (w.srcs.map Src.d)), some (.tup (w.ways.map Way.d))]) (fun N k => ?_) ?_
  · have c' : inR 0 (n : Int) ((w.srcs.length : Int) - 1) = true := by simp [oIx_tup, oIx_lst, oIx_h, oIx_str, inR]; omega
    simp [and_assoc, strsOf_map, dVar, dC, dOp, dUn, dNil, dCons, dTup, dLst, dNew, dTest, dAnd, dOr, dNot, dAndV, dOrV, dNotV, dIf, dIsN, dNotN, isN, dChain, dCB, dNext, dSeq, dDrop, dRet, dRetN, dIfS, oI, oI0, oAdd, oC, oIx_tup, oIx_lst, oIx_h, oIx_str, oSl_tup, oSl_lst, oSl_scr, oSl_str, dSl, dNoP, dPart, cLen, cMin2, cInt, uNeg, uBits, uIs, fInt, fBool, fStr, fTup, tyD, dgName, dgNil, dgCons, dgTup, dAsg, dPar, dPar3, dFor, dLc, diTup, diLst, diR1, diR2, diEnT, diEnL, diStr, dCall, dMeth, dMake, dFld, sSetF, startD, dYes, dw, spIsNumber, c']
    exact k _ _ ⟨rfl, rfl⟩
  rintro ds' M' ⟨rfl, rfl⟩
  refine ⟨.h g, rfl, g, _, rfl, hM, rfl, ?_⟩
  simp [and_assoc, strsOf_map, dVar, dC, dOp, dUn, dNil, dCons, dTup, dLst, dNew, dTest, dAnd, dOr, dNot, dAndV, dOrV, dNotV, dIf, dIsN, dNotN, isN, dChain, dCB, dNext, dSeq, dDrop, dRet, dRetN, dIfS, oI, oI0, oAdd, oC, oIx_tup, oIx_lst, oIx_h, oIx_str, oSl_tup, oSl_lst, oSl_scr, oSl_str, dSl, dNoP, dPart, cLen, cMin2, cInt, uNeg, uBits, uIs, fInt, fBool, fStr, fTup, tyD, dgName, dgNil, dgCons, dgTup, dAsg, dPar, dPar3, dFor, dLc, diTup, diLst, diR1, diR2, diEnT, diEnL, diStr, dCall, dMeth, dMake, dFld, sSetF, startD, dYes, dw, spWithoutOne]
  refine ⟨by omega, change_ok mv ew0 rfl ?_ ?_⟩
  · cases ew; simp [oIx_tup, oIx_lst, oIx_h, oIx_str, map_erase]
  · cases ew; rfl
def spHWayOf (CH : Addr) : SpD := fun l M Q => ∃ g r ws w ds, ∃ n : Nat, ∃ x, l = [.h g, .int (n : Int)] ∧ M[g]? = some (.ins CH (HF r (ws ++ [w]) ds)) ∧ w.ways.length ≤ 20 ∧ w.ways[n]? = some x ∧ Q (Way.d x) M
theorem sc_HWayOf : FnScope ["self", "number", "ways"] ["self", "number"] (defScope sHWayOf) := ⟨rfl, rfl, rfl, by decide +kernel, rfl, by decide +kernel, by decide +kernel⟩
theorem w_HWayOf {P : Program} {w : World} {K : PySem.W.Frag} {mg : Str → Option Value} {base : Heap} {CG CH : Addr} (T : Tx K w mg CG CH) : MD P w K mg base 2 CH "way_of" (spHWayOf CH) := by
  obtain ⟨f, fd, hm, F⟩ := T.m_HWayOf
  refine ⟨f, hm, okD (k := 1) F sc_HWayOf (F.bindsN fun _ _ _ _ _ _ us hl => match us, hl with | [_, _], _ => rfl)
    (fun cdv A outer s H E hr => (d_seq (d_set (i := 2) sc_HWayOf.nd rfl (Or.inl rfl) (d_ix (d_meth0 (d_var (i := 0) rfl (.inl rfl)) T.cH ((w_HWorld T).mono (by decide)) hr) d_int))
      (d_seq (d_if (d_not (d_tval (d_call ((w_PIsNumber T).mono (by decide)) hr rfl (d_pa_cons (d_var (i := 1) rfl (.inl rfl)) (d_pa_cons d_int (d_pa_cons (d_sub (d_len rfl T.n_len (d_pa_cons (d_var (i := 2) rfl (.inl rfl)) d_pa_nil)) d_int) d_pa_nil)))))) d_nevers d_nil)
      (d_single (d_ret (d_ix (d_var (i := 2) rfl (.inl rfl)) (d_var (i := 1) rfl (.inl rfl)))))))) (fun l M Qd h => ?_)⟩
  obtain ⟨g, r, ws, w, ds, n, x, rfl, hM, h20, hx, h⟩ := h
  refine ⟨rfl, ?_⟩
  have hn := (List.getElem?_eq_some_iff.mp hx).1
  have hy : atI (w.ways.map Way.d) (n : Int) = some x.d := by rw [atI_nat, List.getElem?_map, hx]; rfl
  refine seq_cut (fun ds' M' => M' = M ∧ ds' = [some (.h g), some (.int (n : Int)), some (.tup (w.ways.map Way.d))]) (fun N k => ?_) ?_
  · refine meth_world rfl hM ?_
    simp [and_assoc, strsOf_map, dVar, dC, dOp, dUn, dNil, dCons, dTup, dLst, dNew, dTest, dAnd, dOr, dNot, dAndV, dOrV, dNotV, dIf, dIsN, dNotN, isN, dChain, dCB, dNext, dSeq, dDrop, dRet, dRetN, dIfS, oI, oI0, oAdd, oC, oIx_tup, oIx_lst, oIx_h, oIx_str, oSl_tup, oSl_lst, oSl_scr, oSl_str, dSl, dNoP, dPart, cLen, cMin2, cInt, uNeg, uBits, uIs, fInt, fBool, fStr, fTup, tyD, dgName, dgNil, dgCons, dgTup, dAsg, dPar, dPar3, dFor, dLc, diTup, diLst, diR1, diR2, diEnT, diEnL, diStr, dCall, dMeth, dMake, dFld, sSetF, startD, dYes, dw, Wld.d, at3]
    exact k _ _ ⟨rfl, rfl⟩
  rintro ds' M' ⟨rfl, rfl⟩
  have c' : inR 0 (n : Int) ((w.ways.length : Int) - 1) = true := by simp [oIx_tup, oIx_lst, oIx_h, oIx_str, inR]; omega
  simp [and_assoc, strsOf_map, dVar, dC, dOp, dUn, dNil, dCons, dTup, dLst, dNew, dTest, dAnd, dOr, dNot, dAndV, dOrV, dNotV, dIf, dIsN, dNotN, isN, dChain, dCB, dNext, dSeq, dDrop, dRet, dRetN, dIfS, oI, oI0, oAdd, oC, oIx_tup, oIx_lst, oIx_h, oIx_str, oSl_tup, oSl_lst, oSl_scr, oSl_str, dSl, dNoP, dPart, cLen, cMin2, cInt, uNeg, uBits, uIs, fInt, fBool, fStr, fTup, tyD, dgName, dgNil, dgCons, dgTup, dAsg, dPar, dPar3, dFor, dLc, diTup, diLst, diR1, diR2, diEnT, diEnL, diStr, dCall, dMeth, dMake, dFld, sSetF, startD, dYes, dw, spIsNumber, c', hy]
  exact h
theorem meth_wayof {CH : Addr} {i j g r n : Nat} {ws : List Wld} {w : Wld} {x : Way} {ds : List Deed} {vs : DS} {M : S} {Q : KD} (hv : vs[i]? = some (some (.h g))) (hw : vs[j]? = some (some (.int (n : Int)))) (hM : M[g]? = some (.ins CH (HF r (ws ++ [w]) ds))) (h20 : w.ways.length ≤ 20) (hx : w.ways[n]? = some x) (q : Q x.d M) :
    dMeth CH "way_of" (spHWayOf CH) (dVar i) (dCons (dVar j) dNil) vs M Q :=
  ⟨.h g, hv, g, _, rfl, hM, rfl, .int n, hw, g, r, ws, w, ds, n, x, rfl, hM, h20, hx, q⟩
def spHShut (CH : Addr) : SpD := fun l M Q => ∃ g r ws w ds, ∃ n : Nat, l = [.h g, .int (n : Int)] ∧ Mv CH g r ws w ds (.shut n) M Q
theorem sc_HShut : FnScope ["self", "number", "size", "kinds", "sources", "ways"] ["self", "number"] (defScope sHShut) := ⟨rfl, rfl, rfl, by decide +kernel, rfl, by decide +kernel, by decide +kernel⟩
theorem w_HShut {P : Program} {w : World} {K : PySem.W.Frag} {mg : Str → Option Value} {base : Heap} {CG CH : Addr} (T : Tx K w mg CG CH) : MD P w K mg base 7 CH "shut" (spHShut CH) := by
  obtain ⟨f, fd, hm, F⟩ := T.m_HShut
  refine ⟨f, hm, okD (k := 6) F sc_HShut (F.bindsN fun _ _ _ _ _ _ us hl => match us, hl with | [_, _], _ => rfl)
    (fun cdv A outer s H E hr => (d_seq (d_expr (d_meth0 (d_var (i := 0) rfl (.inl rfl)) T.cH ((w_HBegin T).mono (by decide)) hr))
      (d_seq (d_expr (d_meth (d_var (i := 0) rfl (.inl rfl)) T.cH ((w_HWayOf T).mono (by decide)) hr (d_pa_cons (d_var (i := 1) rfl (.inl rfl)) d_pa_nil)))
      (d_seq (d_asg (d_meth0 (d_var (i := 0) rfl (.inl rfl)) T.cH ((w_HWorld T).mono (by decide)) hr) (dg_tup (n := 4) rfl (dg_cons (dg_name (i := 2) sc_HShut.nd rfl (Or.inl rfl)) (dg_cons (dg_name (i := 3) sc_HShut.nd rfl (Or.inl rfl)) (dg_cons (dg_name (i := 4) sc_HShut.nd rfl (Or.inl rfl)) (dg_cons (dg_name (i := 5) sc_HShut.nd rfl (Or.inl rfl)) dg_nil))))))
      (d_single (d_expr (d_meth (d_var (i := 0) rfl (.inl rfl)) T.cH ((w_HChange T).mono (by decide)) hr (d_pa_cons (d_tup (d_pa_cons d_str (d_pa_cons (d_var (i := 1) rfl (.inl rfl)) d_pa_nil))) (d_pa_cons (d_var (i := 4) rfl (.inl rfl)) (d_pa_cons (d_call ((w_PWithoutOne T).mono (by decide)) hr rfl (d_pa_cons (d_var (i := 5) rfl (.inl rfl)) (d_pa_cons (d_var (i := 1) rfl (.inl rfl)) d_pa_nil))) d_pa_nil)))))))))) (fun l M Qd h => ?_)⟩
  obtain ⟨g, r, ws, w, ds, n, rfl, mv⟩ := h
  refine ⟨rfl, ?_⟩
  have hM := mv.1
  have s6 := mv.2.2.2.1.w8
  obtain ⟨w', ew, _⟩ := mv.2.2.2.2
  have ew0 := ew
  simp only [app] at ew
  split at ew
  case isFalse => cases ew
  case isTrue hn =>
  refine seq_cut (fun ds' M' => M' = M ∧ ds' = [some (.h g), some (.int (n : Int)), none, none, none, none]) (fun N k => ?_) ?_
  · exact meth_begin rfl hM mv.2.1 (k _ _ ⟨rfl, rfl⟩)
  rintro ds' M' ⟨rfl, rfl⟩
  refine seq_cut (fun ds' M'' => M'' = M' ∧ ds' = [some (.h g), some (.int (n : Int)), none, none, none, none]) (fun N k => ?_) ?_
  · exact meth_wayof rfl rfl hM (by omega) (List.getElem?_eq_getElem hn) (k _ _ ⟨rfl, rfl⟩)
  rintro ds' M ⟨rfl, rfl⟩
  refine seq_cut (fun ds' M'' => M'' = M ∧ ds' = [some (.h g), some (.int (n : Int)), some (.int w.size), some (kindsD w.kinds), some (.tup (w.srcs.map Src.d)), some (.tup (w.ways.map Way.d))]) (fun N k => ?_) ?_
  · refine meth_world rfl hM ?_
    simp [and_assoc, strsOf_map, dVar, dC, dOp, dUn, dNil, dCons, dTup, dLst, dNew, dTest, dAnd, dOr, dNot, dAndV, dOrV, dNotV, dIf, dIsN, dNotN, isN, dChain, dCB, dNext, dSeq, dDrop, dRet, dRetN, dIfS, oI, oI0, oAdd, oC, oIx_tup, oIx_lst, oIx_h, oIx_str, oSl_tup, oSl_lst, oSl_scr, oSl_str, dSl, dNoP, dPart, cLen, cMin2, cInt, uNeg, uBits, uIs, fInt, fBool, fStr, fTup, tyD, dgName, dgNil, dgCons, dgTup, dAsg, dPar, dPar3, dFor, dLc, diTup, diLst, diR1, diR2, diEnT, diEnL, diStr, dCall, dMeth, dMake, dFld, sSetF, startD, dYes, dw, Wld.d]
    exact k _ _ ⟨rfl, rfl⟩
  rintro ds' M' ⟨rfl, rfl⟩
  refine ⟨.h g, rfl, g, _, rfl, hM, rfl, ?_⟩
  simp [and_assoc, strsOf_map, dVar, dC, dOp, dUn, dNil, dCons, dTup, dLst, dNew, dTest, dAnd, dOr, dNot, dAndV, dOrV, dNotV, dIf, dIsN, dNotN, isN, dChain, dCB, dNext, dSeq, dDrop, dRet, dRetN, dIfS, oI, oI0, oAdd, oC, oIx_tup, oIx_lst, oIx_h, oIx_str, oSl_tup, oSl_lst, oSl_scr, oSl_str, dSl, dNoP, dPart, cLen, cMin2, cInt, uNeg, uBits, uIs, fInt, fBool, fStr, fTup, tyD, dgName, dgNil, dgCons, dgTup, dAsg, dPar, dPar3, dFor, dLc, diTup, diLst, diR1, diR2, diEnT, diEnL, diStr, dCall, dMeth, dMake, dFld, sSetF, startD, dYes, dw, spWithoutOne]
  refine ⟨by omega, change_ok mv ew0 rfl ?_ ?_⟩
  · cases ew; rfl
  · cases ew; simp [oIx_tup, oIx_lst, oIx_h, oIx_str, map_erase]
end My

set_option Elab.async false
set_option linter.all false
set_option maxRecDepth 100000
set_option maxHeartbeats 4000000
namespace My
open PySem PySem.Spec PyProof.Rows L2
def spHHours (CH : Addr) : SpD := fun l M Q => ∃ g r ws w ds, ∃ (n : Nat) (hs : List Int), l = [.h g, .int (n : Int), .tup (hs.map .int)] ∧ Mv CH g r ws w ds (.hours n hs) M Q
theorem sc_HHours : FnScope ["self", "number", "hours", "own", "size", "kinds", "sources", "ways"] ["self", "number", "hours"] (defScope sHHours) := ⟨rfl, rfl, rfl, by decide +kernel, rfl, by decide +kernel, by decide +kernel⟩
theorem w_HHours {P : Program} {w : World} {K : PySem.W.Frag} {mg : Str → Option Value} {base : Heap} {CG CH : Addr} (T : Tx K w mg CG CH) : MD P w K mg base 7 CH "hours" (spHHours CH) := by
  obtain ⟨f, fd, hm, F⟩ := T.m_HHours
  refine ⟨f, hm, okD (k := 6) F sc_HHours (F.bindsN fun _ _ _ _ _ _ us hl => match us, hl with | [_, _, _], _ => rfl)
    (fun cdv A outer s H E hr => (d_seq (d_expr (d_meth0 (d_var (i := 0) rfl (.inl rfl)) T.cH ((w_HBegin T).mono (by decide)) hr))
      (d_seq (d_set (i := 3) sc_HHours.nd rfl (Or.inl rfl) (d_meth (d_var (i := 0) rfl (.inl rfl)) T.cH ((w_HWayOf T).mono (by decide)) hr (d_pa_cons (d_var (i := 1) rfl (.inl rfl)) d_pa_nil)))
      (d_seq (d_asg (d_meth0 (d_var (i := 0) rfl (.inl rfl)) T.cH ((w_HWorld T).mono (by decide)) hr) (dg_tup (n := 4) rfl (dg_cons (dg_name (i := 4) sc_HHours.nd rfl (Or.inl rfl)) (dg_cons (dg_name (i := 5) sc_HHours.nd rfl (Or.inl rfl)) (dg_cons (dg_name (i := 6) sc_HHours.nd rfl (Or.inl rfl)) (dg_cons (dg_name (i := 7) sc_HHours.nd rfl (Or.inl rfl)) dg_nil))))))
      (d_single (d_expr (d_meth (d_var (i := 0) rfl (.inl rfl)) T.cH ((w_HChange T).mono (by decide)) hr (d_pa_cons (d_tup (d_pa_cons d_str (d_pa_cons (d_var (i := 1) rfl (.inl rfl)) (d_pa_cons (d_var (i := 2) rfl (.inl rfl)) d_pa_nil)))) (d_pa_cons (d_var (i := 6) rfl (.inl rfl)) (d_pa_cons (d_call ((w_PWithOne T).mono (by decide)) hr rfl (d_pa_cons (d_var (i := 7) rfl (.inl rfl)) (d_pa_cons (d_var (i := 1) rfl (.inl rfl)) (d_pa_cons (d_call ((w_PWithOne T).mono (by decide)) hr rfl (d_pa_cons (d_var (i := 3) rfl (.inl rfl)) (d_pa_cons d_int (d_pa_cons (d_var (i := 2) rfl (.inl rfl)) d_pa_nil)))) d_pa_nil)))) d_pa_nil)))))))))) (fun l M Qd h => ?_)⟩
  obtain ⟨g, r, ws, w, ds, n, hs, rfl, mv⟩ := h
  refine ⟨rfl, ?_⟩
  have hM := mv.1
  have s6 := mv.2.2.2.1.w8
  obtain ⟨w', ew, _⟩ := mv.2.2.2.2
  have ew0 := ew
  simp only [app] at ew
  split at ew
  case h_2 => cases ew
  case h_1 x hx =>
  have hn := (List.getElem?_eq_some_iff.mp hx).1
  refine seq_cut (fun ds' M' => M' = M ∧ ds' = [some (.h g), some (.int (n : Int)), some (.tup (hs.map .int)), none, none, none, none, none]) (fun N k => ?_) ?_
  · exact meth_begin rfl hM mv.2.1 (k _ _ ⟨rfl, rfl⟩)
  rintro ds' M' ⟨rfl, rfl⟩
  refine seq_cut (fun ds' M'' => M'' = M' ∧ ds' = [some (.h g), some (.int (n : Int)), some (.tup (hs.map .int)), some x.d, none, none, none, none]) (fun N k => ?_) ?_
  · exact meth_wayof rfl rfl hM (by omega) hx (k _ _ ⟨rfl, rfl⟩)
  rintro ds' M ⟨rfl, rfl⟩
  refine seq_cut (fun ds' M'' => M'' = M ∧ ds' = [some (.h g), some (.int (n : Int)), some (.tup (hs.map .int)), some x.d, some (.int w.size), some (kindsD w.kinds), some (.tup (w.srcs.map Src.d)), some (.tup (w.ways.map Way.d))]) (fun N k => ?_) ?_
  · refine meth_world rfl hM ?_
    simp [and_assoc, strsOf_map, dVar, dC, dOp, dUn, dNil, dCons, dTup, dLst, dNew, dTest, dAnd, dOr, dNot, dAndV, dOrV, dNotV, dIf, dIsN, dNotN, isN, dChain, dCB, dNext, dSeq, dDrop, dRet, dRetN, dIfS, oI, oI0, oAdd, oC, oIx_tup, oIx_lst, oIx_h, oIx_str, oSl_tup, oSl_lst, oSl_scr, oSl_str, dSl, dNoP, dPart, cLen, cMin2, cInt, uNeg, uBits, uIs, fInt, fBool, fStr, fTup, tyD, dgName, dgNil, dgCons, dgTup, dAsg, dPar, dPar3, dFor, dLc, diTup, diLst, diR1, diR2, diEnT, diEnL, diStr, dCall, dMeth, dMake, dFld, sSetF, startD, dYes, dw, Wld.d]
    exact k _ _ ⟨rfl, rfl⟩
  rintro ds' M' ⟨rfl, rfl⟩
  refine ⟨.h g, rfl, g, _, rfl, hM, rfl, ?_⟩
  simp [and_assoc, strsOf_map, dVar, dC, dOp, dUn, dNil, dCons, dTup, dLst, dNew, dTest, dAnd, dOr, dNot, dAndV, dOrV, dNotV, dIf, dIsN, dNotN, isN, dChain, dCB, dNext, dSeq, dDrop, dRet, dRetN, dIfS, oI, oI0, oAdd, oC, oIx_tup, oIx_lst, oIx_h, oIx_str, oSl_tup, oSl_lst, oSl_scr, oSl_str, dSl, dNoP, dPart, cLen, cMin2, cInt, uNeg, uBits, uIs, fInt, fBool, fStr, fTup, tyD, dgName, dgNil, dgCons, dgTup, dAsg, dPar, dPar3, dFor, dLc, diTup, diLst, diR1, diR2, diEnT, diEnL, diStr, dCall, dMeth, dMake, dFld, sSetF, startD, dYes, dw, spWithOne, Way.d]
  refine ⟨by omega, by omega, change_ok mv ew0 rfl ?_ ?_⟩
  · cases ew; rfl
  · cases ew; simp [oIx_tup, oIx_lst, oIx_h, oIx_str, Way.d]
def spHWindow (CH : Addr) : SpD := fun l M Q => ∃ g r ws w ds, ∃ (n m : Nat) (lo hi : Int), l = [.h g, .int (n : Int), .int (m : Int), .int lo, .int hi] ∧ Mv CH g r ws w ds (.window n m lo hi) M Q
theorem sc_HWindow : FnScope ["self", "number", "part", "least", "greatest", "own", "parts", "size", "kinds", "sources", "ways", "new"] ["self", "number", "part", "least", "greatest"] (defScope sHWindow) := ⟨rfl, rfl, rfl, by decide +kernel, rfl, by decide +kernel, by decide +kernel⟩
theorem w_HWindow {P : Program} {w : World} {K : PySem.W.Frag} {mg : Str → Option Value} {base : Heap} {CG CH : Addr} (T : Tx K w mg CG CH) : MD P w K mg base 7 CH "window" (spHWindow CH) := by
  obtain ⟨f, fd, hm, F⟩ := T.m_HWindow
  refine ⟨f, hm, okD (k := 6) F sc_HWindow (F.bindsN fun _ _ _ _ _ _ us hl => match us, hl with | [_, _, _, _, _], _ => rfl)
    (fun cdv A outer s H E hr => (d_seq (d_expr (d_meth0 (d_var (i := 0) rfl (.inl rfl)) T.cH ((w_HBegin T).mono (by decide)) hr))
      (d_seq (d_set (i := 5) sc_HWindow.nd rfl (Or.inl rfl) (d_meth (d_var (i := 0) rfl (.inl rfl)) T.cH ((w_HWayOf T).mono (by decide)) hr (d_pa_cons (d_var (i := 1) rfl (.inl rfl)) d_pa_nil)))
      (d_seq (d_if (d_not (d_tval (d_call ((w_PIsNumber T).mono (by decide)) hr rfl (d_pa_cons (d_var (i := 2) rfl (.inl rfl)) (d_pa_cons d_int (d_pa_cons (d_sub (d_len rfl T.n_len (d_pa_cons (d_ix (d_var (i := 5) rfl (.inl rfl)) d_int) d_pa_nil)) d_int) d_pa_nil)))))) d_nevers d_nil)
      (d_seq (d_set (i := 6) sc_HWindow.nd rfl (Or.inl rfl) (d_call ((w_PWithOne T).mono (by decide)) hr rfl (d_pa_cons (d_ix (d_var (i := 5) rfl (.inl rfl)) d_int) (d_pa_cons (d_var (i := 2) rfl (.inl rfl)) (d_pa_cons (d_tup (d_pa_cons (d_ix (d_ix (d_ix (d_var (i := 5) rfl (.inl rfl)) d_int) (d_var (i := 2) rfl (.inl rfl))) d_int) (d_pa_cons (d_var (i := 3) rfl (.inl rfl)) (d_pa_cons (d_var (i := 4) rfl (.inl rfl)) d_pa_nil)))) d_pa_nil)))))
      (d_seq (d_asg (d_meth0 (d_var (i := 0) rfl (.inl rfl)) T.cH ((w_HWorld T).mono (by decide)) hr) (dg_tup (n := 4) rfl (dg_cons (dg_name (i := 7) sc_HWindow.nd rfl (Or.inl rfl)) (dg_cons (dg_name (i := 8) sc_HWindow.nd rfl (Or.inl rfl)) (dg_cons (dg_name (i := 9) sc_HWindow.nd rfl (Or.inl rfl)) (dg_cons (dg_name (i := 10) sc_HWindow.nd rfl (Or.inl rfl)) dg_nil))))))
      (d_seq (d_set (i := 11) sc_HWindow.nd rfl (Or.inl rfl) (d_call ((w_PWithOne T).mono (by decide)) hr rfl (d_pa_cons (d_var (i := 10) rfl (.inl rfl)) (d_pa_cons (d_var (i := 1) rfl (.inl rfl)) (d_pa_cons (d_call ((w_PWithOne T).mono (by decide)) hr rfl (d_pa_cons (d_var (i := 5) rfl (.inl rfl)) (d_pa_cons d_int (d_pa_cons (d_var (i := 6) rfl (.inl rfl)) d_pa_nil)))) d_pa_nil)))))
      (d_single (d_expr (d_meth (d_var (i := 0) rfl (.inl rfl)) T.cH ((w_HChange T).mono (by decide)) hr (d_pa_cons (d_tup (d_pa_cons d_str (d_pa_cons (d_var (i := 1) rfl (.inl rfl)) (d_pa_cons (d_var (i := 2) rfl (.inl rfl)) (d_pa_cons (d_var (i := 3) rfl (.inl rfl)) (d_pa_cons (d_var (i := 4) rfl (.inl rfl)) d_pa_nil)))))) (d_pa_cons (d_var (i := 9) rfl (.inl rfl)) (d_pa_cons (d_var (i := 11) rfl (.inl rfl)) d_pa_nil))))))))))))) (fun l M Qd h => ?_)⟩
  obtain ⟨g, r, ws, w, ds, n, m, lo, hi, rfl, mv⟩ := h
  refine ⟨rfl, ?_⟩
  have hM := mv.1
  have s6 := mv.2.2.2.1.w8
  obtain ⟨w', ew, _⟩ := mv.2.2.2.2
  have ew0 := ew
  simp only [app] at ew
  split at ew
  case h_2 => cases ew
  case h_1 x hx =>
  split at ew
  case h_2 => cases ew
  case h_1 p hp =>
  have hn := (List.getElem?_eq_some_iff.mp hx).1
  have hm' := (List.getElem?_eq_some_iff.mp hp).1
  have p3 := (mv.2.2.2.1.sh.ways x (List.mem_of_getElem? hx)).len
  have hq : atI (x.parts.map Prt.d) (m : Int) = some p.d := by rw [atI_nat, List.getElem?_map, hp]; rfl
  have A : True := trivial
  refine seq_cut (fun ds' M' => M' = M ∧ ds' = [some (.h g), some (.int (n : Int)), some (.int (m : Int)), some (.int lo), some (.int hi), none, none, none, none, none, none, none]) (fun N k => ?_) ?_
  · exact meth_begin rfl hM mv.2.1 (k _ _ ⟨rfl, rfl⟩)
  rintro ds' M' ⟨rfl, rfl⟩
  refine seq_cut (fun ds' M'' => M'' = M' ∧ ds' = [some (.h g), some (.int (n : Int)), some (.int (m : Int)), some (.int lo), some (.int hi), some x.d, none, none, none, none, none, none]) (fun N k => ?_) ?_
  · exact meth_wayof rfl rfl hM (by omega) hx (k _ _ ⟨rfl, rfl⟩)
  rintro ds' M ⟨rfl, rfl⟩
  refine seq_cut (fun ds' M'' => M'' = M ∧ ds' = [some (.h g), some (.int (n : Int)), some (.int (m : Int)), some (.int lo), some (.int hi), some x.d, none, none, none, none, none, none]) (fun N k => ?_) ?_
  · have c' : inR 0 (m : Int) ((x.parts.length : Int) - 1) = true := by simp [oIx_tup, oIx_lst, oIx_h, oIx_str, inR]; omega
    simp [and_assoc, strsOf_map, dVar, dC, dOp, dUn, dNil, dCons, dTup, dLst, dNew, dTest, dAnd, dOr, dNot, dAndV, dOrV, dNotV, dIf, dIsN, dNotN, isN, dChain, dCB, dNext, dSeq, dDrop, dRet, dRetN, dIfS, oI, oI0, oAdd, oC, oIx_tup, oIx_lst, oIx_h, oIx_str, oSl_tup, oSl_lst, oSl_scr, oSl_str, dSl, dNoP, dPart, cLen, cMin2, cInt, uNeg, uBits, uIs, fInt, fBool, fStr, fTup, tyD, dgName, dgNil, dgCons, dgTup, dAsg, dPar, dPar3, dFor, dLc, diTup, diLst, diR1, diR2, diEnT, diEnL, diStr, dCall, dMeth, dMake, dFld, sSetF, startD, dYes, dw, spIsNumber, Way.d, at1, c']
    exact k _ _ ⟨rfl, rfl⟩
  rintro ds' M' ⟨rfl, rfl⟩
  refine seq_cut (fun ds' M'' => M'' = M' ∧ ds' = [some (.h g), some (.int (n : Int)), some (.int (m : Int)), some (.int lo), some (.int hi), some x.d, some (.tup ((x.parts.map Prt.d).set m (Prt.d ⟨p.kind, lo, hi⟩))), none, none, none, none, none]) (fun N k => ?_) ?_
  · simp [and_assoc, strsOf_map, dVar, dC, dOp, dUn, dNil, dCons, dTup, dLst, dNew, dTest, dAnd, dOr, dNot, dAndV, dOrV, dNotV, dIf, dIsN, dNotN, isN, dChain, dCB, dNext, dSeq, dDrop, dRet, dRetN, dIfS, oI, oI0, oAdd, oC, oIx_tup, oIx_lst, oIx_h, oIx_str, oSl_tup, oSl_lst, oSl_scr, oSl_str, dSl, dNoP, dPart, cLen, cMin2, cInt, uNeg, uBits, uIs, fInt, fBool, fStr, fTup, tyD, dgName, dgNil, dgCons, dgTup, dAsg, dPar, dPar3, dFor, dLc, diTup, diLst, diR1, diR2, diEnT, diEnL, diStr, dCall, dMeth, dMake, dFld, sSetF, startD, dYes, dw, spWithOne, Way.d, at0, at1, hq, Prt.d]
    exact ⟨by omega, by omega, k _ _ ⟨rfl, rfl⟩⟩
  rintro ds' M ⟨rfl, rfl⟩
  refine seq_cut (fun ds' M'' => M'' = M ∧ ds' = [some (.h g), some (.int (n : Int)), some (.int (m : Int)), some (.int lo), some (.int hi), some x.d, some (.tup ((x.parts.map Prt.d).set m (Prt.d ⟨p.kind, lo, hi⟩))), some (.int w.size), some (kindsD w.kinds), some (.tup (w.srcs.map Src.d)), some (.tup (w.ways.map Way.d)), none]) (fun N k => ?_) ?_
  · refine meth_world rfl hM ?_
    simp [and_assoc, strsOf_map, dVar, dC, dOp, dUn, dNil, dCons, dTup, dLst, dNew, dTest, dAnd, dOr, dNot, dAndV, dOrV, dNotV, dIf, dIsN, dNotN, isN, dChain, dCB, dNext, dSeq, dDrop, dRet, dRetN, dIfS, oI, oI0, oAdd, oC, oIx_tup, oIx_lst, oIx_h, oIx_str, oSl_tup, oSl_lst, oSl_scr, oSl_str, dSl, dNoP, dPart, cLen, cMin2, cInt, uNeg, uBits, uIs, fInt, fBool, fStr, fTup, tyD, dgName, dgNil, dgCons, dgTup, dAsg, dPar, dPar3, dFor, dLc, diTup, diLst, diR1, diR2, diEnT, diEnL, diStr, dCall, dMeth, dMake, dFld, sSetF, startD, dYes, dw, Wld.d]
    exact k _ _ ⟨rfl, rfl⟩
  rintro ds' M' ⟨rfl, rfl⟩
  refine seq_cut (fun ds' M'' => M'' = M' ∧ ds' = [some (.h g), some (.int (n : Int)), some (.int (m : Int)), some (.int lo), some (.int hi), some x.d, some (.tup ((x.parts.map Prt.d).set m (Prt.d ⟨p.kind, lo, hi⟩))), some (.int w.size), some (kindsD w.kinds), some (.tup (w.srcs.map Src.d)), some (.tup (w.ways.map Way.d)), some (.tup (w'.ways.map Way.d))]) (fun N k => ?_) ?_
  · simp [and_assoc, strsOf_map, dVar, dC, dOp, dUn, dNil, dCons, dTup, dLst, dNew, dTest, dAnd, dOr, dNot, dAndV, dOrV, dNotV, dIf, dIsN, dNotN, isN, dChain, dCB, dNext, dSeq, dDrop, dRet, dRetN, dIfS, oI, oI0, oAdd, oC, oIx_tup, oIx_lst, oIx_h, oIx_str, oSl_tup, oSl_lst, oSl_scr, oSl_str, dSl, dNoP, dPart, cLen, cMin2, cInt, uNeg, uBits, uIs, fInt, fBool, fStr, fTup, tyD, dgName, dgNil, dgCons, dgTup, dAsg, dPar, dPar3, dFor, dLc, diTup, diLst, diR1, diR2, diEnT, diEnL, diStr, dCall, dMeth, dMake, dFld, sSetF, startD, dYes, dw, spWithOne, Way.d]
    refine ⟨by omega, by omega, k _ _ ⟨rfl, ?_⟩⟩
    cases ew
    simp [oIx_tup, oIx_lst, oIx_h, oIx_str, Way.d]
  rintro ds' M ⟨rfl, rfl⟩
  refine ⟨.h g, rfl, g, _, rfl, hM, rfl, ?_⟩
  simp [and_assoc, strsOf_map, dVar, dC, dOp, dUn, dNil, dCons, dTup, dLst, dNew, dTest, dAnd, dOr, dNot, dAndV, dOrV, dNotV, dIf, dIsN, dNotN, isN, dChain, dCB, dNext, dSeq, dDrop, dRet, dRetN, dIfS, oI, oI0, oAdd, oC, oIx_tup, oIx_lst, oIx_h, oIx_str, oSl_tup, oSl_lst, oSl_scr, oSl_str, dSl, dNoP, dPart, cLen, cMin2, cInt, uNeg, uBits, uIs, fInt, fBool, fStr, fTup, tyD, dgName, dgNil, dgCons, dgTup, dAsg, dPar, dPar3, dFor, dLc, diTup, diLst, diR1, diR2, diEnT, diEnL, diStr, dCall, dMeth, dMake, dFld, sSetF, startD, dYes, dw]
  refine change_ok mv ew0 rfl ?_ rfl
  cases ew; rfl
end My

set_option Elab.async false
set_option linter.all false
set_option maxRecDepth 100000
set_option maxHeartbeats 4000000
namespace My
open PySem PySem.Spec PyProof.Rows L2
theorem cut_init {α : Type} (l : List α) (a : α) : cut (l ++ [a]) none (some (-1)) = l := by
  unfold cut
  have e : HT.sIx (l ++ [a]).length (l ++ [a]).length (some (-1)) = l.length := by
    show (if (-1 : Int) < 0 then ((-1 : Int) + ((l ++ [a]).length : Int)).toNat else min (-1 : Int).toNat (l ++ [a]).length) = l.length
    rw [if_pos (by omega), List.length_append, List.length_singleton]
    omega
  rw [HT.sIx_none, e, List.drop_zero, Nat.sub_zero]
  simp
def spHBack (CH : Addr) : SpD := fun l M Q => ∃ g r ws w ds d, l = [.h g] ∧ M[g]? = some (.ins CH (HF r (ws ++ [w]) (ds ++ [d]))) ∧ (∀ x ∈ ds ++ [d], Gd 20 (Deed.d x)) ∧ Q .non (M.set g (.ins CH (HF r ws ds)))
theorem sc_HBack : FnScope ["self"] ["self"] (defScope sHBack) := ⟨rfl, rfl, rfl, by decide +kernel, rfl, by decide +kernel, by decide +kernel⟩
theorem w_HBack {P : Program} {w : World} {K : PySem.W.Frag} {mg : Str → Option Value} {base : Heap} {CG CH : Addr} (T : Tx K w mg CG CH) : MD P w K mg base 1 CH "back" (spHBack CH) := by
  obtain ⟨f, fd, hm, F⟩ := T.m_HBack
  refine ⟨f, hm, okD (k := 0) F sc_HBack (F.bindsN fun _ _ _ _ _ _ us hl => match us, hl with | [_], _ => rfl)
    (fun cdv A outer s H E hr => (d_seq (d_if (d_tval (d_fld T.cH T.naH_busy (d_var (i := 0) rfl (.inl rfl)))) d_nevers d_nil)
      (d_seq (d_if (dt_eq hr.units (d_fld T.cH T.naH_stand (d_var (i := 0) rfl (.inl rfl))) (d_tup d_pa_nil)) d_nevers d_nil)
      (d_seq (d_setF T.cH T.naH_states (d_var (i := 0) rfl (.inl rfl)) (d_slice (d_fld T.cH T.naH_states (d_var (i := 0) rfl (.inl rfl))) d_no (d_part (d_neg d_int))))
      (d_single (d_setF T.cH T.naH_stand (d_var (i := 0) rfl (.inl rfl)) (d_slice (d_fld T.cH T.naH_stand (d_var (i := 0) rfl (.inl rfl))) d_no (d_part (d_neg d_int))))))))) (fun l M Qd h => ?_)⟩
  obtain ⟨g, r, ws, w, ds, d, rfl, hM, hsh, h⟩ := h
  refine ⟨rfl, ?_⟩
  have hg : g < M.length := (List.getElem?_eq_some_iff.mp hM).1
  have hset : ∀ o : O, (M.set g o)[g]? = some o := fun o => List.getElem?_set_self hg
  have s1 : sh (.tup ((ds ++ [d]).map Deed.d)) = true := ((gd_map hsh).mono (by omega)).sh
  have s0 : sh (.tup []) = true := (gd_tup (n := 0) (l := []) (by simp)).mono (by omega) |>.sh
  have e1 : ((ds ++ [d]).map Deed.d).isEmpty = false := by simp
  unfold HF at hM h
  refine seq_cut (fun ds' M' => M' = M ∧ ds' = [some (.h g)]) (fun N k => ?_) ?_
  · simp [and_assoc, strsOf_map, dVar, dC, dOp, dUn, dNil, dCons, dTup, dLst, dNew, dTest, dAnd, dOr, dNot, dAndV, dOrV, dNotV, dIf, dIsN, dNotN, isN, dChain, dCB, dNext, dSeq, dDrop, dRet, dRetN, dIfS, oI, oI0, oAdd, oC, oIx_tup, oIx_lst, oIx_h, oIx_str, oSl_tup, oSl_lst, oSl_scr, oSl_str, dSl, dNoP, dPart, cLen, cMin2, cInt, uNeg, uBits, uIs, fInt, fBool, fStr, fTup, tyD, dgName, dgNil, dgCons, dgTup, dAsg, dPar, dPar3, dFor, dLc, diTup, diLst, diR1, diR2, diEnT, diEnL, diStr, dCall, dMeth, dMake, dFld, sSetF, startD, dYes, dw, hM, hd_states, hd_stand, hd_rows, hd_busy, hd_pstates, hd_pstand, hd_prows, hd_pbusy, hd_len, hd_m_look, hd_m_begin, hd_m_change, hd_m_world, hd_m_way_of, hd_m_bring, hd_m_way, hd_m_stop, hd_m_shut, hd_m_hours, hd_m_window, hd_m_back, hd_m_do, hd_m_go_through, hd_m_tried]
    exact k _ _ ⟨rfl, rfl⟩
  rintro ds' M' ⟨rfl, rfl⟩
  refine seq_cut (fun ds' M'' => M'' = M' ∧ ds' = [some (.h g)]) (fun N k => ?_) ?_
  · simp only [dIfS, dTest, dOp, dFld, dVar, dTup, dNil, startD]
    refine ⟨.h g, rfl, g, _, _, rfl, hM, hd_stand, by simp, ?_⟩
    refine ⟨s1, s0, _, rfl, ?_⟩
    rw [eq_nilT, e1]
    exact k _ _ ⟨rfl, rfl⟩
  rintro ds' M ⟨rfl, rfl⟩
  refine seq_cut (fun ds' M' => M' = M.set g (.ins CH (HF r ws (ds ++ [d]))) ∧ ds' = [some (.h g)]) (fun N k => ?_) ?_
  · simp [and_assoc, strsOf_map, dVar, dC, dOp, dUn, dNil, dCons, dTup, dLst, dNew, dTest, dAnd, dOr, dNot, dAndV, dOrV, dNotV, dIf, dIsN, dNotN, isN, dChain, dCB, dNext, dSeq, dDrop, dRet, dRetN, dIfS, oI, oI0, oAdd, oC, oIx_tup, oIx_lst, oIx_h, oIx_str, oSl_tup, oSl_lst, oSl_scr, oSl_str, dSl, dNoP, dPart, cLen, cMin2, cInt, uNeg, uBits, uIs, fInt, fBool, fStr, fTup, tyD, dgName, dgNil, dgCons, dgTup, dAsg, dPar, dPar3, dFor, dLc, diTup, diLst, diR1, diR2, diEnT, diEnL, diStr, dCall, dMeth, dMake, dFld, sSetF, startD, dYes, dw, hM, hd_states, hd_stand, hd_rows, hd_busy, hd_pstates, hd_pstand, hd_prows, hd_pbusy, hd_len, hd_m_look, hd_m_begin, hd_m_change, hd_m_world, hd_m_way_of, hd_m_bring, hd_m_way, hd_m_stop, hd_m_shut, hd_m_hours, hd_m_window, hd_m_back, hd_m_do, hd_m_go_through, hd_m_tried]
    refine k _ _ ⟨?_, rfl⟩
    have e : cut (List.map Wld.d ws ++ [Wld.d w]) none (some (-1)) = List.map Wld.d ws := cut_init _ _
    rw [e]; simp [oIx_tup, oIx_lst, oIx_h, oIx_str, HF]
  rintro ds' M' ⟨rfl, rfl⟩
  simp [and_assoc, strsOf_map, dVar, dC, dOp, dUn, dNil, dCons, dTup, dLst, dNew, dTest, dAnd, dOr, dNot, dAndV, dOrV, dNotV, dIf, dIsN, dNotN, isN, dChain, dCB, dNext, dSeq, dDrop, dRet, dRetN, dIfS, oI, oI0, oAdd, oC, oIx_tup, oIx_lst, oIx_h, oIx_str, oSl_tup, oSl_lst, oSl_scr, oSl_str, dSl, dNoP, dPart, cLen, cMin2, cInt, uNeg, uBits, uIs, fInt, fBool, fStr, fTup, tyD, dgName, dgNil, dgCons, dgTup, dAsg, dPar, dPar3, dFor, dLc, diTup, diLst, diR1, diR2, diEnT, diEnL, diStr, dCall, dMeth, dMake, dFld, sSetF, startD, dYes, dw, hset, HF, hd_states, hd_stand, hd_rows, hd_busy, hd_pstates, hd_pstand, hd_prows, hd_pbusy, hd_len, hd_m_look, hd_m_begin, hd_m_change, hd_m_world, hd_m_way_of, hd_m_bring, hd_m_way, hd_m_stop, hd_m_shut, hd_m_hours, hd_m_window, hd_m_back, hd_m_do, hd_m_go_through, hd_m_tried]
  have e : cut (List.map Deed.d ds ++ [Deed.d d]) none (some (-1)) = List.map Deed.d ds := cut_init _ _
  rw [e]; exact h
def spHDo (CH : Addr) : SpD := fun l M Q => ∃ g r ws w ds, ∃ (d : Deed) (n : Int), l = [.h g, .int n, d.d] ∧ Mv CH g r ws w ds d M Q
theorem sc_HDo : FnScope ["self", "number", "deed", "word"] ["self", "number", "deed"] (defScope sHDo) := ⟨rfl, rfl, rfl, by decide +kernel, rfl, by decide +kernel, by decide +kernel⟩
theorem w_HDo {P : Program} {w : World} {K : PySem.W.Frag} {mg : Str → Option Value} {base : Heap} {CG CH : Addr} (T : Tx K w mg CG CH) : MD P w K mg base 8 CH "do" (spHDo CH) := by
  obtain ⟨f, fd, hm, F⟩ := T.m_HDo
  refine ⟨f, hm, okD (k := 7) F sc_HDo (F.bindsN fun _ _ _ _ _ _ us hl => match us, hl with | [_, _, _], _ => rfl)
    (fun cdv A outer s H E hr => (d_seq (d_if (d_not (d_tval (d_call ((w_PIsDeed T).mono (by decide)) hr rfl (d_pa_cons (d_var (i := 2) rfl (.inl rfl)) d_pa_nil)))) d_nevers d_nil)
      (d_seq (d_set (i := 3) sc_HDo.nd rfl (Or.inl rfl) (d_ix (d_var (i := 2) rfl (.inl rfl)) d_int))
      (d_single (d_if (dt_eq hr.units (d_var (i := 3) rfl (.inl rfl)) d_str) (d_single (d_expr (d_meth (d_var (i := 0) rfl (.inl rfl)) T.cH ((w_HBring T).mono (by decide)) hr (d_pa_cons (d_ix (d_var (i := 2) rfl (.inl rfl)) d_int) d_pa_nil)))) (d_single (d_if (dt_eq hr.units (d_var (i := 3) rfl (.inl rfl)) d_str) (d_single (d_expr (d_meth (d_var (i := 0) rfl (.inl rfl)) T.cH ((w_HWay T).mono (by decide)) hr (d_pa_cons (d_ix (d_var (i := 2) rfl (.inl rfl)) d_int) d_pa_nil)))) (d_single (d_if (dt_eq hr.units (d_var (i := 3) rfl (.inl rfl)) d_str) (d_single (d_expr (d_meth (d_var (i := 0) rfl (.inl rfl)) T.cH ((w_HStop T).mono (by decide)) hr (d_pa_cons (d_ix (d_var (i := 2) rfl (.inl rfl)) d_int) d_pa_nil)))) (d_single (d_if (dt_eq hr.units (d_var (i := 3) rfl (.inl rfl)) d_str) (d_single (d_expr (d_meth (d_var (i := 0) rfl (.inl rfl)) T.cH ((w_HShut T).mono (by decide)) hr (d_pa_cons (d_ix (d_var (i := 2) rfl (.inl rfl)) d_int) d_pa_nil)))) (d_single (d_if (dt_eq hr.units (d_var (i := 3) rfl (.inl rfl)) d_str) (d_single (d_expr (d_meth (d_var (i := 0) rfl (.inl rfl)) T.cH ((w_HHours T).mono (by decide)) hr (d_pa_cons (d_ix (d_var (i := 2) rfl (.inl rfl)) d_int) (d_pa_cons (d_ix (d_var (i := 2) rfl (.inl rfl)) d_int) d_pa_nil))))) (d_single (d_expr (d_meth (d_var (i := 0) rfl (.inl rfl)) T.cH ((w_HWindow T).mono (by decide)) hr (d_pa_cons (d_ix (d_var (i := 2) rfl (.inl rfl)) d_int) (d_pa_cons (d_ix (d_var (i := 2) rfl (.inl rfl)) d_int) (d_pa_cons (d_ix (d_var (i := 2) rfl (.inl rfl)) d_int) (d_pa_cons (d_ix (d_var (i := 2) rfl (.inl rfl)) d_int) d_pa_nil)))))))))))))))))))) (fun l M Qd h => ?_)⟩
  obtain ⟨g, r, ws, w, ds, d, n, rfl, mv⟩ := h
  refine ⟨rfl, ?_⟩
  have hM := mv.1
  refine seq_cut (fun ds' M' => M' = M ∧ ds' = [some (.h g), some (.int n), some d.d, none]) (fun N k => ?_) ?_
  · simp [and_assoc, strsOf_map, dVar, dC, dOp, dUn, dNil, dCons, dTup, dLst, dNew, dTest, dAnd, dOr, dNot, dAndV, dOrV, dNotV, dIf, dIsN, dNotN, isN, dChain, dCB, dNext, dSeq, dDrop, dRet, dRetN, dIfS, oI, oI0, oAdd, oC, oIx_tup, oIx_lst, oIx_h, oIx_str, oSl_tup, oSl_lst, oSl_scr, oSl_str, dSl, dNoP, dPart, cLen, cMin2, cInt, uNeg, uBits, uIs, fInt, fBool, fStr, fTup, tyD, dgName, dgNil, dgCons, dgTup, dAsg, dPar, dPar3, dFor, dLc, diTup, diLst, diR1, diR2, diEnT, diEnL, diStr, dCall, dMeth, dMake, dFld, sSetF, startD, dYes, dw, spIsDeed]
    exact ⟨⟨d, rfl⟩, k _ _ ⟨rfl, rfl⟩⟩
  rintro ds' M' ⟨rfl, rfl⟩
  refine seq_cut (fun ds' M'' => M'' = M' ∧ ds' = [some (.h g), some (.int n), some d.d, some (.str d.word)]) (fun N k => ?_) ?_
  · cases d <;> (simp [and_assoc, strsOf_map, dVar, dC, dOp, dUn, dNil, dCons, dTup, dLst, dNew, dTest, dAnd, dOr, dNot, dAndV, dOrV, dNotV, dIf, dIsN, dNotN, isN, dChain, dCB, dNext, dSeq, dDrop, dRet, dRetN, dIfS, oI, oI0, oAdd, oC, oIx_tup, oIx_lst, oIx_h, oIx_str, oSl_tup, oSl_lst, oSl_scr, oSl_str, dSl, dNoP, dPart, cLen, cMin2, cInt, uNeg, uBits, uIs, fInt, fBool, fStr, fTup, tyD, dgName, dgNil, dgCons, dgTup, dAsg, dPar, dPar3, dFor, dLc, diTup, diLst, diR1, diR2, diEnT, diEnL, diStr, dCall, dMeth, dMake, dFld, sSetF, startD, dYes, dw, Deed.d, at0]; exact k _ _ ⟨rfl, rfl⟩)
  rintro ds' M ⟨rfl, rfl⟩
  cases d with
  | bring s =>
    refine if_is rfl rfl ?_
    refine ⟨.h g, rfl, g, _, rfl, hM, rfl, ?_⟩
    simp [and_assoc, strsOf_map, dVar, dC, dOp, dUn, dNil, dCons, dTup, dLst, dNew, dTest, dAnd, dOr, dNot, dAndV, dOrV, dNotV, dIf, dIsN, dNotN, isN, dChain, dCB, dNext, dSeq, dDrop, dRet, dRetN, dIfS, oI, oI0, oAdd, oC, oIx_tup, oIx_lst, oIx_h, oIx_str, oSl_tup, oSl_lst, oSl_scr, oSl_str, dSl, dNoP, dPart, cLen, cMin2, cInt, uNeg, uBits, uIs, fInt, fBool, fStr, fTup, tyD, dgName, dgNil, dgCons, dgTup, dAsg, dPar, dPar3, dFor, dLc, diTup, diLst, diR1, diR2, diEnT, diEnL, diStr, dCall, dMeth, dMake, dFld, sSetF, startD, dYes, dw, Deed.d, at1]
    exact ⟨g, r, ws, w, ds, s, rfl, mv⟩
  | way s =>
    refine if_no rfl (of_eq_false nw_way_bring) (if_is rfl rfl ?_)
    refine ⟨.h g, rfl, g, _, rfl, hM, rfl, ?_⟩
    simp [and_assoc, strsOf_map, dVar, dC, dOp, dUn, dNil, dCons, dTup, dLst, dNew, dTest, dAnd, dOr, dNot, dAndV, dOrV, dNotV, dIf, dIsN, dNotN, isN, dChain, dCB, dNext, dSeq, dDrop, dRet, dRetN, dIfS, oI, oI0, oAdd, oC, oIx_tup, oIx_lst, oIx_h, oIx_str, oSl_tup, oSl_lst, oSl_scr, oSl_str, dSl, dNoP, dPart, cLen, cMin2, cInt, uNeg, uBits, uIs, fInt, fBool, fStr, fTup, tyD, dgName, dgNil, dgCons, dgTup, dAsg, dPar, dPar3, dFor, dLc, diTup, diLst, diR1, diR2, diEnT, diEnL, diStr, dCall, dMeth, dMake, dFld, sSetF, startD, dYes, dw, Deed.d, at1]
    exact ⟨g, r, ws, w, ds, s, rfl, mv⟩
  | stop m =>
    refine if_no rfl (of_eq_false nw_stop_bring) (if_no rfl (of_eq_false nw_stop_way) (if_is rfl rfl ?_))
    refine ⟨.h g, rfl, g, _, rfl, hM, rfl, ?_⟩
    simp [and_assoc, strsOf_map, dVar, dC, dOp, dUn, dNil, dCons, dTup, dLst, dNew, dTest, dAnd, dOr, dNot, dAndV, dOrV, dNotV, dIf, dIsN, dNotN, isN, dChain, dCB, dNext, dSeq, dDrop, dRet, dRetN, dIfS, oI, oI0, oAdd, oC, oIx_tup, oIx_lst, oIx_h, oIx_str, oSl_tup, oSl_lst, oSl_scr, oSl_str, dSl, dNoP, dPart, cLen, cMin2, cInt, uNeg, uBits, uIs, fInt, fBool, fStr, fTup, tyD, dgName, dgNil, dgCons, dgTup, dAsg, dPar, dPar3, dFor, dLc, diTup, diLst, diR1, diR2, diEnT, diEnL, diStr, dCall, dMeth, dMake, dFld, sSetF, startD, dYes, dw, Deed.d, at1]
    exact ⟨g, r, ws, w, ds, m, rfl, mv⟩
  | shut m =>
    refine if_no rfl (of_eq_false nw_shut_bring) (if_no rfl (of_eq_false nw_shut_way) (if_no rfl (of_eq_false nw_shut_stop) (if_is rfl rfl ?_)))
    refine ⟨.h g, rfl, g, _, rfl, hM, rfl, ?_⟩
    simp [and_assoc, strsOf_map, dVar, dC, dOp, dUn, dNil, dCons, dTup, dLst, dNew, dTest, dAnd, dOr, dNot, dAndV, dOrV, dNotV, dIf, dIsN, dNotN, isN, dChain, dCB, dNext, dSeq, dDrop, dRet, dRetN, dIfS, oI, oI0, oAdd, oC, oIx_tup, oIx_lst, oIx_h, oIx_str, oSl_tup, oSl_lst, oSl_scr, oSl_str, dSl, dNoP, dPart, cLen, cMin2, cInt, uNeg, uBits, uIs, fInt, fBool, fStr, fTup, tyD, dgName, dgNil, dgCons, dgTup, dAsg, dPar, dPar3, dFor, dLc, diTup, diLst, diR1, diR2, diEnT, diEnL, diStr, dCall, dMeth, dMake, dFld, sSetF, startD, dYes, dw, Deed.d, at1]
    exact ⟨g, r, ws, w, ds, m, rfl, mv⟩
  | hours m hs =>
    refine if_no rfl (of_eq_false nw_hours_bring) (if_no rfl (of_eq_false nw_hours_way) (if_no rfl (of_eq_false nw_hours_stop) (if_no rfl (of_eq_false nw_hours_shut) (if_is rfl rfl ?_))))
    refine ⟨.h g, rfl, g, _, rfl, hM, rfl, ?_⟩
    simp [and_assoc, strsOf_map, dVar, dC, dOp, dUn, dNil, dCons, dTup, dLst, dNew, dTest, dAnd, dOr, dNot, dAndV, dOrV, dNotV, dIf, dIsN, dNotN, isN, dChain, dCB, dNext, dSeq, dDrop, dRet, dRetN, dIfS, oI, oI0, oAdd, oC, oIx_tup, oIx_lst, oIx_h, oIx_str, oSl_tup, oSl_lst, oSl_scr, oSl_str, dSl, dNoP, dPart, cLen, cMin2, cInt, uNeg, uBits, uIs, fInt, fBool, fStr, fTup, tyD, dgName, dgNil, dgCons, dgTup, dAsg, dPar, dPar3, dFor, dLc, diTup, diLst, diR1, diR2, diEnT, diEnL, diStr, dCall, dMeth, dMake, dFld, sSetF, startD, dYes, dw, Deed.d, at1, at2]
    exact ⟨g, r, ws, w, ds, m, hs, rfl, mv⟩
  | window m p lo hi =>
    refine if_no rfl (of_eq_false nw_window_bring) (if_no rfl (of_eq_false nw_window_way) (if_no rfl (of_eq_false nw_window_stop) (if_no rfl (of_eq_false nw_window_shut) (if_no rfl (of_eq_false nw_window_hours) (?_)))))
    refine ⟨.h g, rfl, g, _, rfl, hM, rfl, ?_⟩
    simp [and_assoc, strsOf_map, dVar, dC, dOp, dUn, dNil, dCons, dTup, dLst, dNew, dTest, dAnd, dOr, dNot, dAndV, dOrV, dNotV, dIf, dIsN, dNotN, isN, dChain, dCB, dNext, dSeq, dDrop, dRet, dRetN, dIfS, oI, oI0, oAdd, oC, oIx_tup, oIx_lst, oIx_h, oIx_str, oSl_tup, oSl_lst, oSl_scr, oSl_str, dSl, dNoP, dPart, cLen, cMin2, cInt, uNeg, uBits, uIs, fInt, fBool, fStr, fTup, tyD, dgName, dgNil, dgCons, dgTup, dAsg, dPar, dPar3, dFor, dLc, diTup, diLst, diR1, diR2, diEnT, diEnL, diStr, dCall, dMeth, dMake, dFld, sSetF, startD, dYes, dw, Deed.d, at1, at2, at3, at4]
    exact ⟨g, r, ws, w, ds, m, p, lo, hi, rfl, mv⟩
end My

set_option Elab.async false
set_option linter.all false
set_option maxRecDepth 100000
set_option maxHeartbeats 4000000
namespace My
open PySem PySem.Spec PyProof.Rows L2
theorem get_last2 {M : S} {o p : O} : (M ++ [o, p])[M.length]? = some o := by simp
theorem set_last2 {M : S} {o p o' : O} : (M ++ [o, p]).set M.length o' = M ++ [o', p] := by simp
def spHInit (CH : Addr) : SpD := fun l M Q => ∃ M1 w, l = [.h M1.length, Wld.d w] ∧ M = M1 ++ [.ins CH []] ∧ Ok w ∧ Q .non (M1 ++ [.ins CH (HF (M1.length + 1) [w] []), .lst []])
theorem sc_HInit : FnScope ["self", "world"] ["self", "world"] (defScope sHInit) := ⟨rfl, rfl, rfl, by decide +kernel, rfl, by decide +kernel, by decide +kernel⟩
theorem w_HInit {P : Program} {w : World} {K : PySem.W.Frag} {mg : Str → Option Value} {base : Heap} {CG CH : Addr} (T : Tx K w mg CG CH) : CD P w K mg base 6 CH "Hall" (spHInit CH) := by
  obtain ⟨f, fd, hm, mk, F⟩ := T.mkH
  refine ⟨f, hm, mk, okD (k := 5) F sc_HInit (F.bindsN fun _ _ _ _ _ _ us hl => match us, hl with | [_, _], _ => rfl)
    (fun cdv A outer s H E hr => (d_seq (d_setF T.cH T.naH_states (d_var (i := 0) rfl (.inl rfl)) (d_tup d_pa_nil))
      (d_seq (d_setF T.cH T.naH_stand (d_var (i := 0) rfl (.inl rfl)) (d_tup d_pa_nil))
      (d_seq (d_setF T.cH T.naH_rows (d_var (i := 0) rfl (.inl rfl)) (d_new d_pa_nil))
      (d_seq (d_setF T.cH T.naH_busy (d_var (i := 0) rfl (.inl rfl)) d_bl)
      (d_seq (d_expr (d_meth (d_var (i := 0) rfl (.inl rfl)) T.cH ((w_HLook T).mono (by decide)) hr (d_pa_cons (d_var (i := 1) rfl (.inl rfl)) d_pa_nil)))
      (d_single (d_setF T.cH T.naH_states (d_var (i := 0) rfl (.inl rfl)) (d_tup (d_pa_cons (d_var (i := 1) rfl (.inl rfl)) d_pa_nil)))))))))) (fun l M Qd h => ?_)⟩
  obtain ⟨M1, w, rfl, rfl, ok, h⟩ := h
  refine ⟨rfl, ?_⟩
  refine seq_cut (fun ds' M' => M' = M1 ++ [.ins CH [("states", .tup [])]] ∧ ds' = [some (.h M1.length), some w.d]) (fun N k => ?_) ?_
  · exact ⟨Nat.zero_le _, .h M1.length, rfl, M1.length, _, rfl, get_last, by simp, k _ _ ⟨set_last, rfl⟩⟩
  rintro ds' M' ⟨rfl, rfl⟩
  refine seq_cut (fun ds' M' => M' = M1 ++ [.ins CH [("states", .tup []), ("stand", .tup [])]] ∧ ds' = [some (.h M1.length), some w.d]) (fun N k => ?_) ?_
  · exact ⟨Nat.zero_le _, .h M1.length, rfl, M1.length, _, rfl, get_last, by simp, k _ _ ⟨set_last, rfl⟩⟩
  rintro ds' M' ⟨rfl, rfl⟩
  refine seq_cut (fun ds' M' => M' = M1 ++ [.ins CH [("states", .tup []), ("stand", .tup []), ("rows", .h (M1.length + 1))], .lst []] ∧ ds' = [some (.h M1.length), some w.d]) (fun N k => ?_) ?_
  · refine ⟨Nat.zero_le _, .h M1.length, rfl, M1.length, [("states", .tup []), ("stand", .tup [])], rfl, ?_, by simp, ?_⟩
    · simp
    · refine k _ _ ⟨?_, rfl⟩
      have e : ∀ x : D, putG (Str.ofString "rows") x [("states", .tup []), ("stand", .tup [])] = ([("states", .tup []), ("stand", .tup []), ("rows", x)] : List (Str × D)) := fun _ => rfl
      rw [e]
      simp
  rintro ds' M' ⟨rfl, rfl⟩
  refine seq_cut (fun ds' M' => M' = M1 ++ [.ins CH (HD (.tup []) (.tup []) (.h (M1.length + 1)) (.bl false)), .lst []] ∧ ds' = [some (.h M1.length), some w.d]) (fun N k => ?_) ?_
  · exact ⟨.h M1.length, rfl, M1.length, _, rfl, get_last2, by simp, k _ _ ⟨set_last2, rfl⟩⟩
  rintro ds' M' ⟨rfl, rfl⟩
  refine seq_cut (fun ds' M' => M' = M1 ++ [.ins CH (HD (.tup []) (.tup []) (.h (M1.length + 1)) (.bl false)), .lst []] ∧ ds' = [some (.h M1.length), some w.d]) (fun N k => ?_) ?_
  · exact ⟨.h M1.length, rfl, M1.length, _, rfl, get_last2, rfl, w.d, rfl, .h M1.length, w, rfl, ok, k _ _ ⟨rfl, rfl⟩⟩
  rintro ds' M' ⟨rfl, rfl⟩
  refine ⟨w.d, rfl, by simp, .h M1.length, rfl, M1.length, _, rfl, get_last2, hd_len, ?_⟩
  rw [hd_pstates, set_last2]
  exact h
theorem if_none {i : Nat} {t u : DSt} {E : DEnds} {ds : DS} {M : S} (hx : ds[i]? = some (some .non)) (h : u E ds M) : dIfS (dTest (dNotN (dVar i))) t u E ds M := ⟨.non, hx, false, rfl, by show (if false = true then t E ds M else u E ds M); rw [if_neg Bool.false_ne_true]; exact h⟩
def spHGoThrough (CH : Addr) : SpD := fun l M Q => ∃ g r w w1 w2 d1 d2, l = [.h g, .tup [Deed.d d1, Deed.d d2], .non] ∧ M[g]? = some (.ins CH (HF r [w] [])) ∧ Sh5 w ∧ app w d1 = some w1 ∧ Ok w1 ∧ app w1 d2 = some w2 ∧ Ok w2 ∧ Q .non (M.set g (.ins CH (HF r [w, w1, w2] [d1, d2])))
theorem sc_HGoThrough : FnScope ["self", "row", "tell", "number", "deed"] ["self", "row", "tell"] (defScope sHGoThrough) := ⟨rfl, rfl, rfl, by decide +kernel, rfl, by decide +kernel, by decide +kernel⟩
theorem w_HGoThrough {P : Program} {w : World} {K : PySem.W.Frag} {mg : Str → Option Value} {base : Heap} {CG CH : Addr} (T : Tx K w mg CG CH) : MD P w K mg base 9 CH "go_through" (spHGoThrough CH) := by
  obtain ⟨f, fd, hm, F⟩ := T.m_HGoThrough
  refine ⟨f, hm, okD (k := 8) F sc_HGoThrough (F.bindsN fun _ _ _ _ _ _ us hl => match us, hl with | [_, _, _], _ => rfl)
    (fun cdv A outer s H E hr => (d_single (d_for PassesOwn.never rfl (di_enT rfl T.n_enumerate (d_pa_cons (d_var (i := 1) rfl (.inl rfl)) d_pa_nil)) (dg_tup (n := 2) rfl (dg_cons (dg_name (i := 3) sc_HGoThrough.nd rfl (Or.inl rfl)) (dg_cons (dg_name (i := 4) sc_HGoThrough.nd rfl (Or.inl rfl)) dg_nil))) (d_seq (d_expr (d_meth (d_var (i := 0) rfl (.inl rfl)) T.cH ((w_HDo T).mono (by decide)) hr (d_pa_cons (d_var (i := 3) rfl (.inl rfl)) (d_pa_cons (d_var (i := 4) rfl (.inl rfl)) d_pa_nil))))
      (d_single (d_if (d_tpc (d_notN (d_var (i := 2) rfl (.inl rfl)))) d_nevers d_nil)))))) (fun l M Qd h => ?_)⟩
  obtain ⟨g, r, w, w1, w2, d1, d2, rfl, hM, s5, e1, o1, e2, o2, h⟩ := h
  refine ⟨rfl, ?_⟩
  have hg : g < M.length := (List.getElem?_eq_some_iff.mp hM).1
  have hset : ∀ o : O, (M.set g o)[g]? = some o := fun o => List.getElem?_set_self hg
  refine ⟨.tup [d1.d, d2.d], rfl, _, rfl, trivial, _, rfl, rfl, _, _, rfl, _, _, rfl, rfl, ?_⟩
  refine seq_cut (fun ds' M' => M' = M.set g (.ins CH (HF r [w, w1] [d1])) ∧ ds' = [some (.h g), some (.tup [d1.d, d2.d]), some .non, some (.int 0), some d1.d]) (fun N k => ?_) ?_
  · exact ⟨.h g, rfl, g, _, rfl, hM, rfl, .int 0, rfl, d1.d, rfl, g, r, [], w, [], d1, 0, rfl, hM, by decide, by decide, s5, w1, e1, o1, k _ _ ⟨rfl, rfl⟩⟩
  rintro ds' M' ⟨rfl, rfl⟩
  refine if_none rfl ?_
  refine ⟨trivial, _, rfl, rfl, _, _, rfl, _, _, rfl, rfl, ?_⟩
  refine seq_cut (fun ds' M' => M' = M.set g (.ins CH (HF r [w, w1, w2] [d1, d2])) ∧ ds' = [some (.h g), some (.tup [d1.d, d2.d]), some .non, some (.int 1), some d2.d]) (fun N k => ?_) ?_
  · refine ⟨.h g, rfl, g, _, rfl, hset _, rfl, .int 1, rfl, d2.d, rfl, g, r, [w], w1, [d1], d2, 1, rfl, hset _, by simp, by simp, o1.sh5, w2, e2, o2, k _ _ ⟨?_, rfl⟩⟩
    rw [List.set_set]; rfl
  rintro ds' M' ⟨rfl, rfl⟩
  exact if_none rfl ⟨trivial, h⟩
def spHLen (CH : Addr) : SpD := fun l M Q => ∃ g r ws ds, l = [.h g] ∧ M[g]? = some (.ins CH (HF r ws ds)) ∧ Q (.int ((ds.length : Nat) : Int)) M
theorem sc_HLen : FnScope ["self"] ["self"] (defScope sHLen) := ⟨rfl, rfl, rfl, by decide +kernel, rfl, by decide +kernel, by decide +kernel⟩
theorem w_HLen {P : Program} {w : World} {K : PySem.W.Frag} {mg : Str → Option Value} {base : Heap} {CG CH : Addr} (T : Tx K w mg CG CH) : MD P w K mg base 1 CH "__len__" (spHLen CH) := by
  obtain ⟨f, fd, hm, F⟩ := T.m_HLen
  refine ⟨f, hm, okD (k := 0) F sc_HLen (F.bindsN fun _ _ _ _ _ _ us hl => match us, hl with | [_], _ => rfl)
    (fun cdv A outer s H E hr => (d_single (d_ret (d_len rfl T.n_len (d_pa_cons (d_fld T.cH T.naH_stand (d_var (i := 0) rfl (.inl rfl))) d_pa_nil))))) (fun l M Qd h => ?_)⟩
  obtain ⟨g, r, ws, ds, rfl, hM, h⟩ := h
  refine ⟨rfl, ?_⟩
  unfold HF at hM
  simp [and_assoc, strsOf_map, dVar, dC, dOp, dUn, dNil, dCons, dTup, dLst, dNew, dTest, dAnd, dOr, dNot, dAndV, dOrV, dNotV, dIf, dIsN, dNotN, isN, dChain, dCB, dNext, dSeq, dDrop, dRet, dRetN, dIfS, oI, oI0, oAdd, oC, oIx_tup, oIx_lst, oIx_h, oIx_str, oSl_tup, oSl_lst, oSl_scr, oSl_str, dSl, dNoP, dPart, cLen, cMin2, cInt, uNeg, uBits, uIs, fInt, fBool, fStr, fTup, tyD, dgName, dgNil, dgCons, dgTup, dAsg, dPar, dPar3, dFor, dLc, diTup, diLst, diR1, diR2, diEnT, diEnL, diStr, dCall, dMeth, dMake, dFld, sSetF, startD, dYes, dw, hM, hd_states, hd_stand, hd_rows, hd_busy, hd_pstates, hd_pstand, hd_prows, hd_pbusy, hd_len, hd_m_look, hd_m_begin, hd_m_change, hd_m_world, hd_m_way_of, hd_m_bring, hd_m_way, hd_m_stop, hd_m_shut, hd_m_hours, hd_m_window, hd_m_back, hd_m_do, hd_m_go_through, hd_m_tried]
  exact h
theorem gd_kinds {ks : List Str} (h : ∀ s ∈ ks, strG s) : Gd 1 (kindsD ks) := gd_map fun s hs => gd_str (strG_ok (h s hs))
theorem gd_wld {w : Wld} (h : Sh w) : Gd 6 w.d := gd_tup fun d hd => by
  simp at hd
  rcases hd with rfl | rfl | rfl | rfl
  · exact (gd_int _).mono (by omega)
  · exact (gd_kinds h.kinds).mono (by omega)
  · exact (gd_map fun s hs => gd_src (h.srcs s hs)).mono (by omega)
  · exact (gd_map fun s hs => gd_way (h.ways s hs).kind (h.ways s hs).parts (h.ways s hs).keeps).mono (by omega)
def spHEq (CH : Addr) : SpD := fun l M Q => ∃ i j r r' ws ws' ds ds' w, l = [.h i, .h j] ∧ M[i]? = some (.ins CH (HF r (ws ++ [w]) ds)) ∧ M[j]? = some (.ins CH (HF r' (ws' ++ [w]) ds')) ∧ Sh w ∧ Q (.bl true) M
theorem sc_HEq : FnScope ["self", "other"] ["self", "other"] (defScope sHEq) := ⟨rfl, rfl, rfl, by decide +kernel, rfl, by decide +kernel, by decide +kernel⟩
theorem w_HEq {P : Program} {w : World} {K : PySem.W.Frag} {mg : Str → Option Value} {base : Heap} {CG CH : Addr} (T : Tx K w mg CG CH) : MD P w K mg base 2 CH "__eq__" (spHEq CH) := by
  obtain ⟨f, fd, hm, F⟩ := T.m_HEq
  refine ⟨f, hm, okD (k := 1) F sc_HEq (F.bindsN fun _ _ _ _ _ _ us hl => match us, hl with | [_, _], _ => rfl)
    (fun cdv A outer s H E hr => (d_single (d_ret (d_andV (d_isC T.insH rfl T.n_isinstance rfl T.gHall (d_var (i := 1) rfl (.inl rfl))) (d_one (d_eq hr.units (d_meth0 (d_var (i := 0) rfl (.inl rfl)) T.cH ((w_HWorld T).mono (by decide)) hr) (d_meth0 (d_var (i := 1) rfl (.inl rfl)) T.cH ((w_HWorld T).mono (by decide)) hr))))))) (fun l M Qd h => ?_)⟩
  obtain ⟨i, j, r, r', ws, ws', ds, ds', w, rfl, hi, hj, sw, h⟩ := h
  refine ⟨rfl, ?_⟩
  have g := gd_wld sw
  have hsh := (g.mono (show 6 ≤ 64 by omega)).sh
  have he : PyData.eqv (py w.d) (py w.d) = true := SeqAt.eqv_refl _ g.lay
  refine ⟨.h j, rfl, ⟨j, _, rfl, hj, true, rfl, ?_⟩⟩
  refine meth_world rfl hi (meth_world rfl hj ?_)
  refine ⟨hsh, hsh, ?_⟩
  rw [if_neg Bool.false_ne_true, he]
  exact h
theorem ifx_is {i : Nat} {x s : Str} {r : List D} {t u : DSt} {E : DEnds} {ds : DS} {M : S} (hx : ds[i]? = some (some (.tup (.str x :: r)))) (e : x = s) (h : t E ds M) : dIfS (dTest (dOp oEq (dOp oIx (dVar i) (dC (.int 0))) (dC (.str s)))) t u E ds M :=
  ⟨_, hx, 0, rfl, .str x, at0, decide (x = s), rfl, by show (if decide (x = s) = true then t E ds M else u E ds M); rw [if_pos (decide_eq_true e)]; exact h⟩
theorem ifx_no {i : Nat} {x s : Str} {r : List D} {t u : DSt} {E : DEnds} {ds : DS} {M : S} (hx : ds[i]? = some (some (.tup (.str x :: r)))) (e : ¬ x = s) (h : u E ds M) : dIfS (dTest (dOp oEq (dOp oIx (dVar i) (dC (.int 0))) (dC (.str s)))) t u E ds M :=
  ⟨_, hx, 0, rfl, .str x, at0, decide (x = s), rfl, by show (if decide (x = s) = true then t E ds M else u E ds M); rw [if_neg (by simp [oIx_tup, oIx_lst, oIx_h, oIx_str, e])]; exact h⟩
def spLDo (CH : Addr) : SpD := fun l M Q => ∃ g r ws w ds, ∃ (d : Deed), l = [.h g, d.d] ∧ Mv CH g r ws w ds d M Q
theorem sc_LDo : FnScope ["_law_hall", "_law_deed"] ["_law_hall", "_law_deed"] (defScope sLDo) := ⟨rfl, rfl, rfl, by decide +kernel, rfl, by decide +kernel, by decide +kernel⟩
theorem w_LDo {P : Program} {w : World} {K : PySem.W.Frag} {mg : Str → Option Value} {base : Heap} {CG CH : Addr} (T : Tx K w mg CG CH) : GD P w K mg base 8 "_law_do" (spLDo CH) := by
  obtain ⟨f, fd, hm, F⟩ := T.f_LDo
  refine ⟨f, hm, F.kp, okD (k := 7) F sc_LDo (F.bindsN fun _ _ _ _ _ _ us hl => match us, hl with | [_, _], _ => rfl)
    (fun cdv A outer s H E hr => (d_single (d_if (dt_eq hr.units (d_ix (d_var (i := 1) rfl (.inl rfl)) d_int) d_str) (d_single (d_expr (d_meth (d_var (i := 0) rfl (.inl rfl)) T.cH ((w_HBring T).mono (by decide)) hr (d_pa_cons (d_ix (d_var (i := 1) rfl (.inl rfl)) d_int) d_pa_nil)))) (d_single (d_if (dt_eq hr.units (d_ix (d_var (i := 1) rfl (.inl rfl)) d_int) d_str) (d_single (d_expr (d_meth (d_var (i := 0) rfl (.inl rfl)) T.cH ((w_HWay T).mono (by decide)) hr (d_pa_cons (d_ix (d_var (i := 1) rfl (.inl rfl)) d_int) d_pa_nil)))) (d_single (d_if (dt_eq hr.units (d_ix (d_var (i := 1) rfl (.inl rfl)) d_int) d_str) (d_single (d_expr (d_meth (d_var (i := 0) rfl (.inl rfl)) T.cH ((w_HStop T).mono (by decide)) hr (d_pa_cons (d_ix (d_var (i := 1) rfl (.inl rfl)) d_int) d_pa_nil)))) (d_single (d_if (dt_eq hr.units (d_ix (d_var (i := 1) rfl (.inl rfl)) d_int) d_str) (d_single (d_expr (d_meth (d_var (i := 0) rfl (.inl rfl)) T.cH ((w_HShut T).mono (by decide)) hr (d_pa_cons (d_ix (d_var (i := 1) rfl (.inl rfl)) d_int) d_pa_nil)))) (d_single (d_if (dt_eq hr.units (d_ix (d_var (i := 1) rfl (.inl rfl)) d_int) d_str) (d_single (d_expr (d_meth (d_var (i := 0) rfl (.inl rfl)) T.cH ((w_HHours T).mono (by decide)) hr (d_pa_cons (d_ix (d_var (i := 1) rfl (.inl rfl)) d_int) (d_pa_cons (d_ix (d_var (i := 1) rfl (.inl rfl)) d_int) d_pa_nil))))) (d_single (d_if (dt_eq hr.units (d_ix (d_var (i := 1) rfl (.inl rfl)) d_int) d_str) (d_single (d_expr (d_meth (d_var (i := 0) rfl (.inl rfl)) T.cH ((w_HWindow T).mono (by decide)) hr (d_pa_cons (d_ix (d_var (i := 1) rfl (.inl rfl)) d_int) (d_pa_cons (d_ix (d_var (i := 1) rfl (.inl rfl)) d_int) (d_pa_cons (d_ix (d_var (i := 1) rfl (.inl rfl)) d_int) (d_pa_cons (d_ix (d_var (i := 1) rfl (.inl rfl)) d_int) d_pa_nil))))))) d_nevers))))))))))))) (fun l M Qd h => ?_)⟩
  obtain ⟨g, r, ws, w, ds, d, rfl, mv⟩ := h
  refine ⟨rfl, ?_⟩
  have hM := mv.1
  cases d with
  | bring s =>
    refine ifx_is rfl rfl ?_
    refine ⟨.h g, rfl, g, _, rfl, hM, rfl, ?_⟩
    simp [and_assoc, strsOf_map, dVar, dC, dOp, dUn, dNil, dCons, dTup, dLst, dNew, dTest, dAnd, dOr, dNot, dAndV, dOrV, dNotV, dIf, dIsN, dNotN, isN, dChain, dCB, dNext, dSeq, dDrop, dRet, dRetN, dIfS, oI, oI0, oAdd, oC, oIx_tup, oIx_lst, oIx_h, oIx_str, oSl_tup, oSl_lst, oSl_scr, oSl_str, dSl, dNoP, dPart, cLen, cMin2, cInt, uNeg, uBits, uIs, fInt, fBool, fStr, fTup, tyD, dgName, dgNil, dgCons, dgTup, dAsg, dPar, dPar3, dFor, dLc, diTup, diLst, diR1, diR2, diEnT, diEnL, diStr, dCall, dMeth, dMake, dFld, sSetF, startD, dYes, dw, Deed.d, at1]
    exact ⟨g, r, ws, w, ds, s, rfl, mv⟩
  | way s =>
    refine ifx_no rfl (of_eq_false nw_way_bring) (ifx_is rfl rfl ?_)
    refine ⟨.h g, rfl, g, _, rfl, hM, rfl, ?_⟩
    simp [and_assoc, strsOf_map, dVar, dC, dOp, dUn, dNil, dCons, dTup, dLst, dNew, dTest, dAnd, dOr, dNot, dAndV, dOrV, dNotV, dIf, dIsN, dNotN, isN, dChain, dCB, dNext, dSeq, dDrop, dRet, dRetN, dIfS, oI, oI0, oAdd, oC, oIx_tup, oIx_lst, oIx_h, oIx_str, oSl_tup, oSl_lst, oSl_scr, oSl_str, dSl, dNoP, dPart, cLen, cMin2, cInt, uNeg, uBits, uIs, fInt, fBool, fStr, fTup, tyD, dgName, dgNil, dgCons, dgTup, dAsg, dPar, dPar3, dFor, dLc, diTup, diLst, diR1, diR2, diEnT, diEnL, diStr, dCall, dMeth, dMake, dFld, sSetF, startD, dYes, dw, Deed.d, at1]
    exact ⟨g, r, ws, w, ds, s, rfl, mv⟩
  | stop m =>
    refine ifx_no rfl (of_eq_false nw_stop_bring) (ifx_no rfl (of_eq_false nw_stop_way) (ifx_is rfl rfl ?_))
    refine ⟨.h g, rfl, g, _, rfl, hM, rfl, ?_⟩
    simp [and_assoc, strsOf_map, dVar, dC, dOp, dUn, dNil, dCons, dTup, dLst, dNew, dTest, dAnd, dOr, dNot, dAndV, dOrV, dNotV, dIf, dIsN, dNotN, isN, dChain, dCB, dNext, dSeq, dDrop, dRet, dRetN, dIfS, oI, oI0, oAdd, oC, oIx_tup, oIx_lst, oIx_h, oIx_str, oSl_tup, oSl_lst, oSl_scr, oSl_str, dSl, dNoP, dPart, cLen, cMin2, cInt, uNeg, uBits, uIs, fInt, fBool, fStr, fTup, tyD, dgName, dgNil, dgCons, dgTup, dAsg, dPar, dPar3, dFor, dLc, diTup, diLst, diR1, diR2, diEnT, diEnL, diStr, dCall, dMeth, dMake, dFld, sSetF, startD, dYes, dw, Deed.d, at1]
    exact ⟨g, r, ws, w, ds, m, rfl, mv⟩
  | shut m =>
    refine ifx_no rfl (of_eq_false nw_shut_bring) (ifx_no rfl (of_eq_false nw_shut_way) (ifx_no rfl (of_eq_false nw_shut_stop) (ifx_is rfl rfl ?_)))
    refine ⟨.h g, rfl, g, _, rfl, hM, rfl, ?_⟩
    simp [and_assoc, strsOf_map, dVar, dC, dOp, dUn, dNil, dCons, dTup, dLst, dNew, dTest, dAnd, dOr, dNot, dAndV, dOrV, dNotV, dIf, dIsN, dNotN, isN, dChain, dCB, dNext, dSeq, dDrop, dRet, dRetN, dIfS, oI, oI0, oAdd, oC, oIx_tup, oIx_lst, oIx_h, oIx_str, oSl_tup, oSl_lst, oSl_scr, oSl_str, dSl, dNoP, dPart, cLen, cMin2, cInt, uNeg, uBits, uIs, fInt, fBool, fStr, fTup, tyD, dgName, dgNil, dgCons, dgTup, dAsg, dPar, dPar3, dFor, dLc, diTup, diLst, diR1, diR2, diEnT, diEnL, diStr, dCall, dMeth, dMake, dFld, sSetF, startD, dYes, dw, Deed.d, at1]
    exact ⟨g, r, ws, w, ds, m, rfl, mv⟩
  | hours m hs =>
    refine ifx_no rfl (of_eq_false nw_hours_bring) (ifx_no rfl (of_eq_false nw_hours_way) (ifx_no rfl (of_eq_false nw_hours_stop) (ifx_no rfl (of_eq_false nw_hours_shut) (ifx_is rfl rfl ?_))))
    refine ⟨.h g, rfl, g, _, rfl, hM, rfl, ?_⟩
    simp [and_assoc, strsOf_map, dVar, dC, dOp, dUn, dNil, dCons, dTup, dLst, dNew, dTest, dAnd, dOr, dNot, dAndV, dOrV, dNotV, dIf, dIsN, dNotN, isN, dChain, dCB, dNext, dSeq, dDrop, dRet, dRetN, dIfS, oI, oI0, oAdd, oC, oIx_tup, oIx_lst, oIx_h, oIx_str, oSl_tup, oSl_lst, oSl_scr, oSl_str, dSl, dNoP, dPart, cLen, cMin2, cInt, uNeg, uBits, uIs, fInt, fBool, fStr, fTup, tyD, dgName, dgNil, dgCons, dgTup, dAsg, dPar, dPar3, dFor, dLc, diTup, diLst, diR1, diR2, diEnT, diEnL, diStr, dCall, dMeth, dMake, dFld, sSetF, startD, dYes, dw, Deed.d, at1, at2]
    exact ⟨g, r, ws, w, ds, m, hs, rfl, mv⟩
  | window m p lo hi =>
    refine ifx_no rfl (of_eq_false nw_window_bring) (ifx_no rfl (of_eq_false nw_window_way) (ifx_no rfl (of_eq_false nw_window_stop) (ifx_no rfl (of_eq_false nw_window_shut) (ifx_no rfl (of_eq_false nw_window_hours) (ifx_is rfl rfl ?_)))))
    refine ⟨.h g, rfl, g, _, rfl, hM, rfl, ?_⟩
    simp [and_assoc, strsOf_map, dVar, dC, dOp, dUn, dNil, dCons, dTup, dLst, dNew, dTest, dAnd, dOr, dNot, dAndV, dOrV, dNotV, dIf, dIsN, dNotN, isN, dChain, dCB, dNext, dSeq, dDrop, dRet, dRetN, dIfS, oI, oI0, oAdd, oC, oIx_tup, oIx_lst, oIx_h, oIx_str, oSl_tup, oSl_lst, oSl_scr, oSl_str, dSl, dNoP, dPart, cLen, cMin2, cInt, uNeg, uBits, uIs, fInt, fBool, fStr, fTup, tyD, dgName, dgNil, dgCons, dgTup, dAsg, dPar, dPar3, dFor, dLc, diTup, diLst, diR1, diR2, diEnT, diEnL, diStr, dCall, dMeth, dMake, dFld, sSetF, startD, dYes, dw, Deed.d, at1, at2, at3, at4]
    exact ⟨g, r, ws, w, ds, m, p, lo, hi, rfl, mv⟩
end My

set_option Elab.async false
set_option linter.all false
set_option maxRecDepth 100000
set_option maxHeartbeats 4000000
namespace My
open PySem PySem.Spec PyProof.Rows L2
theorem asg_c {d : D} {i : Nat} {E : DEnds} {ds : DS} {M : S} (h : E.nx (ds.set i (some d)) M) : dAsg (dC d) (dgName i) E ds M := h
def spHTried (CH : Addr) : SpD := fun l M Q => ∃ g r w w1 w2 d1 d2 rows, l = [.h g, .lst [Deed.d d1, Deed.d d2], .non] ∧ M[g]? = some (.ins CH (HF r [w] [])) ∧ M[r]? = some (.lst rows) ∧ rows.length ≤ 100 ∧ r ≠ g ∧ Sh5 w ∧ app w d1 = some w1 ∧ Ok w1 ∧ app w1 d2 = some w2 ∧ Ok w2 ∧
  ∀ rows', Q .non ((M.set g (.ins CH (HF r [w, w1, w2] [d1, d2]))).set r (.lst rows'))
def spHTriedK (CH : Addr) : SpD := fun l M Q => spHTried CH (l ++ [.non]) M Q
theorem sc_HTried : FnScope ["self", "deeds", "tell", "row", "states", "stand", "many", "done"] ["self", "deeds", "tell"] (defScope sHTried) := ⟨rfl, rfl, rfl, by decide +kernel, rfl, by decide +kernel, by decide +kernel⟩
theorem w_HTried {P : Program} {w : World} {K : PySem.W.Frag} {mg : Str → Option Value} {base : Heap} {CG CH : Addr} (T : Tx K w mg CG CH) : MD P w K mg base 10 CH "tried" (spHTriedK CH) := by
  obtain ⟨f, fd, hm, F⟩ := T.m_HTried
  refine ⟨f, hm, okDk (k := 9) (sp := (spHTried CH)) F sc_HTried (F.binds0 2 (by decide) rfl fun D doc pm an cdv ct us ks h1 h2 => match us, h1, ks, h2 with | [_, _], _, [_], _ => ⟨_, _, _, _, _, _, rfl, rfl, rfl⟩)
    (fun cdv A outer s H E hr => (d_seq (d_if (d_tval (d_fld T.cH T.naH_busy (d_var (i := 0) rfl (.inl rfl)))) d_nevers d_nil)
      (d_seq (d_if (d_tw (d_or (d_not (d_tval (d_isLT rfl T.n_isinstance rfl T.n_list rfl T.n_tuple (d_var (i := 1) rfl (.inl rfl))))) (d_or1 (dt_gt (d_len rfl T.n_len (d_pa_cons (d_var (i := 1) rfl (.inl rfl)) d_pa_nil)) (d_gi rfl T.i_DEEDS))))) d_nevers d_nil)
      (d_seq (d_set (i := 3) sc_HTried.nd rfl (Or.inl rfl) (d_tuple rfl T.n_tuple (d_pa_cons (d_var (i := 1) rfl (.inl rfl)) d_pa_nil)))
      (d_seq (d_expr (d_app (d_fld T.cH T.naH_rows (d_var (i := 0) rfl (.inl rfl))) (d_tup (d_pa_cons d_str (d_pa_cons (d_len rfl T.n_len (d_pa_cons (d_var (i := 3) rfl (.inl rfl)) d_pa_nil)) d_pa_nil)))))
      (d_seq (d_par (i := 4) (j := 5) rfl sc_HTried.nd rfl rfl (by decide) rfl rfl (d_pa_cons (d_fld T.cH T.naH_states (d_var (i := 0) rfl (.inl rfl))) (d_pa_cons (d_fld T.cH T.naH_stand (d_var (i := 0) rfl (.inl rfl))) d_pa_nil)))
      (d_seq (d_set (i := 6) sc_HTried.nd rfl (Or.inl rfl) d_int)
      (d_seq (d_set (i := 7) sc_HTried.nd rfl (Or.inl rfl) d_non)
      (d_single (d_fin (d_seq (d_expr (d_meth (d_var (i := 0) rfl (.inl rfl)) T.cH ((w_HGoThrough T).mono (by decide)) hr (d_pa_cons (d_var (i := 3) rfl (.inl rfl)) (d_pa_cons (d_var (i := 2) rfl (.inl rfl)) d_pa_nil))))
      (d_seq (d_set (i := 6) sc_HTried.nd rfl (Or.inl rfl) (d_len rfl T.n_len (d_pa_cons (d_var (i := 3) rfl (.inl rfl)) d_pa_nil)))
      (d_single (d_set (i := 7) sc_HTried.nd rfl (Or.inl rfl) d_bl)))) (d_seq (d_setF T.cH T.naH_busy (d_var (i := 0) rfl (.inl rfl)) d_bl)
      (d_seq (d_if (d_tpc (d_isN (d_var (i := 7) rfl (.inl rfl)))) d_nevers d_nil)
      (d_single (d_expr (d_app (d_fld T.cH T.naH_rows (d_var (i := 0) rfl (.inl rfl))) (d_tup (d_pa_cons d_str (d_pa_cons (d_var (i := 6) rfl (.inl rfl)) d_pa_nil)))))))))))))))))) (fun l M Qd h => ?_)⟩
  obtain ⟨g, r, w, w1, w2, d1, d2, rows, rfl, hM, hr0, hrl, hrg, s5, e1, o1, e2, o2, h⟩ := h
  refine ⟨rfl, ?_⟩
  have hg : g < M.length := (List.getElem?_eq_some_iff.mp hM).1
  have hr : r < M.length := (List.getElem?_eq_some_iff.mp hr0).1
  unfold HF at hM
  refine seq_cut (fun ds' M' => M' = M ∧ ds' = [some (.h g), some (.lst [d1.d, d2.d]), some .non, none, none, none, none, none]) (fun N k => ?_) ?_
  · simp [and_assoc, strsOf_map, dVar, dC, dOp, dUn, dNil, dCons, dTup, dLst, dNew, dTest, dAnd, dOr, dNot, dAndV, dOrV, dNotV, dIf, dIsN, dNotN, isN, dChain, dCB, dNext, dSeq, dDrop, dRet, dRetN, dIfS, oI, oI0, oAdd, oC, oIx_tup, oIx_lst, oIx_h, oIx_str, oSl_tup, oSl_lst, oSl_scr, oSl_str, dSl, dNoP, dPart, cLen, cMin2, cInt, uNeg, uBits, uIs, fInt, fBool, fStr, fTup, tyD, dgName, dgNil, dgCons, dgTup, dAsg, dPar, dPar3, dFor, dLc, diTup, diLst, diR1, diR2, diEnT, diEnL, diStr, dCall, dMeth, dMake, dFld, sSetF, startD, dYes, dw, hM, hd_states, hd_stand, hd_rows, hd_busy, hd_pstates, hd_pstand, hd_prows, hd_pbusy, hd_len, hd_m_look, hd_m_begin, hd_m_change, hd_m_world, hd_m_way_of, hd_m_bring, hd_m_way, hd_m_stop, hd_m_shut, hd_m_hours, hd_m_window, hd_m_back, hd_m_do, hd_m_go_through, hd_m_tried]
    exact k _ _ ⟨rfl, rfl⟩
  rintro ds' M' ⟨rfl, rfl⟩
  refine seq_cut (fun ds' M'' => M'' = M' ∧ ds' = [some (.h g), some (.lst [d1.d, d2.d]), some .non, none, none, none, none, none]) (fun N k => ?_) ?_
  · simp [and_assoc, strsOf_map, dVar, dC, dOp, dUn, dNil, dCons, dTup, dLst, dNew, dTest, dAnd, dOr, dNot, dAndV, dOrV, dNotV, dIf, dIsN, dNotN, isN, dChain, dCB, dNext, dSeq, dDrop, dRet, dRetN, dIfS, oI, oI0, oAdd, oC, oIx_tup, oIx_lst, oIx_h, oIx_str, oSl_tup, oSl_lst, oSl_scr, oSl_str, dSl, dNoP, dPart, cLen, cMin2, cInt, uNeg, uBits, uIs, fInt, fBool, fStr, fTup, tyD, dgName, dgNil, dgCons, dgTup, dAsg, dPar, dPar3, dFor, dLc, diTup, diLst, diR1, diR2, diEnT, diEnL, diStr, dCall, dMeth, dMake, dFld, sSetF, startD, dYes, dw, uIsLT]
    exact k _ _ ⟨rfl, rfl⟩
  rintro ds' M ⟨rfl, rfl⟩
  refine seq_cut (fun ds' M' => M' = M ∧ ds' = [some (.h g), some (.lst [d1.d, d2.d]), some .non, some (.tup [d1.d, d2.d]), none, none, none, none]) (fun N k => ?_) ?_
  · exact ⟨_, rfl, _, rfl, .inl ⟨_, rfl, k _ _ ⟨rfl, rfl⟩⟩⟩
  rintro ds' M' ⟨rfl, rfl⟩
  refine seq_cut (fun ds' M'' => M'' = M'.set r (.lst (rows ++ [.tup [.str "begin", .int 2]])) ∧ ds' = [some (.h g), some (.lst [d1.d, d2.d]), some .non, some (.tup [d1.d, d2.d]), none, none, none, none]) (fun N k => ?_) ?_
  · exact ⟨.h g, rfl, g, _, _, rfl, hM, hd_rows, r, rfl, ⟨rows, hr0⟩, _, rfl, by simp, rows, hr0, by omega, k _ _ ⟨rfl, rfl⟩⟩
  rintro ds' M'' ⟨rfl, rfl⟩
  have hM2 : (M'.set r (.lst (rows ++ [.tup [.str "begin", .int 2]])))[g]? = some (.ins CH (HF r [w] [])) := by rw [List.getElem?_set_ne hrg]; exact hM
  obtain ⟨M2, eM2⟩ : ∃ M2, M2 = M'.set r (.lst (rows ++ [.tup [.str "begin", .int 2]])) := ⟨_, rfl⟩
  have hr2 : M2[r]? = some (.lst (rows ++ [.tup [.str "begin", .int 2]])) := by rw [eM2]; exact List.getElem?_set_self hr
  have hl2 : M2.length = M'.length := by rw [eM2]; simp
  rw [← eM2] at hM2 ⊢
  have hfin : ∀ rows', Qd .non ((M2.set g (.ins CH (HF r [w, w1, w2] [d1, d2]))).set r (.lst rows')) := fun rows' => by
    have := h rows'
    rw [eM2, List.set_comm _ _ hrg, List.set_set]
    exact this
  refine seq_cut (fun ds' M'' => M'' = M2 ∧ ds' = [some (.h g), some (.lst [d1.d, d2.d]), some .non, some (.tup [d1.d, d2.d]), some (.tup [w.d]), some (.tup []), none, none]) (fun N k => ?_) ?_
  · exact ⟨.h g, rfl, g, _, _, rfl, hM2, hd_states, .h g, rfl, g, _, _, rfl, hM2, hd_stand, _, _, rfl, k _ _ ⟨rfl, rfl⟩⟩
  rintro ds' M'' ⟨rfl, rfl⟩
  refine seq_cut (fun ds' M' => M' = M'' ∧ ds' = [some (.h g), some (.lst [d1.d, d2.d]), some .non, some (.tup [d1.d, d2.d]), some (.tup [w.d]), some (.tup []), some (.int 0), none]) (fun N k => k _ _ ⟨rfl, rfl⟩) ?_
  rintro ds' M' ⟨rfl, rfl⟩
  refine seq_cut (fun ds' M'' => M'' = M' ∧ ds' = [some (.h g), some (.lst [d1.d, d2.d]), some .non, some (.tup [d1.d, d2.d]), some (.tup [w.d]), some (.tup []), some (.int 0), some .non]) (fun N k => k _ _ ⟨rfl, rfl⟩) ?_
  rintro ds' M'' ⟨rfl, rfl⟩
  have hg2 : g < M''.length := by omega
  have hset : ∀ o : O, (M''.set g o)[g]? = some o := fun o => List.getElem?_set_self hg2
  have hsetr : (M''.set g (.ins CH (HF r [w, w1, w2] [d1, d2])))[r]? = some (.lst (rows ++ [.tup [.str "begin", .int 2]])) := by rw [List.getElem?_set_ne (Ne.symm hrg)]; exact hr2
  show dSeq _ _ _ _ _
  refine seq_cut (fun ds' M' => M' = M''.set g (.ins CH (HF r [w, w1, w2] [d1, d2])) ∧ ds' = [some (.h g), some (.lst [d1.d, d2.d]), some .non, some (.tup [d1.d, d2.d]), some (.tup [w.d]), some (.tup []), some (.int 0), some .non]) (fun N k => ?_) ?_
  · exact ⟨.h g, rfl, g, _, rfl, hM2, rfl, _, rfl, .non, rfl, g, r, w, w1, w2, d1, d2, rfl, hM2, s5, e1, o1, e2, o2, k _ _ ⟨rfl, rfl⟩⟩
  rintro ds' M' ⟨rfl, rfl⟩
  refine seq_cut (fun ds' M' => M' = M''.set g (.ins CH (HF r [w, w1, w2] [d1, d2])) ∧ ds' = [some (.h g), some (.lst [d1.d, d2.d]), some .non, some (.tup [d1.d, d2.d]), some (.tup [w.d]), some (.tup []), some (.int 2), some .non]) (fun N k => ?_) ?_
  · exact ⟨_, rfl, k _ _ ⟨rfl, rfl⟩⟩
  rintro ds' M' ⟨rfl, rfl⟩
  refine asg_c ?_
  dsimp only [List.set_cons_succ, List.set_cons_zero]
  refine seq_cut (fun ds' M' => M' = M''.set g (.ins CH (HF r [w, w1, w2] [d1, d2])) ∧ ds' = [some (.h g), some (.lst [d1.d, d2.d]), some .non, some (.tup [d1.d, d2.d]), some (.tup [w.d]), some (.tup []), some (.int 2), some (.bl true)]) (fun N k => ?_) ?_
  · refine ⟨.h g, rfl, g, _, rfl, hset _, hd_len, ?_⟩
    rw [List.set_set]
    exact k _ _ ⟨rfl, rfl⟩
  rintro ds' M' ⟨rfl, rfl⟩
  refine seq_cut (fun ds' M' => M' = M''.set g (.ins CH (HF r [w, w1, w2] [d1, d2])) ∧ ds' = [some (.h g), some (.lst [d1.d, d2.d]), some .non, some (.tup [d1.d, d2.d]), some (.tup [w.d]), some (.tup []), some (.int 2), some (.bl true)]) (fun N k => ?_) ?_
  · refine ⟨.bl true, rfl, false, rfl, ?_⟩
    exact k _ _ ⟨rfl, rfl⟩
  rintro ds' M' ⟨rfl, rfl⟩
  exact ⟨.h g, rfl, g, _, _, rfl, hset _, hd_rows, r, rfl, ⟨_, hsetr⟩, .int 2, rfl, by simp, _, hsetr, by simp; omega, hfin _⟩
end My

set_option Elab.async false
set_option linter.all false
set_option maxRecDepth 100000
set_option maxHeartbeats 4000000
/-! the growth in plain Lean: its state, its steps, its measure -/
namespace My
open PySem PySem.Spec PyProof.Rows L2
section
variable {κ υ : Type} [DecidableEq κ]
def gA (l : List (κ × υ)) (k : κ) : Option υ := (l.find? fun p => decide (p.1 = k)).map (·.2)
def pA (l : List (κ × υ)) (k : κ) (v : υ) : List (κ × υ) := if (l.any fun p => decide (p.1 = k)) = true then l.map fun p => if p.1 = k then (p.1, v) else p else l ++ [(k, v)]
def xA (l : List (κ × υ)) (k : κ) : List (κ × υ) := l.filter fun p => decide (p.1 ≠ k)
theorem gA_mem {l : List (κ × υ)} {k : κ} {v : υ} (h : gA l k = some v) : (k, v) ∈ l := by
  unfold gA at h
  obtain ⟨p, hp, e⟩ := Option.map_eq_some_iff.mp h
  have h1 := List.mem_of_find?_eq_some hp
  have h2 : p.1 = k := by simpa using List.find?_some hp
  subst h2 e; exact h1
theorem gA_none {l : List (κ × υ)} {k : κ} : gA l k = none ↔ ∀ p ∈ l, p.1 ≠ k := by
  unfold gA
  rw [Option.map_eq_none_iff, List.find?_eq_none]
  simp
theorem pA_none {l : List (κ × υ)} {k : κ} {v : υ} (h : gA l k = none) : pA l k v = l ++ [(k, v)] := by
  unfold pA
  rw [if_neg]
  intro z
  obtain ⟨p, hp, e⟩ := List.any_eq_true.mp z
  exact gA_none.mp h p hp (of_decide_eq_true e)
theorem pA_len {l : List (κ × υ)} {k : κ} {v : υ} : (pA l k v).length ≤ l.length + 1 := by
  unfold pA
  split <;> simp
variable {κ' : Type} [DecidableEq κ'] {f : κ → κ'} {g : υ → D}
theorem gv_map (inj : ∀ a b, f a = f b → a = b) (k : κ) : ∀ l : List (κ × υ), gv (l.map fun p => (f p.1, g p.2)) (f k) = (gA l k).map g
  | [] => rfl
  | a :: l => by
    have ih := gv_map inj k l
    unfold gv gA at ih ⊢
    rw [List.map_cons, List.find?_cons, List.find?_cons]
    by_cases q : a.1 = k
    · simp [q]
    · have q2 : ¬ f a.1 = f k := fun z => q (inj _ _ z)
      simp only [q, q2, decide_false]
      exact ih
theorem any_map (inj : ∀ a b, f a = f b → a = b) (k : κ) : ∀ l : List (κ × υ), ((l.map fun p => (f p.1, g p.2)).any fun kv => decide (kv.1 = f k)) = l.any fun p => decide (p.1 = k)
  | [] => rfl
  | a :: l => by
    rw [List.map_cons, List.any_cons, List.any_cons, any_map inj k l]
    by_cases q : a.1 = k
    · simp [q]
    · have q2 : ¬ f a.1 = f k := fun z => q (inj _ _ z)
      simp [q, q2]
theorem pv_map (inj : ∀ a b, f a = f b → a = b) (k : κ) (v : υ) (l : List (κ × υ)) : pv (l.map fun p => (f p.1, g p.2)) (f k) (g v) = (pA l k v).map fun p => (f p.1, g p.2) := by
  unfold pv pA
  rw [any_map inj k l]
  split
  · rw [List.map_map, List.map_map]
    refine List.map_congr_left fun p hp => ?_
    by_cases q : p.1 = k
    · simp [q]
    · have q2 : ¬ f p.1 = f k := fun z => q (inj _ _ z)
      simp [q, q2]
  · simp
theorem xv_map (inj : ∀ a b, f a = f b → a = b) (k : κ) (l : List (κ × υ)) : xv (l.map fun p => (f p.1, g p.2)) (f k) = (xA l k).map fun p => (f p.1, g p.2) := by
  unfold xv xA
  rw [List.filter_map]
  congr 1
  refine List.filter_congr fun p hp => ?_
  by_cases q : p.1 = k
  · simp [q]
  · have q2 : ¬ f p.1 = f k := fun z => q (inj _ _ z)
    simp [q, q2]
end
abbrev KY := List Key
def k3 (kind : Str) (p a : Int) : KY := [.inr kind, .inl p, .inl a]
def k2 (kind : Str) (h : Int) : KY := [.inr kind, .inl h]
def kD3 (kind : Str) (p a : Int) : D := .tup [.str kind, .int p, .int a]
structure Gs where
  mo : List (KY × Int)
  rs : List (KY × D)
  pe : List (Int × Nat)
  ag : List (KY × Int)
  R : List (List D)
def GF (w : Wld) (L : Nat) : List (Str × D) := [("here", w.d), ("size", .int w.size), ("moments", .h (L + 1)), ("reasons", .h (L + 2)), ("pending", .h (L + 3)), ("ages", .h (L + 4))]
def gmr (CG : Addr) (L : Nat) (w : Wld) (s : Gs) : S := .ins CG (GF w L) :: .dT (s.mo.map fun p => (p.1, .int p.2)) :: .dT s.rs :: .dK (s.pe.map fun p => (.inl p.1, .h (L + 5 + p.2))) :: .dT (s.ag.map fun p => (p.1, .int p.2)) :: s.R.map .lst
def gm (CG : Addr) (M0 : S) (w : Wld) (s : Gs) : S := M0 ++ gmr CG M0.length w s
section
variable {CG : Addr} {M0 : S} {w : Wld} {s : Gs}
theorem gm_at (j : Nat) : (gm CG M0 w s)[M0.length + j]? = (gmr CG M0.length w s)[j]? := by
  unfold gm
  rw [List.getElem?_append_right (Nat.le_add_right _ _), Nat.add_sub_cancel_left]
theorem gm_g : (gm CG M0 w s)[M0.length]? = some (.ins CG (GF w M0.length)) := gm_at 0
theorem gm_1 : (gm CG M0 w s)[M0.length + 1]? = some (.dT (s.mo.map fun p => (p.1, .int p.2))) := gm_at 1
theorem gm_2 : (gm CG M0 w s)[M0.length + 2]? = some (.dT s.rs) := gm_at 2
theorem gm_3 : (gm CG M0 w s)[M0.length + 3]? = some (.dK (s.pe.map fun p => (.inl p.1, .h (M0.length + 5 + p.2)))) := gm_at 3
theorem gm_4 : (gm CG M0 w s)[M0.length + 4]? = some (.dT (s.ag.map fun p => (p.1, .int p.2))) := gm_at 4
theorem gm_R {i : Nat} {l : List D} (h : s.R[i]? = some l) : (gm CG M0 w s)[M0.length + 5 + i]? = some (.lst l) := by
  rw [Nat.add_assoc, gm_at]
  show (gmr CG M0.length w s)[5 + i]? = _
  rw [Nat.add_comm 5 i]
  show (s.R.map O.lst)[i]? = _
  rw [List.getElem?_map, h]; rfl
theorem gm_len : List.length (gm CG M0 w s) = M0.length + 5 + s.R.length := by simp [gm, gmr]; omega
theorem gm_push {g : List D} : gm CG M0 w s ++ [.lst g] = gm CG M0 w { s with R := s.R ++ [g] } := by simp [gm, gmr]
theorem gm_set (j : Nat) (o : O) : (gm CG M0 w s).set (M0.length + j) o = M0 ++ (gmr CG M0.length w s).set j o := by
  unfold gm
  rw [List.set_append_right _ _ (Nat.le_add_right _ _), Nat.add_sub_cancel_left]
theorem gm_s1 {mo : List (KY × Int)} : (gm CG M0 w s).set (M0.length + 1) (.dT (mo.map fun p => (p.1, .int p.2))) = gm CG M0 w { s with mo := mo } := gm_set 1 _
theorem gm_s2 {rs : List (KY × D)} : (gm CG M0 w s).set (M0.length + 2) (.dT rs) = gm CG M0 w { s with rs := rs } := gm_set 2 _
theorem gm_s3 {pe : List (Int × Nat)} : (gm CG M0 w s).set (M0.length + 3) (.dK (pe.map fun p => (.inl p.1, .h (M0.length + 5 + p.2)))) = gm CG M0 w { s with pe := pe } := gm_set 3 _
theorem gm_s4 {ag : List (KY × Int)} : (gm CG M0 w s).set (M0.length + 4) (.dT (ag.map fun p => (p.1, .int p.2))) = gm CG M0 w { s with ag := ag } := gm_set 4 _
theorem gm_sR {i : Nat} {l : List D} : (gm CG M0 w s).set (M0.length + 5 + i) (.lst l) = gm CG M0 w { s with R := s.R.set i l } := by
  rw [Nat.add_assoc, gm_set]
  unfold gm
  congr 1
  show (gmr CG M0.length w s).set (5 + i) _ = _
  rw [Nat.add_comm 5 i]
  show _ :: _ :: _ :: _ :: _ :: (s.R.map O.lst).set i (O.lst l) = _
  rw [← List.map_set]; rfl
theorem gv_int (k : KY) (l : List (KY × Int)) : gv (l.map fun p => (p.1, D.int p.2)) k = (gA l k).map D.int := gv_map (f := id) (g := D.int) (fun _ _ h => h) k l
theorem pv_int (k : KY) (v : Int) (l : List (KY × Int)) : pv (l.map fun p => (p.1, D.int p.2)) k (.int v) = (pA l k v).map fun p => (p.1, D.int p.2) := pv_map (f := id) (g := D.int) (fun _ _ h => h) k v l
theorem gv_pe (L : Nat) (t : Int) (l : List (Int × Nat)) : gv (l.map fun p => ((.inl p.1 : Key), D.h (L + 5 + p.2))) (.inl t) = (gA l t).map fun i => D.h (L + 5 + i) := gv_map (f := Sum.inl) (g := fun i => D.h (L + 5 + i)) (fun _ _ h => Sum.inl.inj h) t l
theorem pv_pe (L : Nat) (t : Int) (i : Nat) (l : List (Int × Nat)) : pv (l.map fun p => ((.inl p.1 : Key), D.h (L + 5 + p.2))) (.inl t) (.h (L + 5 + i)) = (pA l t i).map fun p => ((.inl p.1 : Key), D.h (L + 5 + p.2)) := pv_map (f := Sum.inl) (g := fun i => D.h (L + 5 + i)) (fun _ _ h => Sum.inl.inj h) t i l
theorem xv_pe (L : Nat) (t : Int) (l : List (Int × Nat)) : xv (l.map fun p => ((.inl p.1 : Key), D.h (L + 5 + p.2))) (.inl t) = (xA l t).map fun p => ((.inl p.1 : Key), D.h (L + 5 + p.2)) := xv_map (f := Sum.inl) (g := fun i => D.h (L + 5 + i)) (fun _ _ h => Sum.inl.inj h) t l
theorem pv_rs (k : KY) (v : D) (l : List (KY × D)) : pv l k v = pA l k v := rfl
theorem dget_mo {kind : Str} {p a : Int} {R : Option D → Prop} (h : R ((gA s.mo (k3 kind p a)).map D.int)) : dget (gm CG M0 w s) (M0.length + 1) (kD3 kind p a) R := by
  unfold dget
  rw [gm_1]
  exact ⟨_, k3 kind p a, rfl, rfl, by rw [gv_int]; exact h⟩
theorem dget_ag {kind : Str} {p : Int} {R : Option D → Prop} (h : R ((gA s.ag (k2 kind p)).map D.int)) : dget (gm CG M0 w s) (M0.length + 4) (.tup [.str kind, .int p]) R := by
  unfold dget
  rw [gm_4]
  exact ⟨_, k2 kind p, rfl, rfl, by rw [gv_int]; exact h⟩
end
/-! ### the steps -/
def nearestF (bits age : Int) (keeps : Str) : Int :=
  if keeps = "oldest" then (Builtin.Int.intBits (Builtin.bitAnd bits (2 * 2 ^ age.toNat - 1)) : Nat) - 1
  else (Builtin.Int.intBits (Builtin.bitAnd (bits / 2 ^ age.toNat * 2 ^ age.toNat) (-(bits / 2 ^ age.toNat * 2 ^ age.toNat))) : Nat) - 1
def chosenL (age : Int) (keeps : Str) : List Int → List Int × Bool
  | [] => ([], true)
  | b :: r => if nearestF b age keeps < 0 then ([], false) else (nearestF b age keeps :: (chosenL age keeps r).1, (chosenL age keeps r).2)
def firstAt (size place since : Int) : Int := since + (place - since) % size
def itm (kind : Str) (p a : Int) (r : D) : D := .tup [kD3 kind p a, r]
def expectF (w : Wld) (s : Gs) (kind : Str) (age moment : Int) (r : D) : Gs :=
  match gA s.mo (k3 kind ((moment - age) % w.size) age) with
  | some _ => s
  | none => match gA s.pe moment with
    | some i => { s with R := (s.R ++ [[]]).set i (s.R.getD i [] ++ [itm kind ((moment - age) % w.size) age r]) }
    | none => { s with pe := s.pe ++ [(moment, s.R.length)], R := s.R ++ [[itm kind ((moment - age) % w.size) age r]] }
def agesAt (s : Gs) (p : Prt) (hour : Int) : Int := Builtin.bitAnd ((gA s.ag (k2 p.kind hour)).getD 0) (2 * 2 ^ p.hi.toNat - 1 * 2 ^ p.lo.toNat)
def itN (f : Nat → Gs → Gs) : Nat → Gs → Gs
  | 0, s => s
  | n + 1, s => f n (itN f n s)
def madeD (n : Nat) (l : List Int) : D := .tup [.str "made", .int (n : Nat), .tup (l.map .int)]
def makeOne (w : Wld) (number : Nat) (x : Way) (lists : List Int) (moment : Int) (age : Nat) (s : Gs) : Gs :=
  match gA s.mo (k3 x.kind ((moment - (age : Int)) % w.size) ((age : Int) + x.wait)) with
  | some _ => s
  | none =>
    if ((chosenL age x.keeps lists).2 && decide ((age : Int) ∈ (chosenL age x.keeps lists).1)) = true then
      expectF w { s with R := s.R ++ [(chosenL age x.keeps lists).1.map .int] } x.kind ((age : Int) + x.wait) (moment + x.wait) (madeD number (chosenL age x.keeps lists).1)
    else { s with R := s.R ++ [(chosenL age x.keeps lists).1.map .int] }
def makeAll (w : Wld) (number : Nat) (x : Way) (lists : List Int) (moment : Int) (s : Gs) : Gs := itN (makeOne w number x lists moment) 21 s
def tryLists (w : Wld) (x : Way) (moment : Int) (s : Gs) : List Int := x.parts.map fun p => agesAt s p (moment % w.size)
def tryOne (w : Wld) (number : Nat) (x : Way) (lists : List Int) (kind : Str) (age moment : Int) (i : Nat) (s : Gs) : Gs := match x.parts[i]? with
  | some p => if p.kind = kind ∧ p.lo ≤ age ∧ age ≤ p.hi then makeAll w number x (lists.take i ++ [1 * 2 ^ age.toNat] ++ lists.drop (i + 1)) moment s else s
  | none => s
def tryWay (w : Wld) (number : Nat) (x : Way) (kind : Str) (age moment : Int) (s : Gs) : Gs :=
  if 0 ∈ tryLists w x moment s then s else itN (tryOne w number x (tryLists w x moment s) kind age moment) x.parts.length s
def wayOne (w : Wld) (kind : Str) (age moment : Int) (n : Nat) (s : Gs) : Gs := match w.ways[n]? with
  | some x => if moment % w.size ∈ x.hours then tryWay w n x kind age moment s else s
  | none => s
def settle1 (w : Wld) (s : Gs) (kind : Str) (p age moment : Int) (r : D) : Gs :=
  { s with mo := pA s.mo (k3 kind p age) moment, rs := pA s.rs (k3 kind p age) r, ag := pA s.ag (k2 kind (moment % w.size)) (Builtin.bitOr ((gA s.ag (k2 kind (moment % w.size))).getD 0) (1 * 2 ^ age.toNat)) }
def settle2 (w : Wld) (s : Gs) (kind : Str) (age moment : Int) : Gs := if age < 26 then expectF w s kind (age + 1) (moment + 1) (.tup [.str "waited"]) else s
def settleF (w : Wld) (s : Gs) (kind : Str) (p age moment : Int) (r : D) : Gs :=
  match gA s.mo (k3 kind p age) with
  | some _ => s
  | none => itN (wayOne w kind age moment) w.ways.length (settle2 w (settle1 w s kind p age moment r) kind age moment)
def settleD (w : Wld) (moment : Int) (items : List D) (n : Nat) (s : Gs) : Gs := match items[n]? with
  | some (.tup [.tup [.str kind, .int p, .int age], r]) => settleF w s kind p age moment r
  | _ => s
def mnI : List Int → Int
  | [] => 0
  | [a] => a
  | a :: b :: l => if a ≤ mnI (b :: l) then a else mnI (b :: l)
theorem mnI_spec : ∀ l : List Int, l ≠ [] → mnI l ∈ l ∧ ∀ j ∈ l, mnI l ≤ j
  | [], h => absurd rfl h
  | [a], _ => ⟨List.mem_singleton.mpr rfl, fun j hj => by rw [List.mem_singleton.mp hj]; exact Int.le_refl _⟩
  | a :: b :: l, _ => by
    obtain ⟨h1, h2⟩ := mnI_spec (b :: l) (by simp)
    unfold mnI
    split
    · rename_i c
      refine ⟨List.mem_cons_self, fun j hj => ?_⟩
      rcases List.mem_cons.mp hj with e | hj
      · rw [e]; exact Int.le_refl _
      · exact Int.le_trans c (h2 j hj)
    · rename_i c
      refine ⟨List.mem_cons_of_mem _ h1, fun j hj => ?_⟩
      rcases List.mem_cons.mp hj with e | hj
      · rw [e]; omega
      · exact h2 j hj
def stepF (w : Wld) (s : Gs) : Gs := match gA s.pe (mnI (s.pe.map (·.1))) with
  | some i => itN (settleD w (mnI (s.pe.map (·.1))) (s.R.getD i [])) (s.R.getD i []).length { s with pe := xA s.pe (mnI (s.pe.map (·.1))) }
  | none => s
def srcOne (w : Wld) (n : Nat) (s : Gs) : Gs := match w.srcs[n]? with
  | some x => expectF w s x.kind x.age (firstAt w.size x.place x.since) (.tup [.str "brought", .int (n : Nat)])
  | none => s
def emptyF : Gs := ⟨[], [], [], [], []⟩
def initF (w : Wld) : Gs := itN (srcOne w) w.srcs.length emptyF
def runF (w : Wld) : Nat → Gs
  | 0 => initF w
  | n + 1 => stepF w (runF w n)
def Fin (w : Wld) (s : Gs) : Prop := s.pe = [] ∧ ∃ n, s = runF w n
theorem stepF_done {w : Wld} {s : Gs} (h : s.pe = []) : stepF w s = s := by
  unfold stepF
  rw [h]; rfl
theorem runF_done {w : Wld} {n : Nat} (h : (runF w n).pe = []) : ∀ k, runF w (n + k) = runF w n
  | 0 => rfl
  | k + 1 => by
    show stepF w (runF w (n + k)) = _
    rw [runF_done h k, stepF_done h]
theorem Fin.unique {w : Wld} {s t : Gs} (hs : Fin w s) (ht : Fin w t) : s = t := by
  obtain ⟨e1, n, rfl⟩ := hs
  obtain ⟨e2, m, rfl⟩ := ht
  rcases Nat.le_total n m with h | h
  · have := runF_done e1 (m - n)
    rw [Nat.add_sub_cancel' h] at this
    exact this.symm
  · have := runF_done e2 (n - m)
    rw [Nat.add_sub_cancel' h] at this
    exact this
def numOf (s : Gs) (kind : Str) (p a : Int) : D := match gA s.mo (k3 kind p a) with
  | some m => .int (m - a)
  | none => .non
def rowD (s : Gs) (kind : Str) (p : Int) : D := .tup ((List.range 27).map fun a => numOf s kind p ((a : Nat) : Int))
def tabD (w : Wld) (s : Gs) : D := .tup (w.kinds.map fun kind => .tup ((List.range w.size.toNat).map fun p => rowD s kind ((p : Nat) : Int)))
/-! ### what holds -/
def Wf (w : Wld) (d : D) : Prop := ∃ kind p age r, d = itm kind p age r ∧ kind ∈ w.kinds ∧ 0 ≤ p ∧ p < w.size ∧ 0 ≤ age ∧ age ≤ 26
structure GI (w : Wld) (s : Gs) : Prop where
  pi : ∀ p ∈ s.pe, p.2 < s.R.length
  pn : (s.pe.map (·.2)).Nodup
  pl : s.pe.length ≤ s.R.length
  ll : ∀ p ∈ s.pe, ∀ l, s.R[p.2]? = some l → l.length ≤ s.R.length
  wf : ∀ p ∈ s.pe, ∀ l, s.R[p.2]? = some l → ∀ d ∈ l, Wf w d
structure Ext (w : Wld) (n : Nat) (s s' : Gs) : Prop where
  mo : s'.mo = s.mo
  rs : s'.rs = s.rs
  ag : s'.ag = s.ag
  lo : s.R.length ≤ s'.R.length
  hi : s'.R.length ≤ s.R.length + n
  pe : s'.pe.length + s.R.length ≤ s.pe.length + s'.R.length
  fr : ∀ i, i < s.R.length → i ∉ s.pe.map (·.2) → i ∉ s'.pe.map (·.2) ∧ s'.R[i]? = s.R[i]?
  gi : GI w s → GI w s'
theorem Ext.refl {w : Wld} {s : Gs} (n : Nat) : Ext w n s s := ⟨rfl, rfl, rfl, Nat.le_refl _, Nat.le_add_right _ _, Nat.le_refl _, fun i _ h => ⟨h, rfl⟩, id⟩
theorem Ext.trans {w : Wld} {m n : Nat} {s s1 s2 : Gs} (a : Ext w m s s1) (b : Ext w n s1 s2) : Ext w (m + n) s s2 :=
  ⟨b.mo.trans a.mo, b.rs.trans a.rs, b.ag.trans a.ag, Nat.le_trans a.lo b.lo, by have := a.hi; have := b.hi; omega, by have := a.pe; have := b.pe; omega,
    fun i h1 h2 => let ⟨x, y⟩ := a.fr i h1 h2; let ⟨x2, y2⟩ := b.fr i (Nat.lt_of_lt_of_le h1 a.lo) x; ⟨x2, y2.trans y⟩, fun h => b.gi (a.gi h)⟩
theorem Ext.mono {w : Wld} {m n : Nat} {s s1 : Gs} (a : Ext w m s s1) (h : m ≤ n) : Ext w n s s1 := { a with hi := Nat.le_trans a.hi (by omega) }
theorem itN_ext {w : Wld} {f : Nat → Gs → Gs} {m : Nat} : ∀ (n : Nat) (s : Gs), (∀ i s, i < n → Ext w m s (f i s)) → Ext w (n * m) s (itN f n s)
  | 0, s, _ => Ext.refl _
  | n + 1, s, h => by
    have a := itN_ext (w := w) n s fun i s hi => h i s (by omega)
    have b := h n (itN f n s) (Nat.lt_succ_self n)
    exact (a.trans b).mono (by rw [Nat.succ_mul]; exact Nat.le_refl _)
theorem push_ext {w : Wld} {s : Gs} {g : List D} : Ext w 1 s { s with R := s.R ++ [g] } where
  mo := rfl
  rs := rfl
  ag := rfl
  lo := by simp
  hi := by simp
  pe := by simp
  fr := fun i h1 h2 => ⟨h2, by show (s.R ++ [g])[i]? = _; rw [List.getElem?_append_left h1]⟩
  gi := fun h => ⟨fun p hp => by have := h.pi p hp; simp; omega, h.pn, by have := h.pl; simp; omega, fun p hp l hl => by
      have hl : (s.R ++ [g])[p.2]? = some l := hl
      rw [List.getElem?_append_left (h.pi p hp)] at hl
      have := h.ll p hp l hl
      simp; omega, fun p hp l hl => by
      have hl : (s.R ++ [g])[p.2]? = some l := hl
      rw [List.getElem?_append_left (h.pi p hp)] at hl
      exact h.wf p hp l hl⟩
theorem expect_ext {w : Wld} {s : Gs} {kind : Str} {age moment : Int} {r : D} (h0 : 0 < w.size) (hk : kind ∈ w.kinds) (ha : 0 ≤ age ∧ age ≤ 26) : Ext w 1 s (expectF w s kind age moment r) := by
  unfold expectF
  cases q : gA s.mo (k3 kind ((moment - age) % w.size) age) with
  | some _ => exact Ext.refl 1
  | none =>
    have wf0 : Wf w (itm kind ((moment - age) % w.size) age r) := ⟨kind, _, age, r, rfl, hk, Int.emod_nonneg _ (by omega), Int.emod_lt_of_pos _ h0, ha.1, ha.2⟩
    cases q2 : gA s.pe moment with
    | some j =>
      have hj := gA_mem q2
      refine ⟨rfl, rfl, rfl, by simp, by simp, by simp, fun i h1 h2 => ⟨h2, ?_⟩, fun h => ⟨fun p hp => ?_, h.pn, ?_, fun p hp l hl => ?_, fun p hp l hl => ?_⟩⟩
      · have hij : j ≠ i := fun z => h2 (by rw [← z]; exact List.mem_map.mpr ⟨_, hj, rfl⟩)
        show ((s.R ++ [[]]).set j _)[i]? = _
        rw [List.getElem?_set_ne hij, List.getElem?_append_left h1]
      · have := h.pi p hp; simp; omega
      · have := h.pl; simp; omega
      all_goals
        have hjl := h.pi _ hj
        have hjl : j < s.R.length := hjl
        have hl : ((s.R ++ [[]]).set j (s.R.getD j [] ++ [itm kind ((moment - age) % w.size) age r]))[p.2]? = some l := hl
        have eg : s.R.getD j [] = s.R[j] := by rw [List.getD_eq_getElem?_getD, List.getElem?_eq_getElem hjl]; rfl
        have hjj : s.R[(moment, j).2]? = some s.R[j] := List.getElem?_eq_getElem hjl
      · by_cases z : j = p.2
        · rw [z, List.getElem?_set_self (by rw [← z]; simp; omega)] at hl
          cases hl
          have := h.ll _ hj _ hjj
          rw [← z, eg]; simp; omega
        · rw [List.getElem?_set_ne z, List.getElem?_append_left (h.pi p hp)] at hl
          have := h.ll p hp l hl
          simp; omega
      · by_cases z : j = p.2
        · rw [z, List.getElem?_set_self (by rw [← z]; simp; omega)] at hl
          cases hl
          intro d hd
          rw [← z, eg] at hd
          rcases List.mem_append.mp hd with hd | hd
          · exact h.wf _ hj _ hjj d hd
          · rw [List.mem_singleton.mp hd]; exact wf0
        · rw [List.getElem?_set_ne z, List.getElem?_append_left (h.pi p hp)] at hl
          exact h.wf p hp l hl
    | none =>
      refine ⟨rfl, rfl, rfl, by simp, by simp, by simp; omega, fun i h1 h2 => ⟨?_, ?_⟩, fun h => ⟨fun p hp => ?_, ?_, ?_, fun p hp l hl => ?_, fun p hp l hl => ?_⟩⟩
      · intro z
        have z : i ∈ (s.pe ++ [(moment, s.R.length)]).map (·.2) := z
        rw [List.map_append] at z
        rcases List.mem_append.mp z with z | z
        · exact h2 z
        · have : i = s.R.length := by simpa using z
          omega
      · show (s.R ++ [_])[i]? = _
        rw [List.getElem?_append_left h1]
      · have hp : p ∈ s.pe ++ [(moment, s.R.length)] := hp
        rcases List.mem_append.mp hp with hp | hp
        · have := h.pi p hp; simp; omega
        · rw [List.mem_singleton.mp hp]; simp
      · show ((s.pe ++ [(moment, s.R.length)]).map (·.2)).Nodup
        rw [List.map_append]
        refine List.nodup_append.mpr ⟨h.pn, by simp, fun a ha b hb e => ?_⟩
        obtain ⟨p, hp, rfl⟩ := List.mem_map.mp ha
        have hb : b = s.R.length := by simpa using hb
        have := h.pi p hp
        omega
      · have := h.pl; simp; omega
      · have hp : p ∈ s.pe ++ [(moment, s.R.length)] := hp
        have hl : (s.R ++ [[itm kind ((moment - age) % w.size) age r]])[p.2]? = some l := hl
        rcases List.mem_append.mp hp with hp | hp
        · rw [List.getElem?_append_left (h.pi p hp)] at hl
          have := h.ll p hp l hl
          simp; omega
        · rw [List.mem_singleton.mp hp] at hl
          simp at hl
          subst hl
          simp
      · have hp : p ∈ s.pe ++ [(moment, s.R.length)] := hp
        have hl : (s.R ++ [[itm kind ((moment - age) % w.size) age r]])[p.2]? = some l := hl
        rcases List.mem_append.mp hp with hp | hp
        · rw [List.getElem?_append_left (h.pi p hp)] at hl
          exact h.wf p hp l hl
        · rw [List.mem_singleton.mp hp] at hl
          simp at hl
          subst hl
          intro d hd
          rw [List.mem_singleton.mp hd]; exact wf0
theorem makeOne_ext {w : Wld} {s : Gs} {number : Nat} {x : Way} {lists : List Int} {moment : Int} {age : Nat} (h0 : 0 < w.size) (ok : OkW w.size w.kinds x) (ha : age < 21) : Ext w 2 s (makeOne w number x lists moment age s) := by
  unfold makeOne
  have hw := ok.wait
  split
  · exact Ext.refl 2
  · split
    · exact push_ext.trans (expect_ext h0 ok.kind ⟨by omega, by omega⟩)
    · exact push_ext.mono (by omega)
theorem makeAll_ext {w : Wld} {s : Gs} {number : Nat} {x : Way} {lists : List Int} {moment : Int} (h0 : 0 < w.size) (ok : OkW w.size w.kinds x) : Ext w 42 s (makeAll w number x lists moment s) :=
  (itN_ext (m := 2) 21 s fun i s hi => makeOne_ext h0 ok hi).mono (by omega)
theorem tryOne_ext {w : Wld} {s : Gs} {number : Nat} {x : Way} {lists : List Int} {kind : Str} {age moment : Int} {i : Nat} (h0 : 0 < w.size) (ok : OkW w.size w.kinds x) : Ext w 42 s (tryOne w number x lists kind age moment i s) := by
  unfold tryOne
  split
  · split
    · exact makeAll_ext h0 ok
    · exact Ext.refl _
  · exact Ext.refl _
theorem tryWay_ext {w : Wld} {s : Gs} {number : Nat} {x : Way} {kind : Str} {age moment : Int} (h0 : 0 < w.size) (ok : OkW w.size w.kinds x) : Ext w 126 s (tryWay w number x kind age moment s) := by
  unfold tryWay
  split
  · exact Ext.refl _
  · exact (itN_ext (m := 42) _ s fun i s hi => tryOne_ext h0 ok).mono (by have := ok.len; omega)
theorem wayOne_ext {w : Wld} {s : Gs} {n : Nat} {kind : Str} {age moment : Int} (ok : Ok w) : Ext w 126 s (wayOne w kind age moment n s) := by
  unfold wayOne
  split
  · rename_i x hx
    split
    · exact tryWay_ext (by have := ok.size; omega) (ok.ways x (List.mem_of_getElem? hx))
    · exact Ext.refl _
  · exact Ext.refl _
theorem settle2_ext {w : Wld} {s : Gs} {kind : Str} {age moment : Int} (ok : Ok w) (hk : kind ∈ w.kinds) (ha : 0 ≤ age ∧ age ≤ 26) : Ext w 1 s (settle2 w s kind age moment) := by
  unfold settle2
  split
  · exact expect_ext (by have := ok.size; omega) hk ⟨by omega, by omega⟩
  · exact Ext.refl _
/-! ### settling -/
def U (w : Wld) : List KY := w.kinds.flatMap fun k => (List.range 6).flatMap fun p => (List.range 27).map fun a => k3 k (p : Nat) (a : Nat)
theorem flat_len {α β : Type} {f : α → List β} {n : Nat} (h : ∀ a, (f a).length = n) : ∀ l : List α, (l.flatMap f).length = l.length * n
  | [] => by simp
  | a :: l => by rw [List.flatMap_cons, List.length_append, h a, flat_len h l, List.length_cons, Nat.succ_mul, Nat.add_comm]
theorem U_len {w : Wld} (h : w.kinds.length ≤ 4) : (U w).length ≤ 648 := by
  unfold U
  rw [flat_len (n := 162) fun k => by rw [flat_len (n := 27) fun p => by simp]; simp]
  omega
theorem U_mem {w : Wld} {kind : Str} {p a : Int} (hk : kind ∈ w.kinds) (hp : 0 ≤ p ∧ p < 6) (ha : 0 ≤ a ∧ a ≤ 26) : k3 kind p a ∈ U w := by
  unfold U
  refine List.mem_flatMap.mpr ⟨kind, hk, List.mem_flatMap.mpr ⟨p.toNat, List.mem_range.mpr (by omega), List.mem_map.mpr ⟨a.toNat, List.mem_range.mpr (by omega), ?_⟩⟩⟩
  rw [Int.toNat_of_nonneg hp.1, Int.toNat_of_nonneg ha.1]
theorem nodup_sub {α : Type} [DecidableEq α] : ∀ (l u : List α), l.Nodup → (∀ x ∈ l, x ∈ u) → l.length ≤ u.length
  | [], _, _, _ => Nat.zero_le _
  | x :: l, u, hn, hs => by
    obtain ⟨hx, hn⟩ := List.nodup_cons.mp hn
    have hxu := hs x List.mem_cons_self
    have ih := nodup_sub l (u.erase x) hn fun y hy => (List.mem_erase_of_ne (fun z => hx (by rw [← z]; exact hy))).mpr (hs y (List.mem_cons_of_mem _ hy))
    rw [List.length_erase_of_mem hxu] at ih
    have : 0 < u.length := List.length_pos_of_mem hxu
    rw [List.length_cons]
    omega
structure GJ (w : Wld) (s : Gs) : Prop where
  gi : GI w s
  rl : s.rs.length ≤ s.mo.length
  al : s.ag.length ≤ s.mo.length
  mn : (s.mo.map (·.1)).Nodup
  mu : ∀ k ∈ s.mo.map (·.1), k ∈ U w
  rb : s.R.length ≤ 10 + 1009 * s.mo.length
theorem GJ.ml {w : Wld} {s : Gs} (h : GJ w s) (ok : Ok w) : s.mo.length ≤ 648 := by
  have := nodup_sub _ _ h.mn h.mu
  rw [List.length_map] at this
  exact Nat.le_trans this (U_len ok.kinds.len.2)
theorem GJ.rb2 {w : Wld} {s : Gs} (h : GJ w s) (ok : Ok w) : s.R.length ≤ 660000 := by
  have := h.ml ok; have := h.rb; omega
structure Gro (w : Wld) (s s' : Gs) : Prop where
  lo : s.R.length ≤ s'.R.length
  pe : s'.pe.length + s.R.length ≤ s.pe.length + s'.R.length
  fr : ∀ i, i < s.R.length → i ∉ s.pe.map (·.2) → i ∉ s'.pe.map (·.2) ∧ s'.R[i]? = s.R[i]?
  gj : GJ w s → GJ w s'
theorem Gro.refl {w : Wld} {s : Gs} : Gro w s s := ⟨Nat.le_refl _, Nat.le_refl _, fun i _ h => ⟨h, rfl⟩, id⟩
theorem Gro.trans {w : Wld} {s s1 s2 : Gs} (a : Gro w s s1) (b : Gro w s1 s2) : Gro w s s2 :=
  ⟨Nat.le_trans a.lo b.lo, by have := a.pe; have := b.pe; omega, fun i h1 h2 => let ⟨x, y⟩ := a.fr i h1 h2; let ⟨x2, y2⟩ := b.fr i (Nat.lt_of_lt_of_le h1 a.lo) x; ⟨x2, y2.trans y⟩, fun h => b.gj (a.gj h)⟩
theorem settle_gro {w : Wld} {s : Gs} {kind : Str} {p age moment : Int} {r : D} (ok : Ok w) (hk : kind ∈ w.kinds) (hp : 0 ≤ p ∧ p < w.size) (ha : 0 ≤ age ∧ age ≤ 26) : Gro w s (settleF w s kind p age moment r) := by
  unfold settleF
  split
  · exact Gro.refl
  · rename_i q
    have e2 := settle2_ext (s := settle1 w s kind p age moment r) (moment := moment) ok hk ha
    have e3 := itN_ext (w := w) (m := 126) w.ways.length (settle2 w (settle1 w s kind p age moment r) kind age moment) fun i s _ => wayOne_ext (kind := kind) (age := age) (moment := moment) (n := i) ok
    have e := e2.trans e3
    have hw := ok.wlen
    have hmo : (settle1 w s kind p age moment r).mo = s.mo ++ [(k3 kind p age, moment)] := pA_none q
    refine ⟨e.lo, e.pe, e.fr, fun h => ⟨e.gi ⟨h.gi.pi, h.gi.pn, h.gi.pl, h.gi.ll, h.gi.wf⟩, ?_, ?_, ?_, ?_, ?_⟩⟩
    · rw [e.rs, e.mo, hmo]
      have := pA_len (l := s.rs) (k := k3 kind p age) (v := r)
      have h1 := h.rl
      simp only [List.length_append, List.length_singleton]
      show (pA s.rs (k3 kind p age) r).length ≤ _
      omega
    · rw [e.ag, e.mo, hmo]
      have := pA_len (l := s.ag) (k := k2 kind (moment % w.size)) (v := (Builtin.bitOr ((gA s.ag (k2 kind (moment % w.size))).getD 0) (1 * 2 ^ age.toNat)))
      have h1 := h.al
      simp only [List.length_append, List.length_singleton]
      show (pA s.ag (k2 kind (moment % w.size)) _).length ≤ _
      omega
    · rw [e.mo, hmo, List.map_append]
      refine List.nodup_append.mpr ⟨h.mn, by simp, fun a ha b hb e => ?_⟩
      obtain ⟨x, hx, rfl⟩ := List.mem_map.mp ha
      have hb : b = k3 kind p age := by simpa using hb
      exact gA_none.mp q x hx (e.trans hb)
    · rw [e.mo, hmo, List.map_append]
      intro k hk2
      rcases List.mem_append.mp hk2 with hk2 | hk2
      · exact h.mu k hk2
      · have : k = k3 kind p age := by simpa using hk2
        rw [this]
        exact U_mem hk ⟨hp.1, by have := ok.size; omega⟩ ha
    · rw [e.mo, hmo]
      have h1 := e.hi
      have h2 : (settle1 w s kind p age moment r).R.length = s.R.length := rfl
      have h3 := h.rb
      simp only [List.length_append, List.length_singleton]
      omega
theorem settleD_gro {w : Wld} {s : Gs} {moment : Int} {items : List D} {n : Nat} (ok : Ok w) (hw : ∀ d ∈ items, Wf w d) : Gro w s (settleD w moment items n s) := by
  cases q : items[n]? with
  | none => unfold settleD; rw [q]; exact Gro.refl
  | some d =>
    obtain ⟨kind, p, age, r, rfl, h1, h2, h3, h4, h5⟩ := hw d (List.mem_of_getElem? q)
    have e : settleD w moment items n s = settleF w s kind p age moment r := by unfold settleD; rw [q]; rfl
    rw [e]
    exact settle_gro ok h1 ⟨h2, h3⟩ ⟨h4, h5⟩
theorem itN_gro {w : Wld} {f : Nat → Gs → Gs} : ∀ (n : Nat) (s : Gs), (∀ i s, i < n → Gro w s (f i s)) → Gro w s (itN f n s)
  | 0, s, _ => Gro.refl
  | n + 1, s, h => (itN_gro n s fun i s hi => h i s (by omega)).trans (h n _ (Nat.lt_succ_self n))
theorem xA_sub {κ υ : Type} [DecidableEq κ] {l : List (κ × υ)} {k : κ} {p : κ × υ} (h : p ∈ xA l k) : p ∈ l := (List.mem_filter.mp h).1
theorem xA_gj {w : Wld} {s : Gs} {t : Int} (h : GJ w s) : GJ w { s with pe := xA s.pe t } :=
  ⟨⟨fun p hp => h.gi.pi p (xA_sub hp), (List.Nodup.sublist (List.Sublist.map _ List.filter_sublist) h.gi.pn), Nat.le_trans (List.length_filter_le _ _) h.gi.pl, fun p hp => h.gi.ll p (xA_sub hp), fun p hp => h.gi.wf p (xA_sub hp)⟩, h.rl, h.al, h.mn, h.mu, h.rb⟩
theorem xA_not {s : Gs} {t : Int} {i : Nat} (hn : (s.pe.map (·.2)).Nodup) (h : gA s.pe t = some i) : i ∉ (xA s.pe t).map (·.2) := by
  intro z
  obtain ⟨p, hp, e⟩ := List.mem_map.mp z
  have h1 := List.mem_filter.mp hp
  have h2 : p.1 ≠ t := by simpa using h1.2
  have h3 := gA_mem h
  have : ∀ l : List (Int × Nat), (l.map (·.2)).Nodup → p ∈ l → (t, i) ∈ l → p = (t, i) := by
    intro l
    induction l with
    | nil => intro _ a; exact absurd a (by simp)
    | cons x l ih =>
      intro hn a b
      obtain ⟨hx, hn⟩ := List.nodup_cons.mp (by simpa using hn : (x.2 :: l.map (·.2)).Nodup)
      rcases List.mem_cons.mp a with a | a <;> rcases List.mem_cons.mp b with b | b
      · rw [a, b]
      · exact absurd (List.mem_map.mpr ⟨_, b, by rw [← a, e]⟩) hx
      · exact absurd (List.mem_map.mpr ⟨_, a, by rw [← b, e]⟩) hx
      · exact ih hn a b
  have := this _ hn h1.1 h3
  exact h2 (by rw [this])
theorem xA_lt {s : Gs} {t : Int} {i : Nat} (h : gA s.pe t = some i) : (xA s.pe t).length < s.pe.length := by
  have h3 := gA_mem h
  have : ∀ l : List (Int × Nat), (t, i) ∈ l → (xA l t).length < l.length := by
    intro l
    induction l with
    | nil => intro a; exact absurd a (by simp)
    | cons x l ih =>
      intro a
      unfold xA
      rw [List.filter_cons]
      rcases List.mem_cons.mp a with a | a
      · rw [← a]
        simp
        exact Nat.lt_succ_of_le (List.length_filter_le _ _)
      · have := ih a
        unfold xA at this
        split
        · simp; simpa using this
        · simp
          exact Nat.le_of_lt (by simpa using this)
  exact this _ h3
def meas (s : Gs) : Nat := (700000 - s.R.length) + s.pe.length
theorem mn_some {s : Gs} (h : s.pe ≠ []) : ∃ i, gA s.pe (mnI (s.pe.map (·.1))) = some i := by
  cases q : gA s.pe (mnI (s.pe.map (·.1))) with
  | some i => exact ⟨i, rfl⟩
  | none =>
    obtain ⟨h1, _⟩ := mnI_spec (s.pe.map (·.1)) (by simpa using h)
    obtain ⟨p, hp, e⟩ := List.mem_map.mp h1
    exact absurd e (gA_none.mp q p hp)
theorem step_ok {w : Wld} {s : Gs} (ok : Ok w) (h : GJ w s) (hp : s.pe ≠ []) : GJ w (stepF w s) ∧ meas (stepF w s) < meas s := by
  obtain ⟨i, hi⟩ := mn_some hp
  have e : stepF w s = itN (settleD w (mnI (s.pe.map (·.1))) (s.R.getD i [])) (s.R.getD i []).length { s with pe := xA s.pe (mnI (s.pe.map (·.1))) } := by
    unfold stepF
    rw [hi]
  have hil := h.gi.pi _ (gA_mem hi)
  have hil : i < s.R.length := hil
  have eg : s.R.getD i [] = s.R[i] := by rw [List.getD_eq_getElem?_getD, List.getElem?_eq_getElem hil]; rfl
  have wf : ∀ d ∈ s.R.getD i [], Wf w d := by
    rw [eg]
    exact h.gi.wf _ (gA_mem hi) _ (List.getElem?_eq_getElem hil)
  have g := itN_gro (w := w) (s.R.getD i []).length { s with pe := xA s.pe (mnI (s.pe.map (·.1))) } fun j s _ => settleD_gro (moment := mnI (s.pe.map (·.1))) (n := j) ok wf
  have g := itN_gro (w := w) (s.R.getD i []).length { s with pe := xA s.pe (mnI (s.pe.map (·.1))) } (f := settleD w (mnI (s.pe.map (·.1))) (s.R.getD i [])) fun j s _ => settleD_gro ok wf
  rw [← e] at g
  have gj := g.gj (xA_gj h)
  refine ⟨gj, ?_⟩
  have r1 := gj.rb2 ok
  have r2 := h.rb2 ok
  have l1 := xA_lt hi
  have l2 := g.pe
  have l3 := g.lo
  unfold meas
  have l2 : (stepF w s).pe.length + s.R.length ≤ (xA s.pe (mnI (s.pe.map (·.1)))).length + (stepF w s).R.length := l2
  omega
theorem init_ok {w : Wld} (ok : Ok w) : GJ w (initF w) := by
  have e := itN_ext (w := w) (m := 1) w.srcs.length emptyF (f := srcOne w) fun i s hi => by
    unfold srcOne
    rw [List.getElem?_eq_getElem hi]
    have o := ok.srcs _ (List.getElem_mem hi)
    exact expect_ext (by have := ok.size; omega) o.kind ⟨o.age.1, by have := o.age; omega⟩
  have hl := ok.slen
  have h1 := e.hi
  have e0 : emptyF.R.length = 0 := rfl
  refine ⟨e.gi ⟨fun p hp => absurd hp (by simp [emptyF]), by simp [emptyF], by simp [emptyF], fun p hp => absurd hp (by simp [emptyF]), fun p hp => absurd hp (by simp [emptyF])⟩, ?_, ?_, ?_, ?_, ?_⟩
  · unfold initF; rw [e.rs, e.mo]; exact Nat.le_refl _
  · unfold initF; rw [e.ag, e.mo]; exact Nat.le_refl _
  · unfold initF; rw [e.mo]; simp [emptyF]
  · unfold initF; rw [e.mo]; simp [emptyF]
  · unfold initF; omega
end My

set_option Elab.async false
set_option linter.all false
set_option maxRecDepth 100000
set_option maxHeartbeats 4000000
namespace My
open PySem PySem.Spec PyProof.Rows L2
/-! ### the growth's walk -/
def spPFirstAt : SpD
  | [.int size, .int place, .int since], M, Q => 0 < size ∧ Q (.int (firstAt size place since)) M
  | _, _, _ => False
theorem sc_PFirstAt : FnScope ["size", "place", "since"] ["size", "place", "since"] (defScope sPFirstAt) := ⟨rfl, rfl, rfl, by decide +kernel, rfl, by decide +kernel, by decide +kernel⟩
theorem w_PFirstAt {P : Program} {w : World} {K : PySem.W.Frag} {mg : Str → Option Value} {base : Heap} {CG CH : Addr} (T : Tx K w mg CG CH) : GD P w K mg base 1 "first_at" spPFirstAt := by
  obtain ⟨f, fd, hm, F⟩ := T.f_PFirstAt
  refine ⟨f, hm, F.kp, okD (k := 0) F sc_PFirstAt (F.bindsN fun _ _ _ _ _ _ us hl => match us, hl with | [_, _, _], _ => rfl)
    (fun cdv A outer s H E hr => (d_single (d_ret (d_add (d_var (i := 2) rfl (.inl rfl)) (d_mod (d_sub (d_var (i := 1) rfl (.inl rfl)) (d_var (i := 2) rfl (.inl rfl))) (d_var (i := 0) rfl (.inl rfl))))))) (fun l M Qd h => ?_)⟩
  match l, h with
  | [.int size, .int place, .int since], ⟨h0, h⟩ =>
  refine ⟨rfl, ?_⟩
  simp [and_assoc, strsOf_map, dVar, dC, dOp, dUn, dNil, dCons, dTup, dLst, dNew, dTest, dAnd, dOr, dNot, dAndV, dOrV, dNotV, dIf, dIsN, dNotN, isN, dChain, dCB, dNext, dSeq, dDrop, dRet, dRetN, dIfS, oI, oI0, oAdd, oC, oIx_tup, oIx_lst, oIx_h, oIx_str, oSl_tup, oSl_lst, oSl_scr, oSl_str, dSl, dNoP, dPart, cLen, cMin2, cInt, uNeg, uBits, uIs, fInt, fBool, fStr, fTup, tyD, dgName, dgNil, dgCons, dgTup, dAsg, dPar, dPar3, dFor, dLc, diTup, diLst, diR1, diR2, diEnT, diEnL, diStr, dCall, dMeth, dMake, dFld, sSetF, startD, dYes, dw]
  exact ⟨h0, h⟩
def spPFirstOf : SpD := fun l M Q => ∃ (w : Wld) (n : Nat) (x : Src), l = [w.d, .int (n : Int)] ∧ 0 < w.size ∧ w.srcs[n]? = some x ∧ Q (.int (firstAt w.size x.place x.since)) M
theorem sc_PFirstOf : FnScope ["world", "source", "kind", "age", "place", "since", "many"] ["world", "source"] (defScope sPFirstOf) := ⟨rfl, rfl, rfl, by decide +kernel, rfl, by decide +kernel, by decide +kernel⟩
theorem w_PFirstOf {P : Program} {w : World} {K : PySem.W.Frag} {mg : Str → Option Value} {base : Heap} {CG CH : Addr} (T : Tx K w mg CG CH) : GD P w K mg base 2 "first_of" spPFirstOf := by
  obtain ⟨f, fd, hm, F⟩ := T.f_PFirstOf
  refine ⟨f, hm, F.kp, okD (k := 1) F sc_PFirstOf (F.bindsN fun _ _ _ _ _ _ us hl => match us, hl with | [_, _], _ => rfl)
    (fun cdv A outer s H E hr => (d_seq (d_asg (d_ix (d_ix (d_var (i := 0) rfl (.inl rfl)) d_int) (d_var (i := 1) rfl (.inl rfl))) (dg_tup (n := 5) rfl (dg_cons (dg_name (i := 2) sc_PFirstOf.nd rfl (Or.inl rfl)) (dg_cons (dg_name (i := 3) sc_PFirstOf.nd rfl (Or.inl rfl)) (dg_cons (dg_name (i := 4) sc_PFirstOf.nd rfl (Or.inl rfl)) (dg_cons (dg_name (i := 5) sc_PFirstOf.nd rfl (Or.inl rfl)) (dg_cons (dg_name (i := 6) sc_PFirstOf.nd rfl (Or.inl rfl)) dg_nil)))))))
      (d_single (d_ret (d_call ((w_PFirstAt T).mono (by decide)) hr rfl (d_pa_cons (d_ix (d_var (i := 0) rfl (.inl rfl)) d_int) (d_pa_cons (d_var (i := 4) rfl (.inl rfl)) (d_pa_cons (d_var (i := 5) rfl (.inl rfl)) d_pa_nil)))))))) (fun l M Qd h => ?_)⟩
  obtain ⟨w, n, x, rfl, h0, hx, h⟩ := h
  refine ⟨rfl, ?_⟩
  have hy : atI (w.srcs.map Src.d) (n : Int) = some x.d := by rw [atI_nat, List.getElem?_map, hx]; rfl
  refine seq_cut (fun ds' M' => M' = M ∧ ds' = [some w.d, some (.int (n : Int)), some (.str x.kind), some (.int x.age), some (.int x.place), some (.int x.since), some (.int x.many)]) (fun N k => ?_) ?_
  · simp [and_assoc, strsOf_map, dVar, dC, dOp, dUn, dNil, dCons, dTup, dLst, dNew, dTest, dAnd, dOr, dNot, dAndV, dOrV, dNotV, dIf, dIsN, dNotN, isN, dChain, dCB, dNext, dSeq, dDrop, dRet, dRetN, dIfS, oI, oI0, oAdd, oC, oIx_tup, oIx_lst, oIx_h, oIx_str, oSl_tup, oSl_lst, oSl_scr, oSl_str, dSl, dNoP, dPart, cLen, cMin2, cInt, uNeg, uBits, uIs, fInt, fBool, fStr, fTup, tyD, dgName, dgNil, dgCons, dgTup, dAsg, dPar, dPar3, dFor, dLc, diTup, diLst, diR1, diR2, diEnT, diEnL, diStr, dCall, dMeth, dMake, dFld, sSetF, startD, dYes, dw, Wld.d, at2, hy, Src.d]
    exact k _ _ ⟨rfl, rfl⟩
  rintro ds' M' ⟨rfl, rfl⟩
  simp [and_assoc, strsOf_map, dVar, dC, dOp, dUn, dNil, dCons, dTup, dLst, dNew, dTest, dAnd, dOr, dNot, dAndV, dOrV, dNotV, dIf, dIsN, dNotN, isN, dChain, dCB, dNext, dSeq, dDrop, dRet, dRetN, dIfS, oI, oI0, oAdd, oC, oIx_tup, oIx_lst, oIx_h, oIx_str, oSl_tup, oSl_lst, oSl_scr, oSl_str, dSl, dNoP, dPart, cLen, cMin2, cInt, uNeg, uBits, uIs, fInt, fBool, fStr, fTup, tyD, dgName, dgNil, dgCons, dgTup, dAsg, dPar, dPar3, dFor, dLc, diTup, diLst, diR1, diR2, diEnT, diEnL, diStr, dCall, dMeth, dMake, dFld, sSetF, startD, dYes, dw, Wld.d, at0, spPFirstAt]
  exact ⟨h0, h⟩
def bitR (b : Int) : Prop := 0 ≤ b ∧ b < 2 ^ 64
def spPNearest : SpD
  | [.int bits, .int age, .str keeps], M, Q => bitR bits ∧ (0 ≤ age ∧ age ≤ 100) ∧ Q (.int (nearestF bits age keeps)) M
  | _, _, _ => False
theorem sc_PNearest : FnScope ["bits", "age", "keeps", "some"] ["bits", "age", "keeps"] (defScope sPNearest) := ⟨rfl, rfl, rfl, by decide +kernel, rfl, by decide +kernel, by decide +kernel⟩
theorem w_PNearest {P : Program} {w : World} {K : PySem.W.Frag} {mg : Str → Option Value} {base : Heap} {CG CH : Addr} (T : Tx K w mg CG CH) : GD P w K mg base 1 "nearest" spPNearest := by
  obtain ⟨f, fd, hm, F⟩ := T.f_PNearest
  refine ⟨f, hm, F.kp, okD (k := 0) F sc_PNearest (F.bindsN fun _ _ _ _ _ _ us hl => match us, hl with | [_, _, _], _ => rfl)
    (fun cdv A outer s H E hr => (d_seq (d_if (dt_eq hr.units (d_var (i := 2) rfl (.inl rfl)) (d_gs rfl T.s_OLDEST)) (d_single (d_ret (d_sub (d_bits (d_band (d_var (i := 0) rfl (.inl rfl)) (d_sub (d_shl d_int (d_var (i := 1) rfl (.inl rfl))) d_int))) d_int))) d_nil)
      (d_seq (d_set (i := 3) sc_PNearest.nd rfl (Or.inl rfl) (d_shl (d_shr (d_var (i := 0) rfl (.inl rfl)) (d_var (i := 1) rfl (.inl rfl))) (d_var (i := 1) rfl (.inl rfl))))
      (d_single (d_ret (d_sub (d_bits (d_band (d_var (i := 3) rfl (.inl rfl)) (d_neg (d_var (i := 3) rfl (.inl rfl))))) d_int)))))) (fun l M Qd h => ?_)⟩
  match l, h with
  | [.int bits, .int age, .str keeps], ⟨⟨b0, b1⟩, ⟨a0, a1⟩, h⟩ =>
  refine ⟨rfl, ?_⟩
  have cp : ∀ i : Int, i.natAbs < 2 ^ 64 → CPow i age := fun i hi => ⟨a0, by omega, hi⟩
  refine seq_cut (fun ds' M' => M' = M ∧ ds' = [some (.int bits), some (.int age), some (.str keeps), none] ∧ ¬ keeps = ("oldest" : Str)) (fun N k => ?_) ?_
  · by_cases c : keeps = ("oldest" : Str)
    · refine if_is rfl c ?_
      unfold nearestF at h
      rw [if_pos c] at h
      exact ⟨.int bits, rfl, .int age, rfl, cp 2 (by decide), h⟩
    · exact if_no rfl c (k _ _ ⟨rfl, rfl, c⟩)
  rintro ds' M' ⟨rfl, rfl, c⟩
  unfold nearestF at h
  rw [if_neg c] at h
  have hd : 0 ≤ bits / 2 ^ age.toNat := Int.ediv_nonneg b0 (Int.le_of_lt (Int.pow_pos (by decide)))
  have hd1 : bits / 2 ^ age.toNat ≤ bits := Int.ediv_le_self _ b0
  refine seq_cut (fun ds' M'' => M'' = M' ∧ ds' = [some (.int bits), some (.int age), some (.str keeps), some (.int (bits / 2 ^ age.toNat * 2 ^ age.toNat))]) (fun N k => ?_) ?_
  · exact ⟨.int bits, rfl, .int age, rfl, a0, .int age, rfl, cp _ (by omega), k _ _ ⟨rfl, rfl⟩⟩
  rintro ds' M ⟨rfl, rfl⟩
  exact ⟨_, rfl, _, rfl, h⟩
theorem mapM_int : ∀ l : List Int, (l.map D.int).mapM fl = some (l.map V.int)
  | [] => rfl
  | k :: ks => by rw [List.map_cons, List.mapM_cons, mapM_int ks]; rfl
theorem inV_int (s : Int) : ∀ ks : List Int, inV (.int s) (ks.map .int) = decide (s ∈ ks)
  | [] => rfl
  | k :: ks => by
    have ih := inV_int s ks
    unfold inV at ih ⊢
    rw [List.map_cons, List.any_cons, ih]
    by_cases e : s = k
    · subst e; simp [oIx_tup, oIx_lst, oIx_h, oIx_str, eqV]
    · have e2 : ¬ k = s := fun z => e z.symm
      simp [oIx_tup, oIx_lst, oIx_h, oIx_str, eqV, e, e2]
theorem inL_int {a : Int} {l : List Int} {M : S} {Q : KD} (h : Q (.bl (decide (a ∈ l))) M) : inL false (.int a) (l.map .int) M Q :=
  ⟨.int a, l.map .int, rfl, mapM_int l, by rw [inV_int]; exact h⟩
theorem chosenL_app {age : Int} {keeps : Str} : ∀ (pre r : List Int), (∀ b ∈ pre, ¬ nearestF b age keeps < 0) → chosenL age keeps (pre ++ r) = (pre.map (fun b => nearestF b age keeps) ++ (chosenL age keeps r).1, (chosenL age keeps r).2)
  | [], r, _ => rfl
  | b :: pre, r, h => by
    have ih := chosenL_app pre r fun x hx => h x (List.mem_cons_of_mem _ hx)
    rw [List.cons_append, show chosenL age keeps (b :: (pre ++ r)) = if nearestF b age keeps < 0 then ([], false) else (nearestF b age keeps :: (chosenL age keeps (pre ++ r)).1, (chosenL age keeps (pre ++ r)).2) from rfl, if_neg (h b List.mem_cons_self), ih]
    rfl
def chD (age : Int) (keeps : Str) (bs : List Int) : D := if ((chosenL age keeps bs).2 && decide (age ∈ (chosenL age keeps bs).1)) = true then .tup ((chosenL age keeps bs).1.map .int) else .non
def spPChosen : SpD := fun l M Q => ∃ (bs : List Int) (age : Int) (keeps : Str), l = [.lst (bs.map .int), .int age, .str keeps] ∧ (∀ b ∈ bs, bitR b) ∧ (0 ≤ age ∧ age ≤ 100) ∧ bs.length ≤ 10 ∧ Q (chD age keeps bs) (M ++ [.lst ((chosenL age keeps bs).1.map .int)])
theorem sc_PChosen : FnScope ["parts", "age", "keeps", "found", "bits", "one"] ["parts", "age", "keeps"] (defScope sPChosen) := ⟨rfl, rfl, rfl, by decide +kernel, rfl, by decide +kernel, by decide +kernel⟩
theorem w_PChosen {P : Program} {w : World} {K : PySem.W.Frag} {mg : Str → Option Value} {base : Heap} {CG CH : Addr} (T : Tx K w mg CG CH) : GD P w K mg base 2 "chosen" spPChosen := by
  obtain ⟨f, fd, hm, F⟩ := T.f_PChosen
  refine ⟨f, hm, F.kp, okD (k := 1) F sc_PChosen (F.bindsN fun _ _ _ _ _ _ us hl => match us, hl with | [_, _, _], _ => rfl)
    (fun cdv A outer s H E hr => (d_seq (d_set (i := 3) sc_PChosen.nd rfl (Or.inl rfl) (d_new d_pa_nil))
      (d_seq (d_for PassesOwn.never rfl (di_lst (d_var (i := 0) rfl (.inl rfl))) (dg_name (i := 4) sc_PChosen.nd rfl (Or.inl rfl)) (d_seq (d_set (i := 5) sc_PChosen.nd rfl (Or.inl rfl) (d_call ((w_PNearest T).mono (by decide)) hr rfl (d_pa_cons (d_var (i := 4) rfl (.inl rfl)) (d_pa_cons (d_var (i := 1) rfl (.inl rfl)) (d_pa_cons (d_var (i := 2) rfl (.inl rfl)) d_pa_nil)))))
      (d_seq (d_if (dt_lt (d_var (i := 5) rfl (.inl rfl)) d_int) (d_single (d_ret d_non)) d_nil)
      (d_single (d_expr (d_app (d_var (i := 3) rfl (.inl rfl)) (d_var (i := 5) rfl (.inl rfl))))))))
      (d_single (d_ret (d_ifExp (dt_in (d_var (i := 1) rfl (.inl rfl)) (d_var (i := 3) rfl (.inl rfl))) (d_tuple rfl T.n_tuple (d_pa_cons (d_var (i := 3) rfl (.inl rfl)) d_pa_nil)) d_non)))))) (fun l M Qd h => ?_)⟩
  obtain ⟨bs, age, keeps, rfl, hb, ha, hl, h⟩ := h
  refine ⟨rfl, ?_⟩
  refine seq_cut (fun ds' M' => M' = M ++ [.lst []] ∧ ds' = [some (.lst (bs.map .int)), some (.int age), some (.str keeps), some (.h M.length), none, none]) (fun N k => ?_) ?_
  · exact ⟨Nat.zero_le _, k _ _ ⟨rfl, rfl⟩⟩
  rintro ds' M' ⟨rfl, rfl⟩
  refine seq_cut (fun ds' M' => (∀ b ∈ bs, ¬ nearestF b age keeps < 0) ∧ M' = M ++ [.lst ((bs.map fun b => nearestF b age keeps).map .int)] ∧ ∃ x y, ds' = [some (.lst (bs.map .int)), some (.int age), some (.str keeps), some (.h M.length), x, y]) (fun N k => ?_) ?_
  · refine ⟨_, rfl, ?_⟩
    refine for_map (f := D.int) (l := bs) (fun i ds M' => (∀ b ∈ bs.take i, ¬ nearestF b age keeps < 0) ∧ M' = M ++ [.lst (((bs.take i).map fun b => nearestF b age keeps).map .int)] ∧ ∃ x y, ds = [some (.lst (bs.map .int)), some (.int age), some (.str keeps), some (.h M.length), x, y]) ⟨by simp, by simp, _, _, rfl⟩ (fun i a ds M' K hi ⟨e1, e2, x, y, e3⟩ kk => ?_) (fun ds M' ⟨e1, e2, x, y, e3⟩ => ?_)
    · subst e2 e3
      refine ⟨trivial, ?_⟩
      have hil := (List.getElem?_eq_some_iff.mp hi).1
      have hab := hb a (List.mem_of_getElem? hi)
      refine seq_cut (fun ds' M' => M' = M ++ [.lst (((bs.take i).map fun b => nearestF b age keeps).map .int)] ∧ ds' = [some (.lst (bs.map .int)), some (.int age), some (.str keeps), some (.h M.length), some (.int a), some (.int (nearestF a age keeps))]) (fun N k => ?_) ?_
      · exact ⟨_, rfl, _, rfl, _, rfl, hab, ha, k _ _ ⟨rfl, rfl⟩⟩
      rintro ds' M' ⟨rfl, rfl⟩
      have split : bs = bs.take i ++ a :: bs.drop (i + 1) := by
        have := (List.take_append_drop i bs).symm
        rwa [List.drop_eq_getElem_cons hil, show bs[i] = a from by rw [List.getElem?_eq_getElem hil] at hi; exact Option.some.inj hi] at this
      refine seq_cut (fun ds' M' => ¬ nearestF a age keeps < 0 ∧ M' = M ++ [.lst (((bs.take i).map fun b => nearestF b age keeps).map .int)] ∧ ds' = [some (.lst (bs.map .int)), some (.int age), some (.str keeps), some (.h M.length), some (.int a), some (.int (nearestF a age keeps))]) (fun N k => ?_) ?_
      · refine ⟨_, rfl, decide (nearestF a age keeps < 0), rfl, ?_⟩
        by_cases c : nearestF a age keeps < 0
        · have hc : chosenL age keeps bs = ((bs.take i).map (fun b => nearestF b age keeps), false) := by
            have := chosenL_app (bs.take i) (a :: bs.drop (i + 1)) e1
            rw [← split] at this
            rw [this, show chosenL age keeps (a :: bs.drop (i + 1)) = ([], false) from if_pos c, List.append_nil]
          unfold chD at h
          rw [hc] at h
          simp only [decide_eq_true c, if_true]
          exact h
        · simp only [c, decide_false]
          exact k _ _ ⟨c, rfl, rfl⟩
      rintro ds' M' ⟨c, rfl, rfl⟩
      refine ⟨_, rfl, _, rfl, ⟨_, get_last⟩, _, rfl, _, get_last, by simp; omega, kk _ _ ⟨?_, ?_, _, _, rfl⟩⟩
      · intro b hb
        rw [List.take_add_one, hi] at hb
        rcases List.mem_append.mp hb with hb | hb
        · exact e1 b hb
        · have : b = a := by simpa using hb
          rw [this]; exact c
      · rw [set_last, List.take_add_one, hi]
        simp
    · subst e2 e3
      refine ⟨trivial, k _ _ ⟨by rw [List.take_length] at e1; exact e1, by rw [List.take_length], _, _, rfl⟩⟩
  rintro ds' M' ⟨e1, rfl, x, y, rfl⟩
  have hc : chosenL age keeps bs = (bs.map (fun b => nearestF b age keeps), true) := by
    have := chosenL_app bs [] e1
    rw [List.append_nil] at this
    rw [this]
    show (_ ++ [], true) = _
    rw [List.append_nil]
  unfold chD at h
  rw [hc] at h
  refine ⟨_, rfl, _, rfl, _, get_last, inL_int ⟨_, rfl, ?_⟩⟩
  by_cases c : age ∈ bs.map (fun b => nearestF b age keeps)
  · simp only [c, decide_true, Bool.and_self, if_true] at h ⊢
    exact ⟨_, rfl, _, rfl, .inl ⟨_, by simp [oIx_tup, oIx_lst, oIx_h, oIx_str, itL], h⟩⟩
  · simp only [c, decide_false, Bool.and_false] at h ⊢
    exact h
theorem gf_here {w : Wld} {L : Nat} : (GF w L).lookup (Str.ofString "here") = some w.d := rfl
theorem gf_size {w : Wld} {L : Nat} : (GF w L).lookup (Str.ofString "size") = some (.int w.size) := rfl
theorem gf_moments {w : Wld} {L : Nat} : (GF w L).lookup (Str.ofString "moments") = some (.h (L + 1)) := rfl
theorem gf_reasons {w : Wld} {L : Nat} : (GF w L).lookup (Str.ofString "reasons") = some (.h (L + 2)) := rfl
theorem gf_pending {w : Wld} {L : Nat} : (GF w L).lookup (Str.ofString "pending") = some (.h (L + 3)) := rfl
theorem gf_ages {w : Wld} {L : Nat} : (GF w L).lookup (Str.ofString "ages") = some (.h (L + 4)) := rfl
def spGExpect (CG : Addr) : SpD := fun l M Q => ∃ (M0 : S) (w : Wld) (s : Gs) (kind : Str) (age moment : Int) (r : D), l = [.h M0.length, .str kind, .int age, .int moment, r] ∧ M = gm CG M0 w s ∧ 0 < w.size ∧ GI w s ∧ s.R.length < 900000 ∧ Q .non (gm CG M0 w (expectF w s kind age moment r))
theorem sc_GExpect : FnScope ["self", "kind", "age", "moment", "reason", "key"] ["self", "kind", "age", "moment", "reason"] (defScope sGExpect) := ⟨rfl, rfl, rfl, by decide +kernel, rfl, by decide +kernel, by decide +kernel⟩
theorem w_GExpect {P : Program} {w : World} {K : PySem.W.Frag} {mg : Str → Option Value} {base : Heap} {CG CH : Addr} (T : Tx K w mg CG CH) : MD P w K mg base 1 CG "expect" (spGExpect CG) := by
  obtain ⟨f, fd, hm, F⟩ := T.m_GExpect
  refine ⟨f, hm, okD (k := 0) F sc_GExpect (F.bindsN fun _ _ _ _ _ _ us hl => match us, hl with | [_, _, _, _, _], _ => rfl)
    (fun cdv A outer s H E hr => (d_seq (d_set (i := 5) sc_GExpect.nd rfl (Or.inl rfl) (d_tup (d_pa_cons (d_var (i := 1) rfl (.inl rfl)) (d_pa_cons (d_mod (d_sub (d_var (i := 3) rfl (.inl rfl)) (d_var (i := 2) rfl (.inl rfl))) (d_fld T.cG T.naG_size (d_var (i := 0) rfl (.inl rfl)))) (d_pa_cons (d_var (i := 2) rfl (.inl rfl)) d_pa_nil)))))
      (d_single (d_if (d_tpc (d_niD hr.u1 (d_var (i := 5) rfl (.inl rfl)) (d_fld T.cG T.naG_moments (d_var (i := 0) rfl (.inl rfl)))) rfl) (d_single (d_expr (d_app (d_setd (d_fld T.cG T.naG_pending (d_var (i := 0) rfl (.inl rfl))) (d_var (i := 3) rfl (.inl rfl)) (d_new d_pa_nil)) (d_tup (d_pa_cons (d_var (i := 5) rfl (.inl rfl)) (d_pa_cons (d_var (i := 4) rfl (.inl rfl)) d_pa_nil)))))) d_nil)))) (fun l M Qd h => ?_)⟩
  obtain ⟨M0, w, s, kind, age, moment, r, rfl, rfl, h0, gi, hl, h⟩ := h
  refine ⟨rfl, ?_⟩
  refine seq_cut (fun ds' M' => M' = gm CG M0 w s ∧ ds' = [some (.h M0.length), some (.str kind), some (.int age), some (.int moment), some r, some (kD3 kind ((moment - age) % w.size) age)]) (fun N k => ?_) ?_
  · exact ⟨_, rfl, _, rfl, _, rfl, _, rfl, _, _, _, rfl, gm_g, gf_size, h0, _, rfl, by simp, k _ _ ⟨rfl, rfl⟩⟩
  rintro ds' M' ⟨rfl, rfl⟩
  refine ⟨_, rfl, _, rfl, _, _, _, rfl, gm_g, gf_moments, _, rfl, dget_mo ?_⟩
  unfold expectF at h
  cases q : gA s.mo (k3 kind ((moment - age) % w.size) age) with
  | some v =>
    rw [q] at h
    refine ⟨false, rfl, ?_⟩
    exact h
  | none =>
    rw [q] at h
    refine ⟨true, rfl, ?_⟩
    refine ⟨_, rfl, _, _, _, rfl, gm_g, gf_pending, _, rfl, .inl ⟨_, gm_3⟩, _, rfl, Nat.zero_le _, ?_⟩
    rw [gm_push]
    refine ⟨_, .inl moment, gm_3, rfl, by rw [List.length_map]; have := gi.pl; show s.pe.length < _; omega, ?_⟩
    show match gv (s.pe.map fun p => ((.inl p.1 : Key), D.h (M0.length + 5 + p.2))) (.inl moment) with
      | some d => _
      | none => _
    rw [gv_pe]
    cases q2 : gA s.pe moment with
    | some i =>
      rw [q2] at h
      have hi := gi.pi _ (gA_mem q2)
      have hi : i < s.R.length := hi
      have hx : (s.R ++ [[]])[i]? = some (s.R.getD i []) := by
        rw [List.getElem?_append_left hi, List.getD_eq_getElem?_getD, List.getElem?_eq_getElem hi]; rfl
      have hll := gi.ll _ (gA_mem q2) (s.R.getD i []) (by rw [← hx, List.getElem?_append_left hi])
      have hR := gm_R (CG := CG) (M0 := M0) (w := w) (s := { s with R := s.R ++ [[]] }) hx
      refine ⟨_, rfl, ⟨_, hR⟩, _, rfl, _, rfl, by simp, _, hR, by omega, ?_⟩
      rw [gm_sR]
      exact h
    | none =>
      rw [q2] at h
      have hp : pv (s.pe.map fun p => ((.inl p.1 : Key), D.h (M0.length + 5 + p.2))) (.inl moment) (.h (gm CG M0 w s).length) = (s.pe ++ [(moment, s.R.length)]).map fun p => ((.inl p.1 : Key), D.h (M0.length + 5 + p.2)) := by
        rw [gm_len, pv_pe, pA_none q2]
      have hx : (s.R ++ [[]])[s.R.length]? = some [] := by simp
      show ∃ k, _
      rw [hp, gm_s3, gm_len]
      have hR := gm_R (CG := CG) (M0 := M0) (w := w) (s := { s with R := s.R ++ [[]], pe := s.pe ++ [(moment, s.R.length)] }) hx
      refine ⟨_, rfl, ⟨_, hR⟩, _, rfl, _, rfl, by simp, _, hR, by simp, ?_⟩
      rw [gm_sR]
      have e : (s.R ++ [[]]).set s.R.length ([] ++ [itm kind ((moment - age) % w.size) age r]) = s.R ++ [[itm kind ((moment - age) % w.size) age r]] := by simp
      show Qd .non (gm CG M0 w { s with R := (s.R ++ [[]]).set s.R.length ([] ++ [itm kind ((moment - age) % w.size) age r]), pe := s.pe ++ [(moment, s.R.length)] })
      rw [e]
      exact h
def spGAgesAt (CG : Addr) : SpD := fun l M Q => ∃ (M0 : S) (w : Wld) (s : Gs) (p : Prt) (hour : Int), l = [.h M0.length, p.d, .int hour] ∧ M = gm CG M0 w s ∧ (0 ≤ p.lo ∧ p.lo ≤ 100) ∧ (0 ≤ p.hi ∧ p.hi ≤ 100) ∧ Q (.int (agesAt s p hour)) M
theorem sc_GAgesAt : FnScope ["self", "part", "hour", "kind", "least", "greatest"] ["self", "part", "hour"] (defScope sGAgesAt) := ⟨rfl, rfl, rfl, by decide +kernel, rfl, by decide +kernel, by decide +kernel⟩
theorem w_GAgesAt {P : Program} {w : World} {K : PySem.W.Frag} {mg : Str → Option Value} {base : Heap} {CG CH : Addr} (T : Tx K w mg CG CH) : MD P w K mg base 1 CG "ages_at" (spGAgesAt CG) := by
  obtain ⟨f, fd, hm, F⟩ := T.m_GAgesAt
  refine ⟨f, hm, okD (k := 0) F sc_GAgesAt (F.bindsN fun _ _ _ _ _ _ us hl => match us, hl with | [_, _, _], _ => rfl)
    (fun cdv A outer s H E hr => (d_seq (d_asg (d_var (i := 1) rfl (.inl rfl)) (dg_tup (n := 3) rfl (dg_cons (dg_name (i := 3) sc_GAgesAt.nd rfl (Or.inl rfl)) (dg_cons (dg_name (i := 4) sc_GAgesAt.nd rfl (Or.inl rfl)) (dg_cons (dg_name (i := 5) sc_GAgesAt.nd rfl (Or.inl rfl)) dg_nil)))))
      (d_single (d_ret (d_band (d_get2 hr.u1 (d_fld T.cG T.naG_ages (d_var (i := 0) rfl (.inl rfl))) (d_tup (d_pa_cons (d_var (i := 3) rfl (.inl rfl)) (d_pa_cons (d_var (i := 2) rfl (.inl rfl)) d_pa_nil))) d_int) (d_sub (d_shl d_int (d_var (i := 5) rfl (.inl rfl))) (d_shl d_int (d_var (i := 4) rfl (.inl rfl))))))))) (fun l M Qd h => ?_)⟩
  obtain ⟨M0, w, s, p, hour, rfl, rfl, ⟨l0, l1⟩, ⟨u0, u1⟩, h⟩ := h
  refine ⟨rfl, ?_⟩
  refine seq_cut (fun ds' M' => M' = gm CG M0 w s ∧ ds' = [some (.h M0.length), some p.d, some (.int hour), some (.str p.kind), some (.int p.lo), some (.int p.hi)]) (fun N k => ?_) ?_
  · exact ⟨_, rfl, _, rfl, rfl, _, _, rfl, _, _, rfl, _, _, rfl, rfl, k _ _ ⟨rfl, rfl⟩⟩
  rintro ds' M' ⟨rfl, rfl⟩
  refine ⟨_, rfl, _, _, _, rfl, gm_g, gf_ages, _, rfl, .inr ⟨_, gm_4⟩, _, rfl, _, rfl, by simp, ?_⟩
  dsimp only [dC]
  refine dget_ag ?_
  unfold agesAt at h
  cases q : gA s.ag (k2 p.kind hour) with
  | none =>
    rw [q] at h
    exact ⟨_, rfl, ⟨u0, by omega, by decide⟩, _, rfl, ⟨l0, by omega, by decide⟩, h⟩
  | some v =>
    rw [q] at h
    exact ⟨_, rfl, ⟨u0, by omega, by decide⟩, _, rfl, ⟨l0, by omega, by decide⟩, h⟩
def spGMakeAll (CG : Addr) : SpD := fun l M Q => ∃ (M0 : S) (w : Wld) (s : Gs) (number : Nat) (x : Way) (bs : List Int) (moment : Int), l = [.h M0.length, .int (number : Int), .lst (bs.map .int), .int moment] ∧ M = gm CG M0 w s ∧ Ok w ∧ GI w s ∧ s.R.length < 800000 ∧ w.ways[number]? = some x ∧
  (∀ b ∈ bs, bitR b) ∧ bs.length ≤ 10 ∧ Q .non (gm CG M0 w (makeAll w number x bs moment s))
theorem sc_GMakeAll : FnScope ["self", "number", "lists", "moment", "kind", "parts", "keeps", "hours", "wait", "age", "ages"] ["self", "number", "lists", "moment"] (defScope sGMakeAll) := ⟨rfl, rfl, rfl, by decide +kernel, rfl, by decide +kernel, by decide +kernel⟩
theorem w_GMakeAll {P : Program} {w : World} {K : PySem.W.Frag} {mg : Str → Option Value} {base : Heap} {CG CH : Addr} (T : Tx K w mg CG CH) : MD P w K mg base 3 CG "make_all" (spGMakeAll CG) := by
  obtain ⟨f, fd, hm, F⟩ := T.m_GMakeAll
  refine ⟨f, hm, okD (k := 2) F sc_GMakeAll (F.bindsN fun _ _ _ _ _ _ us hl => match us, hl with | [_, _, _, _], _ => rfl)
    (fun cdv A outer s H E hr => (d_seq (d_asg (d_ix (d_ix (d_fld T.cG T.naG_here (d_var (i := 0) rfl (.inl rfl))) d_int) (d_var (i := 1) rfl (.inl rfl))) (dg_tup (n := 5) rfl (dg_cons (dg_name (i := 4) sc_GMakeAll.nd rfl (Or.inl rfl)) (dg_cons (dg_name (i := 5) sc_GMakeAll.nd rfl (Or.inl rfl)) (dg_cons (dg_name (i := 6) sc_GMakeAll.nd rfl (Or.inl rfl)) (dg_cons (dg_name (i := 7) sc_GMakeAll.nd rfl (Or.inl rfl)) (dg_cons (dg_name (i := 8) sc_GMakeAll.nd rfl (Or.inl rfl)) dg_nil)))))))
      (d_single (d_for PassesOwn.never rfl (di_r1 rfl T.n_range (d_pa_cons (d_add (d_gi rfl T.i_OLD) d_int) d_pa_nil)) (dg_name (i := 9) sc_GMakeAll.nd rfl (Or.inl rfl)) (d_single (d_if (d_tpc (d_niD hr.u1 (d_tup (d_pa_cons (d_var (i := 4) rfl (.inl rfl)) (d_pa_cons (d_mod (d_sub (d_var (i := 3) rfl (.inl rfl)) (d_var (i := 9) rfl (.inl rfl))) (d_fld T.cG T.naG_size (d_var (i := 0) rfl (.inl rfl)))) (d_pa_cons (d_add (d_var (i := 9) rfl (.inl rfl)) (d_var (i := 8) rfl (.inl rfl))) d_pa_nil)))) (d_fld T.cG T.naG_moments (d_var (i := 0) rfl (.inl rfl)))) rfl) (d_seq (d_set (i := 10) sc_GMakeAll.nd rfl (Or.inl rfl) (d_call ((w_PChosen T).mono (by decide)) hr rfl (d_pa_cons (d_var (i := 2) rfl (.inl rfl)) (d_pa_cons (d_var (i := 9) rfl (.inl rfl)) (d_pa_cons (d_var (i := 6) rfl (.inl rfl)) d_pa_nil)))))
      (d_single (d_if (d_tpc (d_notN (d_var (i := 10) rfl (.inl rfl)))) (d_single (d_expr (d_meth (d_var (i := 0) rfl (.inl rfl)) T.cG ((w_GExpect T).mono (by decide)) hr (d_pa_cons (d_var (i := 4) rfl (.inl rfl)) (d_pa_cons (d_add (d_var (i := 9) rfl (.inl rfl)) (d_var (i := 8) rfl (.inl rfl))) (d_pa_cons (d_add (d_var (i := 3) rfl (.inl rfl)) (d_var (i := 8) rfl (.inl rfl))) (d_pa_cons (d_tup (d_pa_cons (d_gs rfl T.s_MADE) (d_pa_cons (d_var (i := 1) rfl (.inl rfl)) (d_pa_cons (d_var (i := 10) rfl (.inl rfl)) d_pa_nil)))) d_pa_nil))))))) d_nil))) d_nil)))))) (fun l M Qd h => ?_)⟩
  obtain ⟨M0, w, s, number, x, bs, moment, rfl, rfl, ok, gi, hl, hx, hb, hbl, h⟩ := h
  refine ⟨rfl, ?_⟩
  have h0 : 0 < w.size := by have := ok.size; omega
  have ow := ok.ways x (List.mem_of_getElem? hx)
  have hw6 := ow.wait
  have hy : atI (w.ways.map Way.d) (number : Int) = some x.d := by rw [atI_nat, List.getElem?_map, hx]; rfl
  refine seq_cut (fun ds' M' => M' = gm CG M0 w s ∧ ds' = [some (.h M0.length), some (.int (number : Int)), some (.lst (bs.map .int)), some (.int moment), some (.str x.kind), some (.tup (x.parts.map Prt.d)), some (.str x.keeps), some (.tup (x.hours.map .int)), some (.int x.wait), none, none]) (fun N k => ?_) ?_
  · exact ⟨_, rfl, _, _, _, rfl, gm_g, gf_here, 3, rfl, _, at3, _, rfl, _, rfl, _, hy, _, rfl, rfl, _, _, rfl, _, _, rfl, _, _, rfl, _, _, rfl, _, _, rfl, rfl, k _ _ ⟨rfl, rfl⟩⟩
  rintro ds' M' ⟨rfl, rfl⟩
  refine ⟨_, rfl, by decide, by decide, ?_⟩
  refine for_rngD (lo := 0) (n := 21) (fun i ds M' => M' = gm CG M0 w (itN (makeOne w number x bs moment) i s) ∧ i ≤ 21 ∧ ∃ y z, ds = [some (.h M0.length), some (.int (number : Int)), some (.lst (bs.map .int)), some (.int moment), some (.str x.kind), some (.tup (x.parts.map Prt.d)), some (.str x.keeps), some (.tup (x.hours.map .int)), some (.int x.wait), y, z]) ⟨rfl, by omega, _, _, rfl⟩ (fun i ds M' K hi ⟨e1, _, y, z, e3⟩ kk => ?_) (fun ds M' ⟨e1, _, y, z, e3⟩ => ?_)
  · subst e1 e3
    refine ⟨trivial, ?_⟩
    rw [Int.zero_add]
    have ex := itN_ext (w := w) (m := 2) i s (f := makeOne w number x bs moment) fun j t hj => makeOne_ext h0 ow (by omega)
    have gi1 := ex.gi gi
    have hl1 := ex.hi
    obtain ⟨t, et⟩ : ∃ t, t = itN (makeOne w number x bs moment) i s := ⟨_, rfl⟩
    have kk : ∀ y z, K [some (.h M0.length), some (.int (number : Int)), some (.lst (bs.map .int)), some (.int moment), some (.str x.kind), some (.tup (x.parts.map Prt.d)), some (.str x.keeps), some (.tup (x.hours.map .int)), some (.int x.wait), y, z] (gm CG M0 w (makeOne w number x bs moment i t)) := fun y z => kk _ _ ⟨by rw [et]; rfl, by omega, y, z, rfl⟩
    rw [← et] at gi1 hl1 ⊢
    refine ⟨_, rfl, _, rfl, _, rfl, _, rfl, _, _, _, rfl, gm_g, gf_size, h0, _, rfl, _, rfl, by simp, _, rfl, _, _, _, rfl, gm_g, gf_moments, _, rfl, dget_mo ?_⟩
    unfold makeOne at kk
    cases q : gA t.mo (k3 x.kind ((moment - (i : Int)) % w.size) ((i : Int) + x.wait)) with
    | some v =>
      rw [q] at kk
      refine ⟨false, rfl, ?_⟩
      exact kk _ _
    | none =>
      rw [q] at kk
      refine ⟨true, rfl, ?_⟩
      simp only [if_true]
      refine seq_cut (fun ds' M' => M' = gm CG M0 w { t with R := t.R ++ [(chosenL i x.keeps bs).1.map .int] } ∧ ds' = [some (.h M0.length), some (.int (number : Int)), some (.lst (bs.map .int)), some (.int moment), some (.str x.kind), some (.tup (x.parts.map Prt.d)), some (.str x.keeps), some (.tup (x.hours.map .int)), some (.int x.wait), some (.int (i : Int)), some (chD i x.keeps bs)]) (fun N k => ?_) ?_
      · exact ⟨_, rfl, _, rfl, _, rfl, bs, i, x.keeps, rfl, hb, ⟨by omega, by omega⟩, hbl, k _ _ ⟨gm_push, rfl⟩⟩
      rintro ds' M' ⟨rfl, rfl⟩
      refine ⟨_, rfl, ?_⟩
      unfold chD
      by_cases c : ((chosenL (i : Int) x.keeps bs).2 && decide ((i : Int) ∈ (chosenL (i : Int) x.keeps bs).1)) = true
      · simp only [c, if_true] at kk ⊢
        refine ⟨true, rfl, ?_⟩
        refine ⟨_, rfl, _, _, rfl, gm_g, rfl, _, rfl, _, rfl, _, rfl, _, rfl, _, rfl, _, rfl, _, rfl, by simp, M0, w, _, x.kind, (i : Int) + x.wait, moment + x.wait, madeD number (chosenL i x.keeps bs).1, rfl, rfl, h0, push_ext.gi gi1, by simp; omega, kk _ _⟩
      · simp only [c] at kk ⊢
        refine ⟨false, rfl, ?_⟩
        exact kk _ _
  · subst e1 e3
    exact ⟨trivial, h⟩
end My

set_option Elab.async false
set_option linter.all false
set_option maxRecDepth 100000
set_option maxHeartbeats 4000000
namespace My
open PySem PySem.Spec PyProof.Rows L2
theorem ite_t {b : Bool} {p q : Prop} (e : b = true) (h : p) : if b = true then p else q := by rw [if_pos e]; exact h
theorem ite_f {b : Bool} {p q : Prop} (e : b = false) (h : q) : if b = true then p else q := by rw [if_neg (by rw [e]; exact Bool.false_ne_true)]; exact h
theorem two_pow (n : Nat) : (2 : Int) ^ n = ((2 ^ n : Nat) : Int) := by simp
theorem pow2 {l h : Nat} (h1 : l ≤ h) (h2 : h ≤ 26) : ∃ a b : Nat, (2 : Int) ^ l = (a : Int) ∧ (2 : Int) ^ h = (b : Int) ∧ a ≤ b ∧ b ≤ 67108864 :=
  ⟨2 ^ l, 2 ^ h, two_pow l, two_pow h, Nat.pow_le_pow_right (by decide) h1, Nat.le_trans (Nat.pow_le_pow_right (by decide) h2) (by decide)⟩
theorem agesAt_r {s : Gs} {p : Prt} {hour : Int} {ks : List Str} (ok : OkP ks p) : bitR (agesAt s p hour) := by
  obtain ⟨l0, l1⟩ := ok.lo
  obtain ⟨h0, h1⟩ := ok.hi
  obtain ⟨a, b, ea, eb, hab, hb⟩ := pow2 (show p.lo.toNat ≤ p.hi.toNat by omega) (by omega)
  unfold agesAt bitR
  rw [ea, eb]
  have r := bitAnd_range ((gA s.ag (k2 p.kind hour)).getD 0) (y := 2 * (b : Int) - 1 * (a : Int)) (by omega)
  exact ⟨r.1, by omega⟩
theorem one_shl_r {age : Int} (h : 0 ≤ age ∧ age ≤ 26) : bitR (1 * 2 ^ age.toNat) := by
  obtain ⟨a, b, ea, eb, hab, hb⟩ := pow2 (show age.toNat ≤ age.toNat by omega) (by omega)
  unfold bitR
  rw [ea]
  omega
theorem in_intL {a : Int} {l : List Int} {M : S} {Q : KD} (h : Q (.bl (decide (a ∈ l))) M) : oIn false (.int a) (.lst (l.map .int)) M Q := inL_int h
theorem in_intT {a : Int} {l : List Int} {M : S} {Q : KD} (h : Q (.bl (decide (a ∈ l))) M) : oIn false (.int a) (.tup (l.map .int)) M Q := inL_int h
def spGTryWay (CG : Addr) : SpD := fun l M Q => ∃ (M0 : S) (w : Wld) (s : Gs) (number : Nat) (x : Way) (kind : Str) (age moment : Int), l = [.h M0.length, .int (number : Int), .str kind, .int age, .int moment] ∧ M = gm CG M0 w s ∧ Ok w ∧ GI w s ∧ s.R.length < 700000 ∧ w.ways[number]? = some x ∧
  (0 ≤ age ∧ age ≤ 26) ∧ Q .non (gm CG M0 w (tryWay w number x kind age moment s))
theorem sc_GTryWay : FnScope ["self", "number", "kind", "age", "moment", "parts", "part", "lists", "at"] ["self", "number", "kind", "age", "moment"] (defScope sGTryWay) := ⟨rfl, rfl, rfl, by decide +kernel, rfl, by decide +kernel, by decide +kernel⟩
theorem w_GTryWay {P : Program} {w : World} {K : PySem.W.Frag} {mg : Str → Option Value} {base : Heap} {CG CH : Addr} (T : Tx K w mg CG CH) : MD P w K mg base 4 CG "try_way" (spGTryWay CG) := by
  obtain ⟨f, fd, hm, F⟩ := T.m_GTryWay
  refine ⟨f, hm, okD (k := 3) F sc_GTryWay (F.bindsN fun _ _ _ _ _ _ us hl => match us, hl with | [_, _, _, _, _], _ => rfl)
    (fun cdv A outer s H E hr => (d_seq (d_set (i := 5) sc_GTryWay.nd rfl (Or.inl rfl) (d_ix (d_ix (d_ix (d_fld T.cG T.naG_here (d_var (i := 0) rfl (.inr (.inl rfl)))) d_int) (d_var (i := 1) rfl (.inl rfl))) d_int))
      (d_seq (d_setLc (i := 7) (own := [("part", 6)]) rfl sc_GTryWay.nd rfl rfl (sw_true rfl rfl rfl rfl) (di_tup (d_var (i := 5) rfl (.inl rfl))) (blkOk_by (N := ["self", "number", "kind", "age", "moment", "parts", "part", "lists", "at"]) (sc := defScope sGTryWay) (by decide +kernel)) (by decide) (fun _ _ _ _ _ => (dg_name (i := 6) sc_GTryWay.nd rfl (Or.inl rfl))) (fun _ _ _ _ _ => d_noif) (fun _ _ _ _ _ => (d_meth (d_var (i := 0) rfl (.inr (.inl rfl))) T.cG ((w_GAgesAt T).mono (by decide)) hr (d_pa_cons (d_var (i := 6) rfl (.inl rfl)) (d_pa_cons (d_mod (d_var (i := 4) rfl (.inr (.inl rfl))) (d_fld T.cG T.naG_size (d_var (i := 0) rfl (.inr (.inl rfl))))) d_pa_nil)))))
      (d_seq (d_if (dt_in d_int (d_var (i := 7) rfl (.inl rfl))) (d_single d_retN) d_nil)
      (d_single (d_for PassesOwn.never rfl (di_enT rfl T.n_enumerate (d_pa_cons (d_var (i := 5) rfl (.inl rfl)) d_pa_nil)) (dg_tup (n := 2) rfl (dg_cons (dg_name (i := 8) sc_GTryWay.nd rfl (Or.inl rfl)) (dg_cons (dg_name (i := 6) sc_GTryWay.nd rfl (Or.inl rfl)) dg_nil))) (d_single (d_if (d_tw (d_and (dt_eq hr.units (d_ix (d_var (i := 6) rfl (.inl rfl)) d_int) (d_var (i := 2) rfl (.inl rfl))) (d_and1 (dt_lele (d_ix (d_var (i := 6) rfl (.inl rfl)) d_int) (d_var (i := 3) rfl (.inl rfl)) (d_ix (d_var (i := 6) rfl (.inl rfl)) d_int))))) (d_single (d_expr (d_meth (d_var (i := 0) rfl (.inr (.inl rfl))) T.cG ((w_GMakeAll T).mono (by decide)) hr (d_pa_cons (d_var (i := 1) rfl (.inl rfl)) (d_pa_cons (d_add (d_add (d_slice (d_var (i := 7) rfl (.inl rfl)) d_no (d_part (d_var (i := 8) rfl (.inl rfl)))) (d_lst (d_pa_cons (d_shl d_int (d_var (i := 3) rfl (.inl rfl))) d_pa_nil))) (d_slice (d_var (i := 7) rfl (.inl rfl)) (d_part (d_add (d_var (i := 8) rfl (.inl rfl)) d_int)) d_no)) (d_pa_cons (d_var (i := 4) rfl (.inr (.inl rfl))) d_pa_nil)))))) d_nil)))))))) (fun l M Qd h => ?_)⟩
  obtain ⟨M0, w, s, number, x, kind, age, moment, rfl, rfl, ok, gi, hl, hx, ha, h⟩ := h
  refine ⟨rfl, ?_⟩
  have h0 : 0 < w.size := by have := ok.size; omega
  have ow := ok.ways x (List.mem_of_getElem? hx)
  have hp3 := ow.len
  have hy : atI (w.ways.map Way.d) (number : Int) = some x.d := by rw [atI_nat, List.getElem?_map, hx]; rfl
  refine seq_cut (fun ds' M' => M' = gm CG M0 w s ∧ ds' = [some (.h M0.length), some (.int (number : Int)), some (.str kind), some (.int age), some (.int moment), some (.tup (x.parts.map Prt.d)), none, none, none]) (fun N k => ?_) ?_
  · exact ⟨_, rfl, _, _, _, rfl, gm_g, gf_here, 3, rfl, _, at3, _, rfl, _, rfl, _, hy, 1, rfl, _, at1, k _ _ ⟨rfl, rfl⟩⟩
  rintro ds' M' ⟨rfl, rfl⟩
  obtain ⟨ls, els⟩ : ∃ ls, ls = tryLists w x moment s := ⟨_, rfl⟩
  refine seq_cut (fun ds' M' => M' = gm CG M0 w s ∧ ds' = [some (.h M0.length), some (.int (number : Int)), some (.str kind), some (.int age), some (.int moment), some (.tup (x.parts.map Prt.d)), none, some (.lst (ls.map .int)), none]) (fun N k => ?_) ?_
  · refine ⟨_, rfl, _, rfl, ?_⟩
    refine lc_map (f := Prt.d) (l := x.parts) (fun i acc M' => M' = gm CG M0 w s ∧ acc = ((x.parts.take i).map fun p => agesAt s p (moment % w.size)).map .int) ⟨rfl, by simp⟩ (fun i a acc M' K hi ⟨e1, e2⟩ kk => ?_) (fun acc M' ⟨e1, e2⟩ => ?_)
    · subst e1 e2
      have hil := (List.getElem?_eq_some_iff.mp hi).1
      have op := ow.parts a (List.mem_of_getElem? hi)
      refine ⟨trivial, by simp; omega, ?_⟩
      simp only [dgName, dYes, if_true]
      refine ⟨_, rfl, _, _, rfl, gm_g, rfl, _, rfl, _, rfl, _, rfl, _, _, _, rfl, gm_g, gf_size, h0, M0, w, s, a, moment % w.size, rfl, rfl, ⟨op.lo.1, by have := op.lo; omega⟩, ⟨by have := op.lo; have := op.hi; omega, by have := op.hi; omega⟩, kk _ _ ⟨rfl, ?_⟩⟩
      rw [List.take_add_one, hi]
      simp
    · subst e1 e2
      refine ⟨trivial, k _ _ ⟨rfl, ?_⟩⟩
      rw [els]
      unfold tryLists
      rw [List.take_length]; rfl
  rintro ds' M' ⟨rfl, rfl⟩
  have lr : ∀ b ∈ ls, bitR b := fun b hb => by
    rw [els] at hb
    obtain ⟨p, hp, rfl⟩ := List.mem_map.mp hb
    exact agesAt_r (ow.parts p hp)
  have ll : ls.length = x.parts.length := by rw [els]; simp [oIx_tup, oIx_lst, oIx_h, oIx_str, tryLists]
  unfold tryWay at h
  rw [← els] at h
  refine seq_cut (fun ds' M' => M' = gm CG M0 w s ∧ ds' = [some (.h M0.length), some (.int (number : Int)), some (.str kind), some (.int age), some (.int moment), some (.tup (x.parts.map Prt.d)), none, some (.lst (ls.map .int)), none] ∧ ¬ 0 ∈ ls) (fun N k => ?_) ?_
  · refine ⟨_, rfl, ?_⟩
    refine in_intL ⟨decide (0 ∈ ls), rfl, ?_⟩
    by_cases c : 0 ∈ ls
    · rw [if_pos c] at h
      exact ite_t (decide_eq_true c) h
    · exact ite_f (decide_eq_false c) (k _ _ ⟨rfl, rfl, c⟩)
  rintro ds' M' ⟨rfl, rfl, c⟩
  rw [if_neg c] at h
  refine ⟨_, rfl, _, rfl, ?_⟩
  refine for_en (f := Prt.d) (l := x.parts) (fun i ds M' => M' = gm CG M0 w (itN (tryOne w number x ls kind age moment) i s) ∧ i ≤ x.parts.length ∧ ∃ y z, ds = [some (.h M0.length), some (.int (number : Int)), some (.str kind), some (.int age), some (.int moment), some (.tup (x.parts.map Prt.d)), y, some (.lst (ls.map .int)), z]) ⟨rfl, Nat.zero_le _, _, _, rfl⟩ (fun i p ds M' K hi ⟨e1, _, y, z, e3⟩ kk => ?_) (fun ds M' ⟨e1, _, y, z, e3⟩ => ?_)
  · subst e1 e3
    refine ⟨trivial, _, rfl, rfl, _, _, rfl, _, _, rfl, rfl, ?_⟩
    have hil := (List.getElem?_eq_some_iff.mp hi).1
    have ex := itN_ext (w := w) (m := 42) i s (f := tryOne w number x ls kind age moment) fun j t hj => tryOne_ext h0 ow
    have gi1 := ex.gi gi
    have hl1 := ex.hi
    obtain ⟨t, et⟩ : ∃ t, t = itN (tryOne w number x ls kind age moment) i s := ⟨_, rfl⟩
    have kk : ∀ y z, K [some (.h M0.length), some (.int (number : Int)), some (.str kind), some (.int age), some (.int moment), some (.tup (x.parts.map Prt.d)), y, some (.lst (ls.map .int)), z] (gm CG M0 w (tryOne w number x ls kind age moment i t)) := fun y z => kk _ _ ⟨by rw [et]; rfl, by omega, y, z, rfl⟩
    rw [← et] at gi1 hl1 ⊢
    unfold tryOne at kk
    rw [hi] at kk
    have kk : ∀ y z, K [some (.h M0.length), some (.int (number : Int)), some (.str kind), some (.int age), some (.int moment), some (.tup (x.parts.map Prt.d)), y, some (.lst (ls.map .int)), z] (gm CG M0 w (if p.kind = kind ∧ p.lo ≤ age ∧ age ≤ p.hi then makeAll w number x (ls.take i ++ [1 * 2 ^ age.toNat] ++ ls.drop (i + 1)) moment t else t)) := kk
    refine ⟨_, rfl, 0, rfl, _, at0, _, rfl, decide (p.kind = kind), rfl, ?_⟩
    by_cases c1 : p.kind = kind
    · refine ite_t (decide_eq_true c1) ?_
      refine ⟨_, rfl, 1, rfl, _, at1, _, rfl, decide (p.lo ≤ age), rfl, ?_⟩
      by_cases c2 : p.lo ≤ age
      · refine ite_t (decide_eq_true c2) ?_
        refine ⟨_, rfl, 2, rfl, _, at2, decide (age ≤ p.hi), rfl, ?_⟩
        by_cases c3 : age ≤ p.hi
        · refine ite_t (decide_eq_true c3) ?_
          rw [if_pos ⟨c1, c2, c3⟩] at kk
          refine ⟨_, rfl, _, _, rfl, gm_g, rfl, _, rfl, _, rfl, _, rfl, _, rfl, _, rfl, ⟨ha.1, by omega, by decide⟩, by simp, ?_, _, rfl, _, rfl, _, rfl, ?_, _, rfl, M0, w, t, number, x, ls.take i ++ [1 * 2 ^ age.toNat] ++ ls.drop (i + 1), moment, ?_, rfl, ok, gi1, by omega, hx, ?_, ?_, kk _ _⟩
          · rw [cut_take]; simp; omega
          · rw [cut_take, cut_drop1]; simp; omega
          · rw [cut_take, cut_drop1]; simp
          · intro b hb
            rcases List.mem_append.mp hb with hb | hb
            · rcases List.mem_append.mp hb with hb | hb
              · exact lr b (List.mem_of_mem_take hb)
              · rw [List.mem_singleton.mp hb]; exact one_shl_r ha
            · exact lr b (List.mem_of_mem_drop hb)
          · simp; omega
        · refine ite_f (decide_eq_false c3) ?_
          rw [if_neg fun z => c3 z.2.2] at kk
          exact kk _ _
      · refine ite_f (decide_eq_false c2) ⟨false, rfl, ite_f rfl ?_⟩
        rw [if_neg fun z => c2 z.2.1] at kk
        exact kk _ _
    · refine ite_f (decide_eq_false c1) (ite_f rfl ?_)
      rw [if_neg fun z => c1 z.1] at kk
      exact kk _ _
  · subst e1 e3
    exact ⟨trivial, h⟩
section
variable {CG : Addr} {M0 : S} {w : Wld} {s : Gs}
theorem dput_mo {kind : Str} {p a v : Int} {R : S → Prop} (hl : s.mo.length < 1000000) (h : R (gm CG M0 w { s with mo := pA s.mo (k3 kind p a) v })) : dput (gm CG M0 w s) (M0.length + 1) (kD3 kind p a) (.int v) R := by
  unfold dput
  rw [gm_1]
  exact ⟨_, k3 kind p a, rfl, rfl, by simpa using hl, by rw [pv_int, gm_s1]; exact h⟩
theorem dput_rs {kind : Str} {p a : Int} {v : D} {R : S → Prop} (hl : s.rs.length < 1000000) (h : R (gm CG M0 w { s with rs := pA s.rs (k3 kind p a) v })) : dput (gm CG M0 w s) (M0.length + 2) (kD3 kind p a) v R := by
  unfold dput
  rw [gm_2]
  exact ⟨_, k3 kind p a, rfl, rfl, hl, by rw [pv_rs, gm_s2]; exact h⟩
theorem dput_ag {kind : Str} {p v : Int} {R : S → Prop} (hl : s.ag.length < 1000000) (h : R (gm CG M0 w { s with ag := pA s.ag (k2 kind p) v })) : dput (gm CG M0 w s) (M0.length + 4) (.tup [.str kind, .int p]) (.int v) R := by
  unfold dput
  rw [gm_4]
  exact ⟨_, k2 kind p, rfl, rfl, by simpa using hl, by rw [pv_int, gm_s4]; exact h⟩
end
def spGSettle (CG : Addr) : SpD := fun l M Q => ∃ (M0 : S) (w : Wld) (s : Gs) (kind : Str) (p age moment : Int) (r : D), l = [.h M0.length, kD3 kind p age, .int moment, r] ∧ M = gm CG M0 w s ∧ Ok w ∧ GJ w s ∧ kind ∈ w.kinds ∧ (0 ≤ p ∧ p < w.size) ∧ (0 ≤ age ∧ age ≤ 26) ∧ Q .non (gm CG M0 w (settleF w s kind p age moment r))
theorem sc_GSettle : FnScope ["self", "key", "moment", "reason", "kind", "place", "age", "hour", "number", "way"] ["self", "key", "moment", "reason"] (defScope sGSettle) := ⟨rfl, rfl, rfl, by decide +kernel, rfl, by decide +kernel, by decide +kernel⟩
theorem w_GSettle {P : Program} {w : World} {K : PySem.W.Frag} {mg : Str → Option Value} {base : Heap} {CG CH : Addr} (T : Tx K w mg CG CH) : MD P w K mg base 5 CG "settle" (spGSettle CG) := by
  obtain ⟨f, fd, hm, F⟩ := T.m_GSettle
  refine ⟨f, hm, okD (k := 4) F sc_GSettle (F.bindsN fun _ _ _ _ _ _ us hl => match us, hl with | [_, _, _, _], _ => rfl)
    (fun cdv A outer s H E hr => (d_seq (d_if (d_tpc (d_inD hr.u1 (d_var (i := 1) rfl (.inl rfl)) (d_fld T.cG T.naG_moments (d_var (i := 0) rfl (.inl rfl)))) rfl) (d_single d_retN) d_nil)
      (d_seq (d_put hr.u1 (d_fld T.cG T.naG_moments (d_var (i := 0) rfl (.inl rfl))) (d_var (i := 1) rfl (.inl rfl)) (d_var (i := 2) rfl (.inl rfl)))
      (d_seq (d_put hr.u1 (d_fld T.cG T.naG_reasons (d_var (i := 0) rfl (.inl rfl))) (d_var (i := 1) rfl (.inl rfl)) (d_var (i := 3) rfl (.inl rfl)))
      (d_seq (d_asg (d_var (i := 1) rfl (.inl rfl)) (dg_tup (n := 3) rfl (dg_cons (dg_name (i := 4) sc_GSettle.nd rfl (Or.inl rfl)) (dg_cons (dg_name (i := 5) sc_GSettle.nd rfl (Or.inl rfl)) (dg_cons (dg_name (i := 6) sc_GSettle.nd rfl (Or.inl rfl)) dg_nil)))))
      (d_seq (d_set (i := 7) sc_GSettle.nd rfl (Or.inl rfl) (d_mod (d_var (i := 2) rfl (.inl rfl)) (d_fld T.cG T.naG_size (d_var (i := 0) rfl (.inl rfl)))))
      (d_seq (d_put hr.u1 (d_fld T.cG T.naG_ages (d_var (i := 0) rfl (.inl rfl))) (d_tup (d_pa_cons (d_var (i := 4) rfl (.inl rfl)) (d_pa_cons (d_var (i := 7) rfl (.inl rfl)) d_pa_nil))) (d_bor (d_get2 hr.u1 (d_fld T.cG T.naG_ages (d_var (i := 0) rfl (.inl rfl))) (d_tup (d_pa_cons (d_var (i := 4) rfl (.inl rfl)) (d_pa_cons (d_var (i := 7) rfl (.inl rfl)) d_pa_nil))) d_int) (d_shl d_int (d_var (i := 6) rfl (.inl rfl)))))
      (d_seq (d_if (dt_lt (d_var (i := 6) rfl (.inl rfl)) (d_gi rfl T.i_READY)) (d_single (d_expr (d_meth (d_var (i := 0) rfl (.inl rfl)) T.cG ((w_GExpect T).mono (by decide)) hr (d_pa_cons (d_var (i := 4) rfl (.inl rfl)) (d_pa_cons (d_add (d_var (i := 6) rfl (.inl rfl)) d_int) (d_pa_cons (d_add (d_var (i := 2) rfl (.inl rfl)) d_int) (d_pa_cons (d_tup (d_pa_cons (d_gs rfl T.s_WAITED) d_pa_nil)) d_pa_nil))))))) d_nil)
      (d_single (d_for PassesOwn.never rfl (di_enT rfl T.n_enumerate (d_pa_cons (d_ix (d_fld T.cG T.naG_here (d_var (i := 0) rfl (.inl rfl))) d_int) d_pa_nil)) (dg_tup (n := 2) rfl (dg_cons (dg_name (i := 8) sc_GSettle.nd rfl (Or.inl rfl)) (dg_cons (dg_name (i := 9) sc_GSettle.nd rfl (Or.inl rfl)) dg_nil))) (d_single (d_if (dt_in (d_var (i := 7) rfl (.inl rfl)) (d_ix (d_var (i := 9) rfl (.inl rfl)) d_int)) (d_single (d_expr (d_meth (d_var (i := 0) rfl (.inl rfl)) T.cG ((w_GTryWay T).mono (by decide)) hr (d_pa_cons (d_var (i := 8) rfl (.inl rfl)) (d_pa_cons (d_var (i := 4) rfl (.inl rfl)) (d_pa_cons (d_var (i := 6) rfl (.inl rfl)) (d_pa_cons (d_var (i := 2) rfl (.inl rfl)) d_pa_nil))))))) d_nil)))))))))))) (fun l M Qd h => ?_)⟩
  obtain ⟨M0, w, s, kind, p, age, moment, r, rfl, rfl, ok, gj, hk, hp, ha, h⟩ := h
  refine ⟨rfl, ?_⟩
  have h0 : 0 < w.size := by have := ok.size; omega
  have ml := gj.ml ok
  have rb := gj.rb2 ok
  have rl := gj.rl
  have al := gj.al
  have w8 := ok.wlen
  unfold settleF at h
  refine seq_cut (fun ds' M' => M' = gm CG M0 w s ∧ ds' = [some (.h M0.length), some (kD3 kind p age), some (.int moment), some r, none, none, none, none, none, none] ∧ gA s.mo (k3 kind p age) = none) (fun N k => ?_) ?_
  · refine ⟨_, rfl, _, rfl, _, _, _, rfl, gm_g, gf_moments, _, rfl, dget_mo ?_⟩
    cases q : gA s.mo (k3 kind p age) with
    | some v =>
      rw [q] at h
      exact ⟨true, rfl, h⟩
    | none => exact ⟨false, rfl, k _ _ ⟨rfl, rfl, q⟩⟩
  rintro ds' M' ⟨rfl, rfl, q⟩
  rw [q] at h
  refine seq_cut (fun ds' M' => M' = gm CG M0 w { s with mo := pA s.mo (k3 kind p age) moment } ∧ ds' = [some (.h M0.length), some (kD3 kind p age), some (.int moment), some r, none, none, none, none, none, none]) (fun N k => ?_) ?_
  · exact ⟨_, rfl, _, rfl, _, _, _, rfl, gm_g, gf_moments, _, rfl, _, rfl, dput_mo (by omega) (k _ _ ⟨rfl, rfl⟩)⟩
  rintro ds' M' ⟨rfl, rfl⟩
  refine seq_cut (fun ds' M' => M' = gm CG M0 w { s with mo := pA s.mo (k3 kind p age) moment, rs := pA s.rs (k3 kind p age) r } ∧ ds' = [some (.h M0.length), some (kD3 kind p age), some (.int moment), some r, none, none, none, none, none, none]) (fun N k => ?_) ?_
  · exact ⟨_, rfl, _, rfl, _, _, _, rfl, gm_g, gf_reasons, _, rfl, _, rfl, dput_rs (by show s.rs.length < _; omega) (k _ _ ⟨rfl, rfl⟩)⟩
  rintro ds' M' ⟨rfl, rfl⟩
  refine seq_cut (fun ds' M' => M' = gm CG M0 w { s with mo := pA s.mo (k3 kind p age) moment, rs := pA s.rs (k3 kind p age) r } ∧ ds' = [some (.h M0.length), some (kD3 kind p age), some (.int moment), some r, some (.str kind), some (.int p), some (.int age), none, none, none]) (fun N k => ?_) ?_
  · exact ⟨_, rfl, _, rfl, rfl, _, _, rfl, _, _, rfl, _, _, rfl, rfl, k _ _ ⟨rfl, rfl⟩⟩
  rintro ds' M' ⟨rfl, rfl⟩
  refine seq_cut (fun ds' M' => M' = gm CG M0 w { s with mo := pA s.mo (k3 kind p age) moment, rs := pA s.rs (k3 kind p age) r } ∧ ds' = [some (.h M0.length), some (kD3 kind p age), some (.int moment), some r, some (.str kind), some (.int p), some (.int age), some (.int (moment % w.size)), none, none]) (fun N k => ?_) ?_
  · exact ⟨_, rfl, _, rfl, _, _, _, rfl, gm_g, gf_size, h0, k _ _ ⟨rfl, rfl⟩⟩
  rintro ds' M' ⟨rfl, rfl⟩
  refine seq_cut (fun ds' M' => M' = gm CG M0 w (settle1 w s kind p age moment r) ∧ ds' = [some (.h M0.length), some (kD3 kind p age), some (.int moment), some r, some (.str kind), some (.int p), some (.int age), some (.int (moment % w.size)), none, none]) (fun N k => ?_) ?_
  · refine ⟨_, rfl, _, _, _, rfl, gm_g, gf_ages, _, rfl, .inr ⟨_, gm_4⟩, _, rfl, _, rfl, by simp, ?_⟩
    dsimp only [dC]
    refine dget_ag ?_
    show (fun o => _) ((gA s.ag (k2 kind (moment % w.size))).map D.int)
    have k : N [some (.h M0.length), some (kD3 kind p age), some (.int moment), some r, some (.str kind), some (.int p), some (.int age), some (.int (moment % w.size)), none, none] (gm CG M0 w (settle1 w s kind p age moment r)) := k _ _ ⟨rfl, rfl⟩
    unfold settle1 at k
    cases q3 : gA s.ag (k2 kind (moment % w.size)) with
    | none =>
      rw [q3] at k
      exact ⟨_, rfl, ⟨ha.1, by omega, by decide⟩, _, rfl, _, _, _, rfl, gm_g, gf_ages, _, rfl, _, rfl, by simp, _, rfl, dput_ag (by show s.ag.length < _; omega) k⟩
    | some v =>
      rw [q3] at k
      exact ⟨_, rfl, ⟨ha.1, by omega, by decide⟩, _, rfl, _, _, _, rfl, gm_g, gf_ages, _, rfl, _, rfl, by simp, _, rfl, dput_ag (by show s.ag.length < _; omega) k⟩
  rintro ds' M' ⟨rfl, rfl⟩
  have gi1 : GI w (settle1 w s kind p age moment r) := ⟨gj.gi.pi, gj.gi.pn, gj.gi.pl, gj.gi.ll, gj.gi.wf⟩
  have r1 : (settle1 w s kind p age moment r).R.length = s.R.length := rfl
  have e2 := settle2_ext (s := settle1 w s kind p age moment r) (moment := moment) ok hk ha
  refine seq_cut (fun ds' M' => M' = gm CG M0 w (settle2 w (settle1 w s kind p age moment r) kind age moment) ∧ ds' = [some (.h M0.length), some (kD3 kind p age), some (.int moment), some r, some (.str kind), some (.int p), some (.int age), some (.int (moment % w.size)), none, none]) (fun N k => ?_) ?_
  · refine ⟨_, rfl, decide (age < 26), rfl, ?_⟩
    have k : N [some (.h M0.length), some (kD3 kind p age), some (.int moment), some r, some (.str kind), some (.int p), some (.int age), some (.int (moment % w.size)), none, none] (gm CG M0 w (settle2 w (settle1 w s kind p age moment r) kind age moment)) := k _ _ ⟨rfl, rfl⟩
    unfold settle2 at k
    by_cases c : age < 26
    · rw [if_pos c] at k
      refine ite_t (decide_eq_true c) ?_
      exact ⟨_, rfl, _, _, rfl, gm_g, rfl, _, rfl, _, rfl, _, rfl, by simp, M0, w, _, kind, age + 1, moment + 1, .tup [.str "waited"], rfl, rfl, h0, gi1, by omega, k⟩
    · rw [if_neg c] at k
      exact ite_f (decide_eq_false c) k
  rintro ds' M' ⟨rfl, rfl⟩
  obtain ⟨s2, es2⟩ : ∃ s2, s2 = settle2 w (settle1 w s kind p age moment r) kind age moment := ⟨_, rfl⟩
  have gi2 := e2.gi gi1
  have r2 := e2.hi
  rw [← es2] at gi2 r2 h ⊢
  refine ⟨_, rfl, _, _, _, rfl, gm_g, gf_here, 3, rfl, _, at3, _, rfl, ?_⟩
  refine for_en (f := Way.d) (l := w.ways) (fun i ds M' => M' = gm CG M0 w (itN (wayOne w kind age moment) i s2) ∧ i ≤ w.ways.length ∧ ∃ y z, ds = [some (.h M0.length), some (kD3 kind p age), some (.int moment), some r, some (.str kind), some (.int p), some (.int age), some (.int (moment % w.size)), y, z]) ⟨rfl, Nat.zero_le _, _, _, rfl⟩ (fun i x ds M' K hi ⟨e1, _, y, z, e3⟩ kk => ?_) (fun ds M' ⟨e1, _, y, z, e3⟩ => ?_)
  · subst e1 e3
    refine ⟨trivial, _, rfl, rfl, _, _, rfl, _, _, rfl, rfl, ?_⟩
    have hil := (List.getElem?_eq_some_iff.mp hi).1
    have ex := itN_ext (w := w) (m := 126) i s2 (f := wayOne w kind age moment) fun j t hj => wayOne_ext ok
    have gi3 := ex.gi gi2
    have hl3 := ex.hi
    obtain ⟨t, et⟩ : ∃ t, t = itN (wayOne w kind age moment) i s2 := ⟨_, rfl⟩
    have kk : ∀ y z, K [some (.h M0.length), some (kD3 kind p age), some (.int moment), some r, some (.str kind), some (.int p), some (.int age), some (.int (moment % w.size)), y, z] (gm CG M0 w (wayOne w kind age moment i t)) := fun y z => kk _ _ ⟨by rw [et]; rfl, by omega, y, z, rfl⟩
    rw [← et] at gi3 hl3 ⊢
    unfold wayOne at kk
    rw [hi] at kk
    have kk : ∀ y z, K [some (.h M0.length), some (kD3 kind p age), some (.int moment), some r, some (.str kind), some (.int p), some (.int age), some (.int (moment % w.size)), y, z] (gm CG M0 w (if moment % w.size ∈ x.hours then tryWay w i x kind age moment t else t)) := kk
    refine ⟨_, rfl, _, rfl, 3, rfl, _, at3, ?_⟩
    refine in_intT ⟨decide (moment % w.size ∈ x.hours), rfl, ?_⟩
    by_cases c : moment % w.size ∈ x.hours
    · rw [if_pos c] at kk
      refine ite_t (decide_eq_true c) ?_
      exact ⟨_, rfl, _, _, rfl, gm_g, rfl, _, rfl, _, rfl, _, rfl, _, rfl, M0, w, t, i, x, kind, age, moment, rfl, rfl, ok, gi3, by omega, hi, ha, kk _ _⟩
    · rw [if_neg c] at kk
      exact ite_f (decide_eq_false c) (kk _ _)
  · subst e1 e3
    exact ⟨trivial, h⟩
end My

set_option Elab.async false
set_option linter.all false
set_option maxRecDepth 100000
set_option maxHeartbeats 4000000
namespace My
open PySem PySem.Spec PyProof.Rows L2
theorem gl_0 {M0 : S} {o : O} {r : S} : (M0 ++ o :: r)[M0.length]? = some o := by simp
theorem gl_s {M0 : S} {o o' : O} {r : S} : (M0 ++ o :: r).set M0.length o' = M0 ++ o' :: r := by simp
def spGInit (CG : Addr) : SpD := fun l M Q => ∃ (M0 : S) (w : Wld), l = [.h M0.length, w.d] ∧ M = M0 ++ [.ins CG []] ∧ Ok w ∧ ∀ s, Fin w s → GJ w s → Q .non (gm CG M0 w s)
theorem sc_GInit : FnScope ["self", "world", "number", "source", "moment", "key", "reason"] ["self", "world"] (defScope sGInit) := ⟨rfl, rfl, rfl, by decide +kernel, rfl, by decide +kernel, by decide +kernel⟩
theorem w_GInit {P : Program} {w : World} {K : PySem.W.Frag} {mg : Str → Option Value} {base : Heap} {CG CH : Addr} (T : Tx K w mg CG CH) : CD P w K mg base 6 CG "Growth" (spGInit CG) := by
  obtain ⟨f, fd, hm, mk, F⟩ := T.mkG
  refine ⟨f, hm, mk, okD (k := 5) F sc_GInit (F.bindsN fun _ _ _ _ _ _ us hl => match us, hl with | [_, _], _ => rfl)
    (fun cdv A outer s H E hr => (d_seq (d_setF T.cG T.naG_here (d_var (i := 0) rfl (.inl rfl)) (d_var (i := 1) rfl (.inl rfl)))
      (d_seq (d_setF T.cG T.naG_size (d_var (i := 0) rfl (.inl rfl)) (d_ix (d_var (i := 1) rfl (.inl rfl)) d_int))
      (d_seq (d_setF T.cG T.naG_moments (d_var (i := 0) rfl (.inl rfl)) d_newT)
      (d_seq (d_setF T.cG T.naG_reasons (d_var (i := 0) rfl (.inl rfl)) d_newT)
      (d_seq (d_setF T.cG T.naG_pending (d_var (i := 0) rfl (.inl rfl)) d_newK)
      (d_seq (d_setF T.cG T.naG_ages (d_var (i := 0) rfl (.inl rfl)) d_newT)
      (d_seq (d_for PassesOwn.never rfl (di_enT rfl T.n_enumerate (d_pa_cons (d_ix (d_var (i := 1) rfl (.inl rfl)) d_int) d_pa_nil)) (dg_tup (n := 2) rfl (dg_cons (dg_name (i := 2) sc_GInit.nd rfl (Or.inl rfl)) (dg_cons (dg_name (i := 3) sc_GInit.nd rfl (Or.inl rfl)) dg_nil))) (d_single (d_expr (d_meth (d_var (i := 0) rfl (.inl rfl)) T.cG ((w_GExpect T).mono (by decide)) hr (d_pa_cons (d_ix (d_var (i := 3) rfl (.inl rfl)) d_int) (d_pa_cons (d_ix (d_var (i := 3) rfl (.inl rfl)) d_int) (d_pa_cons (d_call ((w_PFirstOf T).mono (by decide)) hr rfl (d_pa_cons (d_var (i := 1) rfl (.inl rfl)) (d_pa_cons (d_var (i := 2) rfl (.inl rfl)) d_pa_nil))) (d_pa_cons (d_tup (d_pa_cons (d_gs rfl T.s_BROUGHT) (d_pa_cons (d_var (i := 2) rfl (.inl rfl)) d_pa_nil))) d_pa_nil))))))))
      (d_single (d_while PassesOwn.never (d_truD (d_fld T.cG T.naG_pending (d_var (i := 0) rfl (.inl rfl)))) (d_seq (d_set (i := 4) sc_GInit.nd rfl (Or.inl rfl) (d_minD rfl rfl T.n_min (d_pa_cons (d_fld T.cG T.naG_pending (d_var (i := 0) rfl (.inl rfl))) d_pa_nil)))
      (d_single (d_for PassesOwn.never rfl (di_lst (d_pop (d_fld T.cG T.naG_pending (d_var (i := 0) rfl (.inl rfl))) (d_var (i := 4) rfl (.inl rfl)))) (dg_tup (n := 2) rfl (dg_cons (dg_name (i := 5) sc_GInit.nd rfl (Or.inl rfl)) (dg_cons (dg_name (i := 6) sc_GInit.nd rfl (Or.inl rfl)) dg_nil))) (d_single (d_expr (d_meth (d_var (i := 0) rfl (.inl rfl)) T.cG ((w_GSettle T).mono (by decide)) hr (d_pa_cons (d_var (i := 5) rfl (.inl rfl)) (d_pa_cons (d_var (i := 4) rfl (.inl rfl)) (d_pa_cons (d_var (i := 6) rfl (.inl rfl)) d_pa_nil))))))))))))))))))) (fun l M Qd h => ?_)⟩
  obtain ⟨M0, w, rfl, rfl, ok, h⟩ := h
  refine ⟨rfl, ?_⟩
  have h0 : 0 < w.size := by have := ok.size; omega
  have w8 := ok.slen
  obtain ⟨ds0, eds⟩ : ∃ ds0 : DS, ds0 = [some (.h M0.length), some w.d, none, none, none, none, none] := ⟨_, rfl⟩
  have put : ∀ (f : Str) (fs fs' : List (Str × D)) (d : D) (r : S), putG f d fs = fs' → (M0 ++ O.ins CG fs :: r).set M0.length (.ins CG (putG f d fs)) = M0 ++ .ins CG fs' :: r := fun f fs fs' d r e => by rw [e, gl_s]
  refine seq_cut (fun ds' M' => M' = M0 ++ .ins CG [("here", w.d)] :: [] ∧ ds' = [some (.h M0.length), some w.d, none, none, none, none, none]) (fun N k => ?_) ?_
  · exact ⟨_, rfl, _, rfl, _, _, rfl, gl_0, by simp, k _ _ ⟨put _ _ _ _ _ rfl, rfl⟩⟩
  rintro ds' M' ⟨rfl, rfl⟩
  refine seq_cut (fun ds' M' => M' = M0 ++ .ins CG [("here", w.d), ("size", .int w.size)] :: [] ∧ ds' = [some (.h M0.length), some w.d, none, none, none, none, none]) (fun N k => ?_) ?_
  · exact ⟨_, rfl, 0, rfl, _, at0, _, rfl, _, _, rfl, gl_0, by simp, k _ _ ⟨put _ _ _ _ _ rfl, rfl⟩⟩
  rintro ds' M' ⟨rfl, rfl⟩
  have len1 : ∀ (o : O) (r : S), List.length (M0 ++ o :: r) = M0.length + (r.length + 1) := fun o r => by simp
  have app1 : ∀ (o p : O) (r : S), (M0 ++ o :: r) ++ [p] = M0 ++ o :: (r ++ [p]) := fun o p r => by simp
  refine seq_cut (fun ds' M' => M' = M0 ++ .ins CG [("here", w.d), ("size", .int w.size), ("moments", .h (M0.length + 1))] :: [.dT []] ∧ ds' = [some (.h M0.length), some w.d, none, none, none, none, none]) (fun N k => ?_) ?_
  · unfold sSetF dNewT
    rw [len1, app1]
    exact ⟨_, rfl, _, _, rfl, gl_0, by simp, k _ _ ⟨put _ _ _ _ _ rfl, rfl⟩⟩
  rintro ds' M' ⟨rfl, rfl⟩
  refine seq_cut (fun ds' M' => M' = M0 ++ .ins CG [("here", w.d), ("size", .int w.size), ("moments", .h (M0.length + 1)), ("reasons", .h (M0.length + 2))] :: [.dT [], .dT []] ∧ ds' = [some (.h M0.length), some w.d, none, none, none, none, none]) (fun N k => ?_) ?_
  · unfold sSetF dNewT
    rw [len1, app1]
    exact ⟨_, rfl, _, _, rfl, gl_0, by simp, k _ _ ⟨put _ _ _ _ _ rfl, rfl⟩⟩
  rintro ds' M' ⟨rfl, rfl⟩
  refine seq_cut (fun ds' M' => M' = M0 ++ .ins CG [("here", w.d), ("size", .int w.size), ("moments", .h (M0.length + 1)), ("reasons", .h (M0.length + 2)), ("pending", .h (M0.length + 3))] :: [.dT [], .dT [], .dK []] ∧ ds' = [some (.h M0.length), some w.d, none, none, none, none, none]) (fun N k => ?_) ?_
  · unfold sSetF dNewK
    rw [len1, app1]
    exact ⟨_, rfl, _, _, rfl, gl_0, by simp, k _ _ ⟨put _ _ _ _ _ rfl, rfl⟩⟩
  rintro ds' M' ⟨rfl, rfl⟩
  refine seq_cut (fun ds' M' => M' = gm CG M0 w emptyF ∧ ds' = [some (.h M0.length), some w.d, none, none, none, none, none]) (fun N k => ?_) ?_
  · unfold sSetF dNewT
    rw [len1, app1]
    exact ⟨_, rfl, _, _, rfl, gl_0, by simp, k _ _ ⟨put _ _ _ _ _ rfl, rfl⟩⟩
  rintro ds' M' ⟨rfl, rfl⟩
  have gi0 : GI w emptyF := ⟨fun p hp => absurd hp (by simp [oIx_tup, oIx_lst, oIx_h, oIx_str, emptyF]), by simp [oIx_tup, oIx_lst, oIx_h, oIx_str, emptyF], by simp [oIx_tup, oIx_lst, oIx_h, oIx_str, emptyF], fun p hp => absurd hp (by simp [oIx_tup, oIx_lst, oIx_h, oIx_str, emptyF]), fun p hp => absurd hp (by simp [oIx_tup, oIx_lst, oIx_h, oIx_str, emptyF])⟩
  have exS : ∀ i s, i < w.srcs.length → Ext w 1 s (srcOne w i s) := fun i s hi => by
    unfold srcOne
    rw [List.getElem?_eq_getElem hi]
    have o := ok.srcs _ (List.getElem_mem hi)
    exact expect_ext h0 o.kind ⟨o.age.1, by have := o.age; omega⟩
  refine seq_cut (fun ds' M' => M' = gm CG M0 w (initF w) ∧ ∃ x y, ds' = [some (.h M0.length), some w.d, x, y, none, none, none]) (fun N k => ?_) ?_
  · refine ⟨_, rfl, 2, rfl, _, at2, _, rfl, ?_⟩
    refine for_en (f := Src.d) (l := w.srcs) (fun i ds M' => M' = gm CG M0 w (itN (srcOne w) i emptyF) ∧ i ≤ w.srcs.length ∧ ∃ x y, ds = [some (.h M0.length), some w.d, x, y, none, none, none]) ⟨rfl, Nat.zero_le _, _, _, rfl⟩ (fun i x ds M' K hi ⟨e1, _, y, z, e3⟩ kk => ?_) (fun ds M' ⟨e1, _, y, z, e3⟩ => ?_)
    · subst e1 e3
      refine ⟨trivial, _, rfl, rfl, _, _, rfl, _, _, rfl, rfl, ?_⟩
      have hil := (List.getElem?_eq_some_iff.mp hi).1
      have ex := itN_ext (w := w) (m := 1) i emptyF (f := srcOne w) fun j t hj => exS j t (by omega)
      have gi3 := ex.gi gi0
      have hl3 := ex.hi
      have e0 : emptyF.R.length = 0 := rfl
      obtain ⟨t, et⟩ : ∃ t, t = itN (srcOne w) i emptyF := ⟨_, rfl⟩
      have kk : ∀ y z, K [some (.h M0.length), some w.d, y, z, none, none, none] (gm CG M0 w (srcOne w i t)) := fun y z => kk _ _ ⟨by rw [et]; rfl, by omega, y, z, rfl⟩
      rw [← et] at gi3 hl3 ⊢
      unfold srcOne at kk
      rw [hi] at kk
      have kk : ∀ y z, K [some (.h M0.length), some w.d, y, z, none, none, none] (gm CG M0 w (expectF w t x.kind x.age (firstAt w.size x.place x.since) (.tup [.str "brought", .int (i : Nat)]))) := kk
      exact ⟨_, rfl, _, _, rfl, gm_g, rfl, _, rfl, 0, rfl, _, at0, _, rfl, 1, rfl, _, at1, _, rfl, _, rfl, w, i, x, rfl, h0, hi, _, rfl, by simp, M0, w, t, x.kind, x.age, firstAt w.size x.place x.since, .tup [.str "brought", .int (i : Nat)], rfl, rfl, h0, gi3, by omega, kk _ _⟩
    · subst e1 e3
      exact ⟨trivial, k _ _ ⟨rfl, _, _, rfl⟩⟩
  rintro ds' M' ⟨rfl, x, y, rfl⟩
  refine ⟨fun m ds M' => ∃ n, M' = gm CG M0 w (runF w n) ∧ GJ w (runF w n) ∧ meas (runF w n) = m ∧ ∃ x y z u v, ds = [some (.h M0.length), some w.d, x, y, z, u, v], ⟨_, 0, rfl, init_ok ok, rfl, _, _, _, _, _, rfl⟩, ?_⟩
  rintro m ds M' ⟨n, rfl, gj, em, x, y, z, u, v, rfl⟩
  refine ⟨_, rfl, _, _, _, rfl, gm_g, gf_pending, _, _, rfl, gm_3, ?_⟩
  by_cases c : (runF w n).pe = []
  · refine ite_f (by rw [c]; rfl) ?_
    exact h _ ⟨c, n, rfl⟩ gj
  have c' : (List.map (fun (p : Int × Nat) => ((.inl p.1 : Key), D.h (M0.length + 5 + p.2))) (runF w n).pe).isEmpty = false := by
    cases q : (runF w n).pe with
    | nil => exact absurd q c
    | cons a b => rfl
  refine ite_t (by rw [c']; rfl) ?_
  obtain ⟨st1, st2⟩ := step_ok ok gj c
  obtain ⟨i0, hi0⟩ := mn_some c
  obtain ⟨m1, m2⟩ := mnI_spec ((runF w n).pe.map (·.1)) (by simpa using c)
  obtain ⟨s, es⟩ : ∃ s, s = runF w n := ⟨_, rfl⟩
  have fin : ∀ x y z u v, ∃ m', m' < m ∧ ∃ n', gm CG M0 w (stepF w s) = gm CG M0 w (runF w n') ∧ GJ w (runF w n') ∧ meas (runF w n') = m' ∧ ∃ x' y' z' u' v', ([some (.h M0.length), some w.d, x, y, z, u, v] : DS) = [some (.h M0.length), some w.d, x', y', z', u', v'] := fun x y z u v =>
    ⟨_, by rw [← em]; exact st2, n + 1, by rw [es]; rfl, st1, rfl, _, _, _, _, _, rfl⟩
  rw [← es] at gj hi0 m1 m2 ⊢
  obtain ⟨t, et⟩ : ∃ t, t = mnI (s.pe.map (·.1)) := ⟨_, rfl⟩
  have hstep : stepF w s = itN (settleD w t (s.R.getD i0 [])) (s.R.getD i0 []).length { s with pe := xA s.pe t } := by
    unfold stepF
    rw [hi0, ← et]
  rw [← et] at hi0 m1 m2
  rw [hstep] at fin
  have hil := gj.gi.pi _ (gA_mem hi0)
  have hil : i0 < s.R.length := hil
  have eg : s.R[i0]? = some (s.R.getD i0 []) := by rw [List.getD_eq_getElem?_getD, List.getElem?_eq_getElem hil]; rfl
  have wf : ∀ d ∈ s.R.getD i0 [], Wf w d := gj.gi.wf _ (gA_mem hi0) _ eg
  have hni := xA_not gj.gi.pn hi0
  have gj1 := xA_gj (t := t) gj
  refine seq_cut (fun ds' M' => M' = gm CG M0 w s ∧ ds' = [some (.h M0.length), some w.d, x, y, some (.int t), u, v]) (fun N k => ?_) ?_
  · refine ⟨_, rfl, _, _, _, rfl, gm_g, gf_pending, _, _, s.pe.map (·.1), rfl, gm_3, by simp, ?_, fun mm h1 h2 => ?_⟩
    · rw [es]; simpa using c
    · have : mm = t := Int.le_antisymm (h2 t m1) (m2 mm h1)
      rw [this]
      exact k _ _ ⟨rfl, rfl⟩
  rintro ds' M' ⟨rfl, rfl⟩
  refine ⟨_, rfl, _, _, _, rfl, gm_g, gf_pending, _, rfl, .inl ⟨_, gm_3⟩, _, rfl, _, .inl t, .h (M0.length + 5 + i0), gm_3, rfl, by rw [gv_pe, hi0]; rfl, ?_⟩
  rw [xv_pe, gm_s3]
  refine ⟨_, gm_R eg, ?_⟩
  refine forD_ind (fun i ds M' => M' = gm CG M0 w (itN (settleD w t (s.R.getD i0 [])) i { s with pe := xA s.pe t }) ∧ ∃ x y z u v, ds = [some (.h M0.length), some w.d, x, y, z, u, v] ∧ z = some (.int t)) ⟨rfl, x, y, _, u, v, rfl, rfl⟩ (fun i d ds M' K hi ⟨e1, x, y, z, u, v, e3, ez⟩ kk => ?_) (fun ds M' ⟨e1, x, y, z, u, v, e3, ez⟩ => ?_)
  · subst e1 e3 ez
    have g := itN_gro (w := w) i { s with pe := xA s.pe t } (f := settleD w t (s.R.getD i0 [])) fun j s _ => settleD_gro ok wf
    obtain ⟨_, fr⟩ := g.fr i0 hil hni
    have gj2 := g.gj gj1
    obtain ⟨q, eq⟩ : ∃ q, q = itN (settleD w t (s.R.getD i0 [])) i { s with pe := xA s.pe t } := ⟨_, rfl⟩
    have kk : ∀ x y u v, K [some (.h M0.length), some w.d, x, y, some (.int t), u, v] (gm CG M0 w (settleD w t (s.R.getD i0 []) i q)) := fun x y u v => kk _ _ ⟨by rw [eq]; rfl, x, y, _, u, v, rfl, rfl⟩
    rw [← eq] at fr gj2 ⊢
    obtain ⟨kind, p, age, r, rfl, k1, k2', k3', k4, k5⟩ := wf d (List.mem_of_getElem? hi)
    have e : settleD w t (s.R.getD i0 []) i q = settleF w q kind p age t r := by unfold settleD; rw [hi]; rfl
    rw [e] at kk
    exact ⟨gm_R (fr.trans eg), _, rfl, rfl, _, _, rfl, _, _, rfl, rfl, _, rfl, _, _, rfl, gm_g, rfl, _, rfl, _, rfl, _, rfl, M0, w, q, kind, p, age, t, r, rfl, rfl, ok, gj2, k1, ⟨k2', k3'⟩, ⟨k4, k5⟩, kk _ _ _ _⟩
  · subst e1 e3 ez
    have g := itN_gro (w := w) (s.R.getD i0 []).length { s with pe := xA s.pe t } (f := settleD w t (s.R.getD i0 [])) fun j s _ => settleD_gro ok wf
    obtain ⟨_, fr⟩ := g.fr i0 hil hni
    exact ⟨gm_R (fr.trans eg), fin _ _ _ _ _⟩
def spGNumberOf (CG : Addr) : SpD := fun l M Q => ∃ (M0 : S) (w : Wld) (s : Gs) (X : S) (kind : Str) (p a : Int), l = [.h M0.length, .str kind, .int p, .int a] ∧ M = gm CG M0 w s ++ X ∧ Q (numOf s kind p a) M
theorem gx_at {CG : Addr} {M0 X : S} {w : Wld} {s : Gs} {j : Nat} {o : O} (h : (gm CG M0 w s)[j]? = some o) : (gm CG M0 w s ++ X)[j]? = some o := by
  rw [List.getElem?_append_left (List.getElem?_eq_some_iff.mp h).1]; exact h
theorem sc_GNumberOf : FnScope ["self", "kind", "place", "age", "moment"] ["self", "kind", "place", "age"] (defScope sGNumberOf) := ⟨rfl, rfl, rfl, by decide +kernel, rfl, by decide +kernel, by decide +kernel⟩
theorem w_GNumberOf {P : Program} {w : World} {K : PySem.W.Frag} {mg : Str → Option Value} {base : Heap} {CG CH : Addr} (T : Tx K w mg CG CH) : MD P w K mg base 1 CG "number_of" (spGNumberOf CG) := by
  obtain ⟨f, fd, hm, F⟩ := T.m_GNumberOf
  refine ⟨f, hm, okD (k := 0) F sc_GNumberOf (F.bindsN fun _ _ _ _ _ _ us hl => match us, hl with | [_, _, _, _], _ => rfl)
    (fun cdv A outer s H E hr => (d_seq (d_set (i := 4) sc_GNumberOf.nd rfl (Or.inl rfl) (d_get1 hr.u1 (d_fld T.cG T.naG_moments (d_var (i := 0) rfl (.inl rfl))) (d_tup (d_pa_cons (d_var (i := 1) rfl (.inl rfl)) (d_pa_cons (d_var (i := 2) rfl (.inl rfl)) (d_pa_cons (d_var (i := 3) rfl (.inl rfl)) d_pa_nil))))))
      (d_single (d_ret (d_ifExp (d_tpc (d_isN (d_var (i := 4) rfl (.inl rfl)))) d_non (d_sub (d_var (i := 4) rfl (.inl rfl)) (d_var (i := 3) rfl (.inl rfl)))))))) (fun l M Qd h => ?_)⟩
  obtain ⟨M0, w, s, X, kind, p, a, rfl, rfl, h⟩ := h
  refine ⟨rfl, ?_⟩
  have hd : ∀ R : Option D → Prop, R ((gA s.mo (k3 kind p a)).map D.int) → dget (gm CG M0 w s ++ X) (M0.length + 1) (kD3 kind p a) R := fun R h => by
    unfold dget
    rw [gx_at gm_1]
    exact ⟨_, k3 kind p a, rfl, rfl, by rw [gv_int]; exact h⟩
  refine seq_cut (fun ds' M' => M' = gm CG M0 w s ++ X ∧ ds' = [some (.h M0.length), some (.str kind), some (.int p), some (.int a), some (((gA s.mo (k3 kind p a)).map D.int).getD .non)]) (fun N k => ?_) ?_
  · exact ⟨_, rfl, _, _, _, rfl, gx_at gm_g, gf_moments, _, rfl, .inr ⟨_, gx_at gm_1⟩, _, rfl, _, rfl, _, rfl, by simp, hd _ (k _ _ ⟨rfl, rfl⟩)⟩
  rintro ds' M' ⟨rfl, rfl⟩
  unfold numOf at h
  cases q : gA s.mo (k3 kind p a) with
  | none =>
    rw [q] at h
    exact ⟨_, rfl, true, rfl, ite_t rfl h⟩
  | some m =>
    rw [q] at h
    exact ⟨_, rfl, false, rfl, ite_f rfl ⟨_, rfl, _, rfl, h⟩⟩
def spPTable : SpD := fun l M Q => ∃ w : Wld, l = [w.d] ∧ Ok w ∧ ∀ s X, Fin w s → Q (tabD w s) (M ++ X)
end My

set_option Elab.async false
set_option linter.all false
set_option maxRecDepth 100000
set_option maxHeartbeats 4000000
namespace My
open PySem PySem.Spec PyProof.Rows L2
theorem ga_get {A X : S} {o : O} : (A ++ (X ++ [o]))[(A ++ X).length]? = some o := by rw [← List.append_assoc]; exact get_last
theorem ga_set {A X : S} {o o' : O} : (A ++ (X ++ [o])).set (A ++ X).length o' = A ++ (X ++ [o']) := by rw [← List.append_assoc, set_last, List.append_assoc]
theorem itL_h {M : S} {k : Nat} {l : List D} (h : M[k]? = some (.lst l)) : itL M (.h k) = some l := by simp only [itL, h]
def kindRow (w : Wld) (s : Gs) (kind : Str) : D := .tup ((List.range w.size.toNat).map fun p => rowD s kind ((p : Nat) : Int))
theorem sc_PTable : FnScope ["world", "grown", "found", "kind", "places", "place", "age"] ["world"] (defScope sPTable) := ⟨rfl, rfl, rfl, by decide +kernel, rfl, by decide +kernel, by decide +kernel⟩
theorem w_table_least {P : Program} {w : World} {K : PySem.W.Frag} {mg : Str → Option Value} {base : Heap} {CG CH : Addr} (T : Tx K w mg CG CH) : GD P w K mg base 8 "table_least" (spPTable) := by
  obtain ⟨f, fd, hm, F⟩ := T.f_PTable
  refine ⟨f, hm, F.kp, okD (k := 7) F sc_PTable (F.bindsN fun _ _ _ _ _ _ us hl => match us, hl with | [_], _ => rfl)
    (fun cdv A outer s H E hr => (d_seq (d_set (i := 1) sc_PTable.nd rfl (Or.inr rfl) (d_make ((w_GInit T).mono (by decide)) hr rfl (d_pa_cons (d_var (i := 0) rfl (.inl rfl)) d_pa_nil)))
      (d_seq (d_set (i := 2) sc_PTable.nd rfl (Or.inl rfl) (d_new d_pa_nil))
      (d_seq (d_for PassesOwn.never rfl (di_tup (d_ix (d_var (i := 0) rfl (.inl rfl)) d_int)) (dg_name (i := 3) sc_PTable.nd rfl (Or.inr rfl)) (d_seq (d_set (i := 4) sc_PTable.nd rfl (Or.inl rfl) (d_new d_pa_nil))
      (d_seq (d_for PassesOwn.never rfl (di_r1 rfl T.n_range (d_pa_cons (d_ix (d_var (i := 0) rfl (.inl rfl)) d_int) d_pa_nil)) (dg_name (i := 5) sc_PTable.nd rfl (Or.inr rfl)) (d_single (d_expr (d_app (d_var (i := 4) rfl (.inl rfl)) (d_tuple rfl T.n_tuple (d_pa_cons (d_lc (own := [("age", 6)]) rfl sc_PTable.nd (di_r1 rfl T.n_range (d_pa_cons (d_add (d_gi rfl T.i_READY) d_int) d_pa_nil)) (blkOk_by (N := ["world", "grown", "found", "kind", "places", "place", "age"]) (sc := defScope sPTable) (by decide +kernel)) (by decide) (fun _ _ _ _ _ => (dg_name (i := 6) sc_PTable.nd rfl (Or.inl rfl))) (fun _ _ _ _ _ => d_noif) (fun _ _ _ _ _ => (d_meth (d_var (i := 1) rfl (.inr (.inl rfl))) T.cG ((w_GNumberOf T).mono (by decide)) hr (d_pa_cons (d_var (i := 3) rfl (.inr (.inl rfl))) (d_pa_cons (d_var (i := 5) rfl (.inr (.inl rfl))) (d_pa_cons (d_var (i := 6) rfl (.inl rfl)) d_pa_nil)))))) d_pa_nil))))))
      (d_single (d_expr (d_app (d_var (i := 2) rfl (.inl rfl)) (d_tuple rfl T.n_tuple (d_pa_cons (d_var (i := 4) rfl (.inl rfl)) d_pa_nil))))))))
      (d_single (d_ret (d_tuple rfl T.n_tuple (d_pa_cons (d_var (i := 2) rfl (.inl rfl)) d_pa_nil)))))))) (fun l M Qd h => ?_)⟩
  obtain ⟨w, rfl, ok, h⟩ := h
  refine ⟨rfl, ?_⟩
  have h0 := ok.size
  have k4 := ok.kinds.len
  refine seq_cut (fun ds' M' => ∃ s, Fin w s ∧ M' = gm CG M w s ∧ ds' = [some w.d, some (.h M.length), none, none, none, none, none]) (fun N k => ?_) ?_
  · exact ⟨_, rfl, M, w, rfl, rfl, ok, fun s fs _ => ⟨rfl, k _ _ ⟨s, fs, rfl, rfl⟩⟩⟩
  rintro ds' M' ⟨s, fs, rfl, rfl⟩
  obtain ⟨A, eA⟩ : ∃ A, A = gm CG M w s := ⟨_, rfl⟩
  have hg : ∀ X : S, (A ++ X)[M.length]? = some (.ins CG (GF w M.length)) := fun X => by rw [eA]; exact gx_at gm_g
  refine seq_cut (fun ds' M' => M' = A ++ .lst [] :: [] ∧ ds' = [some w.d, some (.h M.length), some (.h A.length), none, none, none, none]) (fun N k => ?_) ?_
  · rw [← eA]
    exact ⟨Nat.zero_le _, k _ _ ⟨rfl, rfl⟩⟩
  rintro ds' M' ⟨rfl, rfl⟩
  refine seq_cut (fun ds' M' => ∃ G, M' = A ++ .lst (w.kinds.map (kindRow w s)) :: G ∧ ∃ x y z, ds' = [some w.d, some (.h M.length), some (.h A.length), x, y, z, none]) (fun N k => ?_) ?_
  · refine ⟨_, rfl, 1, rfl, _, at1, _, rfl, ?_⟩
    refine for_map (f := D.str) (l := w.kinds) (fun i ds M' => ∃ G, M' = A ++ .lst ((w.kinds.take i).map (kindRow w s)) :: G ∧ ∃ x y z, ds = [some w.d, some (.h M.length), some (.h A.length), x, y, z, none]) ⟨[], by simp, _, _, _, rfl⟩ (fun i kind ds M' K hi ⟨G, e1, x, y, z, e2⟩ kk => ?_) (fun ds M' ⟨G, e1, x, y, z, e2⟩ => ?_)
    · subst e1 e2
      refine ⟨trivial, ?_⟩
      have hil := (List.getElem?_eq_some_iff.mp hi).1
      obtain ⟨X, eX⟩ : ∃ X, X = .lst ((w.kinds.take i).map (kindRow w s)) :: G := ⟨_, rfl⟩
      rw [← eX]
      refine seq_cut (fun ds' M' => M' = A ++ (X ++ [.lst []]) ∧ ds' = [some w.d, some (.h M.length), some (.h A.length), some (.str kind), some (.h (A ++ X).length), z, none]) (fun N k => ?_) ?_
      · exact ⟨Nat.zero_le _, k _ _ ⟨List.append_assoc _ _ _, rfl⟩⟩
      rintro ds' M' ⟨rfl, rfl⟩
      refine seq_cut (fun ds' M' => M' = A ++ (X ++ [.lst ((List.range w.size.toNat).map fun p => rowD s kind ((p : Nat) : Int))]) ∧ ∃ z, ds' = [some w.d, some (.h M.length), some (.h A.length), some (.str kind), some (.h (A ++ X).length), z, none]) (fun N k => ?_) ?_
      · refine ⟨_, rfl, 0, rfl, _, at0, _, rfl, by omega, by omega, ?_⟩
        refine for_rngD (lo := 0) (n := w.size.toNat) (fun j ds M' => M' = A ++ (X ++ [.lst ((List.range j).map fun p => rowD s kind ((p : Nat) : Int))]) ∧ ∃ z, ds = [some w.d, some (.h M.length), some (.h A.length), some (.str kind), some (.h (A ++ X).length), z, none]) ⟨rfl, _, rfl⟩ (fun j ds M' K hj ⟨e1, z, e2⟩ kk2 => ?_) (fun ds M' ⟨e1, z, e2⟩ => ?_)
        · subst e1 e2
          refine ⟨trivial, ?_⟩
          rw [Int.zero_add]
          obtain ⟨Y, eY⟩ : ∃ Y, Y = (List.range j).map fun p => rowD s kind ((p : Nat) : Int) := ⟨_, rfl⟩
          rw [← eY]
          have yl : Y.length = j := by rw [eY]; simp
          refine ⟨_, rfl, _, rfl, ⟨_, ga_get⟩, ?_⟩
          refine ⟨_, rfl, by decide, by decide, ?_⟩
          refine lc_rngD (lo := 0) (n := 27) (fun a acc M' => M' = A ++ (X ++ [.lst Y]) ∧ acc = (List.range a).map fun a => numOf s kind j ((a : Nat) : Int)) ⟨rfl, rfl⟩ (fun a acc M' K ha ⟨e1, e2⟩ kk3 => ?_) (fun acc M' ⟨e1, e2⟩ => ?_)
          · subst e1 e2
            refine ⟨trivial, by simp; omega, ?_⟩
            rw [Int.zero_add]
            simp only [dgName, dYes, if_true]
            refine ⟨_, rfl, _, _, rfl, hg _, rfl, _, rfl, _, rfl, _, rfl, M, w, s, X ++ [.lst Y], kind, j, a, rfl, by rw [eA], kk3 _ _ ⟨rfl, ?_⟩⟩
            rw [List.range_succ, List.map_append]
            rfl
          · subst e1 e2
            refine ⟨trivial, _, rfl, .inl ⟨_, rfl, _, ga_get, by omega, kk2 _ _ ⟨?_, _, rfl⟩⟩⟩
            have e : ((List.range (j + 1)).map fun p => rowD s kind ((p : Nat) : Int)) = Y ++ [rowD s kind (j : Int)] := by
              rw [List.range_succ, List.map_append, ← eY]; rfl
            rw [ga_set, e]
            rfl
        · subst e1 e2
          exact ⟨trivial, k _ _ ⟨rfl, _, rfl⟩⟩
      rintro ds' M' ⟨rfl, z, rfl⟩
      obtain ⟨Y, eY⟩ : ∃ Y, Y = (List.range w.size.toNat).map fun p => rowD s kind ((p : Nat) : Int) := ⟨_, rfl⟩
      rw [← eY, eX]
      have g1 : (A ++ (.lst ((w.kinds.take i).map (kindRow w s)) :: G ++ [.lst Y]))[A.length]? = some (.lst ((w.kinds.take i).map (kindRow w s))) := gl_0
      have g2 : itL (A ++ (.lst ((w.kinds.take i).map (kindRow w s)) :: G ++ [.lst Y])) (.h (A ++ .lst ((w.kinds.take i).map (kindRow w s)) :: G).length) = some Y := itL_h ga_get
      refine ⟨_, rfl, _, rfl, ⟨_, g1⟩, _, rfl, _, rfl, .inl ⟨_, g2, _, g1, by simp; omega, kk _ _ ⟨G ++ [.lst Y], ?_, _, _, _, rfl⟩⟩⟩
      rw [List.cons_append, gl_s, List.take_add_one, hi, eY]
      simp [oIx_tup, oIx_lst, oIx_h, oIx_str, kindRow]
    · subst e1 e2
      exact ⟨trivial, k _ _ ⟨G, by rw [List.take_length], _, _, _, rfl⟩⟩
  rintro ds' M' ⟨G, rfl, x, y, z, rfl⟩
  have g2 : itL (A ++ .lst (w.kinds.map (kindRow w s)) :: G) (.h A.length) = some (w.kinds.map (kindRow w s)) := itL_h gl_0
  refine ⟨_, rfl, _, rfl, .inl ⟨_, g2, ?_⟩⟩
  have := h s (gmr CG M.length w s ++ .lst (w.kinds.map (kindRow w s)) :: G) fs
  rw [eA]
  unfold gm
  rw [List.append_assoc]
  exact this
end My

set_option Elab.async false
set_option linter.all false
set_option maxRecDepth 100000
set_option maxHeartbeats 4000000
namespace My
open PySem PySem.Spec PyProof.Rows L2
/-! ### alike -/
def tame : Nat → D → Prop
  | 0, _ => False
  | n + 1, .tup l => l.length ≤ 900 ∧ ∀ d ∈ l, tame n d
  | _ + 1, .int _ => True
  | _ + 1, .str _ => True
  | _ + 1, .non => True
  | _ + 1, _ => False
theorem zpD_inv {l : List D} {i : Nat} {x : D} (h : (zpD l l)[i]? = some x) : ∃ a, l[i]? = some a ∧ x = .tup [a, a] := by
  have hl := (List.getElem?_eq_some_iff.mp h).1
  rw [zpD_len l l rfl] at hl
  have e := zpD_get l l i l[i] l[i] (List.getElem?_eq_getElem hl) (List.getElem?_eq_getElem hl)
  rw [h] at e
  exact ⟨_, List.getElem?_eq_getElem hl, Option.some.inj e⟩
def spLAlike (n : Nat) : SpD := fun l M Q => ∃ d, l = [d, d] ∧ tame n d ∧ Q (.bl true) M
theorem sc_LAlike : FnScope ["_law_one_here", "_law_other", "_law_a", "_law_b"] ["_law_one_here", "_law_other"] (defScope sLAlike) := ⟨rfl, rfl, rfl, by decide +kernel, rfl, by decide +kernel, by decide +kernel⟩
-- level 0
theorem step_LAlike {P : Program} {w : World} {K : PySem.W.Frag} {mg : Str → Option Value} {base : Heap} {CG CH : Addr} (T : Tx K w mg CG CH) (n : Nat) (IH : GD P w K mg base n "_law_alike" (spLAlike n)) : GD P w K mg base (n + 1) "_law_alike" (spLAlike (n + 1)) := by
  obtain ⟨f, fd, hm, F⟩ := T.f_LAlike
  refine ⟨f, hm, F.kp, okD (k := n) F sc_LAlike (F.bindsN fun _ _ _ _ _ _ us hl => match us, hl with | [_, _], _ => rfl)
    (fun cdv A outer s H E hr => (d_seq (d_if (d_tw (d_and (d_tval (d_isi hf_tup (by decide +kernel) rfl T.n_isinstance rfl T.n_tuple (d_var (i := 0) rfl (.inl rfl)))) (d_and1 (d_tval (d_isi hf_tup (by decide +kernel) rfl T.n_isinstance rfl T.n_tuple (d_var (i := 1) rfl (.inl rfl))))))) (d_single (d_ret (d_andV (d_eq hr.units (d_len rfl T.n_len (d_pa_cons (d_var (i := 0) rfl (.inl rfl)) d_pa_nil)) (d_len rfl T.n_len (d_pa_cons (d_var (i := 1) rfl (.inl rfl)) d_pa_nil))) (d_one (d_all rfl rfl T.n_all (d_pa_cons (d_lc (own := [("_law_a", 2), ("_law_b", 3)]) rfl sc_LAlike.nd (di_zip rfl T.n_zip (d_pa_cons (d_var (i := 0) rfl (.inl rfl)) (d_pa_cons (d_var (i := 1) rfl (.inl rfl)) d_pa_nil))) (blkOk_by (N := ["_law_one_here", "_law_other", "_law_a", "_law_b"]) (sc := defScope sLAlike) (by decide +kernel)) (by decide) (fun _ _ _ _ _ => (dg_tup (n := 2) rfl (dg_cons (dg_name (i := 2) sc_LAlike.nd rfl (Or.inl rfl)) (dg_cons (dg_name (i := 3) sc_LAlike.nd rfl (Or.inl rfl)) dg_nil)))) (fun _ _ _ _ _ => d_noif) (fun _ _ _ _ _ => (d_call IH hr rfl (d_pa_cons (d_var (i := 2) rfl (.inl rfl)) (d_pa_cons (d_var (i := 3) rfl (.inl rfl)) d_pa_nil))))) d_pa_nil)))))) d_nil)
      (d_seq (d_if (d_tw (d_or (d_tval (d_isi hf_bool (by decide +kernel) rfl T.n_isinstance rfl T.n_bool (d_var (i := 0) rfl (.inl rfl)))) (d_or1 (d_tval (d_isi hf_bool (by decide +kernel) rfl T.n_isinstance rfl T.n_bool (d_var (i := 1) rfl (.inl rfl))))))) (d_single (d_ret (d_andV (d_isi hf_bool (by decide +kernel) rfl T.n_isinstance rfl T.n_bool (d_var (i := 0) rfl (.inl rfl))) (d_andV (d_isi hf_bool (by decide +kernel) rfl T.n_isinstance rfl T.n_bool (d_var (i := 1) rfl (.inl rfl))) (d_one (d_eq hr.units (d_var (i := 0) rfl (.inl rfl)) (d_var (i := 1) rfl (.inl rfl)))))))) d_nil)
      (d_seq (d_if (dt_ne hr.units (d_isi hf_int (by decide +kernel) rfl T.n_isinstance rfl T.n_int (d_var (i := 0) rfl (.inl rfl))) (d_isi hf_int (by decide +kernel) rfl T.n_isinstance rfl T.n_int (d_var (i := 1) rfl (.inl rfl)))) (d_single (d_ret d_bl)) d_nil)
      (d_single (d_ret (d_andV (d_eq hr.units (d_isi hf_str (by decide +kernel) rfl T.n_isinstance rfl T.n_str (d_var (i := 0) rfl (.inl rfl))) (d_isi hf_str (by decide +kernel) rfl T.n_isinstance rfl T.n_str (d_var (i := 1) rfl (.inl rfl)))) (d_one (d_eq hr.units (d_var (i := 0) rfl (.inl rfl)) (d_var (i := 1) rfl (.inl rfl))))))))))) (fun l M Qd h => ?_)⟩
  obtain ⟨d, rfl, hd, h⟩ := h
  refine ⟨rfl, ?_⟩
  cases d with
  | tup l =>
    obtain ⟨hl, hd⟩ := hd
    refine ⟨_, rfl, rfl, true, rfl, ite_t rfl ⟨_, rfl, rfl, true, rfl, ite_t rfl ?_⟩⟩
    refine ⟨_, rfl, _, rfl, decide ((l.length : Int) = l.length), rfl, ite_t (decide_eq_true rfl) ?_⟩
    refine ⟨_, rfl, _, rfl, _, _, rfl, rfl, ?_⟩
    refine lcD_ind (fun i acc M' => M' = M ∧ i ≤ l.length ∧ acc = (List.replicate i true).map .bl) ⟨rfl, Nat.zero_le _, rfl⟩ (fun i x acc M' K hx ⟨e1, _, e2⟩ kk => ?_) (fun acc M' ⟨e1, _, e2⟩ => ?_)
    · subst e1 e2
      obtain ⟨a, ha, rfl⟩ := zpD_inv hx
      have hil := (List.getElem?_eq_some_iff.mp ha).1
      refine ⟨trivial, by simp; omega, _, rfl, rfl, _, _, rfl, _, _, rfl, rfl, ?_⟩
      simp only [dYes, if_true]
      refine ⟨_, rfl, _, rfl, a, rfl, hd a (List.mem_of_getElem? ha), kk _ _ ⟨rfl, by omega, ?_⟩⟩
      rw [List.replicate_succ', List.map_append]
      rfl
    · subst e1 e2
      refine ⟨trivial, _, _, rfl, rfl, ?_⟩
      have : (List.replicate (zpD l l).length true).all id = true := by simp
      rw [this]
      exact h
  | int i =>
    refine seq_cut (fun ds' M' => M' = M ∧ ds' = [some (.int i), some (.int i), none, none]) (fun N k => ?_) ?_
    · exact ⟨_, rfl, rfl, false, rfl, ite_f rfl (ite_f rfl (k _ _ ⟨rfl, rfl⟩))⟩
    rintro ds' M' ⟨rfl, rfl⟩
    refine seq_cut (fun ds' M'' => M'' = M' ∧ ds' = [some (.int i), some (.int i), none, none]) (fun N k => ?_) ?_
    · exact ⟨_, rfl, rfl, false, rfl, ite_f rfl ⟨_, rfl, rfl, false, rfl, ite_f rfl (k _ _ ⟨rfl, rfl⟩)⟩⟩
    rintro ds' M ⟨rfl, rfl⟩
    refine seq_cut (fun ds' M'' => M'' = M ∧ ds' = [some (.int i), some (.int i), none, none]) (fun N k => ?_) ?_
    · exact ⟨_, rfl, rfl, _, rfl, rfl, false, rfl, ite_f rfl (k _ _ ⟨rfl, rfl⟩)⟩
    rintro ds' M' ⟨rfl, rfl⟩
    refine ⟨_, rfl, rfl, _, rfl, rfl, true, rfl, ite_t rfl ⟨_, rfl, _, rfl, ?_⟩⟩
    show Qd (.bl (decide (i = i))) M'
    rw [decide_eq_true rfl]
    exact h
  | str i =>
    refine seq_cut (fun ds' M' => M' = M ∧ ds' = [some (.str i), some (.str i), none, none]) (fun N k => ?_) ?_
    · exact ⟨_, rfl, rfl, false, rfl, ite_f rfl (ite_f rfl (k _ _ ⟨rfl, rfl⟩))⟩
    rintro ds' M' ⟨rfl, rfl⟩
    refine seq_cut (fun ds' M'' => M'' = M' ∧ ds' = [some (.str i), some (.str i), none, none]) (fun N k => ?_) ?_
    · exact ⟨_, rfl, rfl, false, rfl, ite_f rfl ⟨_, rfl, rfl, false, rfl, ite_f rfl (k _ _ ⟨rfl, rfl⟩)⟩⟩
    rintro ds' M ⟨rfl, rfl⟩
    refine seq_cut (fun ds' M'' => M'' = M ∧ ds' = [some (.str i), some (.str i), none, none]) (fun N k => ?_) ?_
    · exact ⟨_, rfl, rfl, _, rfl, rfl, false, rfl, ite_f rfl (k _ _ ⟨rfl, rfl⟩)⟩
    rintro ds' M' ⟨rfl, rfl⟩
    refine ⟨_, rfl, rfl, _, rfl, rfl, true, rfl, ite_t rfl ⟨_, rfl, _, rfl, ?_⟩⟩
    show Qd (.bl (decide (i = i))) M'
    rw [decide_eq_true rfl]
    exact h
  | non =>
    refine seq_cut (fun ds' M' => M' = M ∧ ds' = [some .non, some .non, none, none]) (fun N k => ?_) ?_
    · exact ⟨_, rfl, rfl, false, rfl, ite_f rfl (ite_f rfl (k _ _ ⟨rfl, rfl⟩))⟩
    rintro ds' M' ⟨rfl, rfl⟩
    refine seq_cut (fun ds' M'' => M'' = M' ∧ ds' = [some .non, some .non, none, none]) (fun N k => ?_) ?_
    · exact ⟨_, rfl, rfl, false, rfl, ite_f rfl ⟨_, rfl, rfl, false, rfl, ite_f rfl (k _ _ ⟨rfl, rfl⟩)⟩⟩
    rintro ds' M ⟨rfl, rfl⟩
    refine seq_cut (fun ds' M'' => M'' = M ∧ ds' = [some .non, some .non, none, none]) (fun N k => ?_) ?_
    · exact ⟨_, rfl, rfl, _, rfl, rfl, false, rfl, ite_f rfl (k _ _ ⟨rfl, rfl⟩)⟩
    rintro ds' M' ⟨rfl, rfl⟩
    exact ⟨_, rfl, rfl, _, rfl, rfl, true, rfl, ite_t rfl ⟨_, rfl, _, rfl, by decide +kernel, by decide +kernel, h⟩⟩
  | _ => exact hd.elim
theorem w_LAlikeN {P : Program} {w : World} {K : PySem.W.Frag} {mg : Str → Option Value} {base : Heap} {CG CH : Addr} (T : Tx K w mg CG CH) : ∀ n : Nat, GD P w K mg base n "_law_alike" (spLAlike n)
  | 0 => by
    obtain ⟨f, fd, hm, F⟩ := T.f_LAlike
    refine ⟨f, hm, F.kp, ?_⟩
    intro A outer s H us vs Q E hr e0 r hs
    obtain ⟨l, c, M, Qd, eH, r', A', h, q⟩ := hs
    obtain ⟨d, _, hd, _⟩ := h
    exact hd.elim
  | n + 1 => step_LAlike T n (w_LAlikeN T n)
theorem tame_mono : ∀ {m n : Nat} {d : D}, tame m d → m ≤ n → tame n d
  | 0, _, _, h, _ => h.elim
  | m + 1, n, d, h, l => by
    obtain ⟨k, rfl⟩ : ∃ k, n = k + 1 := ⟨n - 1, by omega⟩
    cases d with
    | tup q => exact ⟨h.1, fun d hd => tame_mono (h.2 d hd) (by omega)⟩
    | int => trivial
    | str => trivial
    | non => trivial
    | _ => exact h.elim
theorem tame_map {α : Type} {f : α → D} {n : Nat} {l : List α} (hl : l.length ≤ 900) (h : ∀ a ∈ l, tame n (f a)) : tame (n + 1) (.tup (l.map f)) := ⟨by simpa using hl, fun d hd => by
  obtain ⟨a, ha, rfl⟩ := List.mem_map.mp hd
  exact h a ha⟩
theorem tame_wld {w : Wld} (h : Sh w) : tame 8 w.d := by
  have hk := h.klen
  have hs := h.slen
  have hw := h.wlen
  refine ⟨by simp, fun d hd => ?_⟩
  simp at hd
  rcases hd with rfl | rfl | rfl | rfl
  · trivial
  · exact tame_map (by omega) fun _ _ => trivial
  · refine tame_map (by omega) fun s _ => ⟨by simp, fun d hd => ?_⟩
    simp at hd
    rcases hd with rfl | rfl | rfl | rfl | rfl <;> trivial
  · refine tame_map (by omega) fun s hs => ?_
    have o := h.ways s hs
    have o1 := o.len
    have o2 := o.hours
    refine ⟨by simp, fun d hd => ?_⟩
    simp at hd
    rcases hd with rfl | rfl | rfl | rfl | rfl
    · trivial
    · refine tame_map (by omega) fun p _ => ⟨by simp, fun d hd => ?_⟩
      simp at hd
      rcases hd with rfl | rfl | rfl <;> trivial
    · trivial
    · exact tame_map (by omega) fun _ _ => trivial
    · trivial
theorem tame_tab {w : Wld} {s : Gs} (ok : Ok w) : tame 8 (tabD w s) := by
  have hk := ok.kinds.len
  have hz := ok.size
  refine tame_map (by omega) fun k _ => tame_map (by simp; omega) fun p _ => tame_map (by simp) fun a _ => ?_
  unfold numOf
  split <;> trivial
end My

set_option Elab.async false
set_option linter.all false
set_option maxRecDepth 100000
set_option maxHeartbeats 4000000
namespace My
open PySem PySem.Spec PyProof.Rows L2
/-! ### sorted texts -/
def leS (a b : Str) : Prop := a.cps.toList ≤ b.cps.toList
theorem leS_of {a b : Str} (h : (!ltCps b.cps.toList a.cps.toList) = true) : leS a b := by
  rw [ltCps_eq] at h
  have : ¬ b.cps.toList < a.cps.toList := by simpa using h
  exact List.not_lt.mp this
theorem rising_pw : ∀ (l : List Str) (p : Str), risingS p l = true → (p :: l).Pairwise leS
  | [], p, _ => List.pairwise_singleton _ _
  | x :: r, p, h => by
    have h : (!ltCps x.cps.toList p.cps.toList && risingS x r) = true := h
    rw [Bool.and_eq_true] at h
    have ih := rising_pw r x h.2
    have hp := leS_of h.1
    refine List.pairwise_cons.mpr ⟨fun y hy => ?_, ih⟩
    rcases List.mem_cons.mp hy with e | hy
    · rw [e]; exact hp
    · exact List.le_trans hp (List.rel_of_pairwise_cons ih hy)
theorem sorted_pw : ∀ l : List Str, sortedS l = true → l.Pairwise leS
  | [], _ => List.Pairwise.nil
  | x :: r, h => rising_pw r x h
theorem sorted_unique {a b xs : List Str} (ha : a.Perm xs) (sa : sortedS a = true) (hb : b.Perm xs) (sb : sortedS b = true) : a = b := by
  refine List.Perm.eq_of_pairwise (le := leS) (fun x y _ _ h1 h2 => ?_) (sorted_pw a sa) (sorted_pw b sb) (ha.trans hb.symm)
  have e : x.cps.toList = y.cps.toList := List.le_antisymm h1 h2
  cases x
  cases y
  simp only [Array.toList_inj] at e
  rw [e]
/-! ### repr -/
theorem strOk_iff {s : Str} : PyData.strOk s = true ↔ ∀ c ∈ s.cps.toList, c < 0x110000 := by
  unfold PyData.strOk
  rw [← Array.all_toList, List.all_eq_true]
  simp
theorem strOk_app {a b : Str} (ha : PyData.strOk a = true) (hb : PyData.strOk b = true) : PyData.strOk (a ++ b) = true := by
  rw [strOk_iff] at *
  intro c hc
  have hc : c ∈ (a.cps ++ b.cps).toList := hc
  rw [Array.toList_append] at hc
  rcases List.mem_append.mp hc with h | h
  · exact ha c h
  · exact hb c h
theorem strOk_of (s : String) : PyData.strOk (Str.ofString s) = true := by
  rw [strOk_iff]
  intro c hc
  have : ∃ ch : Char, c = ch.toNat := by
    rw [Str.ofString_eq_toList] at hc
    have hc : c ∈ s.toList.map Char.toNat := by simpa using hc
    obtain ⟨a, _, e⟩ := List.mem_map.mp hc
    exact ⟨a, e.symm⟩
  obtain ⟨ch, rfl⟩ := this
  have := ch.valid
  show ch.val.toNat < _
  rcases this with h | h
  · omega
  · exact h.2
theorem strOk_join {sep : Str} (hs : PyData.strOk sep = true) : ∀ l : List Str, (∀ s ∈ l, PyData.strOk s = true) → PyData.strOk (Str.join sep l) = true
  | [], _ => by show PyData.strOk Str.empty = true; decide +kernel
  | [x], h => h x (List.mem_singleton.mpr rfl)
  | x :: y :: r, h => strOk_app (strOk_app (h x List.mem_cons_self) hs) (strOk_join hs (y :: r) fun s hs => h s (List.mem_cons_of_mem _ hs))
theorem reprCh_ok : ∀ c ∈ letters.cps.toList, ∀ q, q = 34 ∨ q = 39 → ∀ d ∈ Builtin.Str.reprChar q c, d < 0x110000 := by
  have h : (letters.cps.toList.all fun c => (Builtin.Str.reprChar 34 c).all (fun d => decide (d < 0x110000)) && (Builtin.Str.reprChar 39 c).all (fun d => decide (d < 0x110000))) = true := by decide +kernel
  intro c hc q hq d hd
  have := List.all_eq_true.mp h c hc
  rw [Bool.and_eq_true] at this
  rcases hq with rfl | rfl
  · exact of_decide_eq_true (List.all_eq_true.mp this.1 d hd)
  · exact of_decide_eq_true (List.all_eq_true.mp this.2 d hd)
theorem reprQ (x : Str) : reprQuote x = 34 ∨ reprQuote x = 39 := by
  unfold reprQuote
  split
  · exact .inl rfl
  · exact .inr rfl
theorem repr_ok {x : Str} (h : ∀ c ∈ x.cps.toList, c ∈ letters.cps.toList) : PyData.strOk (reprText x) = true := by
  rw [strOk_iff]
  have q39 : reprQuote x < 0x110000 := by rcases reprQ x with e | e <;> rw [e] <;> decide
  have fold : ∀ (l : List Nat) (acc : Array Nat), (∀ c ∈ l, c ∈ letters.cps.toList) → (∀ d ∈ acc.toList, d < 0x110000) → ∀ d ∈ (l.foldl (fun out c => out ++ (Builtin.Str.reprChar (reprQuote x) c).toArray) acc).toList, d < 0x110000 := by
    intro l
    induction l with
    | nil => intro acc _ h; exact h
    | cons c l ih =>
      intro acc hl ha
      rw [List.foldl_cons]
      refine ih _ (fun c hc => hl c (List.mem_cons_of_mem _ hc)) fun d hd => ?_
      rw [Array.toList_append] at hd
      rcases List.mem_append.mp hd with hd | hd
      · exact ha d hd
      · exact reprCh_ok c (hl c List.mem_cons_self) _ (reprQ x) d (by simpa using hd)
  intro d hd
  unfold reprText at hd
  have hd : d ∈ ((x.cps.foldl (fun out c => out ++ (Builtin.Str.reprChar (reprQuote x) c).toArray) #[reprQuote x]).push (reprQuote x)).toList := hd
  rw [Array.toList_push, ← Array.foldl_toList] at hd
  rcases List.mem_append.mp hd with hd | hd
  · exact fold _ _ h (fun d hd => by have : d = reprQuote x := by simpa using hd
                                     rw [this]; exact q39) d hd
  · rw [List.mem_singleton.mp hd]; exact q39
mutual
def ltd : D → Bool
  | .non => true
  | .int i => decide (i.natAbs < 10 ^ 12)
  | .str x => decide (x.length ≤ 30) && x.cps.toList.all fun c => decide (c ∈ letters.cps.toList)
  | .tup l => ltds l
  | _ => false
def ltds : List D → Bool
  | [] => true
  | d :: l => ltd d && ltds l
end
mutual
def cnt : D → Nat
  | .tup l => cnts l
  | _ => 1
def cnts : List D → Nat
  | [] => 0
  | d :: l => cnt d + 1 + cnts l
end
structure Rk (d : D) : Prop where
  pl : plain d = true
  sw : (py d).showable = true
  hd : (py d).hasDict = false
  ok : PyData.strOk (py d).shown = true
  ls : (py d).leavesShort 13 = true
  wt : (py d).weight ≤ 41 * cnt d
mutual
theorem rk_of : ∀ d : D, ltd d = true → Rk d
  | .non, _ => ⟨rfl, rfl, rfl, strOk_of "None", rfl, Nat.zero_le _⟩
  | .int i, h => by
    have h : i.natAbs < 10 ^ 12 := of_decide_eq_true h
    have hlog : i.natAbs.log2 < 40 := by
      by_cases z : i.natAbs = 0
      · rw [z]; decide
      · exact (Nat.log2_lt z).mpr (Nat.lt_of_lt_of_le h (by decide))
    refine ⟨rfl, ?_, rfl, ?_, ?_, ?_⟩
    · show decide (i.natAbs.log2 < 1920) = true
      exact decide_eq_true (by omega)
    · exact strOk_of _
    · show decide ((PyData.shown (.int i)).length ≤ 13) = true
      exact decide_eq_true (PyData.shown_int_le h)
    · show (if i == 0 then 0 else i.natAbs.log2 + 1) ≤ 41 * 1
      split <;> omega
  | .str x, h => by
    have h : (decide (x.length ≤ 30) && x.cps.toList.all fun c => decide (c ∈ letters.cps.toList)) = true := h
    rw [Bool.and_eq_true] at h
    have h1 : x.length ≤ 30 := of_decide_eq_true h.1
    have h2 : ∀ c ∈ x.cps.toList, c ∈ letters.cps.toList := fun c hc => of_decide_eq_true (List.all_eq_true.mp h.2 c hc)
    have hl : ∀ c ∈ letters.cps.toList, c < 1114112 := by decide
    refine ⟨rfl, rfl, rfl, repr_ok h2, ?_, ?_⟩
    · show (x.cps.toList.all fun c => decide (c < 16 ^ 8)) = true
      refine List.all_eq_true.mpr fun c hc => decide_eq_true ?_
      have := hl c (h2 c hc)
      omega
    · show x.cps.size ≤ 41 * 1
      have : x.cps.size ≤ 30 := h1
      omega
  | .tup l, h => by
    obtain ⟨h1, h2, h3, h4, h5, h6⟩ := rks_of l h
    refine ⟨h1, h2, h3, ?_, h5, h6⟩
    show PyData.strOk (tupleText (PyData.shownAll (pys l))) = true
    unfold tupleText
    exact strOk_app (strOk_app (strOk_of _) (strOk_join (strOk_of _) _ h4)) (strOk_of _)
  | .bl _, h => absurd (show false = true from h) Bool.false_ne_true
  | .lst _, h => absurd (show false = true from h) Bool.false_ne_true
  | .scr _, h => absurd (show false = true from h) Bool.false_ne_true
  | .h _, h => absurd (show false = true from h) Bool.false_ne_true
theorem rks_of : ∀ l : List D, ltds l = true → plains l = true ∧ PyData.showableAll (pys l) = true ∧ PyData.hasDictAll (pys l) = false ∧ (∀ s ∈ PyData.shownAll (pys l), PyData.strOk s = true) ∧ PyData.leavesShortAll 13 (pys l) = true ∧ PyData.weightAll (pys l) ≤ 41 * cnts l
  | [], _ => ⟨rfl, rfl, rfl, fun s hs => absurd hs (by simp [pys, PyData.shownAll]), rfl, Nat.zero_le _⟩
  | d :: l, h => by
    have h : (ltd d && ltds l) = true := h
    rw [Bool.and_eq_true] at h
    obtain ⟨a1, a2, a3, a4, a5, a6⟩ := rk_of d h.1
    obtain ⟨b1, b2, b3, b4, b5, b6⟩ := rks_of l h.2
    refine ⟨?_, ?_, ?_, ?_, ?_, ?_⟩
    · show (plain d && plains l) = true
      rw [a1, b1]; rfl
    · show ((py d).showable && PyData.showableAll (pys l)) = true
      rw [a2, b2]; rfl
    · show ((py d).hasDict || PyData.hasDictAll (pys l)) = false
      rw [a3, b3]; rfl
    · intro s hs
      rcases List.mem_cons.mp (show s ∈ (py d).shown :: PyData.shownAll (pys l) from hs) with e | hs
      · rw [e]; exact a4
      · exact b4 s hs
    · show ((py d).leavesShort 13 && PyData.leavesShortAll 13 (pys l)) = true
      rw [a5, b5]; rfl
    · show (py d).weight + 1 + PyData.weightAll (pys l) ≤ 41 * (cnt d + 1 + cnts l)
      omega
end
theorem ltds_map {α : Type} {f : α → D} {l : List α} (h : ∀ a ∈ l, ltd (f a) = true) : ltds (l.map f) = true := by
  induction l with
  | nil => rfl
  | cons a l ih =>
    show (ltd (f a) && ltds (l.map f)) = true
    rw [h a List.mem_cons_self, ih fun x hx => h x (List.mem_cons_of_mem _ hx)]; rfl
theorem cnts_map {α : Type} {f : α → D} {n : Nat} {l : List α} (h : ∀ a ∈ l, cnt (f a) ≤ n) : cnts (l.map f) ≤ l.length * (n + 1) := by
  induction l with
  | nil => exact Nat.zero_le _
  | cons a l ih =>
    have h1 := h a List.mem_cons_self
    have h2 := ih fun x hx => h x (List.mem_cons_of_mem _ hx)
    show cnt (f a) + 1 + cnts (l.map f) ≤ (l.length + 1) * (n + 1)
    rw [Nat.succ_mul]
    omega
theorem ltd_str {s : Str} (h : strG s) : ltd (.str s) = true := by
  show (decide (s.length ≤ 30) && s.cps.toList.all fun c => decide (c ∈ letters.cps.toList)) = true
  rw [decide_eq_true h.1, Bool.true_and]
  exact List.all_eq_true.mpr fun c hc => decide_eq_true (h.2 c hc)
theorem ltd_int {i : Int} (h : 0 ≤ i ∧ i ≤ 1000000) : ltd (.int i) = true := by
  show decide (i.natAbs < 10 ^ 12) = true
  exact decide_eq_true (by omega)
theorem and5 {a b c d e : Bool} (h1 : a = true) (h2 : b = true) (h3 : c = true) (h4 : d = true) (h5 : e = true) : (a && (b && (c && (d && (e && true))))) = true := by rw [h1, h2, h3, h4, h5]; rfl
theorem ltd_src {w : Wld} {s : Src} (ok : Ok w) (h : s ∈ w.srcs) : ltd s.d = true := by
  have o := ok.srcs s h
  have hz := ok.size
  have h1 := o.age
  have h2 := o.place
  have h3 := o.since
  have h4 := o.many
  exact and5 (ltd_str (ok.sh.srcs s h)) (ltd_int ⟨by omega, by omega⟩) (ltd_int ⟨by omega, by omega⟩) (ltd_int ⟨by omega, by omega⟩) (ltd_int ⟨by omega, by omega⟩)
theorem ltd_way {w : Wld} {s : Way} (ok : Ok w) (h : s ∈ w.ways) : ltd s.d = true := by
  have o := ok.ways s h
  have so := ok.sh.ways s h
  have hz := ok.size
  have h4 := o.wait
  refine and5 (ltd_str so.kind) (ltds_map fun p hp => ?_) ?_ (ltds_map fun i hi => ?_) (ltd_int ⟨by omega, by omega⟩)
  · have op := o.parts p hp
    have h1 := op.lo
    have h2 := op.hi
    show (ltd (.str p.kind) && (ltd (.int p.lo) && (ltd (.int p.hi) && true))) = true
    rw [ltd_str (so.parts p hp), ltd_int ⟨by omega, by omega⟩, ltd_int ⟨by omega, by omega⟩]; rfl
  · rcases o.keeps with e | e <;> rw [e] <;> decide +kernel
  · have := o.hours.rng i hi
    exact ltd_int ⟨by omega, by omega⟩
theorem cnt_way {w : Wld} {s : Way} (ok : Ok w) (h : s ∈ w.ways) : cnt s.d ≤ 1000 := by
  have o := ok.sh.ways s h
  have l1 := o.len
  have l2 := o.hours
  have c1 : cnts (s.parts.map Prt.d) ≤ s.parts.length * 7 := cnts_map (n := 6) fun p _ => Nat.le_refl _
  have c2 : cnts (s.hours.map D.int) ≤ s.hours.length * 2 := cnts_map (n := 1) fun p _ => Nat.le_refl _
  show 1 + 1 + (cnts (s.parts.map Prt.d) + 1 + (1 + 1 + (cnts (s.hours.map D.int) + 1 + (1 + 1 + 0)))) ≤ 1000
  omega
/-- repr's reading of such data -/
theorem cRepr_ok {m : List D} {M : S} {Q : KD} (h : ltd (.tup m) = true) (hg : Gd 20 (.tup m)) (hc : cnt (.tup m) ≤ 1000) (q : Q (.str (py (.tup m)).shown) M) : cRepr [.tup m] M Q := by
  have r := rk_of _ h
  refine ⟨m, rfl, r.pl, r.sw, r.hd, Nat.le_trans hg.dep (by omega), ?_, q⟩
  refine PyData.shown_fits (B := 13) (by decide) (by decide) r.ls (Nat.le_trans r.wt ?_)
  have : (2 : Nat) ^ 20 = 1048576 := by decide
  omega
end My

set_option Elab.async false
set_option linter.all false
set_option maxRecDepth 100000
set_option maxHeartbeats 4000000
namespace My
open PySem PySem.Spec PyProof.Rows L2
/-! ### the plain law: deeds of unlike things commute -/
def isS : Deed → Bool
  | .bring _ => true
  | .stop _ => true
  | _ => false
theorem app_hours {w w' : Wld} {n : Nat} {hs : List Int} (e : app w (.hours n hs) = some w') : ∃ x, w.ways[n]? = some x ∧ w' = { w with ways := w.ways.set n { x with hours := hs } } := by
  simp only [app] at e
  cases q : w.ways[n]? with
  | none => rw [q] at e; cases e
  | some x => rw [q] at e; cases e; exact ⟨x, rfl, rfl⟩
theorem app_window {w w' : Wld} {n m : Nat} {lo hi : Int} (e : app w (.window n m lo hi) = some w') : ∃ x p, w.ways[n]? = some x ∧ x.parts[m]? = some p ∧ w' = { w with ways := w.ways.set n { x with parts := x.parts.set m ⟨p.kind, lo, hi⟩ } } := by
  simp only [app] at e
  cases q : w.ways[n]? with
  | none => rw [q] at e; cases e
  | some x =>
    rw [q] at e
    cases q2 : x.parts[m]? with
    | none => simp only [q2] at e; cases e
    | some p => simp only [q2] at e; cases e; exact ⟨x, p, rfl, q2, rfl⟩
theorem app_stop {w w' : Wld} {n : Nat} (e : app w (.stop n) = some w') : n < w.srcs.length ∧ w' = { w with srcs := w.srcs.eraseIdx n } := by
  simp only [app] at e
  split at e
  · cases e; exact ⟨by assumption, rfl⟩
  · cases e
theorem app_shut {w w' : Wld} {n : Nat} (e : app w (.shut n) = some w') : n < w.ways.length ∧ w' = { w with ways := w.ways.eraseIdx n } := by
  simp only [app] at e
  split at e
  · cases e; exact ⟨by assumption, rfl⟩
  · cases e
/-- a deed of sources keeps the ways, one of ways the sources -/
theorem app_S {w w' : Wld} {d : Deed} (h : isS d = true) (e : app w d = some w') : w'.size = w.size ∧ w'.kinds = w.kinds ∧ w'.ways = w.ways ∧ ∀ v : Wld, v.srcs = w.srcs → app v d = some { v with srcs := w'.srcs } := by
  cases d with
  | bring s => cases e; exact ⟨rfl, rfl, rfl, fun v hv => by simp only [app]; rw [hv]⟩
  | stop n =>
    obtain ⟨hn, rfl⟩ := app_stop e
    exact ⟨rfl, rfl, rfl, fun v hv => by simp only [app]; rw [hv, if_pos hn]⟩
  | _ => exact absurd h Bool.false_ne_true
theorem app_W {w w' : Wld} {d : Deed} (h : isS d = false) (e : app w d = some w') : w'.size = w.size ∧ w'.kinds = w.kinds ∧ w'.srcs = w.srcs ∧ ∀ v : Wld, v.ways = w.ways → app v d = some { v with ways := w'.ways } := by
  cases d with
  | way s => cases e; exact ⟨rfl, rfl, rfl, fun v hv => by simp only [app]; rw [hv]⟩
  | shut n =>
    obtain ⟨hn, rfl⟩ := app_shut e
    exact ⟨rfl, rfl, rfl, fun v hv => by simp only [app]; rw [hv, if_pos hn]⟩
  | hours n hs =>
    obtain ⟨x, hx, rfl⟩ := app_hours e
    exact ⟨rfl, rfl, rfl, fun v hv => by simp only [app]; rw [hv, hx]⟩
  | window n m lo hi =>
    obtain ⟨x, p, hx, hp, rfl⟩ := app_window e
    exact ⟨rfl, rfl, rfl, fun v hv => by simp only [app]; rw [hv, hx]; simp only [hp]⟩
  | _ => cases h
theorem comm_SW {w w1 w2 w12 w21 : Wld} {d1 d2 : Deed} (h1 : isS d1 = true) (h2 : isS d2 = false) (e1 : app w d1 = some w1) (e12 : app w1 d2 = some w12) (e2 : app w d2 = some w2) (e21 : app w2 d1 = some w21) : w12 = w21 := by
  obtain ⟨a1, a2, a3, a4⟩ := app_S h1 e1
  obtain ⟨b1, b2, b3, b4⟩ := app_W h2 e2
  have c := a4 w2 b3
  rw [e21] at c
  cases c
  have c := b4 w1 a3
  rw [e12] at c
  cases c
  cases w1; cases w2
  simp only at *
  rw [a1, a2, b1, b2]
theorem comm_wh {w w1 w2 w12 w21 : Wld} {s : Way} {n : Nat} {hs : List Int} (e1 : app w (.way s) = some w1) (e12 : app w1 (.hours n hs) = some w12) (e2 : app w (.hours n hs) = some w2) (e21 : app w2 (.way s) = some w21) : w12 = w21 := by
  cases e1
  obtain ⟨x, hx, rfl⟩ := app_hours e2
  obtain ⟨y, hy, rfl⟩ := app_hours e12
  cases e21
  have hn := (List.getElem?_eq_some_iff.mp hx).1
  have hy : (w.ways ++ [s])[n]? = some y := hy
  rw [List.getElem?_append_left hn, hx] at hy
  cases hy
  simp only
  rw [List.set_append_left _ _ hn]
theorem comm_ww {w w1 w2 w12 w21 : Wld} {s : Way} {n m : Nat} {lo hi : Int} (e1 : app w (.way s) = some w1) (e12 : app w1 (.window n m lo hi) = some w12) (e2 : app w (.window n m lo hi) = some w2) (e21 : app w2 (.way s) = some w21) : w12 = w21 := by
  cases e1
  obtain ⟨x, p, hx, hp, rfl⟩ := app_window e2
  obtain ⟨y, q, hy, hq, rfl⟩ := app_window e12
  cases e21
  have hn := (List.getElem?_eq_some_iff.mp hx).1
  have hy : (w.ways ++ [s])[n]? = some y := hy
  rw [List.getElem?_append_left hn, hx] at hy
  cases hy
  rw [hp] at hq
  cases hq
  simp only
  rw [List.set_append_left _ _ hn]
theorem comm_hw {w w1 w2 w12 w21 : Wld} {n m : Nat} {lo hi : Int} {hs : List Int} (e1 : app w (.hours n hs) = some w1) (e12 : app w1 (.window n m lo hi) = some w12) (e2 : app w (.window n m lo hi) = some w2) (e21 : app w2 (.hours n hs) = some w21) : w12 = w21 := by
  obtain ⟨x, hx, rfl⟩ := app_hours e1
  obtain ⟨x2, p, hx2, hp, rfl⟩ := app_window e2
  obtain ⟨y, q, hy, hq, rfl⟩ := app_window e12
  obtain ⟨z, hz, rfl⟩ := app_hours e21
  rw [hx] at hx2
  cases hx2
  have hn := (List.getElem?_eq_some_iff.mp hx).1
  have hy : (w.ways.set n { x with hours := hs })[n]? = some y := hy
  rw [List.getElem?_set_self hn] at hy
  cases hy
  have hz : (w.ways.set n { x with parts := x.parts.set m ⟨p.kind, lo, hi⟩ })[n]? = some z := hz
  rw [List.getElem?_set_self hn] at hz
  cases hz
  have hq : x.parts[m]? = some q := hq
  rw [hp] at hq
  cases hq
  simp only [List.set_set]
theorem word_ne {d : Deed} {a : Str} (h : ¬ d.word = a) : d.word ≠ a := h
theorem plain_comm {w w1 w2 w12 w21 : Wld} {num : Nat} {d1 d2 : Deed} (c1 : Cand w num d1) (c2 : Cand w num d2) (hne : d1.word ≠ d2.word) (ap : apartOk d1.word d2.word)
    (e1 : app w d1 = some w1) (e12 : app w1 d2 = some w12) (e2 : app w d2 = some w2) (e21 : app w2 d1 = some w21) : w12 = w21 := by
  have ex : ∀ a b : Str, (a = "hours" ∧ b = "shut") ∨ (a = "shut" ∧ b = "window") ∨ (a = "shut" ∧ b = "way") ∨ (a = "bring" ∧ b = "stop") → ¬ (d1.word = a ∧ d2.word = b) ∧ ¬ (d1.word = b ∧ d2.word = a) := fun a b h => ap a b h
  cases h1 : isS d1 <;> cases h2 : isS d2
  · cases d1 with
    | way s => cases d2 with
      | way _ => exact absurd rfl hne
      | shut _ => exact absurd ⟨rfl, rfl⟩ (ex "shut" "way" (by simp)).2
      | hours n hs => exact comm_wh e1 e12 e2 e21
      | window n m lo hi => exact comm_ww e1 e12 e2 e21
      | _ => cases h2
    | shut n => cases d2 with
      | way _ => exact absurd ⟨rfl, rfl⟩ (ex "shut" "way" (by simp)).1
      | shut _ => exact absurd rfl hne
      | hours _ _ => exact absurd ⟨rfl, rfl⟩ (ex "hours" "shut" (by simp)).2
      | window _ _ _ _ => exact absurd ⟨rfl, rfl⟩ (ex "shut" "window" (by simp)).1
      | _ => cases h2
    | hours n hs => cases d2 with
      | way _ => exact (comm_wh e2 e21 e1 e12).symm
      | shut _ => exact absurd ⟨rfl, rfl⟩ (ex "hours" "shut" (by simp)).1
      | hours _ _ => exact absurd rfl hne
      | window n2 m lo hi =>
        obtain ⟨rfl, _⟩ := c1
        obtain ⟨rfl, _⟩ := c2
        exact comm_hw e1 e12 e2 e21
      | _ => cases h2
    | window n m lo hi => cases d2 with
      | way _ => exact (comm_ww e2 e21 e1 e12).symm
      | shut _ => exact absurd ⟨rfl, rfl⟩ (ex "shut" "window" (by simp)).2
      | hours n2 hs =>
        obtain ⟨rfl, _⟩ := c1
        obtain ⟨rfl, _⟩ := c2
        exact (comm_hw e2 e21 e1 e12).symm
      | window _ _ _ _ => exact absurd rfl hne
      | _ => cases h2
    | _ => cases h1
  · exact (comm_SW h2 h1 e2 e21 e1 e12).symm
  · exact comm_SW h1 h2 e1 e12 e2 e21
  · cases d1 with
    | bring s => cases d2 with
      | bring _ => exact absurd rfl hne
      | stop _ => exact absurd ⟨rfl, rfl⟩ (ex "bring" "stop" (by simp)).1
      | _ => cases h2
    | stop n => cases d2 with
      | bring _ => exact absurd ⟨rfl, rfl⟩ (ex "bring" "stop" (by simp)).2
      | stop _ => exact absurd rfl hne
      | _ => cases h2
    | _ => cases h1
/-! ### the first world is a world -/
structure SOk (w : Wld) : Prop where
  len : w.srcs.length ≤ 6
  ok : ∀ s ∈ w.srcs, OkS w.size w.kinds s
structure WOk (w : Wld) : Prop where
  len : w.ways.length ≤ 8
  ok : ∀ s ∈ w.ways, OkW w.size w.kinds s
def isStop : Deed → Bool
  | .stop _ => true
  | _ => false
def keepsW : Deed → Bool
  | .bring _ => true
  | .stop _ => true
  | .way _ => true
  | _ => false
theorem app_sk {w w' : Wld} {d : Deed} (e : app w d = some w') : w'.size = w.size ∧ w'.kinds = w.kinds := by
  cases h : isS d with
  | true => obtain ⟨a, b, _⟩ := app_S h e; exact ⟨a, b⟩
  | false => obtain ⟨a, b, _⟩ := app_W h e; exact ⟨a, b⟩
theorem s_of {w w' : Wld} {d : Deed} (h : isStop d = false) (e : app w d = some w') (ok : Ok w') : SOk w := by
  obtain ⟨z, k⟩ := app_sk e
  have o := ok.srcs
  have l := ok.slen
  rw [z, k] at o
  cases hs : isS d with
  | false =>
    obtain ⟨_, _, c, _⟩ := app_W hs e
    rw [c] at o l
    exact ⟨l, o⟩
  | true =>
    cases d with
    | bring s =>
      cases e
      have l : (w.srcs ++ [s]).length ≤ 6 := l
      simp at l
      exact ⟨by omega, fun x hx => o x (List.mem_append_left _ hx)⟩
    | stop n => cases h
    | _ => cases hs
theorem w_of {w w' : Wld} {d : Deed} (h : keepsW d = true) (e : app w d = some w') (ok : Ok w') : WOk w := by
  obtain ⟨z, k⟩ := app_sk e
  have o := ok.ways
  have l := ok.wlen
  rw [z, k] at o
  cases d with
  | bring s => cases e; exact ⟨l, o⟩
  | stop n => obtain ⟨_, rfl⟩ := app_stop e; exact ⟨l, o⟩
  | way s =>
    cases e
    have l : (w.ways ++ [s]).length ≤ 8 := l
    simp at l
    exact ⟨by omega, fun x hx => o x (List.mem_append_left _ hx)⟩
  | _ => cases h
theorem w_of_hw {w w1 w2 : Wld} {n m : Nat} {hs : List Int} {lo hi : Int} (e1 : app w (.hours n hs) = some w1) (o1 : Ok w1) (e2 : app w (.window n m lo hi) = some w2) (o2 : Ok w2) : WOk w := by
  obtain ⟨x, hx, rfl⟩ := app_hours e1
  obtain ⟨x2, p, hx2, hp, rfl⟩ := app_window e2
  rw [hx] at hx2
  cases hx2
  have hn := (List.getElem?_eq_some_iff.mp hx).1
  have l : (w.ways.set n { x with hours := hs }).length ≤ 8 := o1.wlen
  have a1 : ∀ y ∈ w.ways.set n { x with hours := hs }, OkW w.size w.kinds y := o1.ways
  have a2 : ∀ y ∈ w.ways.set n { x with parts := x.parts.set m ⟨p.kind, lo, hi⟩ }, OkW w.size w.kinds y := o2.ways
  refine ⟨by simpa using l, fun y hy => ?_⟩
  obtain ⟨i, hi, e⟩ := List.mem_iff_getElem.mp hy
  by_cases c : n = i
  · subst c
    have ey : y = x := by
      have := List.getElem?_eq_getElem hi
      rw [hx] at this
      rw [← e]; exact (Option.some.inj this).symm
    rw [ey]
    have b1 := a1 _ (List.mem_of_getElem? (List.getElem?_set_self (a := { x with hours := hs }) hn))
    have b2 := a2 _ (List.mem_of_getElem? (List.getElem?_set_self (a := { x with parts := x.parts.set m ⟨p.kind, lo, _⟩ }) hn))
    exact ⟨b1.kind, b1.len, b1.parts, b1.keeps, b2.hours, b1.wait⟩
  · refine a1 y (List.mem_of_getElem? (i := i) ?_)
    rw [List.getElem?_set_ne c, List.getElem?_eq_getElem hi, e]
theorem plain_ok {w w1 w2 : Wld} {num : Nat} {d1 d2 : Deed} (c1 : Cand w num d1) (c2 : Cand w num d2) (hne : d1.word ≠ d2.word) (ap : apartOk d1.word d2.word)
    (e1 : app w d1 = some w1) (o1 : Ok w1) (e2 : app w d2 = some w2) (o2 : Ok w2) : Ok w := by
  have ex : ∀ a b : Str, (a = "hours" ∧ b = "shut") ∨ (a = "shut" ∧ b = "window") ∨ (a = "shut" ∧ b = "way") ∨ (a = "bring" ∧ b = "stop") → ¬ (d1.word = a ∧ d2.word = b) ∧ ¬ (d1.word = b ∧ d2.word = a) := fun a b h => ap a b h
  obtain ⟨z, k⟩ := app_sk e1
  have hsize := o1.size
  have hkinds := o1.kinds
  rw [z] at hsize
  rw [k] at hkinds
  have hs : SOk w := by
    cases h : isStop d1 with
    | false => exact s_of h e1 o1
    | true =>
      refine s_of (d := d2) ?_ e2 o2
      cases d1 <;> cases d2 <;> first | rfl | exact absurd rfl hne | cases h
  have hw : WOk w := by
    cases h : keepsW d1 with
    | true => exact w_of h e1 o1
    | false =>
      cases h2 : keepsW d2 with
      | true => exact w_of h2 e2 o2
      | false =>
        cases d1 with
        | shut n => cases d2 with
          | shut _ => exact absurd rfl hne
          | hours _ _ => exact absurd ⟨rfl, rfl⟩ (ex "hours" "shut" (by simp)).2
          | window _ _ _ _ => exact absurd ⟨rfl, rfl⟩ (ex "shut" "window" (by simp)).1
          | _ => cases h2
        | hours n hs => cases d2 with
          | shut _ => exact absurd ⟨rfl, rfl⟩ (ex "hours" "shut" (by simp)).1
          | hours _ _ => exact absurd rfl hne
          | window n2 m lo hi =>
            obtain ⟨rfl, _⟩ := c1
            obtain ⟨rfl, _⟩ := c2
            exact w_of_hw e1 o1 e2 o2
          | _ => cases h2
        | window n m lo hi => cases d2 with
          | shut _ => exact absurd ⟨rfl, rfl⟩ (ex "shut" "window" (by simp)).2
          | hours n2 hs =>
            obtain ⟨rfl, _⟩ := c1
            obtain ⟨rfl, _⟩ := c2
            exact w_of_hw e2 o2 e1 o1
          | window _ _ _ _ => exact absurd rfl hne
          | _ => cases h2
        | _ => cases h
  exact ⟨hsize, hkinds, hs.len, hs.ok, hw.len, hw.ok⟩
end My

set_option Elab.async false
set_option linter.all false
set_option maxRecDepth 100000
set_option maxHeartbeats 4000000
namespace My
open PySem PySem.Spec PyProof.Rows L2
/-! ### the law -/
theorem okDG {P : Program} {w : World} {K : PySem.W.Frag} {mg : Str → Option Value} {base : Heap} {x qual : Str} {params : Arguments} {body : List Stmt} {scope : Scope} {f : Addr} {fd : FuncData} {N : List Str} {a : Str} {k : Nat} {sp : SpD} {t : DSt} (F : FunD K x qual params body scope [] [] f fd) (Sc : FnScope N [a] scope)
    (hbody : ∀ (cdv : Value) (A : Around) (outer : List Env) (s : Shared) (H : Hp), A.guards = some [] → Room k (A.deeper (envOfC qual scope s.heap.objs.size f cdv)) → PDSs (cxOf CX0 P w K mg base N qual scope f cdv A outer s H N0).nox body t)
    (hread : ∀ l M Qd, sp l M Qd → t { nx := fun _ M' => Qd .non M', rt := Qd } (startD N l) M) : FnG P w K mg base (k + 1) f fd a (lift K sp) := by
  refine okG F Sc fun cdv A outer s H v Q hg hr h => ?_
  obtain ⟨ts, p, st⟩ := hbody cdv A outer s H hg hr
  obtain ⟨l, c, M, Qd, eH, r, Ab', h, q⟩ := h
  subst eH
  exact ⟨ts, p, st (L2.start N [v]) (startD N l) c M (rls_some r N) Ab' _ _ (hread l M Qd h) ⟨fun σ ds c' M' s' hs' A' q' => q _ M' _ c' s' A' .non q', fun _ _ _ _ _ _ _ z => False.elim z, fun _ _ _ _ _ _ _ z => False.elim z, fun v d c' M' s' r' A' q' => q d M' v c' s' A' r' q'⟩⟩
theorem w_LAlike {P : Program} {w : World} {K : PySem.W.Frag} {mg : Str → Option Value} {base : Heap} {CG CH : Addr} (T : Tx K w mg CG CH) : GD P w K mg base 8 "_law_alike" (spLAlike 8) := w_LAlikeN T 8
/-- the store with three halls at its end -/
def hm (CH : Addr) (A : S) (a b c : List (Str × D)) (rs : List D) (X : S) : S := A ++ .ins CH a :: .lst [] :: .ins CH b :: .lst [] :: .ins CH c :: .lst rs :: X
section
variable {CH : Addr} {A X : S} {a b c a' b' c' : List (Str × D)} {rs rs' : List D}
theorem hm_at (j : Nat) : (hm CH A a b c rs X)[A.length + j]? = (O.ins CH a :: .lst [] :: .ins CH b :: .lst [] :: .ins CH c :: .lst rs :: X)[j]? := by
  unfold hm
  rw [List.getElem?_append_right (Nat.le_add_right _ _), Nat.add_sub_cancel_left]
theorem hm_1 : (hm CH A a b c rs X)[A.length]? = some (.ins CH a) := hm_at 0
theorem hm_2 : (hm CH A a b c rs X)[A.length + 2]? = some (.ins CH b) := hm_at 2
theorem hm_3 : (hm CH A a b c rs X)[A.length + 4]? = some (.ins CH c) := hm_at 4
theorem hm_r : (hm CH A a b c rs X)[A.length + 5]? = some (.lst rs) := hm_at 5
theorem hm_set (j : Nat) (o : O) : (hm CH A a b c rs X).set (A.length + j) o = A ++ (O.ins CH a :: .lst [] :: .ins CH b :: .lst [] :: .ins CH c :: .lst rs :: X).set j o := by
  unfold hm
  rw [List.set_append_right _ _ (Nat.le_add_right _ _), Nat.add_sub_cancel_left]
theorem hm_s1 : (hm CH A a b c rs X).set A.length (.ins CH a') = hm CH A a' b c rs X := hm_set 0 _
theorem hm_s2 : (hm CH A a b c rs X).set (A.length + 2) (.ins CH b') = hm CH A a b' c rs X := hm_set 2 _
theorem hm_s3 : (hm CH A a b c rs X).set (A.length + 4) (.ins CH c') = hm CH A a b c' rs X := hm_set 4 _
theorem hm_sr : (hm CH A a b c rs X).set (A.length + 5) (.lst rs') = hm CH A a b c rs' X := hm_set 5 _
theorem hm_lt {k : Nat} {o : O} (h : A[k]? = some o) : (hm CH A a b c rs X)[k]? = some o := by
  unfold hm
  rw [List.getElem?_append_left (List.getElem?_eq_some_iff.mp h).1]; exact h
theorem hm_X {Y : S} : hm CH A a b c rs X ++ Y = hm CH A a b c rs (X ++ Y) := by simp [oIx_tup, oIx_lst, oIx_h, oIx_str, hm]
end
theorem DB.app {b : Nat} {R M : S} (h : DB b R M) (X : S) : DB b (R ++ X) (M ++ X) := by
  obtain ⟨t, cs, rs, h1, h2, h3, h4, rfl⟩ := h
  exact ⟨t, cs, rs, h1, h2, h3, h4, rfl⟩
theorem gw_sh5 {w : Wld} (g : GWld w) : Sh5 w :=
  ⟨⟨g.klen.2, g.kinds, by have := g.slen; omega, fun s hs => g.kinds _ (g.srcs s hs), by have := g.wlen; omega, fun s hs => let o := g.ways s hs; ⟨g.kinds _ o.kind, o.len.2, fun p hp => g.kinds _ (o.parts p hp), o.keeps, o.hours⟩⟩, g.slen, g.wlen.2⟩
theorem cand_sh {w : Wld} {num : Nat} {d : Deed} (g : GWld w) (c : Cand w num d) : ShD d := by
  cases d with
  | bring s => exact g.kinds _ c
  | way x => exact ⟨g.kinds _ c.kind, c.len.2, fun p hp => g.kinds _ (c.parts p hp), c.keeps, c.hours⟩
  | hours n hs => exact c.2.2
  | _ => trivial
theorem cand_gd {w : Wld} {num : Nat} {d : Deed} (g : GWld w) (c : Cand w num d) : Gd 20 d.d := by
  have st : ∀ s : String, Gd 19 (.str s) := fun s => (gd_str (strOk_of s)).mono (by omega)
  have it : ∀ i : Int, Gd 19 (.int i) := fun i => (gd_int i).mono (by omega)
  have sh := cand_sh g c
  cases d with
  | bring s =>
      refine gd_tup fun d hd => ?_
      simp at hd
      rcases hd with rfl | rfl
      · exact st _
      · exact (gd_src sh).mono (by omega)
  | way x =>
      refine gd_tup fun d hd => ?_
      simp at hd
      rcases hd with rfl | rfl
      · exact st _
      · exact (gd_way sh.kind sh.parts sh.keeps).mono (by omega)
  | stop n =>
      refine gd_tup fun d hd => ?_
      simp at hd
      rcases hd with rfl | rfl
      · exact st _
      · exact it _
  | shut n =>
      refine gd_tup fun d hd => ?_
      simp at hd
      rcases hd with rfl | rfl
      · exact st _
      · exact it _
  | hours n hs =>
      refine gd_tup fun d hd => ?_
      simp at hd
      rcases hd with rfl | rfl | rfl
      · exact st _
      · exact it _
      · exact (gd_map fun a _ => gd_int a).mono (by omega)
  | window n m lo hi =>
      refine gd_tup fun d hd => ?_
      simp at hd
      rcases hd with rfl | rfl | rfl | rfl | rfl
      · exact st _
      all_goals exact it _
/-- what goes answers -/
def GoT (w : Wld) (d1 d2 : Deed) (k : Nat) (t : D) (M : S) : Prop := t = .non ∨ (t = .h k ∧ ∃ w1 w2, app w d1 = some w1 ∧ Ok w1 ∧ app w1 d2 = some w2 ∧ Ok w2 ∧ M[k]? = some (.lst [w.d, w1.d, w2.d]))
theorem goes_ok {w : Wld} {d1 d2 : Deed} {M : S} {Q : KD} (h5 : Sh5 w) (s1 : ShD d1) (s2 : ShD d2) (q : ∀ t o, GoT w d1 d2 M.length t (M ++ [o]) → Q t (M ++ [o])) : spLGoes [w.d, .lst [d1.d, d2.d]] M Q :=
  ⟨w, d1, d2, rfl, h5, s1, s2, fun w1 w2 e1 o1 e2 o2 => q _ _ (.inr ⟨rfl, w1, w2, e1, o1, e2, o2, get_last⟩), fun o => q _ _ (.inl rfl)⟩
/-- the reprs of a world's sources or ways, sorted -/
theorem srt {α : Type} {CH : Addr} {i g r : Nat} {ws : List Wld} {w : Wld} {ds : List Deed} {vs : DS} {M : S} {Q : KD} {spot : Int} {lw : List D} {f : α → List D} {l : List α} (hv : vs[i]? = some (some (.h g))) (hM : M[g]? = some (.ins CH (HF r (ws ++ [w]) ds)))
    (hs : vs[11]? = some (some (.int spot))) (hl : 13 < vs.length) (hw : w.d = .tup lw) (ha : atI lw spot = some (.tup (l.map fun a => .tup (f a)))) (h64 : l.length < 64) (hr : ∀ a ∈ l, ltd (.tup (f a)) = true ∧ Gd 20 (.tup (f a)) ∧ cnt (.tup (f a)) ≤ 1000)
    (q : ∀ ys, ys.Perm (l.map fun a => (py (.tup (f a))).shown) → sortedS ys = true → Q (.lst (ys.map .str)) M) :
    dCB cSortS (dCons (dLc (diTup (dOp oIx (dMeth CH "world" (spHWorld CH) (dVar i) dNil) (dVar 11))) (dgName 13) dYes (dCB cRepr (dCons (dVar 13) dNil)) [13]) dNil) vs M Q := by
  refine meth_world hv hM ?_
  rw [hw]
  refine ⟨_, hs, spot, rfl, _, ha, _, rfl, ?_⟩
  refine lc_map (f := fun a => .tup (f a)) (l := l) (fun j acc M' => M' = M ∧ acc = ((l.take j).map fun a => (py (.tup (f a))).shown).map .str) ⟨rfl, by simp⟩ (fun j a acc M' K hj ⟨e1, e2⟩ k => ?_) (fun acc M' ⟨e1, e2⟩ => ?_)
  · subst e1 e2
    have hjl := (List.getElem?_eq_some_iff.mp hj).1
    refine ⟨trivial, by simp; omega, ?_⟩
    simp only [dgName, dYes, if_true]
    obtain ⟨a1, a2, a3⟩ := hr a (List.mem_of_getElem? hj)
    refine ⟨.tup (f a), ?_, ?_⟩
    · exact List.getElem?_set_self (by show 13 < (List.set vs 13 none).length; rw [List.length_set]; exact hl)
    · dsimp only [dNil]
      refine cRepr_ok a1 a2 a3 (k _ _ ⟨rfl, ?_⟩)
      rw [List.take_add_one, hj]
      simp
  · subst e1 e2
    refine ⟨trivial, _, l.map fun a => (py (.tup (f a))).shown, rfl, by rw [List.take_length]; rfl, by simpa using h64, q⟩
def lds (a : List Int) (x2 x3 x4 x5 x6 x7 x8 x9 x10 x11 x12 x13 : Option D) : DS := [some (.scr a), some (.h 1), x2, x3, x4, x5, x6, x7, x8, x9, x10, x11, x12, x13]
def spPLaw : SpD := fun l M Q => ∃ ns : List Int, l = [.scr ns] ∧ ns.length ≤ 63 ∧ M = [] ∧ ∀ M', Q (.bl true) M'
theorem sc_PLaw : FnScope ["_law_script", "_law_drawn", "_law_turn", "_law_world_here", "_law_pair_here", "_law_there", "_law_back", "_law_one_here", "_law_other", "_law_row", "_law_deed", "_law_spot", "_law_here", "_law_each"] ["_law_script"] (defScope sPLaw) := ⟨rfl, rfl, rfl, by decide +kernel, rfl, by decide +kernel, by decide +kernel⟩
-- level 10
theorem w_PLaw {P : Program} {w : World} {K : PySem.W.Frag} {mg : Str → Option Value} {base : Heap} {CG CH : Addr} (T : Tx K w mg CG CH) {f : Addr} {fd : FuncData} (F : FunD K "law" "law" (defArgs sPLaw) (defBody sPLaw) (defScope sPLaw) [] [] f fd) : FnG P w K mg base 12 f fd "_law_script" (lift K spPLaw) := by
  obtain ⟨heqf, heqM, heq⟩ := w_HEq (P := P) (base := base) T
  have heqA := heqM.at_
  have heqF := heqM.fn
  obtain ⟨hlenf, hlenM, hlen⟩ := w_HLen (P := P) (base := base) T
  have hlenA := hlenM.at_
  have hlenF := hlenM.fn
  refine okDG (k := 11) F sc_PLaw (fun cdv A outer s H hgu hr => (d_seq (d_set (i := 1) sc_PLaw.nd rfl (Or.inl rfl) (d_call ((w_LDraws T).mono (by decide)) hr rfl (d_pa_cons (d_var (i := 0) rfl (.inl rfl)) d_pa_nil)))
      (d_seq (d_for PassesOwn.never rfl (di_r1 rfl T.n_range (d_pa_cons d_int d_pa_nil)) (dg_name (i := 2) sc_PLaw.nd rfl (Or.inl rfl)) (d_seq (d_set (i := 3) sc_PLaw.nd rfl (Or.inl rfl) (d_call ((w_LWorld T).mono (by decide)) hr rfl (d_pa_cons (d_var (i := 1) rfl (.inl rfl)) (d_pa_cons d_int (d_pa_cons d_int d_pa_nil)))))
      (d_seq (d_set (i := 3) sc_PLaw.nd rfl (Or.inl rfl) (d_add (d_slice (d_var (i := 3) rfl (.inl rfl)) d_no (d_part d_int)) (d_tup (d_pa_cons (d_slice (d_ix (d_var (i := 3) rfl (.inl rfl)) d_int) d_no (d_part d_int)) d_pa_nil))))
      (d_seq (d_set (i := 4) sc_PLaw.nd rfl (Or.inl rfl) (d_call ((w_LPair T).mono (by decide)) hr rfl (d_pa_cons (d_var (i := 1) rfl (.inl rfl)) (d_pa_cons (d_var (i := 3) rfl (.inl rfl)) d_pa_nil))))
      (d_seq (d_par (i := 5) (j := 6) rfl sc_PLaw.nd rfl rfl (by decide) rfl rfl (d_pa_cons (d_call ((w_LGoes T).mono (by decide)) hr rfl (d_pa_cons (d_var (i := 3) rfl (.inl rfl)) (d_pa_cons (d_var (i := 4) rfl (.inl rfl)) d_pa_nil))) (d_pa_cons (d_call ((w_LGoes T).mono (by decide)) hr rfl (d_pa_cons (d_var (i := 3) rfl (.inl rfl)) (d_pa_cons (d_rev (d_var (i := 4) rfl (.inl rfl))) d_pa_nil))) d_pa_nil)))
      (d_single (d_if (d_tw (d_and (d_tpc (d_notN (d_var (i := 5) rfl (.inl rfl)))) (d_and (d_tpc (d_notN (d_var (i := 6) rfl (.inl rfl)))) (d_and1 (d_tval (d_call ((w_LApart T).mono (by decide)) hr rfl (d_pa_cons (d_var (i := 4) rfl (.inl rfl)) d_pa_nil))))))) (d_seq (d_par3 (i := 7) (j := 8) (l := 9) rfl sc_PLaw.nd rfl rfl rfl (by decide) (by decide) (by decide) rfl rfl rfl (d_pa_cons (d_make ((w_HInit T).mono (by decide)) hr rfl (d_pa_cons (d_var (i := 3) rfl (.inl rfl)) d_pa_nil)) (d_pa_cons (d_make ((w_HInit T).mono (by decide)) hr rfl (d_pa_cons (d_var (i := 3) rfl (.inl rfl)) d_pa_nil)) (d_pa_cons (d_make ((w_HInit T).mono (by decide)) hr rfl (d_pa_cons (d_var (i := 3) rfl (.inl rfl)) d_pa_nil)) d_pa_nil))))
      (d_seq (d_for PassesOwn.never rfl (di_lst (d_var (i := 4) rfl (.inl rfl))) (dg_name (i := 10) sc_PLaw.nd rfl (Or.inl rfl)) (d_single (d_expr (d_call ((w_LDo T).mono (by decide)) hr rfl (d_pa_cons (d_var (i := 7) rfl (.inl rfl)) (d_pa_cons (d_var (i := 10) rfl (.inl rfl)) d_pa_nil))))))
      (d_seq (d_for PassesOwn.never rfl (di_lst (d_rev (d_var (i := 4) rfl (.inl rfl)))) (dg_name (i := 10) sc_PLaw.nd rfl (Or.inl rfl)) (d_single (d_expr (d_call ((w_LDo T).mono (by decide)) hr rfl (d_pa_cons (d_var (i := 8) rfl (.inl rfl)) (d_pa_cons (d_var (i := 10) rfl (.inl rfl)) d_pa_nil))))))
      (d_seq (d_expr (d_meth (d_var (i := 9) rfl (.inl rfl)) T.cH ((w_HTried T).mono (by decide)) hr (d_pa_cons (d_var (i := 4) rfl (.inl rfl)) d_pa_nil)))
      (d_seq (d_if (d_tw (d_or (d_not (d_tval (d_call ((w_LAlike T).mono (by decide)) hr rfl (d_pa_cons (d_meth0 (d_var (i := 7) rfl (.inl rfl)) T.cH ((w_HWorld T).mono (by decide)) hr) (d_pa_cons (d_ix (d_var (i := 5) rfl (.inl rfl)) d_int) d_pa_nil))))) (d_or1 (dt_neOwn T.mroH T.neH heqA heqF (heq.mono (by decide)) hr (d_var (i := 9) rfl (.inl rfl)) (d_var (i := 7) rfl (.inl rfl)))))) (d_single (d_ret d_bl)) d_nil)
      (d_seq (d_if (d_not (d_tval (d_call ((w_LAlike T).mono (by decide)) hr rfl (d_pa_cons (d_meth0 (d_var (i := 8) rfl (.inl rfl)) T.cH ((w_HWorld T).mono (by decide)) hr) (d_pa_cons (d_ix (d_var (i := 6) rfl (.inl rfl)) d_int) d_pa_nil))))) (d_single (d_ret d_bl)) d_nil)
      (d_seq (d_if (d_not (d_tval (d_call ((w_LAlike T).mono (by decide)) hr rfl (d_pa_cons (d_call ((w_table_least T).mono (by decide)) hr rfl (d_pa_cons (d_meth0 (d_var (i := 7) rfl (.inl rfl)) T.cH ((w_HWorld T).mono (by decide)) hr) d_pa_nil)) (d_pa_cons (d_call ((w_table_least T).mono (by decide)) hr rfl (d_pa_cons (d_meth0 (d_var (i := 8) rfl (.inl rfl)) T.cH ((w_HWorld T).mono (by decide)) hr) d_pa_nil)) d_pa_nil))))) (d_single (d_ret d_bl)) d_nil)
      (d_seq (d_for PassesOwn.never rfl (di_lst (d_lst (d_pa_cons d_int (d_pa_cons d_int d_pa_nil)))) (dg_name (i := 11) sc_PLaw.nd rfl (Or.inl rfl)) (d_seq (d_set (i := 12) sc_PLaw.nd rfl (Or.inl rfl) (d_sortS rfl T.n_sorted (d_pa_cons (d_lc (own := [("_law_each", 13)]) rfl sc_PLaw.nd (di_tup (d_ix (d_meth0 (d_var (i := 7) rfl (.inl rfl)) T.cH ((w_HWorld T).mono (by decide)) hr) (d_var (i := 11) rfl (.inl rfl)))) (blkOk_by (N := ["_law_script", "_law_drawn", "_law_turn", "_law_world_here", "_law_pair_here", "_law_there", "_law_back", "_law_one_here", "_law_other", "_law_row", "_law_deed", "_law_spot", "_law_here", "_law_each"]) (sc := defScope sPLaw) (by decide +kernel)) (by decide) (fun _ _ _ _ _ => (dg_name (i := 13) sc_PLaw.nd rfl (Or.inl rfl))) (fun _ _ _ _ _ => d_noif) (fun _ _ _ _ _ => (d_repr hgu hr.units rfl T.n_repr (d_pa_cons (d_var (i := 13) rfl (.inl rfl)) d_pa_nil)))) d_pa_nil)))
      (d_single (d_if (dt_ne hr.units (d_var (i := 12) rfl (.inl rfl)) (d_sortS rfl T.n_sorted (d_pa_cons (d_lc (own := [("_law_each", 13)]) rfl sc_PLaw.nd (di_tup (d_ix (d_meth0 (d_var (i := 8) rfl (.inl rfl)) T.cH ((w_HWorld T).mono (by decide)) hr) (d_var (i := 11) rfl (.inl rfl)))) (blkOk_by (N := ["_law_script", "_law_drawn", "_law_turn", "_law_world_here", "_law_pair_here", "_law_there", "_law_back", "_law_one_here", "_law_other", "_law_row", "_law_deed", "_law_spot", "_law_here", "_law_each"]) (sc := defScope sPLaw) (by decide +kernel)) (by decide) (fun _ _ _ _ _ => (dg_name (i := 13) sc_PLaw.nd rfl (Or.inl rfl))) (fun _ _ _ _ _ => d_noif) (fun _ _ _ _ _ => (d_repr hgu hr.units rfl T.n_repr (d_pa_cons (d_var (i := 13) rfl (.inl rfl)) d_pa_nil)))) d_pa_nil))) (d_single (d_ret d_bl)) d_nil))))
      (d_seq (d_expr (d_meth0 (d_var (i := 7) rfl (.inl rfl)) T.cH ((w_HBack T).mono (by decide)) hr))
      (d_seq (d_expr (d_meth0 (d_var (i := 7) rfl (.inl rfl)) T.cH ((w_HBack T).mono (by decide)) hr))
      (d_single (d_if (d_tw (d_or (d_not (d_tval (d_call ((w_LAlike T).mono (by decide)) hr rfl (d_pa_cons (d_meth0 (d_var (i := 7) rfl (.inl rfl)) T.cH ((w_HWorld T).mono (by decide)) hr) (d_pa_cons (d_var (i := 3) rfl (.inl rfl)) d_pa_nil))))) (d_or1 (dt_ne hr.units (d_lenOwn hlenA hlenF (hlen.mono (by decide)) hr rfl T.n_len (d_pa_cons (d_var (i := 7) rfl (.inl rfl)) d_pa_nil)) d_int)))) (d_single (d_ret d_bl)) d_nil)))))))))))) d_nil)))))))
      (d_single (d_ret d_bl))))) (fun l M Qd h => ?_)
  obtain ⟨ns, rfl, hns, rfl, h⟩ := h
  -- the draws
  refine seq_cut (fun ds' M' => DB 0 [] M' ∧ ds' = lds ns none none none none none none none none none none none none) (fun N k => ?_) ?_
  · refine ⟨_, rfl, ns, rfl, hns, fun cs rs h1 h2 h3 => k _ _ ⟨⟨0, cs, rs, Nat.le_refl _, h2, h3, h1, rfl⟩, rfl⟩⟩
  rintro ds' M0 ⟨db0, rfl⟩
  refine seq_cut (fun _ _ => True) (fun N k => ?_) ?_
  case refine_2 => exact fun ds' M' _ => h M'
  refine ⟨3, rfl, by decide, by decide, ?_⟩
  refine for_rngD (lo := 0) (n := 3) (fun i ds M' => i ≤ 3 ∧ (∃ R, DB (2500 * i) R M') ∧ ∃ x2 x3 x4 x5 x6 x7 x8 x9 x10 x11 x12 x13, ds = lds ns x2 x3 x4 x5 x6 x7 x8 x9 x10 x11 x12 x13) ⟨by omega, ⟨_, db0⟩, _, _, _, _, _, _, _, _, _, _, _, _, rfl⟩ (fun i ds M' K hi ⟨_, ⟨R, db⟩, x2, x3, x4, x5, x6, x7, x8, x9, x10, x11, x12, x13, e3⟩ kk => ?_) (fun ds M' _ => ⟨trivial, k _ _ trivial⟩)
  subst e3
  refine ⟨trivial, ?_⟩
  have kk : ∀ M' x2 x3 x4 x5 x6 x7 x8 x9 x10 x11 x12 x13, (∃ R, DB (2500 * (i + 1)) R M') → K (lds ns x2 x3 x4 x5 x6 x7 x8 x9 x10 x11 x12 x13) M' := fun M' x2 x3 x4 x5 x6 x7 x8 x9 x10 x11 x12 x13 hR => kk _ _ ⟨by omega, hR, _, _, _, _, _, _, _, _, _, _, _, _, rfl⟩
  obtain ⟨y2, ey2⟩ : ∃ y2 : Option D, y2 = some (.int (0 + ((i : Nat) : Int))) := ⟨_, rfl⟩
  show dSeq _ _ _ (lds ns (some (.int (0 + ((i : Nat) : Int)))) x3 x4 x5 x6 x7 x8 x9 x10 x11 x12 x13) _
  rw [← ey2]
  -- the world
  refine seq_cut (fun ds' M' => ∃ w R, GWld w ∧ DB (2500 * i + 1500) R M' ∧ ds' = lds ns y2 (some (Wld.d w)) x4 x5 x6 x7 x8 x9 x10 x11 x12 x13) (fun N k => ?_) ?_
  · exact ⟨_, rfl, _, R, rfl, db, by omega, fun w M2 g d2 => k _ _ ⟨w, R, g, d2, rfl⟩⟩
  clear db
  rintro ds' M1 ⟨w0, R, g0, db, rfl⟩
  have c3 : ∀ l : List D, cut l none (some (3 : Int)) = l.take 3 := fun l => cut_take l 3
  have c4 : ∀ l : List D, cut l none (some (4 : Int)) = l.take 4 := fun l => cut_take l 4
  refine seq_cut (fun ds' M' => M' = M1 ∧ ∃ w, GWld w ∧ ds' = lds ns y2 (some (Wld.d w)) x4 x5 x6 x7 x8 x9 x10 x11 x12 x13) (fun N k => ?_) ?_
  · refine ⟨_, rfl, 3, rfl, _, rfl, 3, rfl, _, at3, 4, rfl, by simp, ?_, k _ _ ⟨rfl, { w0 with ways := w0.ways.take 4 }, ⟨g0.size, g0.klen, g0.kinds, g0.slen, g0.srcs, ?_, fun s hs => g0.ways s (List.mem_of_mem_take hs)⟩, ?_⟩⟩
    · rw [c3]; simp
    · have := g0.wlen
      simp only [List.length_take]
      omega
    · rw [c3, c4, ← List.map_take]
      rfl
  rintro ds' M2 ⟨rfl, w, g, rfl⟩
  -- the pair
  refine seq_cut (fun ds' M' => ∃ d1 d2 num R, Cand w num d1 ∧ Cand w num d2 ∧ d1.word ≠ d2.word ∧ DB (2500 * i + 2000) R M' ∧ ds' = lds ns y2 (some w.d) (some (.lst [d1.d, d2.d])) x5 x6 x7 x8 x9 x10 x11 x12 x13) (fun N k => ?_) ?_
  · exact ⟨_, rfl, _, rfl, w, _, R, rfl, g, db, by omega, fun d1 d2 num o M' a1 a2 a3 a4 => k _ _ ⟨d1, d2, num, _, a1, a2, a3, a4, rfl⟩⟩
  clear db
  rintro ds' M3 ⟨d1, d2, num, R, cd1, cd2, hne, db, rfl⟩
  have h5 := gw_sh5 g
  have sd1 := cand_sh g cd1
  have sd2 := cand_sh g cd2
  -- what is behind
  refine seq_cut (fun ds' M' => ∃ o1 o2 t b, M' = M3 ++ [o1] ++ [o2] ∧ GoT w d1 d2 M3.length t M' ∧ GoT w d2 d1 (M3.length + 1) b M' ∧ ds' = lds ns y2 (some w.d) (some (.lst [d1.d, d2.d])) (some t) (some b) x7 x8 x9 x10 x11 x12 x13) (fun N k => ?_) ?_
  · refine ⟨_, rfl, _, rfl, ?_⟩
    dsimp only [dNil]
    refine goes_ok h5 sd1 sd2 fun t o1 ht => ⟨_, rfl, _, rfl, _, rfl, ?_⟩
    dsimp only [dNil]
    refine goes_ok h5 sd2 sd1 fun b o2 hb => ⟨_, _, rfl, k _ _ ⟨o1, o2, t, b, rfl, ?_, ?_, rfl⟩⟩
    · rcases ht with ht | ⟨ht, v1, v2, a1, a2, a3, a4, a5⟩
      · exact .inl ht
      · exact .inr ⟨ht, v1, v2, a1, a2, a3, a4, by rw [List.getElem?_append_left (List.getElem?_eq_some_iff.mp a5).1]; exact a5⟩
    · rw [List.length_append, List.length_singleton] at hb
      exact hb
  rintro ds' M4 ⟨o1, o2, t, b, eM4, ht, hb, rfl⟩
  have db4 : ∃ R, DB (2500 * i + 2000) R M4 := ⟨_, by rw [eM4]; exact (db.app [o1]).app [o2]⟩
  clear db
  have none : ∀ x7 x8 x9 x10 x11 x12 x13, K (lds ns y2 (some w.d) (some (.lst [d1.d, d2.d])) (some t) (some b) x7 x8 x9 x10 x11 x12 x13) M4 := fun x7 x8 x9 x10 x11 x12 x13 => kk _ _ _ _ _ _ _ _ _ _ _ _ _ (let ⟨R, h⟩ := db4; ⟨R, h.mono (by omega)⟩)
  rcases ht with rfl | ⟨rfl, w1, w12, e1, ok1, e12, ok12, ht⟩
  · exact ⟨_, rfl, false, rfl, ite_f rfl (ite_f rfl (none _ _ _ _ _ _ _))⟩
  rcases hb with rfl | ⟨rfl, w2, w21, e2, ok2, e21, ok21, hb⟩
  · exact ⟨_, rfl, true, rfl, ite_t rfl ⟨_, rfl, false, rfl, ite_f rfl (ite_f rfl (none _ _ _ _ _ _ _))⟩⟩
  refine ⟨_, rfl, true, rfl, ite_t rfl ⟨_, rfl, true, rfl, ite_t rfl ⟨_, rfl, d1, d2, rfl, fun bb hap => ⟨bb, rfl, ?_⟩⟩⟩⟩
  cases bb with
  | false => exact ite_f rfl (none _ _ _ _ _ _ _)
  | true =>
  refine ite_t rfl ?_
  clear none
  have ap := hap rfl
  have ew := plain_comm cd1 cd2 hne ap e1 e12 e2 e21
  have okw := plain_ok cd1 cd2 hne ap e1 ok1 e2 ok2
  subst ew
  obtain ⟨L, eL⟩ : ∃ L, L = M4.length := ⟨_, rfl⟩
  -- the halls
  refine seq_cut (fun ds' M' => M' = hm CH M4 (HF (M4.length + 1) [w] []) (HF (M4.length + 3) [w] []) (HF (M4.length + 5) [w] []) [] [] ∧ ds' = lds ns y2 (some w.d) (some (.lst [d1.d, d2.d])) (some (.h M3.length)) (some (.h (M3.length + 1))) (some (.h M4.length)) (some (.h (M4.length + 2))) (some (.h (M4.length + 4))) x10 x11 x12 x13) (fun N k => ?_) ?_
  · refine ⟨_, rfl, M4, w, rfl, rfl, okw, rfl, _, rfl, _, w, rfl, rfl, okw, rfl, _, rfl, _, w, rfl, rfl, okw, rfl, _, _, _, rfl, ?_⟩
    have l2 : List.length (M4 ++ [O.ins CH (HF (M4.length + 1) [w] []), .lst []]) = M4.length + 2 := by simp
    have l4 : List.length (M4 ++ [O.ins CH (HF (M4.length + 1) [w] []), .lst []] ++ [O.ins CH (HF (M4.length + 2 + 1) [w] []), .lst []]) = M4.length + 4 := by simp
    rw [l2, l4]
    refine k _ _ ⟨by simp [oIx_tup, oIx_lst, oIx_h, oIx_str, hm], rfl⟩
  rintro ds' M5 ⟨rfl, rfl⟩
  -- the deeds at the one
  refine seq_cut (fun ds' M' => M' = hm CH M4 (HF (M4.length + 1) [w, w1, w12] [d1, d2]) (HF (M4.length + 3) [w] []) (HF (M4.length + 5) [w] []) [] [] ∧ ∃ x10, ds' = lds ns y2 (some w.d) (some (.lst [d1.d, d2.d])) (some (.h M3.length)) (some (.h (M3.length + 1))) (some (.h M4.length)) (some (.h (M4.length + 2))) (some (.h (M4.length + 4))) x10 x11 x12 x13) (fun N k => ?_) ?_
  · refine ⟨_, rfl, trivial, _, rfl, _, rfl, _, _, [], w, [], d1, rfl, hm_1, by simp, by simp, h5, w1, e1, ok1, ?_⟩
    rw [hm_s1]
    refine ⟨trivial, _, rfl, _, rfl, _, _, [w], w1, [d1], d2, rfl, hm_1, by simp, by simp, ok1.sh5, w12, e12, ok12, ?_⟩
    rw [hm_s1]
    exact ⟨trivial, k _ _ ⟨rfl, _, rfl⟩⟩
  rintro ds' M5 ⟨rfl, x10, rfl⟩
  -- the deeds at the other
  refine seq_cut (fun ds' M' => M' = hm CH M4 (HF (M4.length + 1) [w, w1, w12] [d1, d2]) (HF (M4.length + 3) [w, w2, w12] [d2, d1]) (HF (M4.length + 5) [w] []) [] [] ∧ ∃ x10, ds' = lds ns y2 (some w.d) (some (.lst [d1.d, d2.d])) (some (.h M3.length)) (some (.h (M3.length + 1))) (some (.h M4.length)) (some (.h (M4.length + 2))) (some (.h (M4.length + 4))) x10 x11 x12 x13) (fun N k => ?_) ?_
  · refine ⟨_, rfl, _, rfl, trivial, _, rfl, _, rfl, _, _, [], w, [], d2, rfl, hm_2, by simp, by simp, h5, w2, e2, ok2, ?_⟩
    rw [hm_s2]
    refine ⟨trivial, _, rfl, _, rfl, _, _, [w], w2, [d2], d1, rfl, hm_2, by simp, by simp, ok2.sh5, w12, e21, ok12, ?_⟩
    rw [hm_s2]
    exact ⟨trivial, k _ _ ⟨rfl, _, rfl⟩⟩
  rintro ds' M5 ⟨rfl, x10, rfl⟩
  -- the row
  refine seq_cut (fun ds' M' => ∃ rs, M' = hm CH M4 (HF (M4.length + 1) [w, w1, w12] [d1, d2]) (HF (M4.length + 3) [w, w2, w12] [d2, d1]) (HF (M4.length + 5) [w, w1, w12] [d1, d2]) rs [] ∧ ds' = lds ns y2 (some w.d) (some (.lst [d1.d, d2.d])) (some (.h M3.length)) (some (.h (M3.length + 1))) (some (.h M4.length)) (some (.h (M4.length + 2))) (some (.h (M4.length + 4))) x10 x11 x12 x13) (fun N k => ?_) ?_
  · refine ⟨_, rfl, _, _, rfl, hm_3, rfl, _, rfl, M4.length + 4, M4.length + 5, w, w1, w12, d1, d2, [], rfl, hm_3, hm_r, by simp, by omega, h5, e1, ok1, e12, ok12, fun rows' => ?_⟩
    rw [hm_s3, hm_sr]
    exact k _ _ ⟨_, rfl, rfl⟩
  rintro ds' M5 ⟨rs, rfl, rfl⟩
  obtain ⟨f1, ef1⟩ : ∃ f1, f1 = HF (M4.length + 1) [w, w1, w12] [d1, d2] := ⟨_, rfl⟩
  obtain ⟨f2, ef2⟩ : ∃ f2, f2 = HF (M4.length + 3) [w, w2, w12] [d2, d1] := ⟨_, rfl⟩
  obtain ⟨f3, ef3⟩ : ∃ f3, f3 = HF (M4.length + 5) [w, w1, w12] [d1, d2] := ⟨_, rfl⟩
  have hg1 : ∀ X, (hm CH M4 f1 f2 f3 rs X)[M4.length]? = some (.ins CH (HF (M4.length + 1) ([w, w1] ++ [w12]) [d1, d2])) := fun X => by rw [hm_1, ef1]; rfl
  have hg2 : ∀ X, (hm CH M4 f1 f2 f3 rs X)[M4.length + 2]? = some (.ins CH (HF (M4.length + 3) ([w, w2] ++ [w12]) [d2, d1])) := fun X => by rw [hm_2, ef2]; rfl
  have hg3 : ∀ X, (hm CH M4 f1 f2 f3 rs X)[M4.length + 4]? = some (.ins CH (HF (M4.length + 5) ([w, w1] ++ [w12]) [d1, d2])) := fun X => by rw [hm_3, ef3]; rfl
  have tw := tame_wld ok12.sh
  rw [← ef1, ← ef2, ← ef3]
  -- the first look
  refine seq_cut (fun ds' M' => M' = hm CH M4 f1 f2 f3 rs [] ∧ ds' = lds ns y2 (some w.d) (some (.lst [d1.d, d2.d])) (some (.h M3.length)) (some (.h (M3.length + 1))) (some (.h M4.length)) (some (.h (M4.length + 2))) (some (.h (M4.length + 4))) x10 x11 x12 x13) (fun N k => ?_) ?_
  · refine meth_world rfl (hg1 _) ⟨_, rfl, 2, rfl, _, _, hm_lt ht, at2, w12.d, rfl, tw, true, rfl, ite_f rfl ?_⟩
    exact ⟨_, rfl, _, rfl, _, _, _, _, rfl, rfl, hg3 _, hg1 _, ⟨_, _, _, _, _, _, _, _, w12, rfl, hg3 _, hg1 _, ok12.sh, true, rfl, false, rfl, ite_f rfl (k _ _ ⟨rfl, rfl⟩)⟩⟩
  rintro ds' M5 ⟨rfl, rfl⟩
  -- the second look
  refine seq_cut (fun ds' M' => M' = hm CH M4 f1 f2 f3 rs [] ∧ ds' = lds ns y2 (some w.d) (some (.lst [d1.d, d2.d])) (some (.h M3.length)) (some (.h (M3.length + 1))) (some (.h M4.length)) (some (.h (M4.length + 2))) (some (.h (M4.length + 4))) x10 x11 x12 x13) (fun N k => ?_) ?_
  · exact meth_world rfl (hg2 _) ⟨_, rfl, 2, rfl, _, _, hm_lt hb, at2, w12.d, rfl, tw, true, rfl, ite_f rfl (k _ _ ⟨rfl, rfl⟩)⟩
  rintro ds' M5 ⟨rfl, rfl⟩
  -- the tables
  refine seq_cut (fun ds' M' => ∃ X, M' = hm CH M4 f1 f2 f3 rs X ∧ ds' = lds ns y2 (some w.d) (some (.lst [d1.d, d2.d])) (some (.h M3.length)) (some (.h (M3.length + 1))) (some (.h M4.length)) (some (.h (M4.length + 2))) (some (.h (M4.length + 4))) x10 x11 x12 x13) (fun N k => ?_) ?_
  · refine meth_world rfl (hg1 _) ⟨w12, rfl, ok12, fun s X fs => ?_⟩
    rw [hm_X]
    refine meth_world rfl (hg2 _) ⟨w12, rfl, ok12, fun s' X' fs' => ?_⟩
    rw [hm_X]
    obtain rfl := Fin.unique fs fs'
    exact ⟨_, rfl, tame_tab ok12, true, rfl, ite_f rfl (k _ _ ⟨_, rfl, rfl⟩)⟩
  rintro ds' M5 ⟨X, rfl, rfl⟩
  -- the parts
  refine seq_cut (fun ds' M' => M' = hm CH M4 f1 f2 f3 rs X ∧ ∃ x11 x12, ds' = lds ns y2 (some w.d) (some (.lst [d1.d, d2.d])) (some (.h M3.length)) (some (.h (M3.length + 1))) (some (.h M4.length)) (some (.h (M4.length + 2))) (some (.h (M4.length + 4))) x10 x11 x12 x13) (fun N k => ?_) ?_
  · have one : ∀ {α : Type} (spot : Int) (f : α → List D) (l : List α) (x12 : Option D) (K2 : DS → S → Prop), (∃ lw, w12.d = .tup lw ∧ atI lw spot = some (.tup (l.map fun a => .tup (f a)))) → l.length < 64 → (∀ a ∈ l, ltd (.tup (f a)) = true ∧ Gd 20 (.tup (f a)) ∧ cnt (.tup (f a)) ≤ 1000) →
        (∀ x12, K2 (lds ns y2 (some w.d) (some (.lst [d1.d, d2.d])) (some (.h M3.length)) (some (.h (M3.length + 1))) (some (.h M4.length)) (some (.h (M4.length + 2))) (some (.h (M4.length + 4))) x10 (some (.int spot)) x12 x13) (hm CH M4 f1 f2 f3 rs X)) →
        (dSeq (dAsg (dCB cSortS (dCons (dLc (diTup (dOp oIx (dMeth CH "world" (spHWorld CH) (dVar 7) dNil) (dVar 11))) (dgName 13) dYes (dCB cRepr (dCons (dVar 13) dNil)) [13]) dNil)) (dgName 12))
          (dIfS (dTest (dOp oNe (dVar 12) (dCB cSortS (dCons (dLc (diTup (dOp oIx (dMeth CH "world" (spHWorld CH) (dVar 8) dNil) (dVar 11))) (dgName 13) dYes (dCB cRepr (dCons (dVar 13) dNil)) [13]) dNil)))) (dRet (dC (.bl false))) dNext))
          { nx := K2, rt := Qd, ct := K2, bk := N } (lds ns y2 (some w.d) (some (.lst [d1.d, d2.d])) (some (.h M3.length)) (some (.h (M3.length + 1))) (some (.h M4.length)) (some (.h (M4.length + 2))) (some (.h (M4.length + 4))) x10 (some (.int spot)) x12 x13) (hm CH M4 f1 f2 f3 rs X) := by
      rintro α spot f l x12 K2 ⟨lw, hlw, hat⟩ h64 hr k2
      refine seq_cut (fun ds' M' => M' = hm CH M4 f1 f2 f3 rs X ∧ ∃ ys, ys.Perm (l.map fun a => (py (.tup (f a))).shown) ∧ sortedS ys = true ∧ ds' = lds ns y2 (some w.d) (some (.lst [d1.d, d2.d])) (some (.h M3.length)) (some (.h (M3.length + 1))) (some (.h M4.length)) (some (.h (M4.length + 2))) (some (.h (M4.length + 4))) x10 (some (.int spot)) (some (.lst (ys.map .str))) x13) (fun N k => ?_) ?_
      · exact srt rfl (hg1 _) rfl (by simp [oIx_tup, oIx_lst, oIx_h, oIx_str, lds]) hlw hat h64 hr fun ys p s => k _ _ ⟨rfl, ys, p, s, rfl⟩
      rintro ds' M5 ⟨rfl, ys, hp, hs, rfl⟩
      refine ⟨_, rfl, ?_⟩
      refine srt rfl (hg2 _) rfl (by simp [oIx_tup, oIx_lst, oIx_h, oIx_str, lds]) hlw hat h64 hr fun zs p s => ?_
      obtain rfl := sorted_unique hp hs p s
      have shy : sh (.lst (ys.map .str)) = true := sh_strs _ fun s hs => by
        obtain ⟨a, ha, rfl⟩ := List.mem_map.mp (hp.mem_iff.mp hs)
        exact (rk_of _ (hr a ha).1).ok
      have he : PyData.eqv (py (.lst (ys.map .str))) (py (.lst (ys.map .str))) = true := SeqAt.eqv_refl _ (shapedAll_strs ys fun s hs => by
        obtain ⟨a, ha, rfl⟩ := List.mem_map.mp (hp.mem_iff.mp hs)
        exact (rk_of _ (hr a ha).1).ok).1
      refine ⟨shy, shy, false, ?_, ite_f rfl (k2 _)⟩
      rw [if_pos rfl, he]; rfl
    refine ⟨Nat.le_of_lt (by decide), trivial, ?_⟩
    refine one (α := Src) 2 (fun s => [.str s.kind, .int s.age, .int s.place, .int s.since, .int s.many]) w12.srcs x12 _ ⟨_, rfl, at2⟩ (by have := ok12.slen; omega) (fun a ha => ⟨ltd_src ok12 ha, (gd_src (ok12.sh.srcs a ha)).mono (by omega), by simp [oIx_tup, oIx_lst, oIx_h, oIx_str, cnt, cnts]⟩) fun z12 => ?_
    refine ⟨trivial, ?_⟩
    refine one (α := Way) 3 (fun s => [.str s.kind, .tup (s.parts.map Prt.d), .str s.keeps, .tup (s.hours.map .int), .int s.wait]) w12.ways z12 _ ⟨_, rfl, at3⟩ (by have := ok12.wlen; omega) (fun a ha => ⟨ltd_way ok12 ha, (gd_way (ok12.sh.ways a ha).kind (ok12.sh.ways a ha).parts (ok12.sh.ways a ha).keeps).mono (by omega), cnt_way ok12 ha⟩) fun z12 => ?_
    exact ⟨trivial, k _ _ ⟨rfl, _, _, rfl⟩⟩
  rintro ds' M5 ⟨rfl, x11, x12, rfl⟩
  -- both taken back
  have gd1 := cand_gd g cd1
  have gd2 := cand_gd g cd2
  rw [ef1]
  refine seq_cut (fun ds' M' => M' = hm CH M4 (HF (M4.length + 1) [w, w1] [d1]) f2 f3 rs X ∧ ds' = lds ns y2 (some w.d) (some (.lst [d1.d, d2.d])) (some (.h M3.length)) (some (.h (M3.length + 1))) (some (.h M4.length)) (some (.h (M4.length + 2))) (some (.h (M4.length + 4))) x10 x11 x12 x13) (fun N k => ?_) ?_
  · refine ⟨_, rfl, _, _, rfl, hm_1, rfl, M4.length, M4.length + 1, [w, w1], w12, [d1], d2, rfl, hm_1, ?_, ?_⟩
    · intro x hx
      have hx : x = d1 ∨ x = d2 := by simpa using hx
      rcases hx with rfl | rfl <;> assumption
    · rw [hm_s1]
      exact k _ _ ⟨rfl, rfl⟩
  rintro ds' M5 ⟨rfl, rfl⟩
  refine seq_cut (fun ds' M' => M' = hm CH M4 (HF (M4.length + 1) [w] []) f2 f3 rs X ∧ ds' = lds ns y2 (some w.d) (some (.lst [d1.d, d2.d])) (some (.h M3.length)) (some (.h (M3.length + 1))) (some (.h M4.length)) (some (.h (M4.length + 2))) (some (.h (M4.length + 4))) x10 x11 x12 x13) (fun N k => ?_) ?_
  · refine ⟨_, rfl, _, _, rfl, hm_1, rfl, M4.length, M4.length + 1, [w], w1, [], d1, rfl, hm_1, ?_, ?_⟩
    · intro x hx
      have hx : x = d1 := by simpa using hx
      rw [hx]; exact gd1
    · rw [hm_s1]
      exact k _ _ ⟨rfl, rfl⟩
  rintro ds' M5 ⟨rfl, rfl⟩
  -- the last look
  have fin : ∃ R, DB (2500 * (i + 1)) R (hm CH M4 (HF (M4.length + 1) [w] []) f2 f3 rs X) := let ⟨R, h⟩ := db4; ⟨_, (h.app _).mono (by omega)⟩
  refine meth_world (ws := []) rfl hm_1 ⟨_, rfl, w.d, rfl, tame_wld okw.sh, true, rfl, ite_f rfl ?_⟩
  refine ⟨_, rfl, _, _, rfl, hm_1, _, _, _, _, rfl, hm_1, 0, rfl, by decide, by decide, false, rfl, ite_f rfl (kk _ _ _ _ _ _ _ _ _ _ _ _ _ fin)⟩
end My

set_option Elab.async false
set_option linter.all false
set_option maxRecDepth 100000
set_option maxHeartbeats 4000000
namespace My
open PySem PySem.Spec PyProof.Rows L2 MyH
theorem ex_1 {K : PySem.W.Frag} (h : ex K = true) : He.valsB K (He.ga K "FORMS") formsV = true := (He.ba h).1
theorem ex_2 {K : PySem.W.Frag} (h : ex K = true) : PySem.W.findIn K (.ref (He.ga K "Hall")) "__ne__" = some (some (.builtin "object.__ne__")) ∧ PySem.W.findIn K (.ref (He.ga K "Hall")) "__class__" = some (some (.builtin "object.__class__")) ∧
    PySem.W.specialIn K (.builtin "object.__class__") "__get__" = some (some (.builtin "getset_descriptor.__get__")) ∧ PySem.W.takesIn K (.builtin "object.__class__") = some true ∧ PySem.W.mroIn K (He.ga K "Hall") (.type "object") = some true ∧ PySem.W.kitOne K (.ref (He.ga K "Hall")) (.ref (He.ga K "Hall")) = some true := by
  obtain ⟨_, h⟩ := He.ba h
  obtain ⟨h1, h⟩ := He.ba h
  obtain ⟨h2, h⟩ := He.ba h
  obtain ⟨h3, h⟩ := He.ba h
  obtain ⟨h4, h⟩ := He.ba h
  obtain ⟨h5, h6⟩ := He.ba h
  exact ⟨He.eqO_ok h1, He.eqO_ok h2, He.eqO_ok h3, of_decide_eq_true h4, of_decide_eq_true h5, of_decide_eq_true h6⟩
theorem look_mem {x : Str} {v : Int} : ∀ {l : List (Str × Int)}, l.lookup x = some v → (x, v) ∈ l
  | [], h => by cases h
  | (y, u) :: r, h => by
    rw [List.lookup_cons] at h
    cases q : x == y with
    | true =>
      rw [q] at h
      cases h
      rw [beq_iff_eq.mp q]
      exact List.mem_cons_self
    | false =>
      rw [q] at h
      exact List.mem_cons_of_mem _ (look_mem h)
theorem forms_mem {x : Str} {v : Int} (h : ([("bring", 2), ("way", 2), ("stop", 2), ("shut", 2), ("hours", 3), ("window", 5)] : List (Str × Int)).lookup x = some v) : (x, He.Dv.int v) ∈ formsV :=
  (List.mem_map (f := fun p : Str × Int => (p.1, He.Dv.int p.2))).mpr ⟨(x, v), look_mem h, rfl⟩
theorem tx_of {w : World} {K : PySem.W.Frag} {h : Heap} {mg : Str → Option Value} (X : K.In h) (G : h.Ns mainGlobals mg) (c : SaysM fa fn ts ex w K) : Tx K w mg (He.ga K "Growth") (He.ga K "Hall") where
  n_isinstance := He.free_ok X G (c.t.d.fact 46 (f := .free "isinstance") rfl)
  n_len := He.free_ok X G (c.t.d.fact 47 (f := .free "len") rfl)
  n_enumerate := He.free_ok X G (c.t.d.fact 48 (f := .free "enumerate") rfl)
  n_all := He.free_ok X G (c.t.d.fact 49 (f := .free "all") rfl)
  n_min := He.free_ok X G (c.t.d.fact 50 (f := .free "min") rfl)
  n_tuple := He.free_ok X G (c.t.d.fact 51 (f := .free "tuple") rfl)
  n_range := He.free_ok X G (c.t.d.fact 52 (f := .free "range") rfl)
  n_sorted := He.free_ok X G (c.t.d.fact 53 (f := .free "sorted") rfl)
  n_repr := He.free_ok X G (c.t.d.fact 54 (f := .free "repr") rfl)
  n_zip := He.free_ok X G (c.t.d.fact 55 (f := .free "zip") rfl)
  n_int := He.free_ok X G (c.t.d.fact 56 (f := .free "int") rfl)
  n_bool := He.free_ok X G (c.t.d.fact 57 (f := .free "bool") rfl)
  n_str := He.free_ok X G (c.t.d.fact 58 (f := .free "str") rfl)
  n_list := He.free_ok X G (c.t.d.fact 59 (f := .free "list") rfl)
  i_ROUND := He.int_ok X G (c.t.d.fact 60 (f := .int "ROUND" 6) rfl)
  i_KINDS := He.int_ok X G (c.t.d.fact 61 (f := .int "KINDS" 4) rfl)
  i_SOURCES := He.int_ok X G (c.t.d.fact 62 (f := .int "SOURCES" 6) rfl)
  i_OLD := He.int_ok X G (c.t.d.fact 63 (f := .int "OLD" 20) rfl)
  i_SINCE := He.int_ok X G (c.t.d.fact 64 (f := .int "SINCE" 1000000) rfl)
  i_MANY := He.int_ok X G (c.t.d.fact 65 (f := .int "MANY" 9) rfl)
  i_WAYS := He.int_ok X G (c.t.d.fact 66 (f := .int "WAYS" 8) rfl)
  i_PARTS := He.int_ok X G (c.t.d.fact 67 (f := .int "PARTS" 3) rfl)
  i_WAIT := He.int_ok X G (c.t.d.fact 68 (f := .int "WAIT" 6) rfl)
  i_READY := He.int_ok X G (c.t.d.fact 69 (f := .int "READY" 26) rfl)
  i_DEEDS := He.int_ok X G (c.t.d.fact 70 (f := .int "DEEDS" 40) rfl)
  s_LETTERS := He.str_ok X G (c.t.d.fact 71 (f := .str "LETTERS" "abcdefghijklmnopqrstuvwxyz") rfl)
  s_OLDEST := He.str_ok X G (c.t.d.fact 72 (f := .str "OLDEST" "oldest") rfl)
  s_YOUNGEST := He.str_ok X G (c.t.d.fact 73 (f := .str "YOUNGEST" "youngest") rfl)
  s_BROUGHT := He.str_ok X G (c.t.d.fact 74 (f := .str "BROUGHT" "brought") rfl)
  s_MADE := He.str_ok X G (c.t.d.fact 75 (f := .str "MADE" "made") rfl)
  s_WAITED := He.str_ok X G (c.t.d.fact 76 (f := .str "WAITED" "waited") rfl)
  cG := He.cls_ok (c.t.d.fact 77 (f := .cls "Growth") rfl)
  cH := He.cls_ok (c.t.d.fact 91 (f := .cls "Hall") rfl)
  naG_here := He.noat_ok (c.t.d.fact 79 (f := .noat "Growth" "here") rfl)
  naG_size := He.noat_ok (c.t.d.fact 80 (f := .noat "Growth" "size") rfl)
  naG_moments := He.noat_ok (c.t.d.fact 81 (f := .noat "Growth" "moments") rfl)
  naG_reasons := He.noat_ok (c.t.d.fact 82 (f := .noat "Growth" "reasons") rfl)
  naG_pending := He.noat_ok (c.t.d.fact 83 (f := .noat "Growth" "pending") rfl)
  naG_ages := He.noat_ok (c.t.d.fact 84 (f := .noat "Growth" "ages") rfl)
  naH_states := He.noat_ok (c.t.d.fact 93 (f := .noat "Hall" "states") rfl)
  naH_stand := He.noat_ok (c.t.d.fact 94 (f := .noat "Hall" "stand") rfl)
  naH_rows := He.noat_ok (c.t.d.fact 95 (f := .noat "Hall" "rows") rfl)
  naH_busy := He.noat_ok (c.t.d.fact 96 (f := .noat "Hall" "busy") rfl)
  f_PIsNumber := let ⟨fd, F⟩ := c.t.d.def_ 0 (d := dPIsNumber) rfl; ⟨_, fd, He.glo_ok X G (c.t.d.fact 0 (f := .glo "is_number") rfl), F⟩
  f_PIsName := let ⟨fd, F⟩ := c.t.d.def_ 1 (d := dPIsName) rfl; ⟨_, fd, He.glo_ok X G (c.t.d.fact 1 (f := .glo "is_name") rfl), F⟩
  f_PIsRow := let ⟨fd, F⟩ := c.t.d.def_ 2 (d := dPIsRow) rfl; ⟨_, fd, He.glo_ok X G (c.t.d.fact 2 (f := .glo "is_row") rfl), F⟩
  f_PKindsFault := let ⟨fd, F⟩ := c.t.d.def_ 3 (d := dPKindsFault) rfl; ⟨_, fd, He.glo_ok X G (c.t.d.fact 3 (f := .glo "kinds_fault") rfl), F⟩
  f_PIsKind := let ⟨fd, F⟩ := c.t.d.def_ 4 (d := dPIsKind) rfl; ⟨_, fd, He.glo_ok X G (c.t.d.fact 4 (f := .glo "is_kind") rfl), F⟩
  f_PSourceFault := let ⟨fd, F⟩ := c.t.d.def_ 5 (d := dPSourceFault) rfl; ⟨_, fd, He.glo_ok X G (c.t.d.fact 5 (f := .glo "source_fault") rfl), F⟩
  f_PPartFault := let ⟨fd, F⟩ := c.t.d.def_ 6 (d := dPPartFault) rfl; ⟨_, fd, He.glo_ok X G (c.t.d.fact 6 (f := .glo "part_fault") rfl), F⟩
  f_PAreHours := let ⟨fd, F⟩ := c.t.d.def_ 7 (d := dPAreHours) rfl; ⟨_, fd, He.glo_ok X G (c.t.d.fact 7 (f := .glo "are_hours") rfl), F⟩
  f_PWayFault := let ⟨fd, F⟩ := c.t.d.def_ 8 (d := dPWayFault) rfl; ⟨_, fd, He.glo_ok X G (c.t.d.fact 8 (f := .glo "way_fault") rfl), F⟩
  f_PWorldfault := let ⟨fd, F⟩ := c.t.d.def_ 9 (d := dPWorldfault) rfl; ⟨_, fd, He.glo_ok X G (c.t.d.fact 9 (f := .glo "worldfault") rfl), F⟩
  f_PFirstAt := let ⟨fd, F⟩ := c.t.d.def_ 10 (d := dPFirstAt) rfl; ⟨_, fd, He.glo_ok X G (c.t.d.fact 10 (f := .glo "first_at") rfl), F⟩
  f_PFirstOf := let ⟨fd, F⟩ := c.t.d.def_ 11 (d := dPFirstOf) rfl; ⟨_, fd, He.glo_ok X G (c.t.d.fact 11 (f := .glo "first_of") rfl), F⟩
  f_PNearest := let ⟨fd, F⟩ := c.t.d.def_ 12 (d := dPNearest) rfl; ⟨_, fd, He.glo_ok X G (c.t.d.fact 12 (f := .glo "nearest") rfl), F⟩
  f_PChosen := let ⟨fd, F⟩ := c.t.d.def_ 13 (d := dPChosen) rfl; ⟨_, fd, He.glo_ok X G (c.t.d.fact 13 (f := .glo "chosen") rfl), F⟩
  mkG := let ⟨fd, F⟩ := c.t.d.def_ 43 (d := dGInit) rfl; ⟨_, fd, He.glo_ok X G (c.t.d.fact 17 (f := .glo "Growth") rfl), He.mkr_ok (c.t.d.fact 78 (f := .mkr "Growth") rfl), F⟩
  m_GExpect := let ⟨fd, F⟩ := c.t.d.def_ 44 (d := dGExpect) rfl; ⟨_, fd, He.meth_ok (c.t.d.fact 85 (f := .meth "Growth" "expect") rfl), F⟩
  m_GSettle := let ⟨fd, F⟩ := c.t.d.def_ 45 (d := dGSettle) rfl; ⟨_, fd, He.meth_ok (c.t.d.fact 86 (f := .meth "Growth" "settle") rfl), F⟩
  m_GAgesAt := let ⟨fd, F⟩ := c.t.d.def_ 46 (d := dGAgesAt) rfl; ⟨_, fd, He.meth_ok (c.t.d.fact 87 (f := .meth "Growth" "ages_at") rfl), F⟩
  m_GTryWay := let ⟨fd, F⟩ := c.t.d.def_ 47 (d := dGTryWay) rfl; ⟨_, fd, He.meth_ok (c.t.d.fact 88 (f := .meth "Growth" "try_way") rfl), F⟩
  m_GMakeAll := let ⟨fd, F⟩ := c.t.d.def_ 48 (d := dGMakeAll) rfl; ⟨_, fd, He.meth_ok (c.t.d.fact 89 (f := .meth "Growth" "make_all") rfl), F⟩
  m_GNumberOf := let ⟨fd, F⟩ := c.t.d.def_ 49 (d := dGNumberOf) rfl; ⟨_, fd, He.meth_ok (c.t.d.fact 90 (f := .meth "Growth" "number_of") rfl), F⟩
  f_PTable := let ⟨fd, F⟩ := c.t.d.def_ 14 (d := dPTable) rfl; ⟨_, fd, He.glo_ok X G (c.t.d.fact 44 (f := .glo "table_least") rfl), F⟩
  f_PIsDeed := let ⟨fd, F⟩ := c.t.d.def_ 15 (d := dPIsDeed) rfl; ⟨_, fd, He.glo_ok X G (c.t.d.fact 14 (f := .glo "is_deed") rfl), F⟩
  f_PWithoutOne := let ⟨fd, F⟩ := c.t.d.def_ 16 (d := dPWithoutOne) rfl; ⟨_, fd, He.glo_ok X G (c.t.d.fact 15 (f := .glo "without_one") rfl), F⟩
  f_PWithOne := let ⟨fd, F⟩ := c.t.d.def_ 17 (d := dPWithOne) rfl; ⟨_, fd, He.glo_ok X G (c.t.d.fact 16 (f := .glo "with_one") rfl), F⟩
  mkH := let ⟨fd, F⟩ := c.t.d.def_ 50 (d := dHInit) rfl; ⟨_, fd, He.glo_ok X G (c.t.d.fact 18 (f := .glo "Hall") rfl), He.mkr_ok (c.t.d.fact 92 (f := .mkr "Hall") rfl), F⟩
  m_HLook := let ⟨fd, F⟩ := c.t.d.def_ 51 (d := dHLook) rfl; ⟨_, fd, He.meth_ok (c.t.d.fact 97 (f := .meth "Hall" "look") rfl), F⟩
  m_HBegin := let ⟨fd, F⟩ := c.t.d.def_ 52 (d := dHBegin) rfl; ⟨_, fd, He.meth_ok (c.t.d.fact 98 (f := .meth "Hall" "begin") rfl), F⟩
  m_HChange := let ⟨fd, F⟩ := c.t.d.def_ 53 (d := dHChange) rfl; ⟨_, fd, He.meth_ok (c.t.d.fact 99 (f := .meth "Hall" "change") rfl), F⟩
  m_HWayOf := let ⟨fd, F⟩ := c.t.d.def_ 54 (d := dHWayOf) rfl; ⟨_, fd, He.meth_ok (c.t.d.fact 100 (f := .meth "Hall" "way_of") rfl), F⟩
  m_HBring := let ⟨fd, F⟩ := c.t.d.def_ 55 (d := dHBring) rfl; ⟨_, fd, He.meth_ok (c.t.d.fact 101 (f := .meth "Hall" "bring") rfl), F⟩
  m_HWay := let ⟨fd, F⟩ := c.t.d.def_ 56 (d := dHWay) rfl; ⟨_, fd, He.meth_ok (c.t.d.fact 102 (f := .meth "Hall" "way") rfl), F⟩
  m_HStop := let ⟨fd, F⟩ := c.t.d.def_ 57 (d := dHStop) rfl; ⟨_, fd, He.meth_ok (c.t.d.fact 103 (f := .meth "Hall" "stop") rfl), F⟩
  m_HShut := let ⟨fd, F⟩ := c.t.d.def_ 58 (d := dHShut) rfl; ⟨_, fd, He.meth_ok (c.t.d.fact 104 (f := .meth "Hall" "shut") rfl), F⟩
  m_HHours := let ⟨fd, F⟩ := c.t.d.def_ 59 (d := dHHours) rfl; ⟨_, fd, He.meth_ok (c.t.d.fact 105 (f := .meth "Hall" "hours") rfl), F⟩
  m_HWindow := let ⟨fd, F⟩ := c.t.d.def_ 60 (d := dHWindow) rfl; ⟨_, fd, He.meth_ok (c.t.d.fact 106 (f := .meth "Hall" "window") rfl), F⟩
  m_HBack := let ⟨fd, F⟩ := c.t.d.def_ 61 (d := dHBack) rfl; ⟨_, fd, He.meth_ok (c.t.d.fact 107 (f := .meth "Hall" "back") rfl), F⟩
  m_HDo := let ⟨fd, F⟩ := c.t.d.def_ 62 (d := dHDo) rfl; ⟨_, fd, He.meth_ok (c.t.d.fact 108 (f := .meth "Hall" "do") rfl), F⟩
  m_HGoThrough := let ⟨fd, F⟩ := c.t.d.def_ 63 (d := dHGoThrough) rfl; ⟨_, fd, He.meth_ok (c.t.d.fact 109 (f := .meth "Hall" "go_through") rfl), F⟩
  m_HTried := let ⟨fd, F⟩ := c.t.d.def_ 64 (d := dHTried) rfl; ⟨_, fd, He.meth_ok (c.t.d.fact 110 (f := .meth "Hall" "tried") rfl), F⟩
  m_HWorld := let ⟨fd, F⟩ := c.t.d.def_ 65 (d := dHWorld) rfl; ⟨_, fd, He.meth_ok (c.t.d.fact 111 (f := .meth "Hall" "world") rfl), F⟩
  m_HLen := let ⟨fd, F⟩ := c.t.d.def_ 66 (d := dHLen) rfl; ⟨_, fd, He.meth_ok (c.t.d.fact 112 (f := .meth "Hall" "__len__") rfl), F⟩
  m_HEq := let ⟨fd, F⟩ := c.t.d.def_ 67 (d := dHEq) rfl; ⟨_, fd, He.meth_ok (c.t.d.fact 113 (f := .meth "Hall" "__eq__") rfl), F⟩
  f_LDraws := let ⟨fd, F⟩ := c.t.d.def_ 18 (d := dLDraws) rfl; ⟨_, fd, He.glo_ok X G (c.t.d.fact 20 (f := .glo "_law_draws") rfl), F⟩
  f_LNext := let ⟨fd, F⟩ := c.t.d.def_ 19 (d := dLNext) rfl; ⟨_, fd, He.glo_ok X G (c.t.d.fact 21 (f := .glo "_law_next") rfl), F⟩
  f_LOne := let ⟨fd, F⟩ := c.t.d.def_ 20 (d := dLOne) rfl; ⟨_, fd, He.glo_ok X G (c.t.d.fact 22 (f := .glo "_law_one") rfl), F⟩
  f_LAlike := let ⟨fd, F⟩ := c.t.d.def_ 21 (d := dLAlike) rfl; ⟨_, fd, He.glo_ok X G (c.t.d.fact 23 (f := .glo "_law_alike") rfl), F⟩
  f_LKinds := let ⟨fd, F⟩ := c.t.d.def_ 22 (d := dLKinds) rfl; ⟨_, fd, He.glo_ok X G (c.t.d.fact 24 (f := .glo "_law_kinds") rfl), F⟩
  f_LSource := let ⟨fd, F⟩ := c.t.d.def_ 23 (d := dLSource) rfl; ⟨_, fd, He.glo_ok X G (c.t.d.fact 25 (f := .glo "_law_source") rfl), F⟩
  f_LPart := let ⟨fd, F⟩ := c.t.d.def_ 24 (d := dLPart) rfl; ⟨_, fd, He.glo_ok X G (c.t.d.fact 26 (f := .glo "_law_part") rfl), F⟩
  f_LWay := let ⟨fd, F⟩ := c.t.d.def_ 25 (d := dLWay) rfl; ⟨_, fd, He.glo_ok X G (c.t.d.fact 27 (f := .glo "_law_way") rfl), F⟩
  f_LWorld := let ⟨fd, F⟩ := c.t.d.def_ 26 (d := dLWorld) rfl; ⟨_, fd, He.glo_ok X G (c.t.d.fact 28 (f := .glo "_law_world") rfl), F⟩
  f_LIs := let ⟨fd, F⟩ := c.t.d.def_ 27 (d := dLIs) rfl; ⟨_, fd, He.glo_ok X G (c.t.d.fact 29 (f := .glo "_law_is") rfl), F⟩
  f_LName := let ⟨fd, F⟩ := c.t.d.def_ 28 (d := dLName) rfl; ⟨_, fd, He.glo_ok X G (c.t.d.fact 30 (f := .glo "_law_name") rfl), F⟩
  f_LRowOf := let ⟨fd, F⟩ := c.t.d.def_ 29 (d := dLRowOf) rfl; ⟨_, fd, He.glo_ok X G (c.t.d.fact 31 (f := .glo "_law_row_of") rfl), F⟩
  f_LKindIn := let ⟨fd, F⟩ := c.t.d.def_ 30 (d := dLKindIn) rfl; ⟨_, fd, He.glo_ok X G (c.t.d.fact 32 (f := .glo "_law_kind_in") rfl), F⟩
  f_LRising := let ⟨fd, F⟩ := c.t.d.def_ 31 (d := dLRising) rfl; ⟨_, fd, He.glo_ok X G (c.t.d.fact 33 (f := .glo "_law_rising") rfl), F⟩
  f_LSourceWord := let ⟨fd, F⟩ := c.t.d.def_ 32 (d := dLSourceWord) rfl; ⟨_, fd, He.glo_ok X G (c.t.d.fact 34 (f := .glo "_law_source_word") rfl), F⟩
  f_LPartWord := let ⟨fd, F⟩ := c.t.d.def_ 33 (d := dLPartWord) rfl; ⟨_, fd, He.glo_ok X G (c.t.d.fact 35 (f := .glo "_law_part_word") rfl), F⟩
  f_LWayWord := let ⟨fd, F⟩ := c.t.d.def_ 34 (d := dLWayWord) rfl; ⟨_, fd, He.glo_ok X G (c.t.d.fact 36 (f := .glo "_law_way_word") rfl), F⟩
  f_LWorldWord := let ⟨fd, F⟩ := c.t.d.def_ 35 (d := dLWorldWord) rfl; ⟨_, fd, He.glo_ok X G (c.t.d.fact 37 (f := .glo "_law_world_word") rfl), F⟩
  f_LPut := let ⟨fd, F⟩ := c.t.d.def_ 36 (d := dLPut) rfl; ⟨_, fd, He.glo_ok X G (c.t.d.fact 38 (f := .glo "_law_put") rfl), F⟩
  f_LAfter := let ⟨fd, F⟩ := c.t.d.def_ 37 (d := dLAfter) rfl; ⟨_, fd, He.glo_ok X G (c.t.d.fact 39 (f := .glo "_law_after") rfl), F⟩
  f_LDo := let ⟨fd, F⟩ := c.t.d.def_ 38 (d := dLDo) rfl; ⟨_, fd, He.glo_ok X G (c.t.d.fact 40 (f := .glo "_law_do") rfl), F⟩
  f_LPair := let ⟨fd, F⟩ := c.t.d.def_ 39 (d := dLPair) rfl; ⟨_, fd, He.glo_ok X G (c.t.d.fact 41 (f := .glo "_law_pair") rfl), F⟩
  f_LGoes := let ⟨fd, F⟩ := c.t.d.def_ 40 (d := dLGoes) rfl; ⟨_, fd, He.glo_ok X G (c.t.d.fact 42 (f := .glo "_law_goes") rfl), F⟩
  f_LApart := let ⟨fd, F⟩ := c.t.d.def_ 41 (d := dLApart) rfl; ⟨_, fd, He.glo_ok X G (c.t.d.fact 43 (f := .glo "_law_apart") rfl), F⟩
  f_PLaw := let ⟨fd, F⟩ := c.t.d.def_ 42 (d := dPLaw) rfl; ⟨_, fd, He.glo_ok X G (c.t.d.fact 45 (f := .glo "law") rfl), F⟩
  forms := let ⟨es, n, D⟩ := c.t.tab 0 (t := _) rfl; ⟨_, es, n, D, He.glo_ok X G (c.t.d.fact 19 (f := .glo "FORMS") rfl), fun x v hx => by
    obtain ⟨u, h1, t, h2⟩ := He.valsB_ok (ex_1 c.more) (q := (x, .int v)) (forms_mem hx)
    exact ⟨t, by rw [h1, h2]⟩⟩
  insH := ⟨He.cls_ok (c.t.d.fact 91 (f := .cls "Hall") rfl), (ex_2 c.more).2.1, (ex_2 c.more).2.2.1, (ex_2 c.more).2.2.2.1, (ex_2 c.more).2.2.2.2.1, (ex_2 c.more).2.2.2.2.2⟩
  gHall := He.glo_ok X G (c.t.d.fact 18 (f := .glo "Hall") rfl)
  mroH := (ex_2 c.more).2.2.2.2.1
  neH := (ex_2 c.more).1
end My

set_option Elab.async false
set_option linter.all false
set_option maxRecDepth 100000
set_option maxHeartbeats 4000000
namespace My
open PySem PySem.Spec PyProof.Rows L2 MyH
theorem law_sp {K : PySem.W.Frag} (H : Hp) (a : Addr) (ns : List Int) (hl : ns.length ≤ 63) (hS : SqL K H a (ns.map V.int)) : lift K spPLaw [.ref a] H (fun v _ => v = .bl true) N0 :=
  ⟨[.scr ns], ⟨[], [], H⟩, [], fun d _ => d = .bl true, rfl, .cons (.scr hS fun o _ => .inl ⟨by simp, by simp⟩) .nil, ⟨rfl, List.nodup_nil, fun a h => absurd h (by simp), fun k a o h => by simp at h⟩, ⟨ns, rfl, hl, rfl, fun _ => rfl⟩, fun d M' u c' _ _ r e => by
    have e : d = .bl true := e
    subst e; cases r; rfl⟩
theorem law_facts {P : Program} {w : World} {K : PySem.W.Frag} {h : Heap} {mg : Str → Option Value} {f : Addr} (X : K.In h) (G : h.Ns mainGlobals mg) (hfa : mg ("law" : Str) = some (.ref f)) (c : SaysM fa fn ts ex w K) :
    ∃ fd : FuncData, (∀ (s : Shared) (v : Value), BindsTo s fd ⟨[v], []⟩ [("_law_script", v)]) ∧ ∀ base : Heap, K.In base → base.Ns mainGlobals mg → FnG P w K mg base 12 f fd "_law_script" (lift K spPLaw) := by
  obtain ⟨fd, F⟩ := c.t.d.def_ 42 (d := dPLaw) rfl
  have e := hfa.symm.trans (He.glo_ok X G (c.t.d.fact 45 (f := .glo "law") rfl))
  cases e
  have b := FunD.bindsA (ps := ["_law_script"]) F fun _ _ _ _ _ _ us hl => match us, hl with | [_], _ => rfl
  exact ⟨fd, fun s v => b s [v] rfl, fun base _ _ => w_PLaw (tx_of X G c) F⟩
end My
open PySem PySem.W PySem.Calls PyProof.Rows
set_option maxRecDepth 100000 in
set_option maxHeartbeats 0 in
theorem PySem.Challenge.cw_rightage_k69_whole_whatever_order_holds : PySem.Challenge.rw_rightage_k69_whole_whatever_order.Holds := by
  w_on; o_law
  refine HandSHeadRun.head_any (r := OpenLaw.row PySem.Challenge.rw_rightage_k69_whole_whatever_order) (q := view (OpenLaw.row PySem.Challenge.rw_rightage_k69_whole_whatever_order).prog [131]) (H := MyH.hk) (ob := MyH.ob) (M := 20000) (loose := MyH.loose) (d := HandSHeadRun.topDef (OpenLaw.row PySem.Challenge.rw_rightage_k69_whole_whatever_order).prog 131) (kwd := []) MyH.ob_eq
    (by kernel_rfl) (fun s => by kernel_rfl) MyH.run (by kernel_rfl) (by kernel_rfl) (by kernel_rfl) (by rfl) (by first | assumption | decide +kernel) (by decide +kernel) ⟨rfl, rfl, rfl, rfl, rfl, by decide +kernel⟩ ?hw ?hc
  case hw => w_witness2
  case hc =>
    refine My.walk_ofG (l := PySem.Challenge.rw_rightage_k69_whole_whatever_order) (n := 63) (k := 12) (x := "_law_script") rfl (by decide) (by kernel_rfl) ⟨rfl, by decide, by decide⟩ ?F
    intro w mg fa h Y G hmg0
    obtain ⟨K, KX, c⟩ := Y
    have hmg : mg ("law" : PySem.Str) = some (.ref fa) := by
      have e : (HandSHeadRun.topDef (OpenLaw.row PySem.Challenge.rw_rightage_k69_whole_whatever_order).prog 131).name = ("law" : PySem.Str) := by kernel_rfl
      rw [← e]
      exact hmg0
    obtain ⟨fd, hb, hF⟩ := My.law_facts (P := (PySem.Challenge.rw_rightage_k69_whole_whatever_order).prog) (w := w) KX G hmg c
    exact ⟨K, fd, My.lift K My.spPLaw, KX, hb, fun H a ns hl _ hS => My.law_sp H a ns hl hS, hF⟩
