import PyProof.Rows.All
import Wide.All
import OpenK.AllK
import Wide.FinOn
import KE.KStateDown
import HandS.ForMost
import HandS.Exc
import HandS.Defaults
import HandS.HeadEnd
import HandS.HeadHook1
import HandS.HeadHook2
import HandS.Head2
import HandS.Flow
import HandS.Walk
import HandS.Evl
import HandS.IsInst
import HandS.WordsExc
import HandS.CallSlots
import HandS.Codes
import KE.IntTextLaws
import HandS.Strs
import HandS.ExcInit
import HandS.SetFor
import PyProof.NeKinds
import PyProof.EqKinds
import HandS.ListEq
import KE.GoesRaise
import HandS.SetKeys
import HandS.ReplaceList
import HandS.ReplaceLit
import HandS.Style
import HandS.ExcField
import HandS.ExcIs
import HandS.ExcOwn
import KE.KExcIs
import HandS.Ends
import PyProof.ReprRoads
import PyProof.ReprBulk
import PyProof.Rows.StrJoinMade
import KE.GoesMore
import PySem.Challenge.RW_gatewright_k25_whole_any_text
set_option Elab.async false
set_option linter.all false
set_option maxRecDepth 100000
set_option maxHeartbeats 4000000
namespace Gw
open PySem PySem.Spec PyProof.Rows L2
def topS (i : Nat) : Stmt := PySem.Challenge.pw_gatewright_k25_whole_any_text.main.body.getD i (.Pass ⟨0, 0, 0, 0⟩)
abbrev sBadTextInit : Stmt := inClass (topS 3) 0
abbrev nBadTextInit : List Str := ["self", "line"]
theorem scBadTextInit : FnScope nBadTextInit ["self", "line"] (defScope sBadTextInit) := ⟨rfl, rfl, rfl, by decide +kernel, rfl, by decide +kernel, by decide +kernel⟩
def dBadTextInit : He.DefD := ⟨("BadText", some "__init__"), "__init__", "BadText.__init__", defArgs sBadTextInit, defBody sBadTextInit, defScope sBadTextInit, [], []⟩
abbrev sIsName : Stmt := topS 18
abbrev nIsName : List Str := ["thing", "sign"]
theorem scIsName : FnScope nIsName ["thing"] (defScope sIsName) := ⟨rfl, rfl, rfl, by decide +kernel, rfl, by decide +kernel, by decide +kernel⟩
def dIsName : He.DefD := ⟨("is_name", none), "is_name", "is_name", defArgs sIsName, defBody sIsName, defScope sIsName, [], []⟩
abbrev sFolkInit : Stmt := inClass (topS 19) 0
abbrev nFolkInit : List Str := ["self", "some"]
theorem scFolkInit : FnScope nFolkInit ["self", "some"] (defScope sFolkInit) := ⟨rfl, rfl, rfl, by decide +kernel, rfl, by decide +kernel, by decide +kernel⟩
def dFolkInit : He.DefD := ⟨("Folk", some "__init__"), "__init__", "Folk.__init__", defArgs sFolkInit, defBody sFolkInit, defScope sFolkInit, [], []⟩
abbrev sFolkIsThere : Stmt := inClass (topS 19) 2
abbrev nFolkIsThere : List Str := ["self", "word"]
theorem scFolkIsThere : FnScope nFolkIsThere ["self", "word"] (defScope sFolkIsThere) := ⟨rfl, rfl, rfl, by decide +kernel, rfl, by decide +kernel, by decide +kernel⟩
def dFolkIsThere : He.DefD := ⟨("Folk", some "is_there"), "is_there", "Folk.is_there", defArgs sFolkIsThere, defBody sFolkIsThere, defScope sFolkIsThere, [], []⟩
abbrev sFolkNeedThere : Stmt := inClass (topS 19) 3
abbrev nFolkNeedThere : List Str := ["self", "word"]
theorem scFolkNeedThere : FnScope nFolkNeedThere ["self", "word"] (defScope sFolkNeedThere) := ⟨rfl, rfl, rfl, by decide +kernel, rfl, by decide +kernel, by decide +kernel⟩
def dFolkNeedThere : He.DefD := ⟨("Folk", some "need_there"), "need_there", "Folk.need_there", defArgs sFolkNeedThere, defBody sFolkNeedThere, defScope sFolkNeedThere, [], []⟩
abbrev sFolkReached : Stmt := inClass (topS 19) 4
abbrev nFolkReached : List Str := ["self", "word", "found", "at", "member"]
theorem scFolkReached : FnScope nFolkReached ["self", "word"] (defScope sFolkReached) := ⟨rfl, rfl, rfl, by decide +kernel, rfl, by decide +kernel, by decide +kernel⟩
def dFolkReached : He.DefD := ⟨("Folk", some "reached"), "reached", "Folk.reached", defArgs sFolkReached, defBody sFolkReached, defScope sFolkReached, [], []⟩
abbrev sFolkPut : Stmt := inClass (topS 19) 5
abbrev nFolkPut : List Str := ["self", "group", "member", "own"]
theorem scFolkPut : FnScope nFolkPut ["self", "group", "member"] (defScope sFolkPut) := ⟨rfl, rfl, rfl, by decide +kernel, rfl, by decide +kernel, by decide +kernel⟩
def dFolkPut : He.DefD := ⟨("Folk", some "put"), "put", "Folk.put", defArgs sFolkPut, defBody sFolkPut, defScope sFolkPut, [], []⟩
abbrev sFieldInit : Stmt := inClass (topS 27) 0
abbrev nFieldInit : List Str := ["self", "label", "things"]
theorem scFieldInit : FnScope nFieldInit ["self", "label", "things"] (defScope sFieldInit) := ⟨rfl, rfl, rfl, by decide +kernel, rfl, by decide +kernel, by decide +kernel⟩
def dFieldInit : He.DefD := ⟨("Field", some "__init__"), "__init__", "Field.__init__", defArgs sFieldInit, defBody sFieldInit, defScope sFieldInit, [], []⟩
abbrev sFieldOf : Stmt := topS 35
abbrev nFieldOf : List Str := ["plain", "label", "word", "things"]
theorem scFieldOf : FnScope nFieldOf ["plain"] (defScope sFieldOf) := ⟨rfl, rfl, rfl, by decide +kernel, rfl, by decide +kernel, by decide +kernel⟩
def dFieldOf : He.DefD := ⟨("field_of", none), "field_of", "field_of", defArgs sFieldOf, defBody sFieldOf, defScope sFieldOf, [], []⟩
abbrev sFolkOf : Stmt := topS 37
abbrev nFolkOf : List Str := ["field", "groups", "found", "name", "group", "members", "member"]
theorem scFolkOf : FnScope nFolkOf ["field", "groups"] (defScope sFolkOf) := ⟨rfl, rfl, rfl, by decide +kernel, rfl, by decide +kernel, by decide +kernel⟩
def dFolkOf : He.DefD := ⟨("folk_of", none), "folk_of", "folk_of", defArgs sFolkOf, defBody sFolkOf, defScope sFolkOf, [], []⟩
abbrev sHouseInit : Stmt := inClass (topS 38) 0
abbrev nHouseInit : List Str := ["self", "told", "field"]
theorem scHouseInit : FnScope nHouseInit ["self", "told"] (defScope sHouseInit) := ⟨rfl, rfl, rfl, by decide +kernel, rfl, by decide +kernel, by decide +kernel⟩
def dHouseInit : He.DefD := ⟨("House", some "__init__"), "__init__", "House.__init__", defArgs sHouseInit, defBody sHouseInit, defScope sHouseInit, [], []⟩
abbrev sHousePlain : Stmt := inClass (topS 38) 1
abbrev nHousePlain : List Str := ["self"]
theorem scHousePlain : FnScope nHousePlain ["self"] (defScope sHousePlain) := ⟨rfl, rfl, rfl, by decide +kernel, rfl, by decide +kernel, by decide +kernel⟩
def dHousePlain : He.DefD := ⟨("House", some "plain"), "plain", "House.plain", defArgs sHousePlain, defBody sHousePlain, defScope sHousePlain, [], []⟩
abbrev sHouseOf : Stmt := topS 39
abbrev nHouseOf : List Str := ["told"]
theorem scHouseOf : FnScope nHouseOf ["told"] (defScope sHouseOf) := ⟨rfl, rfl, rfl, by decide +kernel, rfl, by decide +kernel, by decide +kernel⟩
def dHouseOf : He.DefD := ⟨("house_of", none), "house_of", "house_of", defArgs sHouseOf, defBody sHouseOf, defScope sHouseOf, [], []⟩
abbrev sAreAmong : Stmt := topS 55
abbrev nAreAmong : List Str := ["word", "signs", "sign"]
theorem scAreAmong : FnScope nAreAmong ["word", "signs"] (defScope sAreAmong) := ⟨rfl, rfl, rfl, by decide +kernel, rfl, by decide +kernel, by decide +kernel⟩
def dAreAmong : He.DefD := ⟨("are_among", none), "are_among", "are_among", defArgs sAreAmong, defBody sAreAmong, defScope sAreAmong, [], []⟩
abbrev sWholeIn : Stmt := topS 56
abbrev nWholeIn : List Str := ["word"]
theorem scWholeIn : FnScope nWholeIn ["word"] (defScope sWholeIn) := ⟨rfl, rfl, rfl, by decide +kernel, rfl, by decide +kernel, by decide +kernel⟩
def dWholeIn : He.DefD := ⟨("whole_in", none), "whole_in", "whole_in", defArgs sWholeIn, defBody sWholeIn, defScope sWholeIn, [], []⟩
abbrev sIsPath : Stmt := topS 57
abbrev nIsPath : List Str := ["word", "parts", "part"]
theorem scIsPath : FnScope nIsPath ["word"] (defScope sIsPath) := ⟨rfl, rfl, rfl, by decide +kernel, rfl, by decide +kernel, by decide +kernel⟩
def dIsPath : He.DefD := ⟨("is_path", none), "is_path", "is_path", defArgs sIsPath, defBody sIsPath, defScope sIsPath, [], []⟩
abbrev sTimeIn : Stmt := topS 58
abbrev nTimeIn : List Str := ["word", "hours", "mark", "minutes"]
theorem scTimeIn : FnScope nTimeIn ["word"] (defScope sTimeIn) := ⟨rfl, rfl, rfl, by decide +kernel, rfl, by decide +kernel, by decide +kernel⟩
def dTimeIn : He.DefD := ⟨("time_in", none), "time_in", "time_in", defArgs sTimeIn, defBody sTimeIn, defScope sTimeIn, [], []⟩
abbrev sPathAtom : Stmt := topS 59
abbrev nPathAtom : List Str := ["word", "paths", "path"]
theorem scPathAtom : FnScope nPathAtom ["word", "paths"] (defScope sPathAtom) := ⟨rfl, rfl, rfl, by decide +kernel, rfl, by decide +kernel, by decide +kernel⟩
def dPathAtom : He.DefD := ⟨("path_atom", none), "path_atom", "path_atom", defArgs sPathAtom, defBody sPathAtom, defScope sPathAtom, [], []⟩
abbrev sFromAtom : Stmt := topS 60
abbrev nFromAtom : List Str := ["word", "most", "first", "mark", "last", "number", "low", "high"]
theorem scFromAtom : FnScope nFromAtom ["word", "most"] (defScope sFromAtom) := ⟨rfl, rfl, rfl, by decide +kernel, rfl, by decide +kernel, by decide +kernel⟩
def dFromAtom : He.DefD := ⟨("from_atom", none), "from_atom", "from_atom", defArgs sFromAtom, defBody sFromAtom, defScope sFromAtom, [], []⟩
abbrev sFirstAtom : Stmt := topS 61
abbrev nFirstAtom : List Str := ["word", "wide", "bits"]
theorem scFirstAtom : FnScope nFirstAtom ["word", "wide"] (defScope sFirstAtom) := ⟨rfl, rfl, rfl, by decide +kernel, rfl, by decide +kernel, by decide +kernel⟩
def dFirstAtom : He.DefD := ⟨("first_atom", none), "first_atom", "first_atom", defArgs sFirstAtom, defBody sFirstAtom, defScope sFirstAtom, [], []⟩
abbrev sMarksAtom : Stmt := topS 62
abbrev nMarksAtom : List Str := ["word", "marks", "found", "last", "at", "end", "name"]
theorem scMarksAtom : FnScope nMarksAtom ["word", "marks"] (defScope sMarksAtom) := ⟨rfl, rfl, rfl, by decide +kernel, rfl, by decide +kernel, by decide +kernel⟩
def dMarksAtom : He.DefD := ⟨("marks_atom", none), "marks_atom", "marks_atom", defArgs sMarksAtom, defBody sMarksAtom, defScope sMarksAtom, [], []⟩
abbrev sClockAtom : Stmt := topS 63
abbrev nClockAtom : List Str := ["word", "first", "mark", "last", "begin", "end"]
theorem scClockAtom : FnScope nClockAtom ["word"] (defScope sClockAtom) := ⟨rfl, rfl, rfl, by decide +kernel, rfl, by decide +kernel, by decide +kernel⟩
def dClockAtom : He.DefD := ⟨("clock_atom", none), "clock_atom", "clock_atom", defArgs sClockAtom, defBody sClockAtom, defScope sClockAtom, [], []⟩
abbrev sAtomIn : Stmt := topS 64
abbrev nAtomIn : List Str := ["word", "field", "words", "kind", "things"]
theorem scAtomIn : FnScope nAtomIn ["word", "field", "words"] (defScope sAtomIn) := ⟨rfl, rfl, rfl, by decide +kernel, rfl, by decide +kernel, by decide +kernel⟩
def dAtomIn : He.DefD := ⟨("atom_in", none), "atom_in", "atom_in", defArgs sAtomIn, defBody sAtomIn, defScope sAtomIn, [], []⟩
abbrev sReaderInit : Stmt := inClass (topS 65) 0
abbrev nReaderInit : List Str := ["self", "grounds", "crews", "aimed", "is_alone", "limit"]
theorem scReaderInit : FnScope nReaderInit ["self", "grounds", "crews", "aimed", "is_alone", "limit"] (defScope sReaderInit) := ⟨rfl, rfl, rfl, by decide +kernel, rfl, by decide +kernel, by decide +kernel⟩
def dReaderInit : He.DefD := ⟨("Reader", some "__init__"), "__init__", "Reader.__init__", defArgs sReaderInit, defBody sReaderInit, defScope sReaderInit, [], []⟩
abbrev sReaderNeed : Stmt := inClass (topS 65) 1
abbrev nReaderNeed : List Str := ["self", "good"]
theorem scReaderNeed : FnScope nReaderNeed ["self", "good"] (defScope sReaderNeed) := ⟨rfl, rfl, rfl, by decide +kernel, rfl, by decide +kernel, by decide +kernel⟩
def dReaderNeed : He.DefD := ⟨("Reader", some "need"), "need", "Reader.need", defArgs sReaderNeed, defBody sReaderNeed, defScope sReaderNeed, [], []⟩
abbrev sReaderWordsFor : Stmt := inClass (topS 65) 2
abbrev nReaderWordsFor : List Str := ["self", "field", "crew"]
theorem scReaderWordsFor : FnScope nReaderWordsFor ["self", "field"] (defScope sReaderWordsFor) := ⟨rfl, rfl, rfl, by decide +kernel, rfl, by decide +kernel, by decide +kernel⟩
def dReaderWordsFor : He.DefD := ⟨("Reader", some "words_for"), "words_for", "Reader.words_for", defArgs sReaderWordsFor, defBody sReaderWordsFor, defScope sReaderWordsFor, [], []⟩
abbrev sReaderThingsIn : Stmt := inClass (topS 65) 3
abbrev nReaderThingsIn : List Str := ["self", "kind", "words", "number", "word"]
theorem scReaderThingsIn : FnScope nReaderThingsIn ["self", "kind", "words"] (defScope sReaderThingsIn) := ⟨rfl, rfl, rfl, by decide +kernel, rfl, by decide +kernel, by decide +kernel⟩
def dReaderThingsIn : He.DefD := ⟨("Reader", some "things_in"), "things_in", "Reader.things_in", defArgs sReaderThingsIn, defBody sReaderThingsIn, defScope sReaderThingsIn, [], []⟩
abbrev sReaderFieldLine : Stmt := inClass (topS 65) 4
abbrev nReaderFieldLine : List Str := ["self", "words", "field"]
theorem scReaderFieldLine : FnScope nReaderFieldLine ["self", "words"] (defScope sReaderFieldLine) := ⟨rfl, rfl, rfl, by decide +kernel, rfl, by decide +kernel, by decide +kernel⟩
def dReaderFieldLine : He.DefD := ⟨("Reader", some "field_line"), "field_line", "Reader.field_line", defArgs sReaderFieldLine, defBody sReaderFieldLine, defScope sReaderFieldLine, [], []⟩
abbrev sReaderGroupLine : Stmt := inClass (topS 65) 5
abbrev nReaderGroupLine : List Str := ["self", "words", "fields", "known", "members", "field", "member"]
theorem scReaderGroupLine : FnScope nReaderGroupLine ["self", "words"] (defScope sReaderGroupLine) := ⟨rfl, rfl, rfl, by decide +kernel, rfl, by decide +kernel, by decide +kernel⟩
def dReaderGroupLine : He.DefD := ⟨("Reader", some "group_line"), "group_line", "Reader.group_line", defArgs sReaderGroupLine, defBody sReaderGroupLine, defScope sReaderGroupLine, [], []⟩
abbrev sReaderGateLine : Stmt := inClass (topS 65) 6
abbrev nReaderGateLine : List Str := ["self", "words", "door"]
theorem scReaderGateLine : FnScope nReaderGateLine ["self", "words"] (defScope sReaderGateLine) := ⟨rfl, rfl, rfl, by decide +kernel, rfl, by decide +kernel, by decide +kernel⟩
def dReaderGateLine : He.DefD := ⟨("Reader", some "gate_line"), "gate_line", "Reader.gate_line", defArgs sReaderGateLine, defBody sReaderGateLine, defScope sReaderGateLine, [], []⟩
abbrev sReaderRuleLine : Stmt := inClass (topS 65) 7
abbrev nReaderRuleLine : List Str := ["self", "words", "rules", "goal", "rest", "goals", "conditions", "names", "door", "rule", "word", "condition"]
theorem scReaderRuleLine : FnScope nReaderRuleLine ["self", "words"] (defScope sReaderRuleLine) := ⟨rfl, rfl, rfl, by decide +kernel, rfl, by decide +kernel, by decide +kernel⟩
def dReaderRuleLine : He.DefD := ⟨("Reader", some "rule_line"), "rule_line", "Reader.rule_line", defArgs sReaderRuleLine, defBody sReaderRuleLine, defScope sReaderRuleLine, [], []⟩
abbrev sReaderConditionIn : Stmt := inClass (topS 65) 8
abbrev nReaderConditionIn : List Str := ["self", "word", "name", "mark", "rest", "fields", "turned", "texts", "words", "atoms", "field", "text"]
theorem scReaderConditionIn : FnScope nReaderConditionIn ["self", "word"] (defScope sReaderConditionIn) := ⟨rfl, rfl, rfl, by decide +kernel, rfl, by decide +kernel, by decide +kernel⟩
def dReaderConditionIn : He.DefD := ⟨("Reader", some "condition_in"), "condition_in", "Reader.condition_in", defArgs sReaderConditionIn, defBody sReaderConditionIn, defScope sReaderConditionIn, [], []⟩
abbrev sReaderWent : Stmt := inClass (topS 65) 9
abbrev nReaderWent : List Str := ["self", "words"]
theorem scReaderWent : FnScope nReaderWent ["self", "words"] (defScope sReaderWent) := ⟨rfl, rfl, rfl, by decide +kernel, rfl, by decide +kernel, by decide +kernel⟩
def dReaderWent : He.DefD := ⟨("Reader", some "went"), "went", "Reader.went", defArgs sReaderWent, defBody sReaderWent, defScope sReaderWent, [], []⟩
abbrev sReaderWentThrough : Stmt := inClass (topS 65) 10
abbrev nReaderWentThrough : List Str := ["self", "text", "lines", "number", "line", "words", "word"]
theorem scReaderWentThrough : FnScope nReaderWentThrough ["self", "text"] (defScope sReaderWentThrough) := ⟨rfl, rfl, rfl, by decide +kernel, rfl, by decide +kernel, by decide +kernel⟩
def dReaderWentThrough : He.DefD := ⟨("Reader", some "went_through"), "went_through", "Reader.went_through", defArgs sReaderWentThrough, defBody sReaderWentThrough, defScope sReaderWentThrough, [], []⟩
abbrev sReaderGatesRead : Stmt := inClass (topS 65) 11
abbrev nReaderGatesRead : List Str := ["self", "door"]
theorem scReaderGatesRead : FnScope nReaderGatesRead ["self"] (defScope sReaderGatesRead) := ⟨rfl, rfl, rfl, by decide +kernel, rfl, by decide +kernel, by decide +kernel⟩
def dReaderGatesRead : He.DefD := ⟨("Reader", some "gates_read"), "gates_read", "Reader.gates_read", defArgs sReaderGatesRead, defBody sReaderGatesRead, defScope sReaderGatesRead, [], []⟩
abbrev sNeedText : Stmt := topS 66
abbrev nNeedText : List Str := ["text"]
theorem scNeedText : FnScope nNeedText ["text"] (defScope sNeedText) := ⟨rfl, rfl, rfl, by decide +kernel, rfl, by decide +kernel, by decide +kernel⟩
def dNeedText : He.DefD := ⟨("need_text", none), "need_text", "need_text", defArgs sNeedText, defBody sNeedText, defScope sNeedText, [], []⟩
abbrev sRead : Stmt := topS 67
abbrev nRead : List Str := ["text", "reader"]
theorem scRead : FnScope nRead ["text"] (defScope sRead) := ⟨rfl, rfl, rfl, by decide +kernel, rfl, by decide +kernel, by decide +kernel⟩
def dRead : He.DefD := ⟨("read", none), "read", "read", defArgs sRead, defBody sRead, defScope sRead, [], []⟩
abbrev sLawCellAt : Stmt := topS 69
abbrev nLawCellAt : List Str := ["_law_script", "_law_k"]
theorem scLawCellAt : FnScope nLawCellAt ["_law_script", "_law_k"] (defScope sLawCellAt) := ⟨rfl, rfl, rfl, by decide +kernel, rfl, by decide +kernel, by decide +kernel⟩
def dLawCellAt : He.DefD := ⟨("_law_cell_at", none), "_law_cell_at", "_law_cell_at", defArgs sLawCellAt, defBody sLawCellAt, defScope sLawCellAt, [], []⟩
abbrev sLawMixed : Stmt := topS 70
abbrev nLawMixed : List Str := ["_law_cell", "_law_k", "_law_number"]
theorem scLawMixed : FnScope nLawMixed ["_law_cell", "_law_k"] (defScope sLawMixed) := ⟨rfl, rfl, rfl, by decide +kernel, rfl, by decide +kernel, by decide +kernel⟩
def dLawMixed : He.DefD := ⟨("_law_mixed", none), "_law_mixed", "_law_mixed", defArgs sLawMixed, defBody sLawMixed, defScope sLawMixed, [], []⟩
abbrev sLawGreat : Stmt := topS 71
abbrev nLawGreat : List Str := ["_law_cell", "_law_k"]
theorem scLawGreat : FnScope nLawGreat ["_law_cell", "_law_k"] (defScope sLawGreat) := ⟨rfl, rfl, rfl, by decide +kernel, rfl, by decide +kernel, by decide +kernel⟩
def dLawGreat : He.DefD := ⟨("_law_great", none), "_law_great", "_law_great", defArgs sLawGreat, defBody sLawGreat, defScope sLawGreat, [], []⟩
abbrev sLawNames : Stmt := topS 72
abbrev nLawNames : List Str := ["_law_cell", "_law_many", "_law_letters", "_law_row", "_law_at", "_law_long", "_law_step", "_law_found", "_law_k", "_law_sign", "_law_word", "_law_j"]
theorem scLawNames : FnScope nLawNames ["_law_cell", "_law_many"] (defScope sLawNames) := ⟨rfl, rfl, rfl, by decide +kernel, rfl, by decide +kernel, by decide +kernel⟩
def dLawNames : He.DefD := ⟨("_law_names", none), "_law_names", "_law_names", defArgs sLawNames, defBody sLawNames, defScope sLawNames, [], []⟩
abbrev sLawPaths : Stmt := topS 73
abbrev nLawPaths : List Str := ["_law_cell", "_law_many", "_law_names_here", "_law_every", "_law_one", "_law_step", "_law_other", "_law_k"]
theorem scLawPaths : FnScope nLawPaths ["_law_cell", "_law_many"] (defScope sLawPaths) := ⟨rfl, rfl, rfl, by decide +kernel, rfl, by decide +kernel, by decide +kernel⟩
def dLawPaths : He.DefD := ⟨("_law_paths", none), "_law_paths", "_law_paths", defArgs sLawPaths, defBody sLawPaths, defScope sLawPaths, [], []⟩
abbrev sLawField : Stmt := topS 74
abbrev nLawField : List Str := ["_law_cell", "_law_name", "_law_is_small", "_law_kind", "_law_many"]
theorem scLawField : FnScope nLawField ["_law_cell", "_law_name", "_law_is_small"] (defScope sLawField) := ⟨rfl, rfl, rfl, by decide +kernel, rfl, by decide +kernel, by decide +kernel⟩
def dLawField : He.DefD := ⟨("_law_field", none), "_law_field", "_law_field", defArgs sLawField, defBody sLawField, defScope sLawField, [], []⟩
abbrev sLawFields : Stmt := topS 75
abbrev nLawFields : List Str := ["_law_cell", "_law_many", "_law_is_small", "_law_names_here", "_law_k"]
theorem scLawFields : FnScope nLawFields ["_law_cell", "_law_many", "_law_is_small"] (defScope sLawFields) := ⟨rfl, rfl, rfl, by decide +kernel, rfl, by decide +kernel, by decide +kernel⟩
def dLawFields : He.DefD := ⟨("_law_fields", none), "_law_fields", "_law_fields", defArgs sLawFields, defBody sLawFields, defScope sLawFields, [], []⟩
abbrev sLawWords : Stmt := topS 76
abbrev nLawWords : List Str := ["_law_cell", "_law_field_here", "_law_groups", "_law_kind", "_law_things_here", "_law_low", "_law_both", "_law_bits", "_law_some", "_law_k", "_law_mark"]
theorem scLawWords : FnScope nLawWords ["_law_cell", "_law_field_here", "_law_groups"] (defScope sLawWords) := ⟨rfl, rfl, rfl, by decide +kernel, rfl, by decide +kernel, by decide +kernel⟩
def dLawWords : He.DefD := ⟨("_law_words", none), "_law_words", "_law_words", defArgs sLawWords, defBody sLawWords, defScope sLawWords, [], []⟩
abbrev sLawConditionWord : Stmt := topS 77
abbrev nLawConditionWord : List Str := ["_law_cell", "_law_field_here", "_law_groups", "_law_words_here", "_law_many", "_law_some", "_law_k"]
theorem scLawConditionWord : FnScope nLawConditionWord ["_law_cell", "_law_field_here", "_law_groups"] (defScope sLawConditionWord) := ⟨rfl, rfl, rfl, by decide +kernel, rfl, by decide +kernel, by decide +kernel⟩
def dLawConditionWord : He.DefD := ⟨("_law_condition_word", none), "_law_condition_word", "_law_condition_word", defArgs sLawConditionWord, defBody sLawConditionWord, defScope sLawConditionWord, [], []⟩
abbrev sLawRuleLine : Stmt := topS 78
abbrev nLawRuleLine : List Str := ["_law_cell", "_law_fields_here", "_law_groups", "_law_ahead", "_law_words_here", "_law_k", "_law_field_here", "_law_own"]
theorem scLawRuleLine : FnScope nLawRuleLine ["_law_cell", "_law_fields_here", "_law_groups", "_law_ahead"] (defScope sLawRuleLine) := ⟨rfl, rfl, rfl, by decide +kernel, rfl, by decide +kernel, by decide +kernel⟩
def dLawRuleLine : He.DefD := ⟨("_law_rule_line", none), "_law_rule_line", "_law_rule_line", defArgs sLawRuleLine, defBody sLawRuleLine, defScope sLawRuleLine, [], []⟩
abbrev sLawFieldLine : Stmt := topS 79
abbrev nLawFieldLine : List Str := ["_law_field_here", "_law_name", "_law_kind", "_law_things_here", "_law_words_here"]
theorem scLawFieldLine : FnScope nLawFieldLine ["_law_field_here"] (defScope sLawFieldLine) := ⟨rfl, rfl, rfl, by decide +kernel, rfl, by decide +kernel, by decide +kernel⟩
def dLawFieldLine : He.DefD := ⟨("_law_field_line", none), "_law_field_line", "_law_field_line", defArgs sLawFieldLine, defBody sLawFieldLine, defScope sLawFieldLine, [], []⟩
abbrev sLawHeadLines : Stmt := topS 80
abbrev nLawHeadLines : List Str := ["_law_script", "_law_fields_here", "_law_lines", "_law_groups", "_law_field_here", "_law_names_here", "_law_name", "_law_own", "_law_known", "_law_some"]
theorem scLawHeadLines : FnScope nLawHeadLines ["_law_script", "_law_fields_here"] (defScope sLawHeadLines) := ⟨rfl, rfl, rfl, by decide +kernel, rfl, by decide +kernel, by decide +kernel⟩
def dLawHeadLines : He.DefD := ⟨("_law_head_lines", none), "_law_head_lines", "_law_head_lines", defArgs sLawHeadLines, defBody sLawHeadLines, defScope sLawHeadLines, [], []⟩
abbrev sLawHouseText : Stmt := topS 81
abbrev nLawHouseText : List Str := ["_law_script", "_law_head", "_law_fields_here", "_law_lines", "_law_groups", "_law_cell", "_law_names_here", "_law_rows", "_law_k", "_law_one", "_law_place", "_law_passing", "_law_ahead", "_law_name", "_law_order", "_law_row"]
theorem scLawHouseText : FnScope nLawHouseText ["_law_script"] (defScope sLawHouseText) := ⟨rfl, rfl, rfl, by decide +kernel, rfl, by decide +kernel, by decide +kernel⟩
def dLawHouseText : He.DefD := ⟨("_law_house_text", none), "_law_house_text", "_law_house_text", defArgs sLawHouseText, defBody sLawHouseText, defScope sLawHouseText, [], []⟩
abbrev sLawIsName : Stmt := topS 82
abbrev nLawIsName : List Str := ["_law_word", "_law_sign"]
theorem scLawIsName : FnScope nLawIsName ["_law_word"] (defScope sLawIsName) := ⟨rfl, rfl, rfl, by decide +kernel, rfl, by decide +kernel, by decide +kernel⟩
def dLawIsName : He.DefD := ⟨("_law_is_name", none), "_law_is_name", "_law_is_name", defArgs sLawIsName, defBody sLawIsName, defScope sLawIsName, [], []⟩
abbrev sLawWhole : Stmt := topS 83
abbrev nLawWhole : List Str := ["_law_word", "_law_sign"]
theorem scLawWhole : FnScope nLawWhole ["_law_word"] (defScope sLawWhole) := ⟨rfl, rfl, rfl, by decide +kernel, rfl, by decide +kernel, by decide +kernel⟩
def dLawWhole : He.DefD := ⟨("_law_whole", none), "_law_whole", "_law_whole", defArgs sLawWhole, defBody sLawWhole, defScope sLawWhole, [], []⟩
abbrev sLawMinutes : Stmt := topS 84
abbrev nLawMinutes : List Str := ["_law_word", "_law_sign"]
theorem scLawMinutes : FnScope nLawMinutes ["_law_word"] (defScope sLawMinutes) := ⟨rfl, rfl, rfl, by decide +kernel, rfl, by decide +kernel, by decide +kernel⟩
def dLawMinutes : He.DefD := ⟨("_law_minutes", none), "_law_minutes", "_law_minutes", defArgs sLawMinutes, defBody sLawMinutes, defScope sLawMinutes, [], []⟩
abbrev sLawThings : Stmt := topS 85
abbrev nLawThings : List Str := ["_law_kind", "_law_words_here", "_law_number", "_law_low", "_law_high", "_law_most", "_law_word", "_law_steps", "_law_one"]
theorem scLawThings : FnScope nLawThings ["_law_kind", "_law_words_here"] (defScope sLawThings) := ⟨rfl, rfl, rfl, by decide +kernel, rfl, by decide +kernel, by decide +kernel⟩
def dLawThings : He.DefD := ⟨("_law_things", none), "_law_things", "_law_things", defArgs sLawThings, defBody sLawThings, defScope sLawThings, [], []⟩
abbrev sLawEnds : Stmt := topS 86
abbrev nLawEnds : List Str := ["_law_word", "_law_field_here", "_law_ends_here", "_law_found", "_law_known", "_law_end"]
theorem scLawEnds : FnScope nLawEnds ["_law_word", "_law_field_here"] (defScope sLawEnds) := ⟨rfl, rfl, rfl, by decide +kernel, rfl, by decide +kernel, by decide +kernel⟩
def dLawEnds : He.DefD := ⟨("_law_ends", none), "_law_ends", "_law_ends", defArgs sLawEnds, defBody sLawEnds, defScope sLawEnds, [], []⟩
abbrev sLawAtomRead : Stmt := topS 87
abbrev nLawAtomRead : List Str := ["_law_word", "_law_field_here", "_law_known", "_law_kind", "_law_things_here", "_law_bits", "_law_good", "_law_rows", "_law_names_here", "_law_places", "_law_on", "_law_sign", "_law_row", "_law_name", "_law_ends_here"]
theorem scLawAtomRead : FnScope nLawAtomRead ["_law_word", "_law_field_here", "_law_known"] (defScope sLawAtomRead) := ⟨rfl, rfl, rfl, by decide +kernel, rfl, by decide +kernel, by decide +kernel⟩
def dLawAtomRead : He.DefD := ⟨("_law_atom_read", none), "_law_atom_read", "_law_atom_read", defArgs sLawAtomRead, defBody sLawAtomRead, defScope sLawAtomRead, [], []⟩
abbrev sLawConditionRead : Stmt := topS 88
abbrev nLawConditionRead : List Str := ["_law_state", "_law_word", "_law_name", "_law_mark", "_law_rest", "_law_fields_here", "_law_texts", "_law_known", "_law_atoms", "_law_field_here", "_law_group", "_law_text", "_law_atom"]
theorem scLawConditionRead : FnScope nLawConditionRead ["_law_state", "_law_word"] (defScope sLawConditionRead) := ⟨rfl, rfl, rfl, by decide +kernel, rfl, by decide +kernel, by decide +kernel⟩
def dLawConditionRead : He.DefD := ⟨("_law_condition_read", none), "_law_condition_read", "_law_condition_read", defArgs sLawConditionRead, defBody sLawConditionRead, defScope sLawConditionRead, [], []⟩
abbrev sLawRuleRead : Stmt := topS 89
abbrev nLawRuleRead : List Str := ["_law_state", "_law_words_here", "_law_gates", "_law_passing", "_law_ahead", "_law_some", "_law_goal", "_law_gate", "_law_rule", "_law_word", "_law_one"]
theorem scLawRuleRead : FnScope nLawRuleRead ["_law_state", "_law_words_here"] (defScope sLawRuleRead) := ⟨rfl, rfl, rfl, by decide +kernel, rfl, by decide +kernel, by decide +kernel⟩
def dLawRuleRead : He.DefD := ⟨("_law_rule_read", none), "_law_rule_read", "_law_rule_read", defArgs sLawRuleRead, defBody sLawRuleRead, defScope sLawRuleRead, [], []⟩
abbrev sLawLineRead : Stmt := topS 90
abbrev nLawLineRead : List Str := ["_law_state", "_law_words_here", "_law_fields_here", "_law_groups", "_law_gates", "_law_things_here", "_law_taken", "_law_known", "_law_own", "_law_some", "_law_field_here", "_law_group", "_law_word", "_law_gate"]
theorem scLawLineRead : FnScope nLawLineRead ["_law_state", "_law_words_here"] (defScope sLawLineRead) := ⟨rfl, rfl, rfl, by decide +kernel, rfl, by decide +kernel, by decide +kernel⟩
def dLawLineRead : He.DefD := ⟨("_law_line_read", none), "_law_line_read", "_law_line_read", defArgs sLawLineRead, defBody sLawLineRead, defScope sLawLineRead, [], []⟩
abbrev sLawDue : Stmt := topS 91
abbrev nLawDue : List Str := ["_law_text", "_law_state", "_law_lines", "_law_k", "_law_line", "_law_words_here", "_law_gates", "_law_word", "_law_gate"]
theorem scLawDue : FnScope nLawDue ["_law_text"] (defScope sLawDue) := ⟨rfl, rfl, rfl, by decide +kernel, rfl, by decide +kernel, by decide +kernel⟩
def dLawDue : He.DefD := ⟨("_law_due", none), "_law_due", "_law_due", defArgs sLawDue, defBody sLawDue, defScope sLawDue, [], []⟩
abbrev sLawBent : Stmt := topS 92
abbrev nLawBent : List Str := ["_law_lines", "_law_mixed_here", "_law_more", "_law_at", "_law_other", "_law_pool", "_law_words_here", "_law_place", "_law_word", "_law_way", "_law_spot", "_law_sign", "_law_line", "_law_k"]
theorem scLawBent : FnScope nLawBent ["_law_lines", "_law_mixed_here", "_law_more"] (defScope sLawBent) := ⟨rfl, rfl, rfl, by decide +kernel, rfl, by decide +kernel, by decide +kernel⟩
def dLawBent : He.DefD := ⟨("_law_bent", none), "_law_bent", "_law_bent", defArgs sLawBent, defBody sLawBent, defScope sLawBent, [], []⟩
abbrev sLawTold : Stmt := topS 93
abbrev nLawTold : List Str := ["_law_text", "_law_fault", "_law_found", "e", "_law_other"]
theorem scLawTold : FnScope nLawTold ["_law_text"] (defScope sLawTold) := ⟨rfl, rfl, rfl, by decide +kernel, rfl, by decide +kernel, by decide +kernel⟩
def dLawTold : He.DefD := ⟨("_law_told", none), "_law_told", "_law_told", defArgs sLawTold, defBody sLawTold, defScope sLawTold, [], []⟩
abbrev sLaw : Stmt := topS 94
abbrev nLaw : List Str := ["_law_script", "_law_fields_here", "_law_names_here", "_law_lines", "_law_k", "_law_cell", "_law_bent_here", "_law_many", "_law_turn", "_law_more", "_law_due_here", "_law_told_here"]
theorem scLaw : FnScope nLaw ["_law_script"] (defScope sLaw) := ⟨rfl, rfl, rfl, by decide +kernel, rfl, by decide +kernel, by decide +kernel⟩
def dLaw : He.DefD := ⟨("law", none), "law", "law", defArgs sLaw, defBody sLaw, defScope sLaw, [], []⟩
def fnL : List He.DefD := [dBadTextInit, dIsName, dFolkInit, dFolkIsThere, dFolkNeedThere, dFolkReached, dFolkPut, dFieldInit, dFieldOf, dFolkOf, dHouseInit, dHousePlain, dHouseOf, dAreAmong, dWholeIn, dIsPath, dTimeIn, dPathAtom, dFromAtom, dFirstAtom, dMarksAtom, dClockAtom, dAtomIn, dReaderInit, dReaderNeed, dReaderWordsFor, dReaderThingsIn, dReaderFieldLine, dReaderGroupLine, dReaderGateLine, dReaderRuleLine, dReaderConditionIn, dReaderWent, dReaderWentThrough, dReaderGatesRead, dNeedText, dRead, dLawCellAt, dLawMixed, dLawGreat, dLawNames, dLawPaths, dLawField, dLawFields, dLawWords, dLawConditionWord, dLawRuleLine, dLawFieldLine, dLawHeadLines, dLawHouseText, dLawIsName, dLawWhole, dLawMinutes, dLawThings, dLawEnds, dLawAtomRead, dLawConditionRead, dLawRuleRead, dLawLineRead, dLawDue, dLawBent, dLawTold, dLaw]
def faL : List He.Fa := [.glo "is_name",
  .glo "field_of",
  .glo "folk_of",
  .glo "house_of",
  .glo "are_among",
  .glo "whole_in",
  .glo "is_path",
  .glo "time_in",
  .glo "path_atom",
  .glo "from_atom",
  .glo "first_atom",
  .glo "marks_atom",
  .glo "clock_atom",
  .glo "atom_in",
  .glo "need_text",
  .glo "read",
  .glo "_law_cell_at",
  .glo "_law_mixed",
  .glo "_law_great",
  .glo "_law_names",
  .glo "_law_paths",
  .glo "_law_field",
  .glo "_law_fields",
  .glo "_law_words",
  .glo "_law_condition_word",
  .glo "_law_rule_line",
  .glo "_law_field_line",
  .glo "_law_head_lines",
  .glo "_law_house_text",
  .glo "_law_is_name",
  .glo "_law_whole",
  .glo "_law_minutes",
  .glo "_law_things",
  .glo "_law_ends",
  .glo "_law_atom_read",
  .glo "_law_condition_read",
  .glo "_law_rule_read",
  .glo "_law_line_read",
  .glo "_law_due",
  .glo "_law_bent",
  .glo "_law_told",
  .glo "law",
  .glo "GateError",
  .glo "BadText",
  .glo "BadSet",
  .glo "BadValue",
  .glo "BadAsking",
  .glo "NoGate",
  .glo "NoRule",
  .glo "TooMuch",
  .glo "BadWish",
  .glo "NoName",
  .glo "Ring",
  .glo "NoVersion",
  .glo "InUse",
  .glo "Folk",
  .glo "NamesField",
  .glo "TreeField",
  .glo "NumberField",
  .glo "BitsField",
  .glo "MarksField",
  .glo "ClockField",
  .glo "House",
  .glo "Reader",
  .free "isinstance",
  .free "len",
  .free "all",
  .free "list",
  .free "tuple",
  .free "int",
  .free "str",
  .free "range",
  .free "enumerate",
  .free "set",
  .free "max",
  .free "sorted",
  .free "repr",
  .free "ValueError",
  .int "MOST_SIGNS" 8,
  .int "MOST_FIELDS" 4,
  .int "MOST_GROUPS" 9,
  .int "MOST_GATES" 5,
  .int "MOST_RULES" 8,
  .int "MOST_PASSING" 2,
  .int "MOST_THINGS" 9,
  .int "MOST_MARKS" 5,
  .int "MOST_ATOMS" 5,
  .int "MOST_WIDE" 32,
  .int "MOST_PARTS" 3,
  .int "MOST_FIGURES" 13,
  .int "GREATEST" 1000000000000,
  .str "LETTERS" "abcdefghijklmnopqrstuvwxyz",
  .str "FIGURES_reading" "0123456789",
  .glo "ORDERS",
  .cls "Folk",
  .mkr "Folk",
  .cls "NamesField",
  .mkr "NamesField",
  .cls "TreeField",
  .mkr "TreeField",
  .cls "NumberField",
  .mkr "NumberField",
  .cls "BitsField",
  .mkr "BitsField",
  .cls "MarksField",
  .mkr "MarksField",
  .cls "ClockField",
  .mkr "ClockField",
  .cls "House",
  .mkr "House",
  .cls "Reader",
  .mkr "Reader",
  .noat "Folk" "crowd",
  .noat "Folk" "rows",
  .noat "House" "told",
  .noat "House" "ground",
  .noat "House" "crews",
  .noat "Reader" "grounds",
  .noat "Reader" "crews",
  .noat "Reader" "doors",
  .noat "Reader" "aimed",
  .noat "Reader" "is_alone",
  .noat "Reader" "limit",
  .noat "Reader" "row",
  .noat "NamesField" "label",
  .noat "NamesField" "things",
  .noat "TreeField" "label",
  .noat "TreeField" "things",
  .noat "NumberField" "label",
  .noat "NumberField" "things",
  .noat "BitsField" "label",
  .noat "BitsField" "things",
  .noat "MarksField" "label",
  .noat "MarksField" "things",
  .noat "ClockField" "label",
  .noat "ClockField" "things",
  .meth "Folk" "is_there",
  .meth "Folk" "need_there",
  .meth "Folk" "reached",
  .meth "Folk" "put",
  .meth "House" "plain",
  .meth "Reader" "need",
  .meth "Reader" "words_for",
  .meth "Reader" "things_in",
  .meth "Reader" "field_line",
  .meth "Reader" "group_line",
  .meth "Reader" "gate_line",
  .meth "Reader" "rule_line",
  .meth "Reader" "condition_in",
  .meth "Reader" "went",
  .meth "Reader" "went_through",
  .meth "Reader" "gates_read"]
end Gw

set_option maxRecDepth 100000
set_option maxHeartbeats 0
namespace Gw
open PySem PySem.Spec PyProof.Rows L2
/-! ### facts besides He's: the class of the one error that is raised, what isinstance says, the tuple ORDERS -/
def strTail : List Value := [.type "ValueError", .type "Exception", .type "BaseException", .type "object"]
def oexB (K : PySem.W.Frag) (C : Addr) : Bool := match K.lookup C with
  | some ⟨.type "type", _, .cls cd, sl⟩ => (match cd.mro, sl.toList with
    | .ref C' :: bm, [_, _, _, _, some (.builtin n), _] => C' == C && n == "ValueError.__new__" && !cd.hasDel && cd.hasDict && PySem.HandSPX.refsVE bm
    | _, _ => false)
  | _ => false
def fclB (K : PySem.W.Frag) (C : Addr) (m : Str) (id : String) : Bool := match PySem.W.findCls K (.ref C) (.type "type") m with
  | some (.val (.builtin n)) => n == id
  | _ => false
def nokitB (K : PySem.W.Frag) (a b : Str) : Bool := decide (PySem.W.kitOne K (.ref (He.ga K a)) (.ref (He.ga K b)) = some false)
def others : List Str := ["BadSet", "BadValue", "BadAsking", "NoGate", "NoRule", "TooMuch", "BadWish", "NoName", "Ring", "NoVersion", "InUse"]
def exL (K : PySem.W.Frag) : List Bool :=
  [oexB K (He.ga K "BadText"),
   He.eqO (PySem.W.findIn K (.ref (He.ga K "BadText")) "__setattr__") (some (some (.builtin "object.__setattr__"))),
   decide (PySem.W.subIn K (.ref (He.ga K "BadText")) (.type "BaseException") = some true),
   decide (PySem.W.typeIn K (.ref (He.ga K "BadText")) = some (.type "type")),
   PySem.W.keepIn K (.ref (He.ga K "BadText")),
   He.eqO (PySem.W.findIn K (.ref (He.ga K "BadText")) "__init__") (some (some (.ref (He.ma K (He.ga K "BadText") "__init__")))),
   decide (PySem.W.typeIn K (.ref (He.ma K (He.ga K "BadText") "__init__")) = some (.type "function")),
   He.eqO (PySem.W.findIn K (.ref (He.ga K "BadText")) "line") (some none),
   He.eqO (PySem.W.findIn K (.ref (He.ga K "BadText")) "__getattribute__") (some (some (.builtin "BaseException.__getattribute__"))),
   He.eqO (PySem.W.findIn K (.ref (He.ga K "BadText")) "__getattr__") (some none),
   PySem.W.hasDictIn K (He.ga K "BadText"),
   PySem.W.readsIn K (He.ga K "GateError") (.type "type"),
   He.eqO (PySem.W.specialIn K (.ref (He.ga K "GateError")) "__getattribute__") (some (some (.builtin "type.__getattribute__"))),
   fclB K (He.ga K "GateError") "__init__" "ValueError.__init__",
   decide (PySem.W.exmOne K (.ref (He.ga K "BadText")) (.ref (He.ga K "GateError")) = some true),
   others.all (nokitB K "BadText"),
   decide (PySem.W.kitOne K (.ref (He.ga K "BadText")) (.ref (He.ga K "BadText")) = some true),
   decide (PySem.W.kitOne K (.ref (He.ga K "BadText")) (.type "ValueError") = some true),
   decide (PySem.W.kitOne K (.ref (He.ga K "House")) (.ref (He.ga K "House")) = some true),
   He.tupB K "ORDERS" [.str "first", .str "refusals", .str "narrow"],
   ["NamesField", "TreeField", "NumberField", "BitsField", "MarksField", "ClockField"].all fun c => decide (He.ma K (He.ga K c) "__init__" = He.ma K (He.ga K "Field") "__init__"),
   He.eqO (PySem.W.findIn K (.ref (He.ga K "BadText")) "__class__") (some (some (.builtin "object.__class__"))),
   decide (PySem.W.mroIn K (He.ga K "BadText") (.type "object") = some true),
   He.eqO (PySem.W.findIn K (.ref (He.ga K "House")) "__class__") (some (some (.builtin "object.__class__"))),
   decide (PySem.W.mroIn K (He.ga K "House") (.type "object") = some true),
   He.eqO (PySem.W.specialIn K (.builtin "object.__class__") "__get__") (some (some (.builtin "getset_descriptor.__get__"))),
   decide (PySem.W.takesIn K (.builtin "object.__class__") = some true)]
def exB (K : PySem.W.Frag) : Bool := (exL K).all id
/-! ### the Hook -/
/-- what an object of the text leads to: a class to its names, a def to its code, names to their objects -/
def stepM (o : Obj) : List Addr := match o.data with
  | .cls cd => [cd.ns]
  | .func fd => He.refV fd.code
  | .dict es _ => es.toList.flatMap fun e => He.refV e.val
  | _ => []
def growM (g : Addr → Option Obj) (as : List Addr) : List Addr := as.flatMap fun a => match g a with
  | some o => stepM o
  | none => []
def levM (g : Addr → Option Obj) : Nat → List Addr → List Addr
  | 0, as => as
  | n + 1, as => as ++ levM g n (growM g as)
def asM (g : Addr → Option Obj) (n : Nat) : List Addr := levM g n [mainGlobals] ++ [cStatics]
abbrev AlM : Type := He.AlD × Bool
def obsM (n : Nat) (g : Addr → Option Obj) : AlM := (He.obsD faL fnL (He.frG g (asM g n)), exB (He.frG g (asM g n)))
def valM : AlM := (He.valD fnL, true)
structure SaysM (K : PySem.W.Frag) : Prop where
  d : He.SaysD faL fnL K
  ex : exB K = true
def hookM (n : Nat) : PySem.W.Hook where
  α := AlM
  obs := fun s => obsM n s.heap.get?
  val := fun _ => valM
  says := fun _ h => ∃ K : PySem.W.Frag, K.In h ∧ SaysM K
  of := fun _ _ e => ⟨_, He.frG_in, congrArg (fun z : AlM => z.1) e, congrArg (fun z : AlM => z.2) e⟩
  keeps := fun _ _ _ ⟨K, hK, c⟩ k => ⟨K, PySem.W.Frag.In.keeps hK k, c⟩
theorem obsM_eq {n : Nat} {g : Addr → Option Obj} {s : Shared} (h : ∀ a, g a = s.heap.get? a) : obsM n g = (hookM n).obs s := by
  have e : g = s.heap.get? := funext h
  rw [e] <;> rfl
abbrev hk : PySem.W.Hook := hookM 4
def ob (s : PySem.W.SharedT) : AlM := obsM 4 (HandSHeadRun.getT s)
theorem ob_eq (s : PySem.W.SharedT) : ob s = hk.obs s.abs := obsM_eq (HandSHeadRun.getT_eq s)
abbrev RowO : PySem.W.OpenRow := PySem.W.OpenLaw.row PySem.Challenge.rw_gatewright_k25_whole_any_text
def loose0 : List Str := [("_wall" : Str), ("GateError" : Str), ("BadText" : Str), ("BadSet" : Str), ("BadValue" : Str), ("BadAsking" : Str), ("NoGate" : Str), ("NoRule" : Str), ("TooMuch" : Str), ("BadWish" : Str), ("NoName" : Str), ("Ring" : Str), ("NoVersion" : Str), ("InUse" : Str), ("LETTERS" : Str), ("MOST_SIGNS" : Str)]
def loose1 : List Str := [("is_name" : Str), ("Folk" : Str), ("is_whole" : Str), ("is_among" : Str), ("FIGURES_fields" : Str), ("HOUR" : Str), ("LAST_MINUTE" : Str), ("Field" : Str), ("NamesField" : Str), ("TreeField" : Str), ("NumberField" : Str), ("BitsField" : Str), ("MarksField" : Str), ("ClockField" : Str), ("bits_number" : Str), ("field_of" : Str)]
def loose2 : List Str := [("folk_of" : Str), ("House" : Str), ("house_of" : Str), ("MOST_FIELDS" : Str), ("MOST_GROUPS" : Str), ("MOST_GATES" : Str), ("MOST_RULES" : Str), ("MOST_PASSING" : Str), ("MOST_THINGS" : Str), ("MOST_MARKS" : Str), ("MOST_ATOMS" : Str), ("MOST_WIDE" : Str), ("MOST_PARTS" : Str), ("MOST_FIGURES" : Str), ("GREATEST" : Str), ("FIGURES_reading" : Str)]
def loose3 : List Str := [("ORDERS" : Str), ("are_among" : Str), ("whole_in" : Str), ("is_path" : Str), ("time_in" : Str), ("path_atom" : Str), ("from_atom" : Str), ("first_atom" : Str), ("marks_atom" : Str), ("clock_atom" : Str), ("atom_in" : Str), ("Reader" : Str), ("need_text" : Str), ("read" : Str), ("_law_cell_at" : Str), ("_law_mixed" : Str)]
def loose4 : List Str := [("_law_great" : Str), ("_law_names" : Str), ("_law_paths" : Str), ("_law_field" : Str), ("_law_fields" : Str), ("_law_words" : Str), ("_law_condition_word" : Str), ("_law_rule_line" : Str), ("_law_field_line" : Str), ("_law_head_lines" : Str), ("_law_house_text" : Str), ("_law_is_name" : Str), ("_law_whole" : Str), ("_law_minutes" : Str), ("_law_things" : Str), ("_law_ends" : Str)]
def loose5 : List Str := [("_law_atom_read" : Str), ("_law_condition_read" : Str), ("_law_rule_read" : Str), ("_law_line_read" : Str), ("_law_due" : Str), ("_law_bent" : Str), ("_law_told" : Str)]
def looseL : List Str := loose0 ++ loose1 ++ loose2 ++ loose3 ++ loose4 ++ loose5
theorem run (w : World) : HandSHeadRun.RunEq RowO (PySem.W.view RowO.prog [94]) hk ob 20000 looseL w := by
  intro os
  kernel_rfl
end Gw

set_option maxRecDepth 100000
set_option maxHeartbeats 4000000
/-! What an expression, a test, an argument list, a statement, a block of the text lead to, told of the syntax itself: the rule and its reading in one. -/
namespace Gw
open PySem PySem.Spec PyProof.Rows L2 Evl
section
variable {X : Cx}
structure XE (X : Cx) (e : Expr) (σ : L2.St) (H : Hp) (Q : VK) : Prop where
  run : ∀ (pins : List (Addr × Obj)) (s : Shared), Inv X pins σ H s → wpAny (model X.prog X.w) X.A (eval e X.env) (EP X pins σ Q) X.xe s
structure XT (X : Cx) (e : Expr) (σ : L2.St) (H : Hp) (Q : Bool → Hp → Prop) : Prop where
  run : ∀ (pins : List (Addr × Obj)) (s : Shared), Inv X pins σ H s → wpAny (model X.prog X.w) X.A (isTrue e X.env (eval e X.env)) (TP X pins σ Q) X.xe s
structure XA (X : Cx) (es : List Expr) (σ : L2.St) (H : Hp) (Q : List V → Hp → Prop) : Prop where
  run : ∀ (pos : Pos) (pins : List (Addr × Obj)) (s : Shared), Inv X pins σ H s → wpAny (model X.prog X.w) X.A (spliced (backTo pos (starEach es X.env))) (AP X pins σ Q) X.xe s
structure XS (X : Cx) (st : Stmt) (D : Ends) (σ : L2.St) (H : Hp) : Prop where
  run : ∀ (pins : List (Addr × Obj)) (s : Shared), Inv X pins σ H s → wpAny (model X.prog X.w) X.A (exec st X.env) (SP X pins D) X.xe s
structure XB (X : Cx) (sts : List Stmt) (D : Ends) (σ : L2.St) (H : Hp) : Prop where
  run : ∀ (pins : List (Addr × Obj)) (s : Shared), Inv X pins σ H s → wpAny (model X.prog X.w) X.A (execs sts X.env) (SP X pins D) X.xe s
variable {e a b c o : Expr} {es : List Expr} {st : Stmt} {sts rest : List Stmt} {t : TE} {σ : L2.St} {H : Hp} {Q : VK} {D : Ends}
theorem pe_xe : PE X e (XE X e) := ⟨fun pins s _ _ _ I h => h.run pins s I⟩
theorem pt_xt : PT X e (XT X e) := ⟨fun pins s _ _ _ I h => h.run pins s I⟩
theorem pa_xa : PA X es (XA X es) := ⟨fun pos pins s _ _ _ I h => h.run pos pins s I⟩
theorem ps_xs : PS X st (XS X st) := ⟨fun pins s _ _ _ I h => h.run pins s I⟩
theorem pss_xb : PSs X sts (XB X sts) := ⟨fun pins s _ _ _ I h => h.run pins s I⟩
theorem xe_of (h : PE X e t) (q : t σ H Q) : XE X e σ H Q := ⟨fun pins s I => h.run pins s σ H Q I q⟩
theorem xt_of {t : TT} {Q : Bool → Hp → Prop} (h : PT X e t) (q : t σ H Q) : XT X e σ H Q := ⟨fun pins s I => h.run pins s σ H Q I q⟩
theorem xa_of {t : TA} {Q : List V → Hp → Prop} (h : PA X es t) (q : t σ H Q) : XA X es σ H Q := ⟨fun pos pins s I => h.run pos pins s σ H Q I q⟩
theorem xs_of {t : TS} (h : PS X st t) (q : t D σ H) : XS X st D σ H := ⟨fun pins s I => h.run pins s σ H D I q⟩
theorem xb_of {t : TS} (h : PSs X sts t) (q : t D σ H) : XB X sts D σ H := ⟨fun pins s I => h.run pins s σ H D I q⟩
theorem xb_cons (h : XS X st { D with nx := fun σ' H' => XB X rest D σ' H' } σ H) : XB X (st :: rest) D σ H := xb_of (pss_cons ps_xs pss_xb) h
theorem xb_nil (h : D.nx σ H) : XB X [] D σ H := xb_of pss_nil h

/-! ### values, whatever comes to the heap: a value, a list to be read, a list that stands tracked, a new list; tuples likewise; a test; arguments -/
abbrev Vl (X : Cx) (e : Expr) (σ : L2.St) (H : Hp) (v : V) : Prop := Ev (XE X e) σ H v
abbrev Ll (X : Cx) (e : Expr) (σ : L2.St) (H : Hp) (xs : List V) : Prop := EvL (XE X e) σ H xs
abbrev Ul (X : Cx) (e : Expr) (σ : L2.St) (H : Hp) (xs : List V) : Prop := EvU (XE X e) σ H xs
abbrev Bl (X : Cx) (e : Expr) (σ : L2.St) (H : Hp) (b : Bool) : Prop := EvT (XT X e) σ H b
abbrev Al (X : Cx) (es : List Expr) (σ : L2.St) (H : Hp) (vs : List V) : Prop := EvA (XA X es) σ H vs
def Sl (X : Cx) (e : Expr) (σ : L2.St) (H : Hp) (xs : List V) : Prop := ∀ H1, Ex H H1 → ∀ Q : VK, (∀ p H2, Ex H1 H2 → SqL X.K H2 p xs → Q (.ref p) H2) → XE X e σ H1 Q
def Hl (X : Cx) (e : Expr) (σ : L2.St) (H : Hp) (xs : List V) : Prop := ∀ H1, Ex H H1 → ∀ Q : VK, (∀ p H2, Ex H1 H2 → H2 p = some (.lst xs) → Q (.ref p) H2) → XE X e σ H1 Q
def Tu (X : Cx) (e : Expr) (σ : L2.St) (H : Hp) (xs : List V) : Prop := ∀ H1, Ex H H1 → ∀ Q : VK, (∀ p H2, Ex H1 H2 → SqT X.K H2 p xs → Q (.ref p) H2) → XE X e σ H1 Q
variable {H' : Hp} {v w x y z : V} {xs ys : List V} {vs : List V}
theorem vl_of (h : PE X e t) (q : Ev t σ H v) : Vl X e σ H v := fun H1 e1 Q k => xe_of h (q H1 e1 Q k)
theorem ll_of (h : PE X e t) (q : EvL t σ H xs) : Ll X e σ H xs := fun H1 e1 Q k => xe_of h (q H1 e1 Q k)
theorem ul_of (h : PE X e t) (q : EvU t σ H xs) : Ul X e σ H xs := fun H1 e1 Q k => xe_of h (q H1 e1 Q k)
theorem bl_of {t : TT} {b : Bool} (h : PT X e t) (q : EvT t σ H b) : Bl X e σ H b := fun H1 e1 Q k => xt_of h (q H1 e1 Q k)
theorem Sl.mono (e1 : Ex H H') (h : Sl X e σ H xs) : Sl X e σ H' xs := fun H1 a Q q => h H1 (e1.trans a) Q q
theorem Hl.mono (e1 : Ex H H') (h : Hl X e σ H xs) : Hl X e σ H' xs := fun H1 a Q q => h H1 (e1.trans a) Q q
theorem Tu.mono (e1 : Ex H H') (h : Tu X e σ H xs) : Tu X e σ H' xs := fun H1 a Q q => h H1 (e1.trans a) Q q
theorem EvU.mono {te : TE} (e1 : Ex H H') (h : EvU te σ H xs) : EvU te σ H' xs := fun H1 a Q q => h H1 (e1.trans a) Q q
theorem ll_hl (h : Ll X e σ H xs) : Hl X e σ H xs := fun H1 e1 Q k => h H1 e1 Q fun p H2 _ e2 h2 => k p H2 e2 h2
theorem hl_sl (h : Hl X e σ H xs) : Sl X e σ H xs := fun H1 e1 Q k => h H1 e1 Q fun p H2 e2 h2 => k p H2 e2 (sq_of h2)
theorem ll_sl (h : Ll X e σ H xs) : Sl X e σ H xs := hl_sl (ll_hl h)
theorem vl_sl {p : Addr} (h : Vl X e σ H (.ref p)) (hp : SqL X.K H p xs) : Sl X e σ H xs := fun H1 e1 Q k => h H1 e1 Q fun H2 e2 => k p H2 e2 (ex_l (e1.trans e2) hp)
theorem vl_hl {p : Addr} (h : Vl X e σ H (.ref p)) (hp : H p = some (.lst xs)) : Hl X e σ H xs := fun H1 e1 Q k => h H1 e1 Q fun H2 e2 => k p H2 e2 ((e1.trans e2) p _ hp)
theorem vl_tu {p : Addr} (h : Vl X e σ H (.ref p)) (hp : SqT X.K H p xs) : Tu X e σ H xs := fun H1 e1 Q k => h H1 e1 Q fun H2 e2 => k p H2 e2 (ex_t (e1.trans e2) hp)
theorem ul_tu (h : Ul X e σ H xs) : Tu X e σ H xs := fun H1 e1 Q k => h H1 e1 Q fun p H2 _ e2 h2 => k p H2 e2 (st_of h2)
theorem vl_is (h : Vl X e σ H v) (q : v = w) : Vl X e σ H w := q ▸ h
theorem bl_is {b c : Bool} (h : Bl X e σ H b) (q : b = c) : Bl X e σ H c := q ▸ h
theorem ll_is (h : Ll X e σ H xs) (q : xs = ys) : Ll X e σ H ys := q ▸ h
theorem sl_is (h : Sl X e σ H xs) (q : xs = ys) : Sl X e σ H ys := q ▸ h

/-! ### names, constants -/
variable {pos : Pos}
theorem v_v (i : Nat) {n : Str} (hs : σ[i]? = some (some v) := by rfl) (hN : X.N[i]? = some n := by rfl) (hv : Vis X.env.scope n := by first | exact Or.inl rfl | exact Or.inr (Or.inl rfl) | exact Or.inr (Or.inr rfl))
    (hd : (n == ("__debug__" : Str)) = false := by decide) (hcd : (n == ("__classdict__" : Str)) = false := by decide) : Vl X (.Name n pos) σ H v := vl_of (pv i hN hv hd hcd) (ev_var hs)
theorem v_int {i : Int} {j : Nat} : Vl X (.Constant (.int i) j pos) σ H (.int i) := vl_of pe_int ev_c
theorem v_str {i : Str} {j : Nat} : Vl X (.Constant (.str i) j pos) σ H (.str i) := vl_of pe_str ev_c
theorem v_bl {i : Bool} {j : Nat} : Vl X (.Constant (.bool i) j pos) σ H (.bl i) := vl_of pe_bl ev_c
theorem v_non {j : Nat} : Vl X (.Constant .none j pos) σ H .non := vl_of pe_non ev_c
theorem v_g {n : Str} {u : Value} (hm : X.mg n = some u) (r : RelV v u) (hg : Gl X n := by rfl) (hd : (n == ("__debug__" : Str)) = false := by decide) : Vl X (.Name n pos) σ H v := vl_of (pe_glob hg hm r hd) ev_c
theorem v_gi {n : Str} {i : Int} (hm : ∃ t, X.mg n = some (.int i t)) (hg : Gl X n := by rfl) (hd : (n == ("__debug__" : Str)) = false := by decide) : Vl X (.Name n pos) σ H (.int i) := let ⟨_, h⟩ := hm; v_g h ⟨_, rfl⟩ hg hd
theorem v_gs {n : Str} {i : Str} (hm : ∃ t, X.mg n = some (.str i t)) (hg : Gl X n := by rfl) (hd : (n == ("__debug__" : Str)) = false := by decide) : Vl X (.Name n pos) σ H (.str i) := let ⟨_, h⟩ := hm; v_g h ⟨_, rfl⟩ hg hd

/-! ### operators -/
theorem v_op {op : Operator} {r : R2} (ho : OpR X (binaryOp op) r) (ha : Vl X a σ H x) (hb : Vl X b σ H y) (hr : RV r x y H z) : Vl X (.BinOp a op b pos) σ H z := vl_of (pe_op ho pe_xe pe_xe) (ev_op ha hb hr)
theorem v_add {i j : Int} (ha : Vl X a σ H (.int i)) (hb : Vl X b σ H (.int j)) : Vl X (.BinOp a .Add b pos) σ H (.int (i + j)) := v_op op_add ha hb rv_I0
theorem v_sub {i j : Int} (ha : Vl X a σ H (.int i)) (hb : Vl X b σ H (.int j)) : Vl X (.BinOp a .Sub b pos) σ H (.int (i - j)) := v_op op_sub ha hb rv_I0
theorem v_mulR {i j : Int} (ha : Vl X a σ H (.int i)) (hb : Vl X b σ H (.int j)) (h : -(2 ^ 64) < j ∧ j < 2 ^ 64) : Vl X (.BinOp a .Mult b pos) σ H (.int (i * j)) := v_op op_mul ha hb (rv_I (.inr h))
theorem v_mulL {i j : Int} (ha : Vl X a σ H (.int i)) (hb : Vl X b σ H (.int j)) (h : -(2 ^ 64) < i ∧ i < 2 ^ 64) : Vl X (.BinOp a .Mult b pos) σ H (.int (i * j)) := v_op op_mul ha hb (rv_I (.inl h))
theorem v_mod {i j : Int} (ha : Vl X a σ H (.int i)) (hb : Vl X b σ H (.int j)) (h : 0 < j) : Vl X (.BinOp a .Mod b pos) σ H (.int (i % j)) := v_op op_mod ha hb (rv_I h)
theorem v_fdiv {i j : Int} (ha : Vl X a σ H (.int i)) (hb : Vl X b σ H (.int j)) (h : CDiv i j) : Vl X (.BinOp a .FloorDiv b pos) σ H (.int (i / j)) := v_op op_fdiv ha hb (rv_I h)
theorem v_pow {i j : Int} (ha : Vl X a σ H (.int i)) (hb : Vl X b σ H (.int j)) (h : CPow i j) : Vl X (.BinOp a .Pow b pos) σ H (.int (i ^ j.toNat)) := v_op op_pow ha hb (rv_I h)
theorem v_neg {i : Int} (ha : Vl X a σ H (.int i)) : Vl X (.UnaryOp .USub a pos) σ H (.int (-i)) := vl_of (pe_un un_neg pe_xe) (ev_un ha ru_neg)
theorem v_addS {i j : Str} (ha : Vl X a σ H (.str i)) (hb : Vl X b σ H (.str j)) (h : i.length + j.length ≤ sizeLine) : Vl X (.BinOp a .Add b pos) σ H (.str (i ++ j)) :=
  v_op op_add_str ha hb fun H1 _ _ q => ⟨i, j, rfl, rfl, h, q H1 (Ex.refl H1)⟩
/-- xs + ys, both tracked -/
theorem l_cat (ha : Hl X a σ H xs) (hb : Hl X b σ H ys) (h : xs.length + ys.length ≤ 100000) : Ll X (.BinOp a .Add b pos) σ H (xs ++ ys) := fun H1 e1 Q k => xe_of (pe_op op_cat pe_xe pe_xe)
  (ha H1 e1 _ fun p H2 e2 h2 => hb H2 (e1.trans e2) _ fun q H3 e3 h3 => ⟨p, q, xs, ys, rfl, rfl, e3 p _ h2, h3, sz_of h, fun r hr => k r _ (fresh_back (e2.trans e3) hr) ((e2.trans e3).trans (Ex.new hr)) upd_same⟩)
/-- xs * k -/
theorem l_rep {k : Int} (ha : Hl X a σ H xs) (hb : Vl X b σ H (.int k)) (h : 0 ≤ k ∧ k ≤ 1000) (hz : xs.length * k.toNat ≤ 100000) : Ll X (.BinOp a .Mult b pos) σ H (List.replicate k.toNat xs).flatten := fun H1 e1 Q kk => xe_of (pe_op op_rep pe_xe pe_xe)
  (ha H1 e1 _ fun p H2 e2 h2 => hb H2 (e1.trans e2) _ fun H3 e3 => ⟨p, k, xs, rfl, rfl, e3 p _ h2, by omega, by omega, sz_of hz, fun r hr => kk r _ (fresh_back (e2.trans e3) hr) ((e2.trans e3).trans (Ex.new hr)) upd_same⟩)
/-- xs * int(b) of a truth -/
theorem l_rep1 {k : Bool} (ha : Hl X a σ H xs) (hb : Vl X b σ H (.int (if k then 1 else 0))) (hz : xs.length ≤ 100000) : Ll X (.BinOp a .Mult b pos) σ H (if k then xs else []) := by
  refine ll_is (l_rep ha hb (by cases k <;> decide) (by cases k <;> simp <;> omega)) ?_
  cases k <;> simp

/-! ### comparisons, as values and as tests -/
structure Cm (X : Cx) (op : CmpOp) (a b : Expr) (σ : L2.St) (H : Hp) (k : Bool) : Prop where
  v : ∀ pos, Vl X (.Compare a [op] [b] pos) σ H (.bl k)
  t : ∀ pos, Bl X (.Compare a [op] [b] pos) σ H k
structure Cc (X : Cx) (op op' : CmpOp) (a b c : Expr) (σ : L2.St) (H : Hp) (k : Bool) : Prop where
  v : ∀ pos, Vl X (.Compare a [op, op'] [b, c] pos) σ H (.bl k)
  t : ∀ pos, Bl X (.Compare a [op, op'] [b, c] pos) σ H k
theorem vc {op : CmpOp} {k : Bool} (h : Cm X op a b σ H k) : Vl X (.Compare a [op] [b] pos) σ H (.bl k) := h.v pos
theorem bc {op : CmpOp} {k : Bool} (h : Cm X op a b σ H k) : Bl X (.Compare a [op] [b] pos) σ H k := h.t pos
theorem vc2 {op op' : CmpOp} {k : Bool} (h : Cc X op op' a b c σ H k) : Vl X (.Compare a [op, op'] [b, c] pos) σ H (.bl k) := h.v pos
theorem bc2 {op op' : CmpOp} {k : Bool} (h : Cc X op op' a b c σ H k) : Bl X (.Compare a [op, op'] [b, c] pos) σ H k := h.t pos
theorem Cm.is {op : CmpOp} {k l : Bool} (h : Cm X op a b σ H k) (q : k = l) : Cm X op a b σ H l := q ▸ h
theorem cm_of {op : CmpOp} {r : R2} {k : Bool} (ho : OpR X (compareOp op) r) (hm : behindInMarks op b = false) (h : Ev (tOp r (XE X a) (XE X b)) σ H (.bl k)) : Cm X op a b σ H k :=
  ⟨fun _ => vl_of (pe_cmpR ho pe_xe pe_xe hm) h, fun _ => bl_of (pt_cmpR ho pe_xe pe_xe hm) (et_test h)⟩
theorem c_op {op : CmpOp} {r : R2} {k : Bool} (ho : OpR X (compareOp op) r) (hm : behindInMarks op b = false) (ha : Vl X a σ H x) (hb : Vl X b σ H y) (hr : RV r x y H (.bl k)) : Cm X op a b σ H k := cm_of ho hm (ev_op ha hb hr)
section
variable {i j : Int}
theorem c_lt (ha : Vl X a σ H (.int i)) (hb : Vl X b σ H (.int j)) : Cm X .Lt a b σ H (decide (i < j)) := c_op op_lt (nobehind _ (by decide) (by decide)) ha hb rv_I0
theorem c_le (ha : Vl X a σ H (.int i)) (hb : Vl X b σ H (.int j)) : Cm X .LtE a b σ H (decide (i ≤ j)) := c_op op_le (nobehind _ (by decide) (by decide)) ha hb rv_I0
theorem c_gt (ha : Vl X a σ H (.int i)) (hb : Vl X b σ H (.int j)) : Cm X .Gt a b σ H (decide (j < i)) := c_op op_gt (nobehind _ (by decide) (by decide)) ha hb rv_I0
theorem c_ge (ha : Vl X a σ H (.int i)) (hb : Vl X b σ H (.int j)) : Cm X .GtE a b σ H (decide (j ≤ i)) := c_op op_ge (nobehind _ (by decide) (by decide)) ha hb rv_I0
end
theorem c_eq (ha : Vl X a σ H x) (hb : Vl X b σ H y) (h : scal x y = true := by rfl) : Cm X .Eq a b σ H (decide (x = y)) := c_op op_eq (nobehind _ (by decide) (by decide)) ha hb (rv_eq h)
theorem c_ne (ha : Vl X a σ H x) (hb : Vl X b σ H y) (h : scal x y = true := by rfl) : Cm X .NotEq a b σ H (!decide (x = y)) := c_op op_ne (nobehind _ (by decide) (by decide)) ha hb (rv_ne h)
theorem c_isN (ha : Vl X a σ H x) {j : Nat} {p' : Pos} : Cm X .Is a (.Constant .none j p') σ H (decide (x = .non)) := c_op op_isN (nobehind _ (by decide) (by decide)) ha v_non fun H1 _ _ q => ⟨rfl, q H1 (Ex.refl H1)⟩
theorem c_notN (ha : Vl X a σ H x) {j : Nat} {p' : Pos} : Cm X .IsNot a (.Constant .none j p') σ H (!decide (x = .non)) := c_op op_notN (nobehind _ (by decide) (by decide)) ha v_non fun H1 _ _ q => ⟨rfl, q H1 (Ex.refl H1)⟩
theorem c_ltS {i j : Str} (ha : Vl X a σ H (.str i)) (hb : Vl X b σ H (.str j)) : Cm X .Lt a b σ H (decide (i.cps.toList < j.cps.toList)) := c_op op_lt_str (nobehind _ (by decide) (by decide)) ha hb fun H1 _ _ q => ⟨i, j, rfl, rfl, q H1 (Ex.refl H1)⟩
/-- c in z, a sign in a text -/
theorem c_inC {c : Nat} {z : Str} (ha : Vl X a σ H (.str ⟨#[c]⟩)) (hb : Vl X b σ H (.str z)) (hm : behindInMarks .In b = false := by rfl) : Cm X .In a b σ H (decide (c ∈ z.cps.toList)) := c_op op_in_sign hm ha hb fun H1 _ _ q => ⟨c, z, rfl, rfl, q H1 (Ex.refl H1)⟩
theorem c_ninC {c : Nat} {z : Str} (ha : Vl X a σ H (.str ⟨#[c]⟩)) (hb : Vl X b σ H (.str z)) (hm : behindInMarks .NotIn b = false := by rfl) : Cm X .NotIn a b σ H (!decide (c ∈ z.cps.toList)) := c_op op_notIn_sign hm ha hb fun H1 _ _ q => ⟨c, z, rfl, rfl, q H1 (Ex.refl H1)⟩
/-- x in xs, of flat things: a list, a tuple -/
theorem c_inL (ha : Vl X a σ H x) (hb : Sl X b σ H xs) (hx : flatV x = true) (hf : xs.all flatV = true) (hm : behindInMarks .In b = false := by rfl) : Cm X .In a b σ H (inV x xs) := cm_of op_in_seq hm
  fun H1 e1 Q q => ha H1 e1 _ fun H2 e2 => hb H2 (e1.trans e2) _ fun p H3 e3 h3 => ⟨p, xs, rfl, .inl h3, hx, hf, q H3 (e2.trans e3)⟩
theorem c_ninL (ha : Vl X a σ H x) (hb : Sl X b σ H xs) (hx : flatV x = true) (hf : xs.all flatV = true) (hm : behindInMarks .NotIn b = false := by rfl) : Cm X .NotIn a b σ H (!inV x xs) := cm_of op_notIn_seq hm
  fun H1 e1 Q q => ha H1 e1 _ fun H2 e2 => hb H2 (e1.trans e2) _ fun p H3 e3 h3 => ⟨p, xs, rfl, .inl h3, hx, hf, q H3 (e2.trans e3)⟩
theorem c_inT (ha : Vl X a σ H x) (hb : Tu X b σ H xs) (hx : flatV x = true) (hf : xs.all flatV = true) (hm : behindInMarks .In b = false := by rfl) : Cm X .In a b σ H (inV x xs) := cm_of op_in_seq hm
  fun H1 e1 Q q => ha H1 e1 _ fun H2 e2 => hb H2 (e1.trans e2) _ fun p H3 e3 h3 => ⟨p, xs, rfl, .inr h3, hx, hf, q H3 (e2.trans e3)⟩
theorem c_ninT (ha : Vl X a σ H x) (hb : Tu X b σ H xs) (hx : flatV x = true) (hf : xs.all flatV = true) (hm : behindInMarks .NotIn b = false := by rfl) : Cm X .NotIn a b σ H (!inV x xs) := cm_of op_notIn_seq hm
  fun H1 e1 Q q => ha H1 e1 _ fun H2 e2 => hb H2 (e1.trans e2) _ fun p H3 e3 h3 => ⟨p, xs, rfl, .inr h3, hx, hf, q H3 (e2.trans e3)⟩
/-- a < b < c of whole numbers -/
theorem cc_of {op op' : CmpOp} {f g : Int → Int → Bool} {i j k : Int} (ho : OpR X (compareOp op) (rI0 fun i j => .bl (f i j))) (ho' : OpR X (compareOp op') (rI0 fun i j => .bl (g i j))) (ha : Vl X a σ H (.int i)) (hb : Vl X b σ H (.int j)) (hc : Vl X c σ H (.int k)) (hm : lastMarks [op, op'] [b, c] = false) :
    Cc X op op' a b c σ H (f i j && g j k) := by
  have key : Ev (tChain (rI0 fun i j => .bl (f i j)) (rI0 fun i j => .bl (g i j)) (XE X a) (XE X b) (XE X c)) σ H (.bl (f i j && g j k)) := fun H1 e1 Q q => ha H1 e1 _ fun H2 e2 => hb H2 (e1.trans e2) _ fun H3 e3 => ⟨i, j, rfl, rfl, f i j, rfl, by
    cases h : f i j with
    | true =>
      rw [if_pos rfl]
      refine hc H3 ((e1.trans e2).trans e3) _ fun H4 e4 => ⟨j, k, rfl, rfl, ?_⟩
      rw [h] at q
      exact q H4 ((e2.trans e3).trans e4)
    | false =>
      rw [if_neg (by decide)]
      rw [h] at q
      exact q H3 (e2.trans e3)⟩
  exact ⟨fun _ => vl_of (pe_chain ho ho' pe_xe pe_xe pe_xe hm) key, fun _ => bl_of (pt_chain ho ho' pe_xe pe_xe pe_xe hm) (et_test key)⟩
section
variable {i j k : Int}
theorem c_leLe (ha : Vl X a σ H (.int i)) (hb : Vl X b σ H (.int j)) (hc : Vl X c σ H (.int k)) : Cc X .LtE .LtE a b c σ H (decide (i ≤ j) && decide (j ≤ k)) := cc_of op_le op_le ha hb hc (nobehind _ (by decide) (by decide))
theorem c_ltLt (ha : Vl X a σ H (.int i)) (hb : Vl X b σ H (.int j)) (hc : Vl X c σ H (.int k)) : Cc X .Lt .Lt a b c σ H (decide (i < j) && decide (j < k)) := cc_of op_lt op_lt ha hb hc (nobehind _ (by decide) (by decide))
theorem c_ltLe (ha : Vl X a σ H (.int i)) (hb : Vl X b σ H (.int j)) (hc : Vl X c σ H (.int k)) : Cc X .Lt .LtE a b c σ H (decide (i < j) && decide (j ≤ k)) := cc_of op_lt op_le ha hb hc (nobehind _ (by decide) (by decide))
end

/-! ### and, or, not, if as values; tests -/
variable {ra : List Expr}
theorem v_not {k : Bool} (ha : Vl X a σ H (.bl k)) : Vl X (.UnaryOp .Not a pos) σ H (.bl (!k)) := vl_of (pe_not pe_xe) (ev_notV ha)
theorem v_and {j k : Bool} (ha : Vl X a σ H (.bl j)) (hb : j = true → Vl X (.BoolOp .And (b :: ra) pos) σ H (.bl k)) : Vl X (.BoolOp .And (a :: b :: ra) pos) σ H (.bl (j && k)) := vl_of (pe_and pe_xe pe_xe) (ev_andV ha hb)
theorem v_or {j k : Bool} (ha : Vl X a σ H (.bl j)) (hb : j = false → Vl X (.BoolOp .Or (b :: ra) pos) σ H (.bl k)) : Vl X (.BoolOp .Or (a :: b :: ra) pos) σ H (.bl (j || k)) := vl_of (pe_or pe_xe pe_xe) (ev_orV ha hb)
theorem v_one {op : BoolOp} (ha : Vl X a σ H x) : Vl X (.BoolOp op [a] pos) σ H x := vl_of (pe_one pe_xe) ha
theorem v_if {k : Bool} (hc : Bl X c σ H k) (ha : k = true → Vl X a σ H x) (hb : k = false → Vl X b σ H x) : Vl X (.IfExp c a b pos) σ H x := vl_of (pe_ifExp pt_xt pe_xe pe_xe) (ev_if hc ha hb)
theorem ll_if {k : Bool} (hc : Bl X c σ H k) (ha : k = true → Ll X a σ H xs) (hb : k = false → Ll X b σ H xs) : Ll X (.IfExp c a b pos) σ H xs := fun H1 e1 Q q => xe_of (pe_ifExp pt_xt pe_xe pe_xe) (hc H1 e1 _ fun H2 e2 => by
  cases k with
  | true => exact ha rfl H2 (e1.trans e2) Q fun p H3 hp e3 h3 => q p H3 (fresh_back e2 hp) (e2.trans e3) h3
  | false => exact hb rfl H2 (e1.trans e2) Q fun p H3 hp e3 h3 => q p H3 (fresh_back e2 hp) (e2.trans e3) h3)
theorem xe_if {k : Bool} (hc : Bl X c σ H k) (ha : k = true → ∀ H1, Ex H H1 → XE X a σ H1 Q) (hb : k = false → ∀ H1, Ex H H1 → XE X b σ H1 Q) : XE X (.IfExp c a b pos) σ H Q := xe_of (pe_ifExp pt_xt pe_xe pe_xe) (hc H (Ex.refl H) _ fun H2 e2 => by
  cases k with
  | true => exact ha rfl H2 e2
  | false => exact hb rfl H2 e2)
theorem b_v {k : Bool} (h : Vl X e σ H (.bl k)) (he : ∀ whole, isTrue e X.env whole = (do let v ← whole; standAt e.pos; holding [v] (truthy v)) := by intro _; rfl) : Bl X e σ H k := bl_of (pt_val pe_xe he) (et_B h)
theorem b_not {k : Bool} (h : Bl X a σ H k) : Bl X (.UnaryOp .Not a pos) σ H (!k) := bl_of (pt_not pt_xt) (et_not h)
/-- a chain of and, or as a test -/
def XW (X : Cx) (e : Expr) : TT := fun σ H Q => ∀ (whole : Sem Value) (pins : List (Addr × Obj)) (s : Shared), Inv X pins σ H s → wpAny (model X.prog X.w) X.A (isTrue e X.env whole) (TP X pins σ Q) X.xe s
theorem pw_xw : PW X e (XW X e) := ⟨fun wh pins s _ _ _ I h => h wh pins s I⟩
abbrev Wl (X : Cx) (e : Expr) (σ : L2.St) (H : Hp) (b : Bool) : Prop := EvT (XW X e) σ H b
theorem wl_of {t : TT} {b : Bool} (h : PW X e t) (q : EvT t σ H b) : Wl X e σ H b := fun H1 e1 Q k wh pins s I => h.run wh pins s σ H1 Q I (q H1 e1 Q k)
theorem b_w {k : Bool} (h : Wl X e σ H k) : Bl X e σ H k := bl_of (PW.pt pw_xw) h
theorem w_and1 {k : Bool} (h : Bl X a σ H k) : Wl X (.BoolOp .And [a] pos) σ H k := wl_of (pw_and1 pt_xt) h
theorem w_or1 {k : Bool} (h : Bl X a σ H k) : Wl X (.BoolOp .Or [a] pos) σ H k := wl_of (pw_or1 pt_xt) h
theorem w_and {j k : Bool} (h : Bl X a σ H j) (g : j = true → Wl X (.BoolOp .And (b :: ra) pos) σ H k) : Wl X (.BoolOp .And (a :: b :: ra) pos) σ H (j && k) := wl_of (pw_and pt_xt pw_xw) (et_and h g)
theorem w_or {j k : Bool} (h : Bl X a σ H j) (g : j = false → Wl X (.BoolOp .Or (b :: ra) pos) σ H k) : Wl X (.BoolOp .Or (a :: b :: ra) pos) σ H (j || k) := wl_of (pw_or pt_xt pw_xw) (et_or h g)

/-! ### arguments, displays -/
theorem a_nil : Al X [] σ H [] := fun H1 e1 Q k => xa_of pa_nil (ea_nil H1 e1 Q k)
theorem a_cons (ha : Vl X a σ H x) (hr : Al X es σ H vs) (hs : starEach (a :: es) X.env = (false, eval a X.env) :: starEach es X.env := by rfl) : Al X (a :: es) σ H (x :: vs) := fun H1 e1 Q k => xa_of (pa_cons pe_xe pa_xa hs) (ea_cons ha hr H1 e1 Q k)
theorem a_1 (ha : Vl X a σ H x) (hs : starEach [a] X.env = (false, eval a X.env) :: starEach [] X.env := by rfl) : Al X [a] σ H [x] := a_cons ha a_nil hs
theorem l_lst (h : Al X es σ H vs) (hl : vs.length ≤ 100000 := by exact Nat.le_of_ble_eq_true rfl) : Ll X (.List es pos) σ H vs := ll_of (pe_lst pa_xa) (el_lst h hl)
theorem u_tup {x1 : Nat} (h : Al X es σ H vs) (hl : vs.length ≤ 100000 := by exact Nat.le_of_ble_eq_true rfl) : Ul X (.Tuple es x1 pos) σ H vs := ul_of (pe_tup pa_xa) (eu_tup h hl)

/-! ### items, slices -/
theorem v_ixL {i : Int} (ha : Sl X a σ H xs) (hb : Vl X b σ H (.int i)) (h : atI xs i = some v) (hs : PlainIx b := by exact fun _ _ => rfl) : Vl X (.Subscript a b pos) σ H v := vl_of (pe_ix ix_list pe_xe pe_xe hs)
  fun H1 e1 Q q => ha H1 e1 _ fun p H2 e2 h2 => hb H2 (e1.trans e2) _ fun H3 e3 => ⟨p, xs, i, v, rfl, rfl, ex_l e3 h2, h, q H3 (e2.trans e3)⟩
theorem v_ixT {i : Int} (ha : Tu X a σ H xs) (hb : Vl X b σ H (.int i)) (h : atI xs i = some v) (hs : PlainIx b := by exact fun _ _ => rfl) : Vl X (.Subscript a b pos) σ H v := vl_of (pe_ix ix_tup pe_xe pe_xe hs)
  fun H1 e1 Q q => ha H1 e1 _ fun p H2 e2 h2 => hb H2 (e1.trans e2) _ fun H3 e3 => ⟨p, xs, i, v, rfl, rfl, ex_t e3 h2, h, q H3 (e2.trans e3)⟩
theorem v_ixS {i : Int} {z : Str} {c : Nat} (ha : Vl X a σ H (.str z)) (hb : Vl X b σ H (.int i)) (hz : z.length ≤ sizeLine) (h : atI z.cps.toList i = some c) (hs : PlainIx b := by exact fun _ _ => rfl) : Vl X (.Subscript a b pos) σ H (.str ⟨#[c]⟩) := vl_of (pe_ix ix_str pe_xe pe_xe hs)
  fun H1 e1 Q q => ha H1 e1 _ fun H2 e2 => hb H2 (e1.trans e2) _ fun H3 e3 => ⟨z, i, c, rfl, rfl, hz, h, q H3 (e2.trans e3)⟩
def XO (X : Cx) (o : Option Expr) : TO := match o with
  | none => tNoPart
  | some e => tPart (XE X e)
theorem po_xo : ∀ {o : Option Expr}, PO X o (XO X o)
  | none => po_none
  | some _ => po_some pe_xe
abbrev Ol (X : Cx) (o : Option Expr) (σ : L2.St) (H : Hp) (i : Option Int) : Prop := EvO (XO X o) σ H i
theorem o_n : Ol X none σ H none := eo_none
theorem o_s {i : Int} (h : Vl X e σ H (.int i)) : Ol X (some e) σ H (some i) := eo_some h
variable {lo hi : Option Expr} {i j : Option Int} {p2 : Pos}
theorem l_slL (ha : Sl X a σ H xs) (h1 : Ol X lo σ H i) (h2 : Ol X hi σ H j) : Ll X (.Subscript a (.Slice lo hi none p2) pos) σ H (cutV xs i j) := ll_of (pe_slice sl_list pe_xe po_xo po_xo)
  fun H1 e1 Q q => ha H1 e1 _ fun p H2 e2 hp => h1 H2 (e1.trans e2) _ fun H3 e3 => h2 H3 ((e1.trans e2).trans e3) _ fun H4 e4 => ⟨p, xs, rfl, ex_l (e3.trans e4) hp, fun r hr => q r _ (fresh_back ((e2.trans e3).trans e4) hr) (((e2.trans e3).trans e4).trans (Ex.new hr)) upd_same⟩
theorem v_slS {z : Str} (ha : Vl X a σ H (.str z)) (h1 : Ol X lo σ H i) (h2 : Ol X hi σ H j) (hz : z.length ≤ sizeLine) : Vl X (.Subscript a (.Slice lo hi none p2) pos) σ H (.str (cutS z i j)) := vl_of (pe_slice sl_str pe_xe po_xo po_xo)
  fun H1 e1 Q q => ha H1 e1 _ fun H2 e2 => h1 H2 (e1.trans e2) _ fun H3 e3 => h2 H3 ((e1.trans e2).trans e3) _ fun H4 e4 => ⟨z, rfl, hz, q H4 ((e2.trans e3).trans e4)⟩
/-- a tuple's slice that isn't the whole -/
theorem u_slT (ha : Tu X a σ H xs) (h1 : Ol X lo σ H i) (h2 : Ol X hi σ H j) (hn : ¬ (HT.sIx xs.length 0 i = 0 ∧ HT.sIx xs.length xs.length j = xs.length)) : Ul X (.Subscript a (.Slice lo hi none p2) pos) σ H (cutV xs i j) := ul_of (pe_slice sl_tup pe_xe po_xo po_xo)
  fun H1 e1 Q q => ha H1 e1 _ fun p H2 e2 hp => h1 H2 (e1.trans e2) _ fun H3 e3 => h2 H3 ((e1.trans e2).trans e3) _ fun H4 e4 => ⟨p, xs, rfl, ex_t (e3.trans e4) hp, hn, fun r hr => q r _ (fresh_back ((e2.trans e3).trans e4) hr) (((e2.trans e3).trans e4).trans (Ex.new hr)) upd_same⟩
end
end Gw

set_option maxRecDepth 100000
set_option maxHeartbeats 4000000
namespace Gw
open PySem PySem.Spec PyProof.Rows L2 Evl
/-! ### general: a value of which something is told -/
def Er (X : Cx) (e : Expr) (σ : L2.St) (H : Hp) (R : V → Hp → Prop) : Prop := ∀ H1, Ex H H1 → ∀ Q : VK, (∀ y H2, Ex H1 H2 → R y H2 → Q y H2) → XE X e σ H1 Q
section
variable {X : Cx} {e a b c o : Expr} {es : List Expr} {σ : L2.St} {H H' : Hp} {Q : VK} {D : Ends} {v w x y z : V} {xs ys vs : List V} {pos p apos : Pos} {R : V → Hp → Prop}
theorem vl_er (h : Vl X e σ H v) (r : ∀ H', Ex H H' → R v H') : Er X e σ H R := fun H1 e1 Q k => h H1 e1 Q fun H2 e2 => k v H2 e2 (r H2 (e1.trans e2))
theorem er_vl (h : Er X e σ H fun y _ => y = v) : Vl X e σ H v := fun H1 e1 Q k => h H1 e1 Q fun y H2 e2 r => by rw [r]; exact k H2 e2
theorem Er.mono (e1 : Ex H H') (h : Er X e σ H R) : Er X e σ H' R := fun H1 a Q q => h H1 (e1.trans a) Q q

/-! ### built-ins -/
theorem v_lenL (hm : X.mg "len" = none) (h : Sl X e σ H xs) (hg : Gl X "len" := by rfl) (hs : starEach [e] X.env = (false, eval e X.env) :: starEach [] X.env := by rfl) (hpl : (backTo pos (starEach [] X.env)).any (·.1) = false := by rfl) :
    Vl X (.Call (.Name "len" p) [e] [] pos) σ H (.int (xs.length : Int)) := vl_of (pe_callB call_len_seq hg hm boot_len (pa_cons pe_xe pa_nil hs) (by decide) (by decide) hs hpl) fun H1 e1 Q q => h H1 e1 _ fun p H2 e2 h2 => ⟨p, xs, rfl, .inl h2, q H2 e2⟩
theorem v_lenT (hm : X.mg "len" = none) (h : Tu X e σ H xs) (hg : Gl X "len" := by rfl) (hs : starEach [e] X.env = (false, eval e X.env) :: starEach [] X.env := by rfl) (hpl : (backTo pos (starEach [] X.env)).any (·.1) = false := by rfl) :
    Vl X (.Call (.Name "len" p) [e] [] pos) σ H (.int (xs.length : Int)) := vl_of (pe_callB call_len_seq hg hm boot_len (pa_cons pe_xe pa_nil hs) (by decide) (by decide) hs hpl) fun H1 e1 Q q => h H1 e1 _ fun p H2 e2 h2 => ⟨p, xs, rfl, .inr h2, q H2 e2⟩
theorem v_lenS {z : Str} (hm : X.mg "len" = none) (h : Vl X e σ H (.str z)) (hz : z.length ≤ sizeLine) (hg : Gl X "len" := by rfl) (hs : starEach [e] X.env = (false, eval e X.env) :: starEach [] X.env := by rfl) (hpl : (backTo pos (starEach [] X.env)).any (·.1) = false := by rfl) :
    Vl X (.Call (.Name "len" p) [e] [] pos) σ H (.int (z.length : Int)) := vl_of (pe_callB call_len_str hg hm boot_len (pa_cons pe_xe pa_nil hs) (by decide) (by decide) hs hpl) fun H1 e1 Q q => h H1 e1 _ fun H2 e2 => ⟨z, rfl, hz, q H2 e2⟩
theorem v_all {bs : List Bool} (hc : X.calm = true) (hm : X.mg "all" = none) (h : Sl X e σ H (bs.map V.bl)) (hg : Gl X "all" := by rfl) (hs : starEach [e] X.env = (false, eval e X.env) :: starEach [] X.env := by rfl) (hpl : (backTo pos (starEach [] X.env)).any (·.1) = false := by rfl) :
    Vl X (.Call (.Name "all" p) [e] [] pos) σ H (.bl (bs.all id)) := vl_of (pe_callB (cr_all hc) hg hm (by decide +kernel) (pa_cons pe_xe pa_nil hs) (by decide) (by decide) hs hpl) fun H1 e1 Q q => h H1 e1 _ fun p H2 e2 h2 => ⟨p, bs, rfl, h2, q H2 e2⟩
theorem l_list (hm : X.mg "list" = none) (h : Sl X e σ H xs) (hg : Gl X "list" := by rfl) (hs : starEach [e] X.env = (false, eval e X.env) :: starEach [] X.env := by rfl) (hpl : (backTo pos (starEach [] X.env)).any (·.1) = false := by rfl) :
    Ll X (.Call (.Name "list" p) [e] [] pos) σ H xs := ll_of (pe_callTy call_list_of hg hm (by decide +kernel) (pa_cons pe_xe pa_nil hs) (by decide) (by decide) hs hpl) fun H1 e1 Q q => h H1 e1 _ fun p H2 e2 h2 => ⟨p, xs, rfl, .inl h2, fun l hl => q l _ (fresh_back e2 hl) (e2.trans (Ex.new hl)) upd_same⟩
theorem l_listT (hm : X.mg "list" = none) (h : Tu X e σ H xs) (hg : Gl X "list" := by rfl) (hs : starEach [e] X.env = (false, eval e X.env) :: starEach [] X.env := by rfl) (hpl : (backTo pos (starEach [] X.env)).any (·.1) = false := by rfl) :
    Ll X (.Call (.Name "list" p) [e] [] pos) σ H xs := ll_of (pe_callTy call_list_of hg hm (by decide +kernel) (pa_cons pe_xe pa_nil hs) (by decide) (by decide) hs hpl) fun H1 e1 Q q => h H1 e1 _ fun p H2 e2 h2 => ⟨p, xs, rfl, .inr h2, fun l hl => q l _ (fresh_back e2 hl) (e2.trans (Ex.new hl)) upd_same⟩
theorem u_tuple (hm : X.mg "tuple" = none) (h : Sl X e σ H xs) (hg : Gl X "tuple" := by rfl) (hs : starEach [e] X.env = (false, eval e X.env) :: starEach [] X.env := by rfl) (hpl : (backTo pos (starEach [] X.env)).any (·.1) = false := by rfl) :
    Ul X (.Call (.Name "tuple" p) [e] [] pos) σ H xs := ul_of (pe_callTy call_tuple_of hg hm (by decide +kernel) (pa_cons pe_xe pa_nil hs) (by decide) (by decide) hs hpl) fun H1 e1 Q q => h H1 e1 _ fun p H2 e2 h2 => ⟨p, xs, rfl, .inl ⟨h2, fun l hl => q l _ (fresh_back e2 hl) (e2.trans (Ex.new hl)) upd_same⟩⟩
theorem v_intB {k : Bool} (hm : X.mg "int" = none) (h : Vl X e σ H (.bl k)) (hg : Gl X "int" := by rfl) (hs : starEach [e] X.env = (false, eval e X.env) :: starEach [] X.env := by rfl) (hpl : (backTo pos (starEach [] X.env)).any (·.1) = false := by rfl) :
    Vl X (.Call (.Name "int" p) [e] [] pos) σ H (.int (if k then 1 else 0)) := vl_of (pe_callTy call_int1 hg hm (by decide +kernel) (pa_cons pe_xe pa_nil hs) (by decide) (by decide) hs hpl) fun H1 e1 Q q => h H1 e1 _ fun H2 e2 => .inr ⟨k, rfl, q H2 e2⟩
theorem v_intS {z : Str} {n : Int} (hm : X.mg "int" = none) (h : Vl X e σ H (.str z)) (hn : PySem.intText? z = some n) (hz : z.length ≤ 640) (hg : Gl X "int" := by rfl) (hs : starEach [e] X.env = (false, eval e X.env) :: starEach [] X.env := by rfl) (hpl : (backTo pos (starEach [] X.env)).any (·.1) = false := by rfl) :
    Vl X (.Call (.Name "int" p) [e] [] pos) σ H (.int n) := vl_of (pe_callTy call_int_str hg hm (by decide +kernel) (pa_cons pe_xe pa_nil hs) (by decide) (by decide) hs hpl) fun H1 e1 Q q => h H1 e1 _ fun H2 e2 => ⟨z, n, rfl, hn, hz, q H2 e2⟩
theorem v_strI {i : Int} (hm : X.mg "str" = none) (h : Vl X e σ H (.int i)) (hi : i.natAbs.log2 < 1920) (hg : Gl X "str" := by rfl) (hs : starEach [e] X.env = (false, eval e X.env) :: starEach [] X.env := by rfl) (hpl : (backTo pos (starEach [] X.env)).any (·.1) = false := by rfl) :
    Vl X (.Call (.Name "str" p) [e] [] pos) σ H (.str (toString i)) := vl_of (pe_callTy call_str_int hg hm (by decide +kernel) (pa_cons pe_xe pa_nil hs) (by decide) (by decide) hs hpl) fun H1 e1 Q q => h H1 e1 _ fun H2 e2 => ⟨i, rfl, hi, q H2 e2⟩
/-- isinstance(x, T), T a built-in class -/
theorem v_isi {T : Str} {n : String} {t : Value} {k : Bool} {p2 : Pos} (hm : X.mg "isinstance" = none) (h : Vl X e σ H x) (ty : ∀ H', Ex H H' → TyX X.K H' x t) (hT : X.mg T = none) (hb : bootBuiltins T = some (.type n)) (hk : PySem.W.kitOne X.K t (.type n) = some k)
    (hg : Gl X "isinstance" := by rfl) (hg2 : Gl X T := by rfl) (hn : T ≠ "__name__" := by decide) (hd : (T == ("__debug__" : Str)) = false := by decide)
    (hs : starEach [e, .Name T p2] X.env = (false, eval e X.env) :: starEach [.Name T p2] X.env := by rfl) (hs2 : starEach [.Name T p2] X.env = (false, eval (.Name T p2) X.env) :: starEach [] X.env := by rfl)
    (hpl : (backTo pos (starEach [.Name T p2] X.env)).any (·.1) = false := by rfl) :
    Vl X (.Call (.Name "isinstance" p) [e, .Name T p2] [] pos) σ H (.bl k) := vl_of (pe_callB call_isi hg hm (by decide +kernel) (pa_cons pe_xe (pa_cons (pe_bltn (v := .ty n) hg2 hT hb rfl hn hd) pa_nil hs2) hs) (by decide) (by decide) hs hpl)
  fun H1 e1 Q q => h H1 e1 _ fun H2 e2 => ⟨x, .ty n, t, .type n, k, rfl, .ty n, ty H2 (e1.trans e2), hk, q H2 e2⟩

/-! ### methods of texts -/
section
variable {z u : Str} {name : Str} {id : String}
theorem v_m1 {r : Str → Str → V} (slot : Slot "str" name id) (ty : typeOf (.builtin id) = pure (.type "method_descriptor")) (rule : MtR X id (fun x xs H Q => ∃ a b, x = .str a ∧ xs = [.str b] ∧ Q (r a b) H)) (ho : Vl X o σ H (.str z)) (he : Vl X e σ H (.str u))
    (hs : starEach [e] X.env = [(false, eval e X.env)] := by rfl) (hbase : attributeBase o name X.env (eval o X.env) = eval o X.env := by rfl) (hline : (apos.endLine == pos.line) = true := by rfl) :
    Vl X (.Call (.Attribute o name apos) [e] [] pos) σ H (r z u) := vl_of (pe_m1 slot ty rule pe_xe pe_xe hs hbase hline) fun H1 e1 Q q => ho H1 e1 _ fun H2 e2 => ⟨⟨z, rfl⟩, he H2 (e1.trans e2) _ fun H3 e3 => ⟨z, u, rfl, rfl, q H3 (e2.trans e3)⟩⟩
theorem v_startswith (ho : Vl X o σ H (.str z)) (he : Vl X e σ H (.str u)) (hs : starEach [e] X.env = [(false, eval e X.env)] := by rfl) (hbase : attributeBase o "startswith" X.env (eval o X.env) = eval o X.env := by rfl) (hline : (apos.endLine == pos.line) = true := by rfl) :
    Vl X (.Call (.Attribute o "startswith" apos) [e] [] pos) σ H (.bl (Txt.startswith z u)) := v_m1 (r := fun a b => .bl (Txt.startswith a b)) PySem.F.slot_str_startswith PySem.F.type_str_startswith mt_startswith ho he hs hbase hline
theorem v_endswith (ho : Vl X o σ H (.str z)) (he : Vl X e σ H (.str u)) (hs : starEach [e] X.env = [(false, eval e X.env)] := by rfl) (hbase : attributeBase o "endswith" X.env (eval o X.env) = eval o X.env := by rfl) (hline : (apos.endLine == pos.line) = true := by rfl) :
    Vl X (.Call (.Attribute o "endswith" apos) [e] [] pos) σ H (.bl (Txt.endswith z u)) := v_m1 (r := fun a b => .bl (Txt.endswith a b)) PySem.F.slot_str_endswith PySem.F.type_str_endswith mt_endswith ho he hs hbase hline
theorem l_split (ho : Vl X o σ H (.str z)) (he : Vl X e σ H (.str u)) (hu : (u.length == 0) = false) (hz : z.length + 2 ≤ sizeLine) (hs : starEach [e] X.env = [(false, eval e X.env)] := by rfl) (hbase : attributeBase o "split" X.env (eval o X.env) = eval o X.env := by rfl) (hline : (apos.endLine == pos.line) = true := by rfl) :
    Ll X (.Call (.Attribute o "split" apos) [e] [] pos) σ H ((Txt.split z u).map V.str) := ll_of (pe_split pe_xe pe_xe hs hbase hline) fun H1 e1 Q q => ho H1 e1 _ fun H2 e2 => ⟨⟨z, rfl⟩, he H2 (e1.trans e2) _ fun H3 e3 => ⟨z, u, rfl, rfl, hu, hz, fun p hp => q p _ (fresh_back (e2.trans e3) hp) ((e2.trans e3).trans (Ex.new hp)) upd_same⟩⟩
abbrev pParts (z u : Str) : List V := [.str (Txt.partition z u).1, .str (Txt.partition z u).2.1, .str (Txt.partition z u).2.2]
theorem u_partition (ho : Vl X o σ H (.str z)) (he : Vl X e σ H (.str u)) (hu : (u.length == 0) = false) (hz : z.length ≤ sizeLine) (hs : starEach [e] X.env = [(false, eval e X.env)] := by rfl) (hbase : attributeBase o "partition" X.env (eval o X.env) = eval o X.env := by rfl) (hline : (apos.endLine == pos.line) = true := by rfl) :
    Ul X (.Call (.Attribute o "partition" apos) [e] [] pos) σ H (pParts z u) := ul_of (pe_partition pe_xe pe_xe hs hbase hline) fun H1 e1 Q q => ho H1 e1 _ fun H2 e2 => ⟨⟨z, rfl⟩, he H2 (e1.trans e2) _ fun H3 e3 => ⟨z, u, rfl, rfl, hu, hz, fun p hp => q p _ (fresh_back (e2.trans e3) hp) ((e2.trans e3).trans (Ex.new hp)) upd_same⟩⟩
theorem v_join {ts : List Str} (ho : Vl X o σ H (.str z)) (he : Sl X e σ H (ts.map V.str)) (hz : (ts.map (·.length)).sum + ts.length * z.length ≤ 16777216) (hs : starEach [e] X.env = [(false, eval e X.env)] := by rfl) (hbase : attributeBase o "join" X.env (eval o X.env) = eval o X.env := by rfl)
    (hline : (apos.endLine == pos.line) = true := by rfl) : Vl X (.Call (.Attribute o "join" apos) [e] [] pos) σ H (.str (Txt.join z ts)) := vl_of (pe_join pe_xe pe_xe hs hbase hline) fun H1 e1 Q q => ho H1 e1 _ fun H2 e2 => ⟨⟨z, rfl⟩, he H2 (e1.trans e2) _ fun p H3 e3 h3 => ⟨z, p, ts, rfl, rfl, .inl h3, hz, q H3 (e2.trans e3)⟩⟩
end

/-! ### fields, calls -/
/-- a class of the text whose instances' fields fl are read plainly -/
structure CB (K : PySem.W.Frag) (C : Addr) (fl : List Str) : Prop where
  cls : Cls K C
  na : ∀ f ∈ fl, NoAttr K C f
theorem v_fld {C ad dx : Addr} {fl : List Str} {fs : List (Str × V)} {f : Str} (B : CB X.K C fl) (ho : Vl X o σ H (.ref ad)) (ha : H ad = some (.ins C dx fs)) (hf : fs.lookup f = some v) (hm : f ∈ fl := by decide) (hb : attributeBase o f X.env (eval o X.env) = eval o X.env := by rfl) : Vl X (.Attribute o f pos) σ H v :=
  vl_of (pe_fld pe_xe hb) fun H1 e1 Q q => ho H1 e1 _ fun H2 e2 => ⟨ad, C, dx, fs, v, rfl, (e1.trans e2) _ _ ha, B.cls, B.na f hm, hf, q H2 e2⟩
/-- a def of the text that keeps a promise -/
def Gd (P : Program) (w : World) (K : PySem.W.Frag) (mg : Str → Option Value) (base : Heap) (k : Nat) (x : Str) (sp : Sp) : Prop :=
  ∃ (f : Addr) (fd : FuncData) (ps : List Str), mg x = some (.ref f) ∧ PySem.W.keepIn K (.ref f) = true ∧ Binds K fd ps [] ∧ FnOk P w K mg base (L2.CX P w) k f fd ps sp
/-- a method -/
def Me (P : Program) (w : World) (K : PySem.W.Frag) (mg : Str → Option Value) (base : Heap) (k : Nat) (C : Addr) (m : Str) (sp : Sp) : Prop :=
  ∃ (f : Addr) (fd : FuncData) (ps : List Str), Meth K C m f ∧ Binds K fd ps [] ∧ FnOk P w K mg base (L2.CX P w) k f fd ps sp
/-- a class that is called, by its __init__ -/
def Mc (P : Program) (w : World) (K : PySem.W.Frag) (mg : Str → Option Value) (base : Heap) (k : Nat) (x : Str) (C : Addr) (sp : Sp) : Prop :=
  mg x = some (.ref C) ∧ ∃ (f : Addr) (fd : FuncData) (ps : List Str), Mk K C f ∧ Binds K fd ps [] ∧ FnOk P w K mg base (L2.CX P w) k f fd ps sp
abbrev GdX (X : Cx) := Gd X.prog X.w X.K X.mg X.base
abbrev MeX (X : Cx) := Me X.prog X.w X.K X.mg X.base
abbrev McX (X : Cx) := Mc X.prog X.w X.K X.mg X.base
abbrev Ps (X : Cx) (E : XK) : Prop := Passes (L2.CX X.prog X.w) X E
theorem xe_call {k : Nat} {n : Str} {sp : Sp} {E : XK} (G : GdX X k n sp) (hr : Room k X.A) (hx : Ps X E) (h : XA X (a :: es) σ H fun vs H1 => sp vs H1 Q E) (hg : Gl X n := by rfl) (hdb : (n == ("__debug__" : Str)) = false := by decide)
    (hs : starEach (a :: es) X.env = (false, eval a X.env) :: starEach es X.env := by rfl) (hpl : (backTo pos (starEach es X.env)).any (·.1) = false := by rfl) : XE X (.Call (.Name n p) (a :: es) [] pos) σ H Q := by
  obtain ⟨f, fd, ps, hm, hk, hb, F⟩ := G
  refine xe_of (pe_call F hr hg hm hk hb .nil hx pa_xa hdb hs hpl) ?_
  refine ⟨fun pos pins s I => thn (h.run pos pins s I) fun us s1 ⟨ws, H1, I1, r, q⟩ => ⟨ws, H1, I1, r, ?_⟩⟩
  simpa only [List.append_nil] using q
theorem xe_meth {k : Nat} {C ad dx : Addr} {m : Str} {fl : List Str} {fs : List (Str × V)} {sp : Sp} {E : XK} (B : CB X.K C fl) (G : MeX X k C m sp) (hr : Room k X.A) (hx : Ps X E) (ho : Vl X o σ H (.ref ad)) (ha : H ad = some (.ins C dx fs)) (hl : fs.lookup m = none)
    (h : ∀ H1, Ex H H1 → XA X (a :: es) σ H1 fun vs H2 => sp (.ref ad :: vs) H2 Q E) {pl : Sem Bool}
    (hs : starEach (a :: es) X.env = (false, eval a X.env) :: starEach es X.env := by rfl) (hpl : (backTo pos (starEach es X.env)).any (·.1) = false := by rfl)
    (ht : eval (.Call (.Attribute o m apos) (a :: es) [] pos) X.env = (do
      let ov ← eval o X.env
      standAt apos.atName
      let (f, first) ← holding [ov] (getMethod ov m pl)
      callWith pos f first (backTo pos (starEach (a :: es) X.env)) (backToKw pos (keywordEach [] X.env))) := by rfl) : XE X (.Call (.Attribute o m apos) (a :: es) [] pos) σ H Q := by
  obtain ⟨f, fd, ps, hm, hb, F⟩ := G
  refine xe_of (pe_meth (pl := pl) pe_xe B.cls hm F hr hb .nil hx pa_xa hs hpl ht) ?_
  refine ho H (Ex.refl H) _ fun H1 e1 => ⟨ad, dx, fs, rfl, e1 _ _ ha, hl, ?_⟩
  refine ⟨fun pos pins s I => thn ((h H1 e1).run pos pins s I) fun us s1 ⟨ws, H2, I2, r, q⟩ => ⟨ws, H2, I2, r, ?_⟩⟩
  simpa only [List.append_nil] using q
theorem xe_meth0 {k : Nat} {C ad dx : Addr} {m : Str} {fl : List Str} {fs : List (Str × V)} {sp : Sp} {E : XK} (B : CB X.K C fl) (G : MeX X k C m sp) (hr : Room k X.A) (hx : Ps X E) (ho : Vl X o σ H (.ref ad)) (ha : H ad = some (.ins C dx fs)) (hl : fs.lookup m = none)
    (h : ∀ H1, Ex H H1 → sp [.ref ad] H1 Q E) {pl : Sem Bool}
    (ht : eval (.Call (.Attribute o m apos) [] [] pos) X.env = (do
      let ov ← eval o X.env
      standAt apos.atName
      let (f, first) ← holding [ov] (getMethod ov m pl)
      callWith pos f first (backTo pos (starEach [] X.env)) (backToKw pos (keywordEach [] X.env))) := by rfl) : XE X (.Call (.Attribute o m apos) [] [] pos) σ H Q := by
  obtain ⟨f, fd, ps, hm, hb, F⟩ := G
  refine xe_of (pe_meth0 (pl := pl) pe_xe B.cls hm F hr hb .nil hx ht) ?_
  exact ho H (Ex.refl H) _ fun H1 e1 => ⟨ad, dx, fs, rfl, e1 _ _ ha, hl, h H1 e1⟩
theorem xe_make {k : Nat} {C : Addr} {n : Str} {sp : Sp} {E : XK} (G : McX X k n C sp) (hr : Room (k + 1) X.A) (hx : Ps X E)
    (h : XA X (a :: es) σ H fun vs H1 => ∀ x dx, H1 x = none → H1 dx = none → dx ≠ x → sp (.ref x :: vs) (upd (upd H1 dx (.own x)) x (.ins C dx [])) (fun v H2 => v = .non ∧ Q (.ref x) H2) E) (hg : Gl X n := by rfl) (hdb : (n == ("__debug__" : Str)) = false := by decide)
    (hs : starEach (a :: es) X.env = (false, eval a X.env) :: starEach es X.env := by rfl) (hpl : (backTo pos (starEach es X.env)).any (·.1) = false := by rfl) : XE X (.Call (.Name n p) (a :: es) [] pos) σ H Q := by
  obtain ⟨hm, f, fd, ps, M, hb, F⟩ := G
  refine xe_of (pe_make M F hr hg hm hb .nil hx pa_xa hdb hs hpl) ?_
  refine ⟨fun pos pins s I => thn (h.run pos pins s I) fun us s1 ⟨ws, H1, I1, r, q⟩ => ⟨ws, H1, I1, r, ?_⟩⟩
  simpa only [List.append_nil] using q
/-- a call that gives a value, whatever comes to the heap -/
theorem v_call {k : Nat} {n : Str} {sp : Sp} (G : GdX X k n sp) (hr : Room k X.A) (hx : Ps X E0) (h : Al X (a :: es) σ H vs) (hsp : SpV sp vs H z) (hg : Gl X n := by rfl) (hdb : (n == ("__debug__" : Str)) = false := by decide)
    (hs : starEach (a :: es) X.env = (false, eval a X.env) :: starEach es X.env := by rfl) (hpl : (backTo pos (starEach es X.env)).any (·.1) = false := by rfl) : Vl X (.Call (.Name n p) (a :: es) [] pos) σ H z := fun H1 e1 Q q =>
  xe_call G hr hx (h H1 e1 _ fun H2 e2 => hsp H2 (e1.trans e2) Q (fun H3 e3 => q H3 (e2.trans e3)) _) hg hdb hs hpl
end
end Gw

set_option maxRecDepth 100000
set_option maxHeartbeats 4000000
namespace Gw
open PySem PySem.Spec PyProof.Rows L2 Evl
/-- what the top has written: the facts, the module's names -/
structure Tx (K : PySem.W.Frag) (mg : Str → Option Value) : Prop where
  c : SaysM K
  gl : ∀ x, (He.Fa.glo x).ok K = true → mg x = some (.ref (He.ga K x))
  fr : ∀ x, (He.Fa.free x).ok K = true → mg x = none
  it : ∀ x i, (He.Fa.int x i).ok K = true → ∃ t, mg x = some (.int i t)
  st : ∀ x z, (He.Fa.str x z).ok K = true → ∃ t, mg x = some (.str z t)
theorem tx_of {K : PySem.W.Frag} {h : Heap} {mg : Str → Option Value} (X : K.In h) (G : h.Ns mainGlobals mg) (c : SaysM K) : Tx K mg :=
  ⟨c, fun _ e => He.glo_ok X G e, fun _ e => He.free_ok X G e, fun _ _ e => He.int_ok X G e, fun _ _ e => He.str_ok X G e⟩
theorem SaysM.exI {K : PySem.W.Frag} (c : SaysM K) (i : Nat) {b : Bool} (h : (exL K)[i]? = some b := by rfl) : b = true := by
  have e := List.all_eq_true.mp (show (exL K).all id = true from c.ex) b (List.mem_of_getElem? h)
  exact e
section
variable {K : PySem.W.Frag} {mg : Str → Option Value} (T : Tx K mg)
include T
theorem Tx.g_is_name : mg "is_name" = some (.ref (He.ga K "is_name")) := T.gl _ (T.c.d.fact 0 rfl)
theorem Tx.g_field_of : mg "field_of" = some (.ref (He.ga K "field_of")) := T.gl _ (T.c.d.fact 1 rfl)
theorem Tx.g_folk_of : mg "folk_of" = some (.ref (He.ga K "folk_of")) := T.gl _ (T.c.d.fact 2 rfl)
theorem Tx.g_house_of : mg "house_of" = some (.ref (He.ga K "house_of")) := T.gl _ (T.c.d.fact 3 rfl)
theorem Tx.g_are_among : mg "are_among" = some (.ref (He.ga K "are_among")) := T.gl _ (T.c.d.fact 4 rfl)
theorem Tx.g_whole_in : mg "whole_in" = some (.ref (He.ga K "whole_in")) := T.gl _ (T.c.d.fact 5 rfl)
theorem Tx.g_is_path : mg "is_path" = some (.ref (He.ga K "is_path")) := T.gl _ (T.c.d.fact 6 rfl)
theorem Tx.g_time_in : mg "time_in" = some (.ref (He.ga K "time_in")) := T.gl _ (T.c.d.fact 7 rfl)
theorem Tx.g_path_atom : mg "path_atom" = some (.ref (He.ga K "path_atom")) := T.gl _ (T.c.d.fact 8 rfl)
theorem Tx.g_from_atom : mg "from_atom" = some (.ref (He.ga K "from_atom")) := T.gl _ (T.c.d.fact 9 rfl)
theorem Tx.g_first_atom : mg "first_atom" = some (.ref (He.ga K "first_atom")) := T.gl _ (T.c.d.fact 10 rfl)
theorem Tx.g_marks_atom : mg "marks_atom" = some (.ref (He.ga K "marks_atom")) := T.gl _ (T.c.d.fact 11 rfl)
theorem Tx.g_clock_atom : mg "clock_atom" = some (.ref (He.ga K "clock_atom")) := T.gl _ (T.c.d.fact 12 rfl)
theorem Tx.g_atom_in : mg "atom_in" = some (.ref (He.ga K "atom_in")) := T.gl _ (T.c.d.fact 13 rfl)
theorem Tx.g_need_text : mg "need_text" = some (.ref (He.ga K "need_text")) := T.gl _ (T.c.d.fact 14 rfl)
theorem Tx.g_read : mg "read" = some (.ref (He.ga K "read")) := T.gl _ (T.c.d.fact 15 rfl)
theorem Tx.g__law_cell_at : mg "_law_cell_at" = some (.ref (He.ga K "_law_cell_at")) := T.gl _ (T.c.d.fact 16 rfl)
theorem Tx.g__law_mixed : mg "_law_mixed" = some (.ref (He.ga K "_law_mixed")) := T.gl _ (T.c.d.fact 17 rfl)
theorem Tx.g__law_great : mg "_law_great" = some (.ref (He.ga K "_law_great")) := T.gl _ (T.c.d.fact 18 rfl)
theorem Tx.g__law_names : mg "_law_names" = some (.ref (He.ga K "_law_names")) := T.gl _ (T.c.d.fact 19 rfl)
theorem Tx.g__law_paths : mg "_law_paths" = some (.ref (He.ga K "_law_paths")) := T.gl _ (T.c.d.fact 20 rfl)
theorem Tx.g__law_field : mg "_law_field" = some (.ref (He.ga K "_law_field")) := T.gl _ (T.c.d.fact 21 rfl)
theorem Tx.g__law_fields : mg "_law_fields" = some (.ref (He.ga K "_law_fields")) := T.gl _ (T.c.d.fact 22 rfl)
theorem Tx.g__law_words : mg "_law_words" = some (.ref (He.ga K "_law_words")) := T.gl _ (T.c.d.fact 23 rfl)
theorem Tx.g__law_condition_word : mg "_law_condition_word" = some (.ref (He.ga K "_law_condition_word")) := T.gl _ (T.c.d.fact 24 rfl)
theorem Tx.g__law_rule_line : mg "_law_rule_line" = some (.ref (He.ga K "_law_rule_line")) := T.gl _ (T.c.d.fact 25 rfl)
theorem Tx.g__law_field_line : mg "_law_field_line" = some (.ref (He.ga K "_law_field_line")) := T.gl _ (T.c.d.fact 26 rfl)
theorem Tx.g__law_head_lines : mg "_law_head_lines" = some (.ref (He.ga K "_law_head_lines")) := T.gl _ (T.c.d.fact 27 rfl)
theorem Tx.g__law_house_text : mg "_law_house_text" = some (.ref (He.ga K "_law_house_text")) := T.gl _ (T.c.d.fact 28 rfl)
theorem Tx.g__law_is_name : mg "_law_is_name" = some (.ref (He.ga K "_law_is_name")) := T.gl _ (T.c.d.fact 29 rfl)
theorem Tx.g__law_whole : mg "_law_whole" = some (.ref (He.ga K "_law_whole")) := T.gl _ (T.c.d.fact 30 rfl)
theorem Tx.g__law_minutes : mg "_law_minutes" = some (.ref (He.ga K "_law_minutes")) := T.gl _ (T.c.d.fact 31 rfl)
theorem Tx.g__law_things : mg "_law_things" = some (.ref (He.ga K "_law_things")) := T.gl _ (T.c.d.fact 32 rfl)
theorem Tx.g__law_ends : mg "_law_ends" = some (.ref (He.ga K "_law_ends")) := T.gl _ (T.c.d.fact 33 rfl)
theorem Tx.g__law_atom_read : mg "_law_atom_read" = some (.ref (He.ga K "_law_atom_read")) := T.gl _ (T.c.d.fact 34 rfl)
theorem Tx.g__law_condition_read : mg "_law_condition_read" = some (.ref (He.ga K "_law_condition_read")) := T.gl _ (T.c.d.fact 35 rfl)
theorem Tx.g__law_rule_read : mg "_law_rule_read" = some (.ref (He.ga K "_law_rule_read")) := T.gl _ (T.c.d.fact 36 rfl)
theorem Tx.g__law_line_read : mg "_law_line_read" = some (.ref (He.ga K "_law_line_read")) := T.gl _ (T.c.d.fact 37 rfl)
theorem Tx.g__law_due : mg "_law_due" = some (.ref (He.ga K "_law_due")) := T.gl _ (T.c.d.fact 38 rfl)
theorem Tx.g__law_bent : mg "_law_bent" = some (.ref (He.ga K "_law_bent")) := T.gl _ (T.c.d.fact 39 rfl)
theorem Tx.g__law_told : mg "_law_told" = some (.ref (He.ga K "_law_told")) := T.gl _ (T.c.d.fact 40 rfl)
theorem Tx.g_law : mg "law" = some (.ref (He.ga K "law")) := T.gl _ (T.c.d.fact 41 rfl)
theorem Tx.g_GateError : mg "GateError" = some (.ref (He.ga K "GateError")) := T.gl _ (T.c.d.fact 42 rfl)
theorem Tx.g_BadText : mg "BadText" = some (.ref (He.ga K "BadText")) := T.gl _ (T.c.d.fact 43 rfl)
theorem Tx.g_BadSet : mg "BadSet" = some (.ref (He.ga K "BadSet")) := T.gl _ (T.c.d.fact 44 rfl)
theorem Tx.g_BadValue : mg "BadValue" = some (.ref (He.ga K "BadValue")) := T.gl _ (T.c.d.fact 45 rfl)
theorem Tx.g_BadAsking : mg "BadAsking" = some (.ref (He.ga K "BadAsking")) := T.gl _ (T.c.d.fact 46 rfl)
theorem Tx.g_NoGate : mg "NoGate" = some (.ref (He.ga K "NoGate")) := T.gl _ (T.c.d.fact 47 rfl)
theorem Tx.g_NoRule : mg "NoRule" = some (.ref (He.ga K "NoRule")) := T.gl _ (T.c.d.fact 48 rfl)
theorem Tx.g_TooMuch : mg "TooMuch" = some (.ref (He.ga K "TooMuch")) := T.gl _ (T.c.d.fact 49 rfl)
theorem Tx.g_BadWish : mg "BadWish" = some (.ref (He.ga K "BadWish")) := T.gl _ (T.c.d.fact 50 rfl)
theorem Tx.g_NoName : mg "NoName" = some (.ref (He.ga K "NoName")) := T.gl _ (T.c.d.fact 51 rfl)
theorem Tx.g_Ring : mg "Ring" = some (.ref (He.ga K "Ring")) := T.gl _ (T.c.d.fact 52 rfl)
theorem Tx.g_NoVersion : mg "NoVersion" = some (.ref (He.ga K "NoVersion")) := T.gl _ (T.c.d.fact 53 rfl)
theorem Tx.g_InUse : mg "InUse" = some (.ref (He.ga K "InUse")) := T.gl _ (T.c.d.fact 54 rfl)
theorem Tx.g_Folk : mg "Folk" = some (.ref (He.ga K "Folk")) := T.gl _ (T.c.d.fact 55 rfl)
theorem Tx.g_NamesField : mg "NamesField" = some (.ref (He.ga K "NamesField")) := T.gl _ (T.c.d.fact 56 rfl)
theorem Tx.g_TreeField : mg "TreeField" = some (.ref (He.ga K "TreeField")) := T.gl _ (T.c.d.fact 57 rfl)
theorem Tx.g_NumberField : mg "NumberField" = some (.ref (He.ga K "NumberField")) := T.gl _ (T.c.d.fact 58 rfl)
theorem Tx.g_BitsField : mg "BitsField" = some (.ref (He.ga K "BitsField")) := T.gl _ (T.c.d.fact 59 rfl)
theorem Tx.g_MarksField : mg "MarksField" = some (.ref (He.ga K "MarksField")) := T.gl _ (T.c.d.fact 60 rfl)
theorem Tx.g_ClockField : mg "ClockField" = some (.ref (He.ga K "ClockField")) := T.gl _ (T.c.d.fact 61 rfl)
theorem Tx.g_House : mg "House" = some (.ref (He.ga K "House")) := T.gl _ (T.c.d.fact 62 rfl)
theorem Tx.g_Reader : mg "Reader" = some (.ref (He.ga K "Reader")) := T.gl _ (T.c.d.fact 63 rfl)
theorem Tx.f_isinstance : mg "isinstance" = none := T.fr _ (T.c.d.fact 64 rfl)
theorem Tx.f_len : mg "len" = none := T.fr _ (T.c.d.fact 65 rfl)
theorem Tx.f_all : mg "all" = none := T.fr _ (T.c.d.fact 66 rfl)
theorem Tx.f_list : mg "list" = none := T.fr _ (T.c.d.fact 67 rfl)
theorem Tx.f_tuple : mg "tuple" = none := T.fr _ (T.c.d.fact 68 rfl)
theorem Tx.f_int : mg "int" = none := T.fr _ (T.c.d.fact 69 rfl)
theorem Tx.f_str : mg "str" = none := T.fr _ (T.c.d.fact 70 rfl)
theorem Tx.f_range : mg "range" = none := T.fr _ (T.c.d.fact 71 rfl)
theorem Tx.f_enumerate : mg "enumerate" = none := T.fr _ (T.c.d.fact 72 rfl)
theorem Tx.f_set : mg "set" = none := T.fr _ (T.c.d.fact 73 rfl)
theorem Tx.f_max : mg "max" = none := T.fr _ (T.c.d.fact 74 rfl)
theorem Tx.f_sorted : mg "sorted" = none := T.fr _ (T.c.d.fact 75 rfl)
theorem Tx.f_repr : mg "repr" = none := T.fr _ (T.c.d.fact 76 rfl)
theorem Tx.f_ValueError : mg "ValueError" = none := T.fr _ (T.c.d.fact 77 rfl)
theorem Tx.i_MOST_SIGNS : ∃ t, mg "MOST_SIGNS" = some (.int 8 t) := T.it _ _ (T.c.d.fact 78 rfl)
theorem Tx.i_MOST_FIELDS : ∃ t, mg "MOST_FIELDS" = some (.int 4 t) := T.it _ _ (T.c.d.fact 79 rfl)
theorem Tx.i_MOST_GROUPS : ∃ t, mg "MOST_GROUPS" = some (.int 9 t) := T.it _ _ (T.c.d.fact 80 rfl)
theorem Tx.i_MOST_GATES : ∃ t, mg "MOST_GATES" = some (.int 5 t) := T.it _ _ (T.c.d.fact 81 rfl)
theorem Tx.i_MOST_RULES : ∃ t, mg "MOST_RULES" = some (.int 8 t) := T.it _ _ (T.c.d.fact 82 rfl)
theorem Tx.i_MOST_PASSING : ∃ t, mg "MOST_PASSING" = some (.int 2 t) := T.it _ _ (T.c.d.fact 83 rfl)
theorem Tx.i_MOST_THINGS : ∃ t, mg "MOST_THINGS" = some (.int 9 t) := T.it _ _ (T.c.d.fact 84 rfl)
theorem Tx.i_MOST_MARKS : ∃ t, mg "MOST_MARKS" = some (.int 5 t) := T.it _ _ (T.c.d.fact 85 rfl)
theorem Tx.i_MOST_ATOMS : ∃ t, mg "MOST_ATOMS" = some (.int 5 t) := T.it _ _ (T.c.d.fact 86 rfl)
theorem Tx.i_MOST_WIDE : ∃ t, mg "MOST_WIDE" = some (.int 32 t) := T.it _ _ (T.c.d.fact 87 rfl)
theorem Tx.i_MOST_PARTS : ∃ t, mg "MOST_PARTS" = some (.int 3 t) := T.it _ _ (T.c.d.fact 88 rfl)
theorem Tx.i_MOST_FIGURES : ∃ t, mg "MOST_FIGURES" = some (.int 13 t) := T.it _ _ (T.c.d.fact 89 rfl)
theorem Tx.i_GREATEST : ∃ t, mg "GREATEST" = some (.int 1000000000000 t) := T.it _ _ (T.c.d.fact 90 rfl)
theorem Tx.s_LETTERS : ∃ t, mg "LETTERS" = some (.str "abcdefghijklmnopqrstuvwxyz" t) := T.st _ _ (T.c.d.fact 91 rfl)
theorem Tx.s_FIGURES_reading : ∃ t, mg "FIGURES_reading" = some (.str "0123456789" t) := T.st _ _ (T.c.d.fact 92 rfl)
theorem Tx.g_ORDERS : mg "ORDERS" = some (.ref (He.ga K "ORDERS")) := T.gl _ (T.c.d.fact 93 rfl)
abbrev flFolk : List Str := ["crowd", "rows"]
theorem Tx.cb_Folk : CB K (He.ga K "Folk") flFolk := by
  refine ⟨He.cls_ok (T.c.d.fact 94 rfl), fun f hf => ?_⟩
  simp only [List.mem_cons, List.not_mem_nil, or_false] at hf
  rcases hf with rfl | rfl
  · exact He.noat_ok (T.c.d.fact 112 rfl)
  · exact He.noat_ok (T.c.d.fact 113 rfl)
theorem Tx.mk_Folk : Mk K (He.ga K "Folk") (He.ma K (He.ga K "Folk") "__init__") := He.mkr_ok (T.c.d.fact 95 rfl)
abbrev flNamesField : List Str := ["label", "things"]
theorem Tx.cb_NamesField : CB K (He.ga K "NamesField") flNamesField := by
  refine ⟨He.cls_ok (T.c.d.fact 96 rfl), fun f hf => ?_⟩
  simp only [List.mem_cons, List.not_mem_nil, or_false] at hf
  rcases hf with rfl | rfl
  · exact He.noat_ok (T.c.d.fact 124 rfl)
  · exact He.noat_ok (T.c.d.fact 125 rfl)
theorem Tx.mk_NamesField : Mk K (He.ga K "NamesField") (He.ma K (He.ga K "NamesField") "__init__") := He.mkr_ok (T.c.d.fact 97 rfl)
abbrev flTreeField : List Str := ["label", "things"]
theorem Tx.cb_TreeField : CB K (He.ga K "TreeField") flTreeField := by
  refine ⟨He.cls_ok (T.c.d.fact 98 rfl), fun f hf => ?_⟩
  simp only [List.mem_cons, List.not_mem_nil, or_false] at hf
  rcases hf with rfl | rfl
  · exact He.noat_ok (T.c.d.fact 126 rfl)
  · exact He.noat_ok (T.c.d.fact 127 rfl)
theorem Tx.mk_TreeField : Mk K (He.ga K "TreeField") (He.ma K (He.ga K "TreeField") "__init__") := He.mkr_ok (T.c.d.fact 99 rfl)
abbrev flNumberField : List Str := ["label", "things"]
theorem Tx.cb_NumberField : CB K (He.ga K "NumberField") flNumberField := by
  refine ⟨He.cls_ok (T.c.d.fact 100 rfl), fun f hf => ?_⟩
  simp only [List.mem_cons, List.not_mem_nil, or_false] at hf
  rcases hf with rfl | rfl
  · exact He.noat_ok (T.c.d.fact 128 rfl)
  · exact He.noat_ok (T.c.d.fact 129 rfl)
theorem Tx.mk_NumberField : Mk K (He.ga K "NumberField") (He.ma K (He.ga K "NumberField") "__init__") := He.mkr_ok (T.c.d.fact 101 rfl)
abbrev flBitsField : List Str := ["label", "things"]
theorem Tx.cb_BitsField : CB K (He.ga K "BitsField") flBitsField := by
  refine ⟨He.cls_ok (T.c.d.fact 102 rfl), fun f hf => ?_⟩
  simp only [List.mem_cons, List.not_mem_nil, or_false] at hf
  rcases hf with rfl | rfl
  · exact He.noat_ok (T.c.d.fact 130 rfl)
  · exact He.noat_ok (T.c.d.fact 131 rfl)
theorem Tx.mk_BitsField : Mk K (He.ga K "BitsField") (He.ma K (He.ga K "BitsField") "__init__") := He.mkr_ok (T.c.d.fact 103 rfl)
abbrev flMarksField : List Str := ["label", "things"]
theorem Tx.cb_MarksField : CB K (He.ga K "MarksField") flMarksField := by
  refine ⟨He.cls_ok (T.c.d.fact 104 rfl), fun f hf => ?_⟩
  simp only [List.mem_cons, List.not_mem_nil, or_false] at hf
  rcases hf with rfl | rfl
  · exact He.noat_ok (T.c.d.fact 132 rfl)
  · exact He.noat_ok (T.c.d.fact 133 rfl)
theorem Tx.mk_MarksField : Mk K (He.ga K "MarksField") (He.ma K (He.ga K "MarksField") "__init__") := He.mkr_ok (T.c.d.fact 105 rfl)
abbrev flClockField : List Str := ["label", "things"]
theorem Tx.cb_ClockField : CB K (He.ga K "ClockField") flClockField := by
  refine ⟨He.cls_ok (T.c.d.fact 106 rfl), fun f hf => ?_⟩
  simp only [List.mem_cons, List.not_mem_nil, or_false] at hf
  rcases hf with rfl | rfl
  · exact He.noat_ok (T.c.d.fact 134 rfl)
  · exact He.noat_ok (T.c.d.fact 135 rfl)
theorem Tx.mk_ClockField : Mk K (He.ga K "ClockField") (He.ma K (He.ga K "ClockField") "__init__") := He.mkr_ok (T.c.d.fact 107 rfl)
abbrev flHouse : List Str := ["told", "ground", "crews"]
theorem Tx.cb_House : CB K (He.ga K "House") flHouse := by
  refine ⟨He.cls_ok (T.c.d.fact 108 rfl), fun f hf => ?_⟩
  simp only [List.mem_cons, List.not_mem_nil, or_false] at hf
  rcases hf with rfl | rfl | rfl
  · exact He.noat_ok (T.c.d.fact 114 rfl)
  · exact He.noat_ok (T.c.d.fact 115 rfl)
  · exact He.noat_ok (T.c.d.fact 116 rfl)
theorem Tx.mk_House : Mk K (He.ga K "House") (He.ma K (He.ga K "House") "__init__") := He.mkr_ok (T.c.d.fact 109 rfl)
abbrev flReader : List Str := ["grounds", "crews", "doors", "aimed", "is_alone", "limit", "row"]
theorem Tx.cb_Reader : CB K (He.ga K "Reader") flReader := by
  refine ⟨He.cls_ok (T.c.d.fact 110 rfl), fun f hf => ?_⟩
  simp only [List.mem_cons, List.not_mem_nil, or_false] at hf
  rcases hf with rfl | rfl | rfl | rfl | rfl | rfl | rfl
  · exact He.noat_ok (T.c.d.fact 117 rfl)
  · exact He.noat_ok (T.c.d.fact 118 rfl)
  · exact He.noat_ok (T.c.d.fact 119 rfl)
  · exact He.noat_ok (T.c.d.fact 120 rfl)
  · exact He.noat_ok (T.c.d.fact 121 rfl)
  · exact He.noat_ok (T.c.d.fact 122 rfl)
  · exact He.noat_ok (T.c.d.fact 123 rfl)
theorem Tx.mk_Reader : Mk K (He.ga K "Reader") (He.ma K (He.ga K "Reader") "__init__") := He.mkr_ok (T.c.d.fact 111 rfl)
theorem Tx.m_Folk_is_there : Meth K (He.ga K "Folk") "is_there" (He.ma K (He.ga K "Folk") "is_there") := He.meth_ok (T.c.d.fact 136 rfl)
theorem Tx.m_Folk_need_there : Meth K (He.ga K "Folk") "need_there" (He.ma K (He.ga K "Folk") "need_there") := He.meth_ok (T.c.d.fact 137 rfl)
theorem Tx.m_Folk_reached : Meth K (He.ga K "Folk") "reached" (He.ma K (He.ga K "Folk") "reached") := He.meth_ok (T.c.d.fact 138 rfl)
theorem Tx.m_Folk_put : Meth K (He.ga K "Folk") "put" (He.ma K (He.ga K "Folk") "put") := He.meth_ok (T.c.d.fact 139 rfl)
theorem Tx.m_House_plain : Meth K (He.ga K "House") "plain" (He.ma K (He.ga K "House") "plain") := He.meth_ok (T.c.d.fact 140 rfl)
theorem Tx.m_Reader_need : Meth K (He.ga K "Reader") "need" (He.ma K (He.ga K "Reader") "need") := He.meth_ok (T.c.d.fact 141 rfl)
theorem Tx.m_Reader_words_for : Meth K (He.ga K "Reader") "words_for" (He.ma K (He.ga K "Reader") "words_for") := He.meth_ok (T.c.d.fact 142 rfl)
theorem Tx.m_Reader_things_in : Meth K (He.ga K "Reader") "things_in" (He.ma K (He.ga K "Reader") "things_in") := He.meth_ok (T.c.d.fact 143 rfl)
theorem Tx.m_Reader_field_line : Meth K (He.ga K "Reader") "field_line" (He.ma K (He.ga K "Reader") "field_line") := He.meth_ok (T.c.d.fact 144 rfl)
theorem Tx.m_Reader_group_line : Meth K (He.ga K "Reader") "group_line" (He.ma K (He.ga K "Reader") "group_line") := He.meth_ok (T.c.d.fact 145 rfl)
theorem Tx.m_Reader_gate_line : Meth K (He.ga K "Reader") "gate_line" (He.ma K (He.ga K "Reader") "gate_line") := He.meth_ok (T.c.d.fact 146 rfl)
theorem Tx.m_Reader_rule_line : Meth K (He.ga K "Reader") "rule_line" (He.ma K (He.ga K "Reader") "rule_line") := He.meth_ok (T.c.d.fact 147 rfl)
theorem Tx.m_Reader_condition_in : Meth K (He.ga K "Reader") "condition_in" (He.ma K (He.ga K "Reader") "condition_in") := He.meth_ok (T.c.d.fact 148 rfl)
theorem Tx.m_Reader_went : Meth K (He.ga K "Reader") "went" (He.ma K (He.ga K "Reader") "went") := He.meth_ok (T.c.d.fact 149 rfl)
theorem Tx.m_Reader_went_through : Meth K (He.ga K "Reader") "went_through" (He.ma K (He.ga K "Reader") "went_through") := He.meth_ok (T.c.d.fact 150 rfl)
theorem Tx.m_Reader_gates_read : Meth K (He.ga K "Reader") "gates_read" (He.ma K (He.ga K "Reader") "gates_read") := He.meth_ok (T.c.d.fact 151 rfl)
end
/-! ### a def of the text keeps a promise by its body -/
section
variable {P : Program} {w : World} {K : PySem.W.Frag} {mg : Str → Option Value} {base : Heap} {x : Str} {sp : Sp} {N ps : List Str} {k : Nat}
abbrev Cxd (d : He.DefD) (P : Program) (w : World) (K : PySem.W.Frag) (mg : Str → Option Value) (base : Heap) (N : List Str) (f : Addr) (cdv : Value) (A : Around) (outer : List Env) (s : Shared) (H : Hp) (E : XK) : Cx :=
  cxOf (L2.CX P w) P w K mg base N d.qual d.scope f cdv A outer s H E
def BodyOk (d : He.DefD) (P : Program) (w : World) (K : PySem.W.Frag) (mg : Str → Option Value) (base : Heap) (N : List Str) (k : Nat) (sp : Sp) : Prop :=
  ∀ (f : Addr) (cdv : Value) (A : Around) (outer : List Env) (s : Shared) (H : Hp) (vs : List V) (Q : VK) (E : XK), Room k (Cxd d P w K mg base N f cdv A outer s H E).A → sp vs H Q E →
    XB (Cxd d P w K mg base N f cdv A outer s H E) d.body { nx := fun _ H' => Q .non H', rt := Q } (start N vs) H
theorem fnok_of {d : He.DefD} {dvs : List V} {kws : List (Str × V)} {f : Addr} {fd : FuncData} (F : FunD K d.name d.qual d.params d.body d.scope dvs kws f fd) (S : FnScope N ps d.scope) (len : ∀ vs H Q E, sp vs H Q E → vs.length = ps.length) (body : BodyOk d P w K mg base N k sp) :
    FnOk P w K mg base (L2.CX P w) (k + 1) f fd ps sp := F.ok S len fun cdv A outer s H vs Q E hr h => ⟨_, pss_xb, body f cdv A outer s H vs Q E hr h⟩
abbrev BindH (d : He.DefD) (ps : List Str) : Prop := ∀ (kV doc pm : Value) (an : Option Addr) (cdv ct : Value) (us : List Value), us.length = ps.length → bindArgs (PySem.W.fnOf d.name d.qual d.params d.body d.scope .none kV doc pm an cdv ct) ⟨us, []⟩ = pure (ps.zip us)
/-- a function of the module -/
theorem gd_of (T : Tx K mg) (d : He.DefD) (i : Nat) (g : mg x = some (.ref (He.ga K x))) (S : FnScope N ps d.scope) (b : BindH d ps) (len : ∀ vs H Q E, sp vs H Q E → vs.length = ps.length) (body : BodyOk d P w K mg base N k sp)
    (hi : fnL[i]? = some d := by rfl) (ha : d.at_ = (x, none) := by rfl) (h1 : d.dfl = [] := by rfl) (h2 : d.kwd = [] := by rfl) : Gd P w K mg base (k + 1) x sp := by
  obtain ⟨fd, F⟩ := T.c.d.def_ i hi
  have e : He.fAd K d.at_ = He.ga K x := by rw [ha]; rfl
  rw [e] at F
  have F2 : FunD K d.name d.qual d.params d.body d.scope [] [] (He.ga K x) fd := by
    have q1 : d.dvs K = [] := by unfold He.DefD.dvs; rw [h1]; rfl
    have q2 : d.kws K = [] := by unfold He.DefD.kws; rw [h2]; rfl
    rw [q1, q2] at F
    exact F
  exact ⟨_, fd, ps, g, F2.kp, F2.bindsN b, fnok_of F2 S len body⟩
/-- a method -/
theorem me_of (T : Tx K mg) {c m : Str} (d : He.DefD) (i : Nat) (g : Meth K (He.ga K c) m (He.ma K (He.ga K c) m)) (S : FnScope N ps d.scope) (b : BindH d ps) (len : ∀ vs H Q E, sp vs H Q E → vs.length = ps.length) (body : BodyOk d P w K mg base N k sp)
    (hi : fnL[i]? = some d := by rfl) (ha : d.at_ = (c, some m) := by rfl) (h1 : d.dfl = [] := by rfl) (h2 : d.kwd = [] := by rfl) : Me P w K mg base (k + 1) (He.ga K c) m sp := by
  obtain ⟨fd, F⟩ := T.c.d.def_ i hi
  have e : He.fAd K d.at_ = He.ma K (He.ga K c) m := by rw [ha]; rfl
  rw [e] at F
  have F2 : FunD K d.name d.qual d.params d.body d.scope [] [] (He.ma K (He.ga K c) m) fd := by
    have q1 : d.dvs K = [] := by unfold He.DefD.dvs; rw [h1]; rfl
    have q2 : d.kws K = [] := by unfold He.DefD.kws; rw [h2]; rfl
    rw [q1, q2] at F
    exact F
  exact ⟨_, fd, ps, g, F2.bindsN b, fnok_of F2 S len body⟩
/-- a class's making, its __init__ perhaps told by a class above (cI) -/
theorem mc_of (T : Tx K mg) {c cI : Str} (d : He.DefD) (i : Nat) (g0 : mg c = some (.ref (He.ga K c))) (g : Mk K (He.ga K c) (He.ma K (He.ga K c) "__init__")) (hI : He.ma K (He.ga K c) "__init__" = He.ma K (He.ga K cI) "__init__") (S : FnScope N ps d.scope) (b : BindH d ps) (len : ∀ vs H Q E, sp vs H Q E → vs.length = ps.length)
    (body : BodyOk d P w K mg base N k sp) (hi : fnL[i]? = some d := by rfl) (ha : d.at_ = (cI, some ("__init__" : Str)) := by rfl) (h1 : d.dfl = [] := by rfl) (h2 : d.kwd = [] := by rfl) : Mc P w K mg base (k + 1) c (He.ga K c) sp := by
  obtain ⟨fd, F⟩ := T.c.d.def_ i hi
  have e : He.fAd K d.at_ = He.ma K (He.ga K cI) "__init__" := by rw [ha]; rfl
  rw [e, ← hI] at F
  have F2 : FunD K d.name d.qual d.params d.body d.scope [] [] (He.ma K (He.ga K c) "__init__") fd := by
    have q1 : d.dvs K = [] := by unfold He.DefD.dvs; rw [h1]; rfl
    have q2 : d.kws K = [] := by unfold He.DefD.kws; rw [h2]; rfl
    rw [q1, q2] at F
    exact F
  exact ⟨g0, _, fd, ps, g, F2.bindsN b, fnok_of F2 S len body⟩
/-- what is raised in a callee goes on -/
theorem ps_cx {d : He.DefD} {f : Addr} {cdv : Value} {A : Around} {outer : List Env} {s : Shared} {H : Hp} {E : XK} : Ps (Cxd d P w K mg base N f cdv A outer s H E) E := passes_call (takes_of rfl rfl rfl rfl) fun _ _ _ _ h => h
theorem po_cx {d : He.DefD} {f : Addr} {cdv : Value} {A : Around} {outer : List Env} {s : Shared} {H : Hp} {E : XK} : PassesOwn (model (Cxd d P w K mg base N f cdv A outer s H E).prog (Cxd d P w K mg base N f cdv A outer s H E).w) (Cxd d P w K mg base N f cdv A outer s H E).A (Cxd d P w K mg base N f cdv A outer s H E).env (Cxd d P w K mg base N f cdv A outer s H E).xe := passes_of rfl
end
end Gw

set_option maxRecDepth 100000
set_option maxHeartbeats 4000000
namespace Gw
open PySem PySem.Spec PyProof.Rows L2 Evl
section
variable {X : Cx} {e a b c o : Expr} {es : List Expr} {rest sa sb : List Stmt} {σ : L2.St} {H H' : Hp} {Q : VK} {D : Ends} {v w x y z : V} {xs ys vs : List V} {pos p p' apos : Pos} {n : Str} {i j l : Nat} {R : V → Hp → Prop}
/-- n is the i-th name and may be stored -/
abbrev Nm (X : Cx) (i : Nat) (n : Str) : Prop := X.N.Nodup ∧ X.N[i]? = some n ∧ Loc X.env.scope n ∧ (X.fn n = true ∨ X.env.scope.names.lookup n = some .local)
theorem Nm.pg (h : Nm X i n) : PG X (.Name n p) (gName i) := pg_name h.1 h.2.1 h.2.2.1 h.2.2.2
/-! ### statements, the rest behind -/
theorem xb_setE (i : Nat) (h : XE X e σ H fun v H1 => XB X rest D (σ.set i (some v)) H1) (hn : Nm X i n := by exact ⟨by assumption, rfl, by first | exact Or.inl rfl | exact Or.inr rfl, by first | exact .inl rfl | exact .inr rfl⟩) (hs : swapsWith e (some (.Name n p)) pos.line X.env = pure false := by rfl) :
    XB X (.Assign [.Name n p] e pos :: rest) D σ H := xb_cons (xs_of (ps_set hn.1 hn.2.1 hn.2.2.1 pe_xe hs hn.2.2.2) h)
theorem xb_set (i : Nat) (h : Vl X e σ H v) (k : ∀ H1, Ex H H1 → XB X rest D (σ.set i (some v)) H1) (hn : Nm X i n := by exact ⟨by assumption, rfl, by first | exact Or.inl rfl | exact Or.inr rfl, by first | exact .inl rfl | exact .inr rfl⟩) (hs : swapsWith e (some (.Name n p)) pos.line X.env = pure false := by rfl) :
    XB X (.Assign [.Name n p] e pos :: rest) D σ H := xb_setE i (h H (Ex.refl H) _ k) hn hs
theorem xb_setL (i : Nat) (h : Ll X e σ H xs) (k : ∀ q H1, H q = none → Ex H H1 → H1 q = some (.lst xs) → XB X rest D (σ.set i (some (.ref q))) H1) (hn : Nm X i n := by exact ⟨by assumption, rfl, by first | exact Or.inl rfl | exact Or.inr rfl, by first | exact .inl rfl | exact .inr rfl⟩) (hs : swapsWith e (some (.Name n p)) pos.line X.env = pure false := by rfl) :
    XB X (.Assign [.Name n p] e pos :: rest) D σ H := xb_setE i (h H (Ex.refl H) _ k) hn hs
theorem xb_setU (i : Nat) (h : Ul X e σ H xs) (k : ∀ q H1, H q = none → Ex H H1 → H1 q = some (.tup xs) → XB X rest D (σ.set i (some (.ref q))) H1) (hn : Nm X i n := by exact ⟨by assumption, rfl, by first | exact Or.inl rfl | exact Or.inr rfl, by first | exact .inl rfl | exact .inr rfl⟩) (hs : swapsWith e (some (.Name n p)) pos.line X.env = pure false := by rfl) :
    XB X (.Assign [.Name n p] e pos :: rest) D σ H := xb_setE i (h H (Ex.refl H) _ k) hn hs
theorem xb_expr (h : XE X e σ H fun _ H1 => XB X rest D σ H1) (hs : swapsWith e none pos.line X.env = pure false := by rfl) : XB X (.Expr e pos :: rest) D σ H := xb_cons (xs_of (ps_expr pe_xe hs) h)
theorem xb_ret (h : Vl X e σ H v) (k : ∀ H1, Ex H H1 → D.rt v H1) : XB X (.Return (some e) pos :: rest) D σ H := xb_cons (xs_of (ps_ret pe_xe) (h H (Ex.refl H) _ k))
theorem xb_retE (h : XE X e σ H D.rt) : XB X (.Return (some e) pos :: rest) D σ H := xb_cons (xs_of (ps_ret pe_xe) h)
theorem xb_if {k : Bool} (hc : Bl X c σ H k) (h1 : k = true → ∀ H1, Ex H H1 → XB X sa { D with nx := fun σ' H' => XB X rest D σ' H' } σ H1) (h2 : k = false → ∀ H1, Ex H H1 → XB X sb { D with nx := fun σ' H' => XB X rest D σ' H' } σ H1) :
    XB X (.If c sa sb pos :: rest) D σ H := xb_cons (xs_of (ps_if pt_xt pss_xb pss_xb) (hc H (Ex.refl H) _ fun H1 e1 => by
  cases k with
  | true => exact h1 rfl H1 e1
  | false => exact h2 rfl H1 e1))
/-- an if without else -/
theorem xb_when {k : Bool} (hc : Bl X c σ H k) (h1 : k = true → ∀ H1, Ex H H1 → XB X sa { D with nx := fun σ' H' => XB X rest D σ' H' } σ H1) (h2 : k = false → ∀ H1, Ex H H1 → XB X rest D σ H1) :
    XB X (.If c sa [] pos :: rest) D σ H := xb_if hc h1 fun hk H1 e1 => xb_nil (h2 hk H1 e1)
/-- a, b = e; a, b, c = e, e a tuple -/
theorem xb_un2 (i j : Nat) {n m : Str} {p1 p2 p3 : Pos} {k1 : Nat} (h : Tu X e σ H [x, y]) (k : ∀ H1, Ex H H1 → XB X rest D ((σ.set i (some x)).set j (some y)) H1) (hc : X.calm = true := by rfl) (h1 : Nm X i n := by exact ⟨by assumption, rfl, by first | exact Or.inl rfl | exact Or.inr rfl, by first | exact .inl rfl | exact .inr rfl⟩) (h2 : Nm X j m := by exact ⟨by assumption, rfl, by first | exact Or.inl rfl | exact Or.inr rfl, by first | exact .inl rfl | exact .inr rfl⟩)
    (hs : swapsWithSole [.Tuple [.Name n p1, .Name m p2] k1 p3] e pos.line X.env = pure false := by rfl) (hw : swappedStores [.Tuple [.Name n p1, .Name m p2] k1 p3] e X.env = pure none := by rfl)
    (hy : Loc X.env.scope m := by first | exact Or.inl rfl | exact Or.inr rfl)
    (hn : (assignEach [.Name n p1, .Name m p2] X.env).length = 2 := by rfl) (hst : (assignEach [.Name n p1, .Name m p2] X.env).findIdx? (·.1) = none := by rfl) :
    XB X (.Assign [.Tuple [.Name n p1, .Name m p2] k1 p3] e pos :: rest) D σ H :=
  xb_cons (xs_of (ps_asg pe_xe (pg_tup hc (pgs_cons h1.pg (pgs_cons h2.pg pgs_nil)) hn hst) hs hw) (h H (Ex.refl H) _ fun q H1 e1 g1 => ⟨q, [x, y], rfl, g1, rfl, x, [y], rfl, y, [], rfl, rfl, k H1 e1⟩))
theorem xb_un3 (i j l : Nat) {n m r : Str} {p1 p2 p3 p4 : Pos} {k1 : Nat} (h : Tu X e σ H [x, y, z]) (k : ∀ H1, Ex H H1 → XB X rest D (((σ.set i (some x)).set j (some y)).set l (some z)) H1) (hc : X.calm = true := by rfl) (h1 : Nm X i n := by exact ⟨by assumption, rfl, by first | exact Or.inl rfl | exact Or.inr rfl, by first | exact .inl rfl | exact .inr rfl⟩) (h2 : Nm X j m := by exact ⟨by assumption, rfl, by first | exact Or.inl rfl | exact Or.inr rfl, by first | exact .inl rfl | exact .inr rfl⟩)
    (h3 : Nm X l r := by exact ⟨by assumption, rfl, by first | exact Or.inl rfl | exact Or.inr rfl, by first | exact .inl rfl | exact .inr rfl⟩)
    (hs : swapsWithSole [.Tuple [.Name n p1, .Name m p2, .Name r p4] k1 p3] e pos.line X.env = pure false := by rfl) (hw : swappedStores [.Tuple [.Name n p1, .Name m p2, .Name r p4] k1 p3] e X.env = pure none := by rfl)
    (hy : Loc X.env.scope m := by first | exact Or.inl rfl | exact Or.inr rfl) (hz : Loc X.env.scope r := by first | exact Or.inl rfl | exact Or.inr rfl)
    (hn : (assignEach [.Name n p1, .Name m p2, .Name r p4] X.env).length = 3 := by rfl) (hst : (assignEach [.Name n p1, .Name m p2, .Name r p4] X.env).findIdx? (·.1) = none := by rfl) :
    XB X (.Assign [.Tuple [.Name n p1, .Name m p2, .Name r p4] k1 p3] e pos :: rest) D σ H :=
  xb_cons (xs_of (ps_asg pe_xe (pg_tup hc (pgs_cons h1.pg (pgs_cons h2.pg (pgs_cons h3.pg pgs_nil))) hn hst) hs hw) (h H (Ex.refl H) _ fun q H1 e1 g1 => ⟨q, [x, y, z], rfl, g1, rfl, x, [y, z], rfl, y, [z], rfl, z, [], rfl, rfl, k H1 e1⟩))
/-- self.f = e -/
theorem xb_fldE {C : Addr} {fl : List Str} {f : Str} (B : CB X.K C fl) (h : XE X e σ H fun v H1 => ∃ ad, Vl X o σ H1 (.ref ad) ∧ ∃ dx fs, H1 ad = some (.ins C dx fs) ∧ fs.length < 1000 ∧ ∀ H2, Ex H1 H2 → XB X rest D σ (upd H2 ad (.ins C dx (putF f v fs)))) (hm : f ∈ fl := by decide)
    (hs : swapsWith e (some (.Attribute o f p')) pos.line X.env = pure false := by rfl) : XB X (.Assign [.Attribute o f p'] e pos :: rest) D σ H :=
  xb_cons (xs_of (ps_fld pe_xe pe_xe hs) ⟨fun pins s I => thn (h.run pins s I) fun u s1 ⟨v, H1, I1, r1, ad, ho, dx, fs, ha, hl, k⟩ => ⟨v, H1, I1, r1, ho H1 (Ex.refl H1) _ fun H2 e2 => ⟨ad, C, dx, fs, rfl, e2 _ _ ha, B.cls, B.na f hm, hl, k H2 e2⟩⟩⟩)
theorem xb_fld {C ad dx : Addr} {fl : List Str} {f : Str} {fs : List (Str × V)} (B : CB X.K C fl) (h : Vl X e σ H v) (ho : Vl X o σ H (.ref ad)) (ha : H ad = some (.ins C dx fs)) (k : ∀ H1, Ex H H1 → XB X rest D σ (upd H1 ad (.ins C dx (putF f v fs)))) (hl : fs.length < 1000 := by exact Nat.le_of_ble_eq_true rfl) (hm : f ∈ fl := by decide)
    (hs : swapsWith e (some (.Attribute o f p')) pos.line X.env = pure false := by rfl) : XB X (.Assign [.Attribute o f p'] e pos :: rest) D σ H :=
  xb_fldE B (h H (Ex.refl H) _ fun H1 e1 => ⟨ad, ho.mono e1, dx, fs, e1 _ _ ha, hl, fun H2 e2 => k H2 (e1.trans e2)⟩) hm hs
theorem xb_fldL {C ad dx : Addr} {fl : List Str} {f : Str} {fs : List (Str × V)} (B : CB X.K C fl) (h : Ll X e σ H xs) (ho : Vl X o σ H (.ref ad)) (ha : H ad = some (.ins C dx fs)) (k : ∀ q H1, H q = none → Ex H H1 → H1 q = some (.lst xs) → XB X rest D σ (upd H1 ad (.ins C dx (putF f (.ref q) fs)))) (hl : fs.length < 1000 := by exact Nat.le_of_ble_eq_true rfl) (hm : f ∈ fl := by decide)
    (hs : swapsWith e (some (.Attribute o f p')) pos.line X.env = pure false := by rfl) : XB X (.Assign [.Attribute o f p'] e pos :: rest) D σ H :=
  xb_fldE B (h H (Ex.refl H) _ fun q H1 hq e1 h1 => ⟨ad, ho.mono e1, dx, fs, e1 _ _ ha, hl, fun H2 e2 => k q H2 hq (e1.trans e2) (e2 _ _ h1)⟩) hm hs
/-- o.append(e) as an expression -/
theorem xe_app {l : Addr} (ho : Vl X o σ H (.ref l)) (hl : ∃ ys, SqL X.K H l ys) (h : XE X e σ H fun v H1 => ∃ ys, H1 l = some (.lst ys) ∧ ys.length < 100000 ∧ Q .non (upd H1 l (.lst (ys ++ [v]))))
    (h' : ∀ H1, Ex H H1 → XE X e σ H1 fun v H2 => ∃ ys, H2 l = some (.lst ys) ∧ ys.length < 100000 ∧ Q .non (upd H2 l (.lst (ys ++ [v]))))
    (hbase : attributeBase o "append" X.env (eval o X.env) = eval o X.env := by rfl)
    (hfew : ((backTo pos (starEach [e] X.env)).all (fun x => !x.1) && (backToKw pos (keywordEach [] X.env)).all (fun x => x.1.isSome)
      && decide (([e] : List Expr).length + ([] : List Keyword).length + (if ([] : List Keyword).isEmpty then 0 else 1) < 30)) = true := by rfl)
    (hline : (apos.endLine == pos.line) = true := by rfl) (hs : starEach [e] X.env = (false, eval e X.env) :: starEach [] X.env := by rfl) (hplain : (backTo pos (starEach [] X.env)).any (·.1) = false := by rfl) :
    XE X (.Call (.Attribute o "append" apos) [e] [] pos) σ H Q := by
  obtain ⟨ys0, hy⟩ := hl
  refine xe_of (pe_bm PySem.F.plainAttrs_list PySem.F.slot_list_append PySem.F.type_list_append mt_append pe_xe (pa_cons pe_xe pa_nil hs) hbase hfew hline hs hplain) ?_
  refine ho H (Ex.refl H) _ fun H1 e1 => ⟨.inl ⟨rfl, ys0, ex_l e1 hy⟩, ?_⟩
  refine ⟨fun pins s I => thn ((h' H1 e1).run pins s I) fun u s1 ⟨v, H2, I2, r2, ys, q1, q2, q3⟩ => ⟨v, H2, I2, r2, l, ys, v, rfl, rfl, q1, sz_lt q2, q3⟩⟩
/-- o.append(e), e a value -/
theorem xb_app {l : Addr} (ho : Vl X o σ H (.ref l)) (hl : H l = some (.lst xs)) (h : Vl X e σ H v) (k : ∀ H1, Ex H H1 → XB X rest D σ (upd H1 l (.lst (xs ++ [v])))) (hz : xs.length < 100000) {pos' : Pos} (hse : swapsWith (.Call (.Attribute o "append" apos) [e] [] pos) none pos'.line X.env = pure false := by rfl)
    (hbase : attributeBase o "append" X.env (eval o X.env) = eval o X.env := by rfl)
    (hfew : ((backTo pos (starEach [e] X.env)).all (fun x => !x.1) && (backToKw pos (keywordEach [] X.env)).all (fun x => x.1.isSome)
      && decide (([e] : List Expr).length + ([] : List Keyword).length + (if ([] : List Keyword).isEmpty then 0 else 1) < 30)) = true := by rfl)
    (hline : (apos.endLine == pos.line) = true := by rfl) (hs : starEach [e] X.env = (false, eval e X.env) :: starEach [] X.env := by rfl) (hplain : (backTo pos (starEach [] X.env)).any (·.1) = false := by rfl) :
    XB X (.Expr (.Call (.Attribute o "append" apos) [e] [] pos) pos' :: rest) D σ H :=
  xb_expr (xe_app ho ⟨xs, sq_of hl⟩ (h H (Ex.refl H) _ fun H2 e2 => ⟨xs, e2 _ _ hl, hz, k H2 e2⟩) (fun H1 e1 => h H1 e1 _ fun H2 e2 => ⟨xs, (e1.trans e2) _ _ hl, hz, k H2 (e1.trans e2)⟩) hbase hfew hline hs hplain) hse
/-- o.append(e), e a new object -/
theorem xb_appE {l : Addr} (ho : Vl X o σ H (.ref l)) (hl : H l = some (.lst xs)) (h : ∀ H1, Ex H H1 → XE X e σ H1 fun v H2 => H2 l = some (.lst xs) ∧ XB X rest D σ (upd H2 l (.lst (xs ++ [v])))) (hz : xs.length < 100000) {pos' : Pos} (hse : swapsWith (.Call (.Attribute o "append" apos) [e] [] pos) none pos'.line X.env = pure false := by rfl)
    (hbase : attributeBase o "append" X.env (eval o X.env) = eval o X.env := by rfl)
    (hfew : ((backTo pos (starEach [e] X.env)).all (fun x => !x.1) && (backToKw pos (keywordEach [] X.env)).all (fun x => x.1.isSome)
      && decide (([e] : List Expr).length + ([] : List Keyword).length + (if ([] : List Keyword).isEmpty then 0 else 1) < 30)) = true := by rfl)
    (hline : (apos.endLine == pos.line) = true := by rfl) (hs : starEach [e] X.env = (false, eval e X.env) :: starEach [] X.env := by rfl) (hplain : (backTo pos (starEach [] X.env)).any (·.1) = false := by rfl) :
    XB X (.Expr (.Call (.Attribute o "append" apos) [e] [] pos) pos' :: rest) D σ H := by
  have key : ∀ H1, Ex H H1 → XE X e σ H1 fun v H2 => ∃ ys, H2 l = some (.lst ys) ∧ ys.length < 100000 ∧ XB X rest D σ (upd H2 l (.lst (ys ++ [v]))) := fun H1 e1 => ⟨fun pins s I => thn ((h H1 e1).run pins s I) fun u s1 ⟨v, H2, I2, r2, q1, q2⟩ => ⟨v, H2, I2, r2, xs, q1, hz, q2⟩⟩
  exact xb_expr (xe_app ho ⟨xs, sq_of hl⟩ (key H (Ex.refl H)) key hbase hfew hline hs hplain) hse
theorem xe_mono {Q' : VK} (h : XE X e σ H Q) (k : ∀ v H', Q v H' → Q' v H') : XE X e σ H Q' := ⟨fun pins s I => thn (h.run pins s I) fun u s1 ⟨v, H1, I1, r1, q⟩ => ⟨v, H1, I1, r1, k v H1 q⟩⟩
/-- n += e, whole numbers -/
theorem xb_inc (i : Nat) {k1 k2 : Int} (h : Vl X e σ H (.int k2)) (k : ∀ H1, Ex H H1 → XB X rest D (σ.set i (some (.int (k1 + k2)))) H1) (hs : σ[i]? = some (some (.int k1)) := by rfl) (hn : Nm X i n := by exact ⟨by assumption, rfl, by first | exact Or.inl rfl | exact Or.inr rfl, by first | exact .inl rfl | exact .inr rfl⟩) :
    XB X (.AugAssign (.Name n p) .Add e pos :: rest) D σ H := xb_cons (xs_of (ps_aug hn.1 hn.2.1 hn.2.2.1 pe_xe ip_add hn.2.2.2) ⟨_, hs, h H (Ex.refl H) _ fun H1 e1 => ⟨k1, k2, rfl, rfl, k H1 e1⟩⟩)

/-! ### loops -/
theorem xb_while {sb : List Stmt} (W : Nat → L2.St → Hp → Prop) (m0 : Nat) (h0 : W m0 σ H) (hp : PassesOwn (model X.prog X.w) X.A X.env X.xe)
    (hs : ∀ m σ' H', W m σ' H' → ∃ k, Bl X c σ' H' k ∧ (k = true → ∀ H1, Ex H' H1 → XB X sb { D with nx := fun σ2 H2 => ∃ m', m' < m ∧ W m' σ2 H2, ct := fun σ2 H2 => ∃ m', m' < m ∧ W m' σ2 H2, bk := fun σ2 H2 => XB X rest D σ2 H2 } σ' H1) ∧ (k = false → ∀ H1, Ex H' H1 → XB X rest D σ' H1)) :
    XB X (.While c sb [] pos :: rest) D σ H := xb_cons (xs_of (ps_while hp pt_xt pss_xb) (s_while W m0 h0 fun m σ' H' hw => by
  obtain ⟨k, h1, h2, h3⟩ := hs m σ' H' hw
  exact ⟨k, h1, fun hk H1 e1 => ⟨_, fun _ _ q => q, h2 hk H1 e1⟩, fun hk H1 e1 => h3 hk H1 e1⟩))
/-- for n in e, e a list that stands at ad -/
theorem xb_forL {ad : Addr} (i : Nat) {sb : List Stmt} (hp : PassesOwn (model X.prog X.w) X.A X.env X.xe) (h : Vl X e σ H (.ref ad)) (hx : SqL X.K H ad xs) (Pv : Nat → L2.St → Hp → Prop) (h0 : ∀ H1, Ex H H1 → Pv 0 σ H1) (hl : ∀ j σ' H', j ≤ xs.length → Pv j σ' H' → SqL X.K H' ad xs)
    (hs : ∀ j x σ' H', xs[j]? = some x → Pv j σ' H' → XB X sb { D with nx := Pv (j + 1), ct := Pv (j + 1), bk := fun σ2 H2 => XB X rest D σ2 H2 } (σ'.set i (some x)) H') (hd : ∀ σ' H', Pv xs.length σ' H' → XB X rest D σ' H')
    (hn : Nm X i n := by exact ⟨by assumption, rfl, by first | exact Or.inl rfl | exact Or.inr rfl, by first | exact .inl rfl | exact .inr rfl⟩) (hfs : ∀ x, foldedSetIterable e X.env x = pure x := by intro _; rfl) (hc : X.calm = true := by rfl) : XB X (.For (.Name n p) e sb [] pos :: rest) D σ H :=
  xb_cons (xs_of (ps_for hp hc (pi_list pe_xe) hn.pg pss_xb hfs) (s_forL (D := { D with nx := fun σ2 H2 => XB X rest D σ2 H2 }) h hx Pv h0 hl hs hd))
/-- e a new list -/
theorem xb_forN (i : Nat) {sb : List Stmt} (hp : PassesOwn (model X.prog X.w) X.A X.env X.xe) (h : Ll X e σ H xs) (Pv : Addr → Nat → L2.St → Hp → Prop) (h0 : ∀ q H1, H q = none → Ex H H1 → H1 q = some (.lst xs) → Pv q 0 σ H1) (hl : ∀ q j σ' H', j ≤ xs.length → Pv q j σ' H' → SqL X.K H' q xs)
    (hs : ∀ q j x σ' H', xs[j]? = some x → Pv q j σ' H' → XB X sb { D with nx := Pv q (j + 1), ct := Pv q (j + 1), bk := fun σ2 H2 => XB X rest D σ2 H2 } (σ'.set i (some x)) H') (hd : ∀ q σ' H', Pv q xs.length σ' H' → XB X rest D σ' H')
    (hn : Nm X i n := by exact ⟨by assumption, rfl, by first | exact Or.inl rfl | exact Or.inr rfl, by first | exact .inl rfl | exact .inr rfl⟩) (hfs : ∀ x, foldedSetIterable e X.env x = pure x := by intro _; rfl) (hc : X.calm = true := by rfl) : XB X (.For (.Name n p) e sb [] pos :: rest) D σ H :=
  xb_cons (xs_of (ps_for hp hc (pi_list pe_xe) hn.pg pss_xb hfs) (s_forNL (D := { D with nx := fun σ2 H2 => XB X rest D σ2 H2 }) h Pv h0 hl hs hd))
/-- e a tuple that stands at ad -/
theorem xb_forT {ad : Addr} (i : Nat) {sb : List Stmt} (hp : PassesOwn (model X.prog X.w) X.A X.env X.xe) (h : Vl X e σ H (.ref ad)) (hx : SqT X.K H ad xs) (Pv : Nat → L2.St → Hp → Prop) (h0 : ∀ H1, Ex H H1 → Pv 0 σ H1) (hl : ∀ j σ' H', j ≤ xs.length → Pv j σ' H' → SqT X.K H' ad xs)
    (hs : ∀ j x σ' H', xs[j]? = some x → Pv j σ' H' → XB X sb { D with nx := Pv (j + 1), ct := Pv (j + 1), bk := fun σ2 H2 => XB X rest D σ2 H2 } (σ'.set i (some x)) H') (hd : ∀ σ' H', Pv xs.length σ' H' → XB X rest D σ' H')
    (hn : Nm X i n := by exact ⟨by assumption, rfl, by first | exact Or.inl rfl | exact Or.inr rfl, by first | exact .inl rfl | exact .inr rfl⟩) (hfs : ∀ x, foldedSetIterable e X.env x = pure x := by intro _; rfl) (hc : X.calm = true := by rfl) : XB X (.For (.Name n p) e sb [] pos :: rest) D σ H :=
  xb_cons (xs_of (ps_for hp hc (pi_tup pe_xe) hn.pg pss_xb hfs) (s_forT (D := { D with nx := fun σ2 H2 => XB X rest D σ2 H2 }) h hx Pv h0 hl hs hd))
/-- for n in range(e) -/
theorem xb_forR {k : Int} (i : Nat) {sb : List Stmt} {p3 : Pos} (hp : PassesOwn (model X.prog X.w) X.A X.env X.xe) (hm : X.mg "range" = none) (h : Vl X e σ H (.int k)) (hk : 0 ≤ k ∧ k ≤ 100000) (Pv : Nat → L2.St → Hp → Prop) (h0 : ∀ H1, Ex H H1 → Pv 0 σ H1)
    (hs : ∀ (j : Nat) σ' H', (j : Int) < k → Pv j σ' H' → XB X sb { D with nx := Pv (j + 1), ct := Pv (j + 1), bk := fun σ2 H2 => XB X rest D σ2 H2 } (σ'.set i (some (.int (j : Int)))) H') (hd : ∀ σ' H', Pv k.toNat σ' H' → XB X rest D σ' H')
    (hn : Nm X i n := by exact ⟨by assumption, rfl, by first | exact Or.inl rfl | exact Or.inr rfl, by first | exact .inl rfl | exact .inr rfl⟩) (hc : X.calm = true := by rfl) (hfs : ∀ x, foldedSetIterable (.Call (.Name "range" p') [e] [] pos) X.env x = pure x := by intro _; rfl) (hg : Gl X "range" := by rfl) (hst : starEach [e] X.env = (false, eval e X.env) :: starEach [] X.env := by rfl)
    (hpl : (backTo pos (starEach [] X.env)).any (·.1) = false := by rfl) : XB X (.For (.Name n p) (.Call (.Name "range" p') [e] [] pos) sb [] p3 :: rest) D σ H :=
  xb_cons (xs_of (ps_for hp hc (pi_range1 hg hm (pa_cons pe_xe pa_nil hst) hst) hn.pg pss_xb hfs) (s_forR1 (D := { D with nx := fun σ2 H2 => XB X rest D σ2 H2 }) (ea_cons h ea_nil) hk Pv h0 hs hd))
end
end Gw

set_option maxRecDepth 100000
set_option maxHeartbeats 4000000
/-! Comprehensions: what is walked, what each turn gives. -/
namespace Gw
open PySem PySem.Spec PyProof.Rows L2 Evl
section
variable {X : Cx} {e a c tg iter elt : Expr} {ifs : List Expr} {scope : Scope} {rest : List Stmt} {σ : L2.St} {H H' : Hp} {Q : VK} {D : Ends} {xs ys : List V} {pos p : Pos} {n : Str} {i : Nat}
/-- what is walked: the items, one a turn, the heap as it was -/
def Il (X : Cx) (tg iter : Expr) (σ : L2.St) (H : Hp) (xs : List V) : Prop := ∃ wi, PI X tg iter wi ∧ ∀ H1, Ex H H1 → ∀ R : It → Hp → Prop, (∀ J G H2, Ex H1 H2 → (∀ H', Ex H2 H' → G H') → Walk J xs.length G (YAt xs) → R J H2) → wi σ H1 R
theorem il_L (h : Sl X iter σ H xs) : Il X tg iter σ H xs := ⟨_, pi_list pe_xe, fun H1 e1 R k => h H1 e1 _ fun q H2 e2 h2 => ⟨q, rfl, ⟨xs, h2⟩, k _ _ H2 e2 (fun H' e' => ex_l e' h2) walk_list⟩⟩
theorem il_T (h : Tu X iter σ H xs) : Il X tg iter σ H xs := ⟨_, pi_tup pe_xe, fun H1 e1 R k => h H1 e1 _ fun q H2 e2 h2 => ⟨q, rfl, ⟨xs, h2⟩, k _ _ H2 e2 (fun H' e' => ex_t e' h2) walk_tup⟩⟩
theorem il_R {k : Int} {p' : Pos} (hm : X.mg "range" = none) (h : Vl X e σ H (.int k)) (hk : 0 ≤ k ∧ k ≤ 100000) (hg : Gl X "range" := by rfl) (hst : starEach [e] X.env = (false, eval e X.env) :: starEach [] X.env := by rfl) :
    Il X tg (.Call (.Name "range" p') [e] [] pos) σ H ((List.range k.toNat).map fun j : Nat => V.int ((j : Nat) : Int)) := ⟨_, pi_range1 hg hm (pa_cons pe_xe pa_nil hst) hst, fun H1 e1 R kk => h H1 e1 _ fun H2 e2 => ⟨k, rfl, by omega, by omega, kk _ _ H2 e2 (fun _ _ => trivial) (by
    have w := walk_range (lo := 0) (n := k.toNat)
    rw [List.length_map, List.length_range]
    refine w.mono (fun _ h => h) fun i H x H' hi _ y => ⟨y.1, ?_⟩
    rw [y.2, List.getElem?_map, List.getElem?_range hi]
    show some (V.int (i : Int)) = some (V.int (0 + (i : Int)))
    rw [Int.zero_add])⟩⟩
theorem il_S {z : Str} (h : Vl X iter σ H (.str z)) (hgl : ∀ (X : Cx) (tg : Expr), PI X tg iter (iStr (XE X iter)) := by exact fun _ _ => pi_str pe_xe) : Il X tg iter σ H (z.cps.toList.map fun c => V.str ⟨#[c]⟩) := ⟨_, pi_str pe_xe, fun H1 e1 R k => h H1 e1 _ fun H2 e2 => ⟨z, rfl, k _ _ H2 e2 (fun _ _ => trivial) (by
    have w := walk_str (z := z)
    rw [List.length_map, Array.length_toList]
    refine w.mono (fun _ h => h) fun i H x H' hi _ y => ⟨y.1, ?_⟩
    obtain ⟨c, hc, rfl⟩ := y.2
    rw [List.getElem?_map, Array.getElem?_toList, hc]
    rfl)⟩⟩
/-- a clause's tests -/
def XQ (X : Cx) (ifs : List Expr) : TT := fun σ H Q => ∀ (pins : List (Addr × Obj)) (s : Shared), Inv X pins σ H s →
  wpAny (model X.prog X.w) X.A (forIn ifs true fun c r => if r = true then do let ok ← isTrue c X.env (eval c X.env); pure (ForInStep.yield ok) else pure (ForInStep.yield r)) (TP X pins σ Q) X.xe s
abbrev Ql (X : Cx) (ifs : List Expr) (σ : L2.St) (H : Hp) (k : Bool) : Prop := EvT (XQ X ifs) σ H k
theorem q_nil : Ql X [] σ H true := fun H1 e1 Q k pins s I => pts_nil.run pins s σ H1 Q I (k H1 (Ex.refl H1))
theorem q_one {k : Bool} (h : Bl X c σ H k) : Ql X [c] σ H k := fun H1 e1 Q kk pins s I => (pts_one pt_xt).run pins s σ H1 Q I (h H1 e1 Q kk)
abbrev Bk (X : Cx) (scope : Scope) (s : Shared) (H : Hp) (C : Addr) (cl : List (Str × Addr)) (fp : List Addr) : Cx := X.blk s H scope (compEnvC scope cl C X.env) fp
def XEb (X : Cx) (scope : Scope) (e : Expr) : TE := fun σ H Q => ∀ s H0 C cl fp, XE (Bk X scope s H0 C cl fp) e σ H Q
def XQb (X : Cx) (scope : Scope) (ifs : List Expr) : TT := fun σ H Q => ∀ s H0 C cl fp, XQ (Bk X scope s H0 C cl fp) ifs σ H Q
/-- a comprehension: its list, as a value, and stored at a name of its own row -/
structure Cp (X : Cx) (e : Expr) (σ : L2.St) (H : Hp) (P : Addr → List V → Hp → Hp → Prop) : Prop where
  v : ∀ H1, Ex H H1 → ∀ Q : VK, (∀ q ys H2, H1 q = none → Ex H1 H2 → H2 q = some (.lst ys) → P q ys H1 H2 → Q (.ref q) H2) → XE X e σ H1 Q
  s : ∀ (i : Nat) (n : Str) (p spos : Pos) (D : Ends), X.N[i]? = some n → X.env.scope.names.lookup n = some .local → swapsWith e (some (.Name n p)) spos.line X.env = pure true →
    (∀ q ys H2, H q = none → Ex H H2 → H2 q = some (.lst ys) → P q ys H H2 → D.nx (σ.set i (some (.ref q))) H2) → XS X (.Assign [.Name n p] e spos) D σ H
/-- the turn of a comprehension: what an element gives, told by R (of the list D that grows, the item w, the value y, the heap) -/
theorem lc_gen {α : Type} {ws : List α} {enc : α → V} {own : List (Str × Nat)} (pf : α → Bool) (R : Addr → α → V → Hp → Prop) (hN : X.N.Nodup) (hc : X.calm = true) (ok : BlkOk X.N X.env.scope scope own) (hi : Il X (.Name n p) iter σ H (ws.map enc)) (hz : ws.length ≤ 40000)
    (hg : ∀ s H0 C cl fp, Nm (Bk X scope s H0 C cl fp) i n) (hw : ∀ x, wipe ((wipe σ (own.map (·.2))).set i (some x)) (own.map (·.2)) = wipe σ (own.map (·.2)))
    (ht : ∀ s H0 C cl fp, ∀ w ∈ ws, Ql (Bk X scope s H0 C cl fp) ifs ((wipe σ (own.map (·.2))).set i (some (enc w))) H (pf w))
    (he : ∀ s H0 C cl fp, ∀ w ∈ ws, pf w = true → ∀ D acc H1, Ex H H1 → H D = none → H1 D = some (.lst acc) → ∀ Q : VK, (∀ y H2, Ex H1 H2 → R D w y H2 → Q y H2) → XE (Bk X scope s H0 C cl fp) elt ((wipe σ (own.map (·.2))).set i (some (enc w))) H1 Q)
    (hR : ∀ D w y H1 H2, Ex H1 H2 → R D w y H1 → R D w y H2) (hU : ∀ D w y H1 l l', R D w y H1 → H1 D = some (.lst l) → R D w y (upd H1 D (.lst l')))
    (hs : ∀ x, foldedSetIterable iter X.env x = pure x := by intro _; rfl) :
    Cp X (.ListComp elt [⟨.Name n p, iter, ifs, 0⟩] scope pos) σ H fun q ys _ H2 => Paired (fun w y => R q w y H2) (ws.filter pf) ys := by
  obtain ⟨wi, hpi, hit⟩ := hi
  have key : ∀ H1, Ex H H1 → ∀ Q : VK, (∀ q ys H2, H1 q = none → Ex H1 H2 → H2 q = some (.lst ys) → Paired (fun w y => R q w y H2) (ws.filter pf) ys → Q (.ref q) H2) → tLc wi (gName i) (XQb X scope ifs) (XEb X scope elt) (own.map (·.2)) σ H1 Q := by
    intro H1 e1 Q k
    refine hit H1 e1 _ fun J G H2 e2 hG wk D hD => ?_
    rw [List.length_map] at wk
    refine lc_it wk (fun j H' => H2 D = none ∧ Ex H2 H' ∧ ∃ acc, H' D = some (.lst acc) ∧ acc.length ≤ j ∧ Paired (fun w y => R D w y H') ((ws.take j).filter pf) acc) ⟨hD, Ex.new hD, [], upd_same, Nat.le_refl _, by simp; exact .nil⟩ (fun j H' _ q => hG H' q.2.1) ?_ ?_
    · rintro j x H' H'' hj ⟨q1, q2, acc, q3, q4, q5⟩ ⟨ey, hx⟩
      subst H''
      have hw' : ws[j]? = some ws[j] := by simp [hj]
      have hm : ws[j] ∈ ws := List.getElem_mem hj
      have ex : x = enc ws[j] := by
        rw [List.getElem?_map, hw'] at hx
        exact (Option.some.inj hx).symm
      subst ex
      refine ⟨hw _, ?_⟩
      have htk : ws.take (j + 1) = ws.take j ++ [ws[j]] := by rw [List.take_succ, hw']; rfl
      refine fun s H0 C cl fp => (ht s H0 C cl fp _ hm) H' ((e1.trans e2).trans q2) _ fun H3 e3 => ?_
      cases hp : pf ws[j] with
      | true =>
        rw [if_pos rfl]
        intro s' H0' C' cl' fp'
        refine he s' H0' C' cl' fp' _ hm hp D acc H3 (((e1.trans e2).trans q2).trans e3) (fresh_back (e1.trans e2) q1) (e3 _ _ q3) _ fun y H4 e4 r => ⟨acc, e4 _ _ (e3 _ _ q3), sz_lt (by omega), q1, Ex.mut ((q2.trans e3).trans e4) q1, acc ++ [y], upd_same, by rw [List.length_append]; simp; omega, ?_⟩
        rw [htk, List.filter_append]
        have e5 : [ws[j]].filter pf = [ws[j]] := by simp [hp]
        rw [e5]
        refine Paired.snoc (Paired.mono (fun w y h => hU _ _ _ _ _ _ (hR _ _ _ _ _ (e3.trans e4) h) (e4 _ _ (e3 _ _ q3))) q5) ?_
        exact hU _ _ _ _ _ _ r (e4 _ _ (e3 _ _ q3))
      | false =>
        rw [if_neg (by decide)]
        refine ⟨q1, q2.trans e3, acc, e3 _ _ q3, by omega, ?_⟩
        rw [htk, List.filter_append]
        have e5 : [ws[j]].filter pf = [] := by simp [hp]
        rw [e5, List.append_nil]
        exact Paired.mono (fun w y h => hR _ _ _ _ _ e3 h) q5
    · rintro H' ⟨q1, q2, acc, q3, q4, q5⟩
      rw [List.take_length] at q5
      exact k D acc H' (fresh_back e2 q1) (e2.trans q2) q3 q5
  have hgB : ∀ s H0 C cl fp, PG (Bk X scope s H0 C cl fp) (.Name n p) (gName i) := fun s H0 C cl fp => (hg s H0 C cl fp).pg
  have htB : ∀ s H0 C cl fp, PTs (Bk X scope s H0 C cl fp) ifs (XQb X scope ifs) := fun s H0 C cl fp => ⟨fun pins s' σ' H' Q' I h => h s H0 C cl fp pins s' I⟩
  have heB : ∀ s H0 C cl fp, PE (Bk X scope s H0 C cl fp) elt (XEb X scope elt) := fun s H0 C cl fp => ⟨fun pins s' σ' H' Q' I h => (h s H0 C cl fp).run pins s' I⟩
  exact ⟨fun H1 e1 Q k => xe_of (pe_lc hc hN hpi ok hgB htB heB hs) (key H1 e1 Q k),
    fun i' n' p' spos D hy hyl hsw k => xs_of (ps_setLc hc hN hy hyl hsw hpi ok hgB htB heB hs) (key H (Ex.refl H) _ k)⟩
/-- the same, each element a value -/
theorem lc_val {α : Type} {ws : List α} {enc : α → V} {own : List (Str × Nat)} (pf : α → Bool) (g : α → V) (hN : X.N.Nodup) (hc : X.calm = true) (ok : BlkOk X.N X.env.scope scope own) (hi : Il X (.Name n p) iter σ H (ws.map enc)) (hz : ws.length ≤ 40000)
    (hg : ∀ s H0 C cl fp, Nm (Bk X scope s H0 C cl fp) i n) (hw : ∀ x, wipe ((wipe σ (own.map (·.2))).set i (some x)) (own.map (·.2)) = wipe σ (own.map (·.2)))
    (ht : ∀ s H0 C cl fp, ∀ w ∈ ws, Ql (Bk X scope s H0 C cl fp) ifs ((wipe σ (own.map (·.2))).set i (some (enc w))) H (pf w))
    (he : ∀ s H0 C cl fp, ∀ w ∈ ws, pf w = true → Vl (Bk X scope s H0 C cl fp) elt ((wipe σ (own.map (·.2))).set i (some (enc w))) H (g w))
    (hs : ∀ x, foldedSetIterable iter X.env x = pure x := by intro _; rfl) :
    Cp X (.ListComp elt [⟨.Name n p, iter, ifs, 0⟩] scope pos) σ H fun _ ys _ _ => ys = (ws.filter pf).map g := by
  have h := lc_gen (pos := pos) pf (fun _ w y _ => y = g w) hN hc ok hi hz hg hw ht (fun s H0 C cl fp w hm hp D acc H1 e1 _ _ Q k => he s H0 C cl fp w hm hp H1 e1 Q fun H2 e2 => k _ H2 e2 rfl) (fun _ _ _ _ _ _ h => h) (fun _ _ _ _ _ _ h _ => h) hs
  have conv : ∀ {us : List α} {ys : List V}, Paired (fun w y => y = g w) us ys → ys = us.map g := by
    intro us ys h
    induction h with
    | nil => rfl
    | cons h _ ih => rw [h, ih]; rfl
  exact ⟨fun H1 e1 Q k => h.v H1 e1 Q fun q ys H2 a b c d => k q ys H2 a b c (conv d), fun i' n' p' spos D hy hyl hsw k => h.s i' n' p' spos D hy hyl hsw fun q ys H2 a b c d => k q ys H2 a b c (conv d)⟩
theorem filter_tt {α : Type} (l : List α) : l.filter (fun _ => true) = l := List.filter_eq_self.mpr fun _ _ => rfl
theorem Cp.is {P P' : Addr → List V → Hp → Hp → Prop} (h : Cp X e σ H P) (k : ∀ q ys H1 H2, P q ys H1 H2 → P' q ys H1 H2) : Cp X e σ H P' :=
  ⟨fun H1 e1 Q kk => h.v H1 e1 Q fun q ys H2 a b c d => kk q ys H2 a b c (k _ _ _ _ d), fun i' n' p' spos D hy hyl hsw kk => h.s i' n' p' spos D hy hyl hsw fun q ys H2 a b c d => kk q ys H2 a b c (k _ _ _ _ d)⟩
/-- without a test -/
theorem lc_map {α : Type} {ws : List α} {enc : α → V} {own : List (Str × Nat)} (g : α → V) (hi : Il X (.Name n p) iter σ H (ws.map enc)) (hz : ws.length ≤ 40000) (ok : BlkOk X.N X.env.scope scope own)
    (he : ∀ s H0 C cl fp, ∀ w ∈ ws, Vl (Bk X scope s H0 C cl fp) elt ((wipe σ (own.map (·.2))).set i (some (enc w))) H (g w)) (hN : X.N.Nodup := by assumption) (hc : X.calm = true := by rfl)
    (hg : ∀ s H0 C cl fp, Nm (Bk X scope s H0 C cl fp) i n := by exact fun _ _ _ _ _ => ⟨by assumption, rfl, Or.inl rfl, Or.inr rfl⟩) (hw : ∀ x, wipe ((wipe σ (own.map (·.2))).set i (some x)) (own.map (·.2)) = wipe σ (own.map (·.2)) := by intro _; rfl)
    (hs : ∀ x, foldedSetIterable iter X.env x = pure x := by intro _; rfl) : Cp X (.ListComp elt [⟨.Name n p, iter, [], 0⟩] scope pos) σ H fun _ ys _ _ => ys = ws.map g :=
  (lc_val (pos := pos) (fun _ => true) g hN hc ok hi hz hg hw (fun _ _ _ _ _ _ _ => q_nil) (fun s H0 C cl fp w hm _ => he s H0 C cl fp w hm) hs).is fun _ _ _ _ r => by rw [r, filter_tt]
/-- with one test -/
theorem lc_fil {α : Type} {ws : List α} {enc : α → V} {own : List (Str × Nat)} (pf : α → Bool) (g : α → V) (hi : Il X (.Name n p) iter σ H (ws.map enc)) (hz : ws.length ≤ 40000) (ok : BlkOk X.N X.env.scope scope own)
    (ht : ∀ s H0 C cl fp, ∀ w ∈ ws, Bl (Bk X scope s H0 C cl fp) c ((wipe σ (own.map (·.2))).set i (some (enc w))) H (pf w))
    (he : ∀ s H0 C cl fp, ∀ w ∈ ws, pf w = true → Vl (Bk X scope s H0 C cl fp) elt ((wipe σ (own.map (·.2))).set i (some (enc w))) H (g w)) (hN : X.N.Nodup := by assumption) (hc : X.calm = true := by rfl)
    (hg : ∀ s H0 C cl fp, Nm (Bk X scope s H0 C cl fp) i n := by exact fun _ _ _ _ _ => ⟨by assumption, rfl, Or.inl rfl, Or.inr rfl⟩) (hw : ∀ x, wipe ((wipe σ (own.map (·.2))).set i (some x)) (own.map (·.2)) = wipe σ (own.map (·.2)) := by intro _; rfl)
    (hs : ∀ x, foldedSetIterable iter X.env x = pure x := by intro _; rfl) : Cp X (.ListComp elt [⟨.Name n p, iter, [c], 0⟩] scope pos) σ H fun _ ys _ _ => ys = (ws.filter pf).map g :=
  lc_val (pos := pos) pf g hN hc ok hi hz hg hw (fun s H0 C cl fp w hm => q_one (ht s H0 C cl fp w hm)) he hs
theorem cp_ll {zs : List V} (h : Cp X e σ H fun _ ys _ _ => ys = zs) : Ll X e σ H zs := fun H1 e1 Q k => h.v H1 e1 Q fun q ys H2 hq e2 h2 r => k q H2 hq e2 (by rw [h2, r])
/-- name = [..] in one row, the name a local -/
theorem xb_setC {P : Addr → List V → Hp → Hp → Prop} (i : Nat) {spos : Pos} (h : Cp X e σ H P) (k : ∀ q ys H2, H q = none → Ex H H2 → H2 q = some (.lst ys) → P q ys H H2 → XB X rest D (σ.set i (some (.ref q))) H2) (hi : X.N[i]? = some n := by rfl) (hl : X.env.scope.names.lookup n = some .local := by rfl)
    (hsw : swapsWith e (some (.Name n p)) spos.line X.env = pure true := by exact sw_true rfl rfl rfl (by decide +kernel)) : XB X (.Assign [.Name n p] e spos :: rest) D σ H :=
  xb_cons (h.s i n p spos { D with nx := fun σ' H' => XB X rest D σ' H' } hi hl hsw k)
theorem xb_setCv {zs : List V} (i : Nat) {spos : Pos} (h : Cp X e σ H fun _ ys _ _ => ys = zs) (k : ∀ q H2, H q = none → Ex H H2 → H2 q = some (.lst zs) → XB X rest D (σ.set i (some (.ref q))) H2) (hi : X.N[i]? = some n := by rfl) (hl : X.env.scope.names.lookup n = some .local := by rfl)
    (hsw : swapsWith e (some (.Name n p)) spos.line X.env = pure true := by exact sw_true rfl rfl rfl (by decide +kernel)) : XB X (.Assign [.Name n p] e spos :: rest) D σ H :=
  xb_setC i h (fun q ys H2 a b c d => k q H2 a b (by rw [c, d])) hi hl hsw
end
end Gw

set_option maxRecDepth 100000
set_option maxHeartbeats 4000000
/-! Texts as lists of codes. -/
namespace Gw
open PySem PySem.Builtin PySem.Builtin.Str SX
theorem tl_S (a : List Nat) : (S a).cps.toList = a := rfl
theorem S_eq {a b : List Nat} : S a = S b ↔ a = b := ⟨S_inj, fun h => by rw [h]⟩
theorem dec_S {a b : List Nat} : decide (S a = S b) = decide (a = b) := by
  by_cases h : a = b
  · rw [decide_eq_true h, decide_eq_true (by rw [h])]
  · rw [decide_eq_false h, decide_eq_false fun q => h (S_inj q)]
theorem pre_one {c d : Nat} {r : List Nat} : TL.pre [c] (d :: r) = (d == c) := by
  unfold TL.pre
  show ([d] == [c]) = (d == c)
  simp
theorem par_acc {s : List Nat} : ∀ (a acc : List Nat), TL.par s acc a = (TL.par s [] a).map fun p => (acc ++ p.1, p.2)
  | [], acc => rfl
  | c :: r, acc => by
    unfold TL.par
    by_cases h : TL.pre s (c :: r) = true
    · rw [if_pos h, if_pos h]; simp
    · rw [if_neg h, if_neg h, par_acc r (acc ++ [c]), par_acc r ([] ++ [c])]
      cases TL.par s [] r with
      | none => rfl
      | some p => simp
theorem par_miss {s : List Nat} {c : Nat} {a : List Nat} (h : ¬ TL.pre s (c :: a) = true) : TL.par s [] (c :: a) = (TL.par s [] a).map fun p => ([c] ++ p.1, p.2) := by
  have e : TL.par s [] (c :: a) = if TL.pre s (c :: a) = true then some ([], (c :: a).drop s.length) else TL.par s ([] ++ [c]) a := rfl
  rw [e, if_neg h]
  exact par_acc a [c]
theorem spl_acc {s : List Nat} : ∀ (a : List Nat) (k : Nat) (acc : List Nat), ∃ p r, TL.spl s k [] a = p :: r ∧ TL.spl s k acc a = (acc ++ p) :: r
  | [], k, acc => ⟨[], [], TL.spl_nil .., by rw [TL.spl_nil]; simp⟩
  | c :: a, 0, acc => by
    by_cases h : TL.pre s (c :: a) = true
    · exact ⟨[], _, TL.spl_hit h, by rw [TL.spl_hit h]; simp⟩
    · have h' : TL.pre s (c :: a) = false := by simpa using h
      rw [TL.spl_miss h', TL.spl_miss h']
      obtain ⟨p1, r1, e1, e2⟩ := spl_acc a 0 [c]
      obtain ⟨p2, r2, e3, e4⟩ := spl_acc a 0 (acc ++ [c])
      rw [e1] at e3
      injection e3 with e5 e6
      subst e5 e6
      exact ⟨[c] ++ p1, r1, e2, by rw [e4]; simp⟩
  | c :: a, k + 1, acc => by
    obtain ⟨p, r, e1, e2⟩ := spl_acc a k acc
    exact ⟨p, r, e1, e2⟩
/-- split, cut by cut -/
theorem spl_skip {s : List Nat} : ∀ (k : Nat) (acc a : List Nat), TL.spl s k acc a = TL.spl s 0 acc (a.drop k)
  | 0, _, _ => rfl
  | k + 1, acc, [] => by rw [TL.spl_nil, List.drop_nil, TL.spl_nil]
  | k + 1, acc, c :: a => spl_skip k acc a
theorem spl_par {s : List Nat} (hs : s ≠ []) : ∀ a : List Nat, TL.spl s 0 [] a = match TL.par s [] a with
    | none => [a]
    | some (p, q) => p :: TL.spl s 0 [] q
  | [] => rfl
  | c :: a => by
    by_cases h : TL.pre s (c :: a) = true
    · rw [TL.spl_hit h]
      have : TL.par s [] (c :: a) = some ([], (c :: a).drop s.length) := by unfold TL.par; rw [if_pos h]
      rw [this]
      show _ = [] :: TL.spl s 0 [] _
      rw [spl_skip]
      congr 2
      cases s with
      | nil => exact absurd rfl hs
      | cons d t => rfl
    · have h' : TL.pre s (c :: a) = false := by simpa using h
      rw [TL.spl_miss h']
      have e := par_miss h
      rw [e]
      obtain ⟨p, r, e1, e2⟩ := spl_acc (s := s) a 0 [c]
      show TL.spl s 0 [c] a = _
      rw [e2]
      have ih := spl_par hs a
      rw [e1] at ih
      cases q : TL.par s [] a with
      | none =>
        rw [q] at ih
        injection ih with i1 i2
        rw [i1, i2]; rfl
      | some pq =>
        obtain ⟨p', q'⟩ := pq
        rw [q] at ih
        injection ih with i1 i2
        rw [i1, i2]; rfl
theorem par1_none {c : Nat} : ∀ {a : List Nat}, TL.par [c] [] a = none ↔ c ∉ a
  | [] => by simp [TL.par]
  | d :: a => by
    unfold TL.par
    rw [pre_one]
    by_cases h : (d == c) = true
    · rw [if_pos h]
      have : d = c := by simpa using h
      simp [this]
    · rw [if_neg h, par_acc]
      have hd : d ≠ c := by simpa using h
      have ih := par1_none (c := c) (a := a)
      constructor
      · intro q hm
        rcases List.mem_cons.mp hm with e | e
        · exact hd e.symm
        · cases z : TL.par [c] [] a with
          | none => exact ih.mp z e
          | some p => rw [z] at q; cases q
      · intro hm
        rw [ih.mpr fun z => hm (List.mem_cons_of_mem _ z)]; rfl
theorem par_some_eq {s : List Nat} : ∀ {a p q : List Nat}, TL.par s [] a = some (p, q) → a = p ++ (s ++ q)
  | [], p, q, h => by cases h
  | d :: a, p, q, h => by
    by_cases hp : TL.pre s (d :: a) = true
    · have e : TL.par s [] (d :: a) = some ([], (d :: a).drop s.length) := by unfold TL.par; rw [if_pos hp]
      rw [e] at h
      cases h
      have : (d :: a).take s.length = s := by
        unfold TL.pre at hp
        exact eq_of_beq hp
      rw [List.nil_append]
      conv => lhs; rw [← List.take_append_drop s.length (d :: a), this]
    · have e := par_miss hp
      rw [e] at h
      cases z : TL.par s [] a with
      | none => rw [z] at h; cases h
      | some pq =>
        obtain ⟨p', q'⟩ := pq
        rw [z] at h
        cases h
        have ih := par_some_eq z
        show d :: a = d :: (p' ++ (s ++ q'))
        rw [← ih]
theorem par1_free {c : Nat} : ∀ {a p q : List Nat}, TL.par [c] [] a = some (p, q) → c ∉ p
  | [], p, q, h => by cases h
  | d :: a, p, q, h => by
    unfold TL.par at h
    rw [pre_one] at h
    by_cases hd : (d == c) = true
    · rw [if_pos hd] at h; cases h; simp
    · rw [if_neg hd, par_acc] at h
      have hd' : d ≠ c := by simpa using hd
      cases z : TL.par [c] [] a with
      | none => rw [z] at h; cases h
      | some pq =>
        obtain ⟨p', q'⟩ := pq
        rw [z] at h
        cases h
        have ih := par1_free z
        simp only [List.nil_append, List.mem_append, List.mem_singleton, not_or]
        exact ⟨fun e => hd' e.symm, ih⟩
theorem par1_of {c : Nat} {p q : List Nat} (h : c ∉ p) : TL.par [c] [] (p ++ c :: q) = some (p, q) := par_head (sep := []) q h
/-- the parts are no longer than the whole, and few -/
theorem spl_len {s : List Nat} (hs : s ≠ []) : ∀ (n : Nat) (a : List Nat), a.length ≤ n → (TL.spl s 0 [] a).length ≤ a.length + 1 ∧ ∀ p ∈ TL.spl s 0 [] a, p.length ≤ a.length
  | 0, a, h => by
    have : a = [] := List.length_eq_zero_iff.mp (Nat.le_zero.mp h)
    subst this
    rw [TL.spl_nil]
    exact ⟨by simp, fun p hp => by simp at hp; simp [hp]⟩
  | n + 1, a, h => by
    rw [spl_par hs a]
    cases z : TL.par s [] a with
    | none => exact ⟨by simp, fun p hp => by simp at hp; simp [hp]⟩
    | some pq =>
      obtain ⟨p, q⟩ := pq
      have e := par_some_eq z
      have hl : a.length = p.length + (s.length + q.length) := by rw [e, List.length_append, List.length_append]
      have s1 : 1 ≤ s.length := by cases s with | nil => exact absurd rfl hs | cons _ _ => simp
      obtain ⟨h1, h2⟩ := spl_len hs n q (by omega)
      refine ⟨?_, fun r hr => ?_⟩
      · simp only [List.length_cons]
        omega
      · rcases List.mem_cons.mp hr with rfl | hr
        · omega
        · have := h2 r hr
          omega
theorem spl_le {s a p : List Nat} (hs : s ≠ []) (h : p ∈ TL.spl s 0 [] a) : p.length ≤ a.length := (spl_len hs a.length a (Nat.le_refl _)).2 p h
theorem spl_many {s a : List Nat} (hs : s ≠ []) : (TL.spl s 0 [] a).length ≤ a.length + 1 := (spl_len hs a.length a (Nat.le_refl _)).1
/-- the parts of a split by one sign are free of it -/
theorem spl1_free {c : Nat} : ∀ (n : Nat) (a : List Nat), a.length ≤ n → ∀ p ∈ TL.spl [c] 0 [] a, c ∉ p ∧ ∀ d ∈ p, d ∈ a
  | 0, a, h, p, hp => by
    have : a = [] := List.length_eq_zero_iff.mp (Nat.le_zero.mp h)
    subst this
    rw [TL.spl_nil] at hp
    simp at hp
    simp [hp]
  | n + 1, a, h, r, hr => by
    rw [spl_par (List.cons_ne_nil _ _) a] at hr
    cases z : TL.par [c] [] a with
    | none =>
      rw [z] at hr
      simp at hr
      rw [hr]
      exact ⟨par1_none.mp z, fun _ h => h⟩
    | some pq =>
      obtain ⟨p, q⟩ := pq
      rw [z] at hr
      have e := par_some_eq z
      have hl : a.length = p.length + (1 + q.length) := by rw [e, List.length_append, List.length_append]; rfl
      rcases List.mem_cons.mp hr with rfl | hr
      · exact ⟨par1_free z, fun d hd => by rw [e]; exact List.mem_append_left _ hd⟩
      · obtain ⟨h1, h2⟩ := spl1_free n q (by omega) r hr
        exact ⟨h1, fun d hd => by rw [e]; exact List.mem_append_right _ (List.mem_append_right _ (h2 d hd))⟩
/-! ### startswith, endswith -/
theorem sub_at1 {a : List Nat} {c i : Nat} : subAt (S a) (S [c]) i = (a[i]? == some c) := by
  rw [StrLaws.subAt_eq]
  show ((a.drop i).take 1 == [c]) = _
  cases h : a[i]? with
  | none =>
    have : a.drop i = [] := List.drop_eq_nil_of_le (List.getElem?_eq_none_iff.mp h)
    rw [this]; rfl
  | some d =>
    obtain ⟨hi, hd⟩ := List.getElem?_eq_some_iff.mp h
    rw [List.drop_eq_getElem_cons hi, hd]
    show ([d] == [c]) = (some d == some c)
    simp
end Gw

set_option maxRecDepth 100000
set_option maxHeartbeats 4000000
/-! Data made of tuples, told over the heap. -/
namespace Gw
open PySem PySem.Spec PyProof.Rows L2 Evl SX
mutual
inductive Tp (H : Hp) : V → PyData → Prop
  | non : Tp H .non .none
  | bl (b : Bool) : Tp H (.bl b) (.bool b)
  | int (i : Int) : Tp H (.int i) (.int i)
  | str (z : Str) : Tp H (.str z) (.str z)
  | tup {a : Addr} {xs : List V} {ds : List PyData} : Rd H a (.tup xs) → TpA H xs ds → Tp H (.ref a) (.tuple ds)
inductive TpA (H : Hp) : List V → List PyData → Prop
  | nil : TpA H [] []
  | cons {v : V} {vs : List V} {d : PyData} {ds : List PyData} : Tp H v d → TpA H vs ds → TpA H (v :: vs) (d :: ds)
end
/-- tuples stay -/
def Tex (H H' : Hp) : Prop := ∀ b xs, Rd H b (.tup xs) → Rd H' b (.tup xs)
theorem Tex.of {H H' : Hp} (e : Ex H H') : Tex H H' := fun b xs h => ex_rd e h
theorem Tex.refl (H : Hp) : Tex H H := fun _ _ h => h
theorem Tex.trans {H H1 H2 : Hp} (a : Tex H H1) (b : Tex H1 H2) : Tex H H2 := fun c xs h => b c xs (a c xs h)
theorem Tex.mut {H H' : Hp} {p : Addr} {o : HO} (e : Tex H H') (h : ∀ xs, ¬ Rd H' p (.tup xs)) : Tex H (upd H' p o) := fun b xs hb => by
  have z := e b xs hb
  have hn : b ≠ p := fun q => h xs (by rw [← q]; exact z)
  rcases z with z | ⟨u, z⟩
  · exact .inl (by rw [upd_ne hn]; exact z)
  · exact .inr ⟨u, by rw [upd_ne hn]; exact z⟩
theorem nolst {H : Hp} {p : Addr} {l : List V} (h : H p = some (.lst l)) (xs : List V) : ¬ Rd H p (.tup xs) := by
  rintro (q | ⟨o, q⟩) <;> rw [h] at q <;> cases q
mutual
theorem Tp.tex {H H' : Hp} (e : Tex H H') : ∀ {v : V} {d : PyData}, Tp H v d → Tp H' v d
  | _, _, .non => .non
  | _, _, .bl b => .bl b
  | _, _, .int i => .int i
  | _, _, .str z => .str z
  | _, _, .tup h a => .tup (e _ _ h) (TpA.tex e a)
theorem TpA.tex {H H' : Hp} (e : Tex H H') : ∀ {vs : List V} {ds : List PyData}, TpA H vs ds → TpA H' vs ds
  | _, _, .nil => .nil
  | _, _, .cons h a => .cons (Tp.tex e h) (TpA.tex e a)
end
theorem Tp.mono {H H' : Hp} {v : V} {d : PyData} (e : Ex H H') (h : Tp H v d) : Tp H' v d := h.tex (.of e)
theorem TpA.mono {H H' : Hp} {vs : List V} {ds : List PyData} (e : Ex H H') (h : TpA H vs ds) : TpA H' vs ds := h.tex (.of e)
theorem TpA.length {H : Hp} : ∀ {vs : List V} {ds : List PyData}, TpA H vs ds → vs.length = ds.length
  | _, _, .nil => rfl
  | _, _, .cons _ t => by rw [List.length_cons, List.length_cons, TpA.length t]
theorem TpA.append {H : Hp} : ∀ {vs ws : List V} {ds es : List PyData}, TpA H vs ds → TpA H ws es → TpA H (vs ++ ws) (ds ++ es)
  | _, _, _, _, .nil, b => b
  | _, _, _, _, .cons h a, b => .cons h (TpA.append a b)
theorem TpA.snoc {H : Hp} {vs : List V} {ds : List PyData} {v : V} {d : PyData} (a : TpA H vs ds) (h : Tp H v d) : TpA H (vs ++ [v]) (ds ++ [d]) := a.append (.cons h .nil)
theorem TpA.get {H : Hp} : ∀ {vs : List V} {ds : List PyData} {i : Nat} {v : V}, TpA H vs ds → vs[i]? = some v → ∃ d, ds[i]? = some d ∧ Tp H v d
  | _, _, _, _, .nil, h => by simp at h
  | _, _, 0, _, .cons h _, e => by simp at e; subst e; exact ⟨_, rfl, h⟩
  | _, _, i + 1, _, .cons _ t, e => by
    obtain ⟨d, h1, h2⟩ := TpA.get (i := i) t (by simpa using e)
    exact ⟨d, by simpa using h1, h2⟩
theorem TpA.get' {H : Hp} : ∀ {vs : List V} {ds : List PyData} {i : Nat} {d : PyData}, TpA H vs ds → ds[i]? = some d → ∃ v, vs[i]? = some v ∧ Tp H v d
  | _, _, _, _, .nil, h => by simp at h
  | _, _, 0, _, .cons h _, e => by simp at e; subst e; exact ⟨_, rfl, h⟩
  | _, _, i + 1, _, .cons _ t, e => by
    obtain ⟨d, h1, h2⟩ := TpA.get' (i := i) t (by simpa using e)
    exact ⟨d, by simpa using h1, h2⟩
theorem TpA.of_paired {α : Type} {H : Hp} {g : α → PyData} : ∀ {ws : List α} {vs : List V}, Paired (fun w y => Tp H y (g w)) ws vs → TpA H vs (ws.map g)
  | _, _, .nil => .nil
  | _, _, .cons h t => .cons h (TpA.of_paired t)
theorem TpA.to_paired {α : Type} {H : Hp} {g : α → PyData} : ∀ {ws : List α} {vs : List V}, TpA H vs (ws.map g) → Paired (fun w y => Tp H y (g w)) ws vs
  | [], _, .nil => .nil
  | _ :: _, _, .cons h t => .cons h (TpA.to_paired t)
theorem TpA.strs {H : Hp} : ∀ {ws : List (List Nat)} {vs : List V}, TpA H vs (ws.map fun a => PyData.str (S a)) → vs = ws.map fun a => V.str (S a)
  | [], _, .nil => rfl
  | _ :: _, _, .cons (.str _) t => by rw [TpA.strs t]; rfl
theorem TpA.of_strs {H : Hp} : ∀ {ws : List (List Nat)}, TpA H (ws.map fun a => V.str (S a)) (ws.map fun a => PyData.str (S a))
  | [] => .nil
  | _ :: _ => .cons (.str _) TpA.of_strs
mutual
theorem Tp.dp {K : PySem.W.Frag} {H : Hp} : ∀ {v : V} {d : PyData}, Tp H v d → Dp K H v d
  | _, _, .non => .non
  | _, _, .bl b => .bl b
  | _, _, .int i => .int i
  | _, _, .str z => .str z
  | _, _, .tup h a => .tup (.inl h) (TpA.dp a)
theorem TpA.dp {K : PySem.W.Frag} {H : Hp} : ∀ {vs : List V} {ds : List PyData}, TpA H vs ds → DpAll K H vs ds
  | _, _, .nil => .nil
  | _, _, .cons h a => .cons (Tp.dp h) (TpA.dp a)
end
section
variable {X : Cx} {e a b c : Expr} {es : List Expr} {rest : List Stmt} {σ : L2.St} {H H' : Hp} {Q : VK} {D : Ends} {v : V} {pos : Pos} {d : PyData} {ds : List PyData}
/-- an expression that gives such data -/
abbrev Dl (X : Cx) (e : Expr) (σ : L2.St) (H : Hp) (d : PyData) : Prop := Er X e σ H fun y H' => Tp H' y d
def DA (X : Cx) (es : List Expr) (σ : L2.St) (H : Hp) (ds : List PyData) : Prop := ∀ H1, Ex H H1 → ∀ Q : List V → Hp → Prop, (∀ vs H2, Ex H1 H2 → TpA H2 vs ds → Q vs H2) → XA X es σ H1 Q
theorem d_v (h : Vl X e σ H v) (t : Tp H v d) : Dl X e σ H d := vl_er h fun H' e' => t.mono e'
theorem d_str {z : Str} (h : Vl X e σ H (.str z)) : Dl X e σ H (.str z) := d_v h (.str z)
theorem d_int {i : Int} (h : Vl X e σ H (.int i)) : Dl X e σ H (.int i) := d_v h (.int i)
theorem d_non {j : Nat} : Dl X (.Constant .none j pos) σ H .none := d_v v_non .non
theorem d_is {d' : PyData} (h : Dl X e σ H d) (q : d = d') : Dl X e σ H d' := q ▸ h
theorem da_nil : DA X [] σ H [] := fun H1 e1 Q k => a_nil H1 e1 Q fun H2 e2 => k [] H2 e2 .nil
theorem da_cons (ha : Dl X a σ H d) (hr : DA X es σ H ds) (hs : starEach (a :: es) X.env = (false, eval a X.env) :: starEach es X.env := by rfl) : DA X (a :: es) σ H (d :: ds) := fun H1 e1 Q k => xa_of (pa_cons pe_xe pa_xa hs)
  (ha H1 e1 _ fun y H2 e2 t => hr H2 (e1.trans e2) _ fun vs H3 e3 ts => k (y :: vs) H3 (e2.trans e3) (.cons (t.mono e3) ts))
theorem d_tup {x1 : Nat} (h : DA X es σ H ds) (hl : ds.length ≤ 100000 := by exact Nat.le_of_ble_eq_true rfl) : Dl X (.Tuple es x1 pos) σ H (.tuple ds) := fun H1 e1 Q k => xe_of (pe_tup pa_xa)
  (h H1 e1 _ fun vs H2 e2 t => ⟨sz_of (by rw [t.length]; exact hl), fun p hp => k (.ref p) _ (e2.trans (Ex.new hp)) (.tup (.inl upd_same) (t.mono (Ex.new hp)))⟩)
theorem d_if {k : Bool} (hc : Bl X c σ H k) (ha : k = true → Dl X a σ H d) (hb : k = false → Dl X b σ H d) : Dl X (.IfExp c a b pos) σ H d := fun H1 e1 Q q => xe_of (pe_ifExp pt_xt pe_xe pe_xe) (hc H1 e1 _ fun H2 e2 => by
  cases k with
  | true => exact ha rfl H2 (e1.trans e2) Q fun y H3 e3 t => q y H3 (e2.trans e3) t
  | false => exact hb rfl H2 (e1.trans e2) Q fun y H3 e3 t => q y H3 (e2.trans e3) t)
theorem xb_retD (h : Dl X e σ H d) (k : ∀ H1 v, Ex H H1 → Tp H1 v d → D.rt v H1) : XB X (.Return (some e) pos :: rest) D σ H := xb_retE (h H (Ex.refl H) _ fun y H1 e1 t => k H1 y e1 t)
end
/-- what a def tells: data of such a kind -/
def GiveD (d : PyData) (H : Hp) (Q : VK) : Prop := ∀ H' v, Ex H H' → Tp H' v d → Q v H'
theorem GiveD.go {d : PyData} {H H' : Hp} {Q : VK} (k : GiveD d H Q) (e : Ex H H') : GiveD d H' Q := fun H2 v e2 t => k H2 v (e.trans e2) t
theorem GiveD.is {d d' : PyData} {H : Hp} {Q : VK} (k : GiveD d H Q) (q : d = d') : GiveD d' H Q := q ▸ k
end Gw

set_option maxRecDepth 100000
set_option maxHeartbeats 4000000
/-! Dicts; a tuple that is known to have no names of its own. -/
namespace Gw
open PySem PySem.Spec PyProof.Rows L2 Evl SX
section
variable {X : Cx} {e a b c o : Expr} {rest : List Stmt} {σ : L2.St} {H H' : Hp} {Q : VK} {D : Ends} {v w x y z : V} {xs ys vs : List V} {pos p apos : Pos} {k : Nat}
/-! ### dicts with keys that are texts or whole numbers -/
theorem c_inD {ad : Addr} {kvs : List (Key × V)} {q : Key} (hr : Room k X.A) (ha : Vl X a σ H (kV q)) (hb : Vl X b σ H (.ref ad)) (hd : H ad = some (.dK kvs)) (hm : behindInMarks .In b = false := by rfl) : Cm X .In a b σ H (valV kvs q).isSome :=
  ⟨fun _ => vl_of (pe_cmp (pc_din (hu_of hr) pe_xe pe_xe) hm) fun H1 e1 Q kk => ha H1 e1 _ fun H2 e2 => hb H2 (e1.trans e2) _ fun H3 e3 => ⟨ad, _, rfl, DGet.k (((e1.trans e2).trans e3) _ _ hd), kk H3 (e2.trans e3)⟩,
   fun _ => bl_of (pt_cmp (pc_din (hu_of hr) pe_xe pe_xe) hm) fun H1 e1 Q kk => ha H1 e1 _ fun H2 e2 => hb H2 (e1.trans e2) _ fun H3 e3 => ⟨ad, _, rfl, DGet.k (((e1.trans e2).trans e3) _ _ hd), _, rfl, kk H3 (e2.trans e3)⟩⟩
theorem c_ninD {ad : Addr} {kvs : List (Key × V)} {q : Key} (hr : Room k X.A) (ha : Vl X a σ H (kV q)) (hb : Vl X b σ H (.ref ad)) (hd : H ad = some (.dK kvs)) (hm : behindInMarks .NotIn b = false := by rfl) : Cm X .NotIn a b σ H (!(valV kvs q).isSome) :=
  ⟨fun _ => vl_of (pe_cmp (pc_dnotin (hu_of hr) pe_xe pe_xe) hm) fun H1 e1 Q kk => ha H1 e1 _ fun H2 e2 => hb H2 (e1.trans e2) _ fun H3 e3 => ⟨ad, _, rfl, DGet.k (((e1.trans e2).trans e3) _ _ hd), kk H3 (e2.trans e3)⟩,
   fun _ => bl_of (pt_cmp (pc_dnotin (hu_of hr) pe_xe pe_xe) hm) fun H1 e1 Q kk => ha H1 e1 _ fun H2 e2 => hb H2 (e1.trans e2) _ fun H3 e3 => ⟨ad, _, rfl, DGet.k (((e1.trans e2).trans e3) _ _ hd), _, rfl, kk H3 (e2.trans e3)⟩⟩
/-- a dict's value, the dict reached by any road -/
def Du (X : Cx) (e : Expr) (σ : L2.St) (H : Hp) (kvs : List (Key × V)) : Prop := ∀ H1, Ex H H1 → ∀ Q : VK, (∀ p H2, Ex H1 H2 → H2 p = some (.dK kvs) → Q (.ref p) H2) → XE X e σ H1 Q
theorem vl_du {ad : Addr} {kvs : List (Key × V)} (h : Vl X e σ H (.ref ad)) (hd : H ad = some (.dK kvs)) : Du X e σ H kvs := fun H1 e1 Q k => h H1 e1 Q fun H2 e2 => k ad H2 e2 ((e1.trans e2) _ _ hd)
theorem v_dget {kvs : List (Key × V)} {q : Key} (hr : Room k X.A) (ha : Du X a σ H kvs) (hb : Vl X b σ H (kV q)) (hv : valV kvs q = some v) (hs : NoSl b := by exact fun _ _ => rfl) : Vl X (.Subscript a b pos) σ H v :=
  vl_of (pe_dget (hu_of hr) pe_xe pe_xe hs) fun H1 e1 Q kk => ha H1 e1 _ fun ad H2 e2 h2 => hb H2 (e1.trans e2) _ fun H3 e3 => ⟨ad, v, rfl, by rw [← hv]; exact DGet.k (e3 _ _ h2), kk H3 (e2.trans e3)⟩
theorem v_dget2 {kvs : List (Key × V)} {q : Key} (hr : Room k X.A) (ha : Du X o σ H kvs) (hb : Vl X a σ H (kV q)) (hc : Vl X b σ H w) (m : M2 X o "get" apos a b pos) : Vl X (.Call (.Attribute o "get" apos) [a, b] [] pos) σ H ((valV kvs q).getD w) :=
  vl_of (pe_dget2 (hu_of hr) pe_xe pe_xe pe_xe m) fun H1 e1 Q kk => ha H1 e1 _ fun ad H2 e2 h2 => ⟨ad, rfl, .inl ⟨kvs, .inl h2⟩, hb H2 (e1.trans e2) _ fun H3 e3 => hc H3 ((e1.trans e2).trans e3) _ fun H4 e4 => ⟨_, DGet.k ((e3.trans e4) _ _ h2), kk H4 ((e2.trans e3).trans e4)⟩⟩
/-- d[k] = v -/
theorem xb_dput {ad : Addr} {kvs : List (Key × V)} {q : Key} {p' : Pos} (hr : Room k X.A) (hv : Vl X e σ H v) (ha : Vl X a σ H (.ref ad)) (hb : Vl X b σ H (kV q)) (hd : H ad = some (.dK kvs)) (hz : kvs.length < 100000) (kk : ∀ H1, Ex H H1 → XB X rest D σ (upd H1 ad (.dK (putK kvs q v))))
    (hs : swapsWith e (some (.Subscript a b p')) pos.line X.env = pure false := by rfl) : XB X (.Assign [.Subscript a b p'] e pos :: rest) D σ H :=
  xb_cons (xs_of (ps_dput (hu_of hr) pe_xe pe_xe pe_xe hs) (hv H (Ex.refl H) _ fun H1 e1 => ha H1 e1 _ fun H2 e2 => hb H2 (e1.trans e2) _ fun H3 e3 => ⟨ad, _, rfl, DPut.k (((e1.trans e2).trans e3) _ _ hd) (sz_lt hz), kk H3 ((e1.trans e2).trans e3)⟩))
/-- {k: v, ..}: two, three entries -/
theorem xe_disp2 {k1 k2 v1 v2 : Expr} {q1 q2 : Key} (h1 : Vl X k1 σ H (kV q1)) (h2 : Vl X k2 σ H (kV q2))
    (hv : ∀ p H1, H p = none → Ex H H1 → H1 p = some (.dK []) → XE X v1 σ H1 fun y1 H2 => Ex H1 H2 ∧ ∀ H3, Ex H2 H3 → XE X v2 σ H3 fun y2 H4 => Ex H3 H4 ∧ Q (.ref p) (upd H4 p (.dK (mergeK [] [(q1, y1), (q2, y2)])))) :
    XE X (.Dict [some k1, some k2] [v1, v2] pos) σ H Q := xe_of (pe_disp (pps_cons pe_xe pe_xe (pps_cons pe_xe pe_xe pps_nil)) rfl rfl (fun z => by cases z) (Nat.le_of_ble_eq_true rfl)) fun p hp => by
  refine h1 _ (Ex.new hp) _ fun H1 e1 => ?_
  have hq1 : H1 p = some (.dK []) := e1 _ _ upd_same
  refine ⟨fun pins s I => thn ((hv p H1 hp ((Ex.new hp).trans e1) hq1).run pins s I) fun u s1 ⟨y1, H2, I2, r1, e2, kk⟩ => ⟨y1, H2, I2, r1, ?_⟩⟩
  refine h2 _ (((Ex.new hp).trans e1).trans e2) _ fun H3 e3 => ?_
  refine ⟨fun pins s I => thn ((kk H3 e3).run pins s I) fun u s1 ⟨y2, H4, I4, r2, e4, q⟩ => ⟨y2, H4, I4, r2, (e4 _ _ (e3 _ _ (e2 _ _ hq1))), [(q1, y1), (q2, y2)], rfl, Nat.le_of_ble_eq_true rfl, q⟩⟩
theorem xe_disp3 {k1 k2 k3 v1 v2 v3 : Expr} {q1 q2 q3 : Key} (h1 : Vl X k1 σ H (kV q1)) (h2 : Vl X k2 σ H (kV q2)) (h3 : Vl X k3 σ H (kV q3))
    (hv : ∀ p H1, H p = none → Ex H H1 → H1 p = some (.dK []) → XE X v1 σ H1 fun y1 H2 => Ex H1 H2 ∧ ∀ H3, Ex H2 H3 → XE X v2 σ H3 fun y2 H4 => Ex H3 H4 ∧ ∀ H5, Ex H4 H5 → XE X v3 σ H5 fun y3 H6 => Ex H5 H6 ∧ Q (.ref p) (upd H6 p (.dK (mergeK [] [(q1, y1), (q2, y2), (q3, y3)])))) :
    XE X (.Dict [some k1, some k2, some k3] [v1, v2, v3] pos) σ H Q := xe_of (pe_disp (pps_cons pe_xe pe_xe (pps_cons pe_xe pe_xe (pps_cons pe_xe pe_xe pps_nil))) rfl rfl (fun z => by cases z) (Nat.le_of_ble_eq_true rfl)) fun p hp => by
  refine h1 _ (Ex.new hp) _ fun H1 e1 => ?_
  have hq1 : H1 p = some (.dK []) := e1 _ _ upd_same
  refine ⟨fun pins s I => thn ((hv p H1 hp ((Ex.new hp).trans e1) hq1).run pins s I) fun u s1 ⟨y1, H2, I2, r1, e2, kk⟩ => ⟨y1, H2, I2, r1, ?_⟩⟩
  refine h2 _ (((Ex.new hp).trans e1).trans e2) _ fun H3 e3 => ?_
  refine ⟨fun pins s I => thn ((kk H3 e3).run pins s I) fun u s1 ⟨y2, H4, I4, r2, e4, kk2⟩ => ⟨y2, H4, I4, r2, ?_⟩⟩
  refine h3 _ (((((Ex.new hp).trans e1).trans e2).trans e3).trans e4) _ fun H5 e5 => ?_
  refine ⟨fun pins s I => thn ((kk2 H5 e5).run pins s I) fun u s1 ⟨y3, H6, I6, r3, e6, q⟩ => ⟨y3, H6, I6, r3, (e6 _ _ (e5 _ _ (e4 _ _ (e3 _ _ (e2 _ _ hq1))))), [(q1, y1), (q2, y2), (q3, y3)], rfl, Nat.le_of_ble_eq_true rfl, q⟩⟩
/-! ### a tuple made of a list, known to the object -/
/-- a tuple that is known, without names of its own -/
def Ft (H : Hp) (t : Addr) (xs : List V) : Prop := ∃ ob : Obj, H t = some (.frz ob (.tup xs)) ∧ ob.dict = none
theorem Ft.mono {t : Addr} (h : Ft H t xs) (e1 : Ex H H') : Ft H' t xs := let ⟨ob, h1, h2⟩ := h; ⟨ob, e1 _ _ h1, h2⟩
theorem Ft.rd {t : Addr} (h : Ft H t xs) : Rd H t (.tup xs) := let ⟨ob, h1, _⟩ := h; .inr ⟨ob, h1⟩
theorem call_tupleF : CallR X (.type "tuple") (fun xs H Q => ∃ p ys, xs = [.ref p] ∧ SqL X.K H p ys ∧ ∀ l ob, H l = none → ob.dict = none → Q (.ref l) (upd H l (.frz ob (.tup ys)))) := by
  intro pins s σ H xs us Q I r h
  obtain ⟨p, ys, rfl, hq, q⟩ := h
  cases r with
  | cons rx rr =>
    cases rr
    cases rx
    obtain ⟨its, r', pl, hz⟩ := I.list hq
    have hlen := r'.length
    refine call_tuple_list pl.isList (fun h' kp => ?_) (by have := line63; simp only [List.size_toArray] <;> omega)
    have I1 : Inv X pins σ H { s with heap := h' } := I.kept (t' := s.toks) kp
    have I2 : Inv X pins σ (upd H h'.objs.size (.frz { cls := .type "tuple", data := .seq its.toArray } (.tup ys))) { s with heap := h'.push { cls := .type "tuple", data := .seq its.toArray } } :=
      I1.laid (t' := s.toks) (fun b o e => Heap.get?_push_of_some _ e) (Nat.le_refl _) ⟨Heap.get?_push_size _ rfl, hz, its, r', IsTup.new _ _⟩
    exact ⟨.ref h'.objs.size, _, I2, rfl, q _ _ (I1.hok.fresh (Nat.le_refl _)) rfl⟩
theorem xe_tupleF (hm : X.mg "tuple" = none) (h : Sl X e σ H xs) (kk : ∀ l H1, H l = none → Ex H H1 → Ft H1 l xs → Q (.ref l) H1) (hg : Gl X "tuple" := by rfl) (hs : starEach [e] X.env = (false, eval e X.env) :: starEach [] X.env := by rfl) (hpl : (backTo pos (starEach [] X.env)).any (·.1) = false := by rfl) :
    XE X (.Call (.Name "tuple" p) [e] [] pos) σ H Q := xe_of (pe_callTy call_tupleF hg hm (by decide +kernel) (pa_cons pe_xe pa_nil hs) (by decide) (by decide) hs hpl)
  (h H (Ex.refl H) _ fun p H2 e2 h2 => ⟨p, xs, rfl, h2, fun l ob hl hd => kk l _ (fresh_back e2 hl) (e2.trans (Ex.new hl)) ⟨ob, upd_same, hd⟩⟩)
theorem idx_mem {α : Type} [BEq α] [LawfulBEq α] {a : α} : ∀ {l : List α}, a ∈ l → l[l.idxOf a]? = some a ∧ ∀ m, m < l.idxOf a → l[m]? ≠ some a
  | [], h => by cases h
  | b :: l, h => by
    rw [List.idxOf_cons]
    by_cases e : b = a
    · subst e
      simp
    · have hb : (b == a) = false := by simpa using e
      rw [hb]
      have hm : a ∈ l := by
        rcases List.mem_cons.mp h with q | q
        · exact absurd q.symm e
        · exact q
      obtain ⟨h1, h2⟩ := idx_mem hm
      refine ⟨by simpa using h1, fun m hm' => ?_⟩
      cases m with
      | zero => simpa using e
      | succ m => simpa using h2 m (by simpa using hm')
/-- t.index(x), t such a tuple of texts -/
theorem v_tidx {t : Addr} {ms : List (List Nat)} {w : List Nat} (ho : Vl X o σ H (.ref t)) (ht : Ft H t (ms.map fun a => V.str (S a))) (he : Vl X e σ H (.str (S w))) (hm : w ∈ ms) (hbase : attributeBase o "index" X.env (eval o X.env) = eval o X.env := by rfl)
    (hfew : ((backTo pos (starEach [e] X.env)).all (fun x => !x.1) && (backToKw pos (keywordEach [] X.env)).all (fun x => x.1.isSome)
      && decide (([e] : List Expr).length + ([] : List Keyword).length + (if ([] : List Keyword).isEmpty then 0 else 1) < 30)) = true := by rfl)
    (hline : (apos.endLine == pos.line) = true := by rfl) (hs : starEach [e] X.env = (false, eval e X.env) :: starEach [] X.env := by rfl) (hplain : (backTo pos (starEach [] X.env)).any (·.1) = false := by rfl) :
    Vl X (.Call (.Attribute o "index" apos) [e] [] pos) σ H (.int ((ms.idxOf w : Nat) : Int)) := by
  intro H0 e0 Q kk
  refine ⟨fun pins s I => ?_⟩
  refine wpAny_Call_method_late hbase hfew hline rfl (thn ((ho H0 e0 (fun v H1 => v = .ref t ∧ Ex H0 H1) (fun H1 e1 => ⟨rfl, e1⟩)).run pins s I) fun v s1 ⟨x, H1, I1, r1, ex, e1⟩ => ?_)
  subst ex
  obtain rfl : v = Value.ref t := r1
  obtain ⟨ob, h1, hd⟩ := ht.mono (e0.trans e1)
  have hok : s1.heap.get? t = some ob ∧ ObjOk X.prog X.w H1 s1.heap t (.tup (ms.map fun a => V.str (S a))) := I1.hok t _ h1
  obtain ⟨hget, _, its, rv, o', ho', hc', _⟩ := hok
  rw [hget] at ho'
  cases ho'
  refine ⟨"tuple", _, PySem.F.plainAttrs_tuple, PySem.F.slot_tuple_index, PySem.F.type_tuple_index, ⟨ob, hget, hc'⟩, fun a q => ?_, ?_⟩
  · cases q
    exact ⟨ob, hget, hd⟩
  · have hs0 : starEach [e] X.env = (false, eval e X.env) :: starEach [] X.env := hs
    have hA := (pa_cons (X := X) pe_xe pa_nil hs).run pos pins s1 σ H1 (fun vs H2 => vs = [.str (S w)] ∧ Ex H1 H2) I1 (he H1 (e0.trans e1) _ fun H2 e2 => ⟨rfl, e2⟩)
    rw [hs0] at hA ⊢
    refine Calls.callWith_builtin (by show (false || (backTo pos (starEach [] X.env)).any (·.1)) = false; rw [hplain] <;> rfl) (Calls.evalArgs_plain ?_)
    refine thn hA fun us s2 ⟨ws, H2, I2, r2, ew, e2⟩ => ?_
    subst ew
    obtain ⟨g1, g2⟩ := idx_mem hm
    refine mt_tup_index pins s2 σ H2 (.ref t) [.str (S w)] (Value.ref t) us Q I2 rfl r2 ⟨t, ms.map S, S w, ms.idxOf w, rfl, rfl, ?_, ?_, fun m hm' q => ?_, kk H2 (e1.trans e2)⟩
    · rw [List.map_map]
      exact .inl (.inr ⟨ob, e2 _ _ h1⟩)
    · rw [List.getElem?_map, g1]; rfl
    · rw [List.getElem?_map] at q
      cases z : ms[m]? with
      | none => rw [z] at q; cases q
      | some y =>
        rw [z] at q
        have : y = w := S_inj (Option.some.inj q)
        exact g2 m hm' (by rw [z, this])
end
end Gw

set_option maxRecDepth 100000
set_option maxHeartbeats 4000000
/-! The reading of a house, in plain Lean: what both the program and the law come to. -/
namespace Gw
open PySem PySem.Builtin PySem.Builtin.Str SX
/-- a text, as codes -/
abbrev W := List Nat
def lettersS : Str := "abcdefghijklmnopqrstuvwxyz"
def figuresS : Str := "0123456789"
def amongL (a : W) (u : Str) : Bool := a.all fun c => decide (c ∈ u.cps.toList)
def isNameM (a : W) : Bool := (decide (1 ≤ a.length) && decide (a.length ≤ 8)) && amongL a lettersS
/-- the number that a text writes -/
def wholeM (a : W) : Option Nat := if (decide (1 ≤ a.length) && decide (a.length ≤ 13)) && amongL a figuresS && !(decide (a ≠ [48]) && a.head? == some 48) then some (NumText.digitsVal a) else none
def isPathM (a : W) : Bool := decide ((TL.spl [47] 0 [] a).length ≤ 3) && (TL.spl [47] 0 [] a).all isNameM
def digC (c : Nat) : Bool := decide (c ∈ figuresS.cps.toList)
def minutesM : W → Option Nat
  | [a, b, c, d, e] => if c == 58 && (digC a && (digC b && (digC d && digC e))) && (decide (NumText.digitsVal [a, b] ≤ 23) && decide (NumText.digitsVal [d, e] ≤ 59)) then some (60 * NumText.digitsVal [a, b] + NumText.digitsVal [d, e]) else none
  | _ => none
inductive FK where
  | names (ws : List W) | tree (ws : List W) | number (n : Nat) | bits (n : Nat) | marks (ws : List W) | clock
def FK.word : FK → Str
  | .names _ => "names"
  | .tree _ => "tree"
  | .number _ => "number"
  | .bits _ => "bits"
  | .marks _ => "marks"
  | .clock => "clock"
def strD (a : W) : PyData := .str (S a)
def strsD (ws : List W) : PyData := .tuple (ws.map strD)
def FK.things : FK → PyData
  | .names ws => strsD ws
  | .tree ws => strsD ws
  | .number n => .int n
  | .bits n => .int n
  | .marks ws => strsD ws
  | .clock => .none
structure Fd where
  name : W
  k : FK
def Fd.d (f : Fd) : PyData := .tuple [strD f.name, .str f.k.word, f.k.things]
structure Gp where
  field : W
  name : W
  members : List W
def Gp.d (g : Gp) : PyData := .tuple [strD g.field, strD g.name, strsD g.members]
structure Rl where
  word : W
  goal : Option W
  conds : List PyData
def goalD : Option W → PyData
  | none => .none
  | some a => strD a
def Rl.d (r : Rl) : PyData := .tuple [strD r.word, goalD r.goal, .tuple r.conds]
structure Gt where
  name : W
  order : W
  rules : List Rl
def Gt.d (g : Gt) : PyData := .tuple [strD g.name, strD g.order, .tuple (g.rules.map Rl.d)]
structure Ho where
  fields : List Fd
  groups : List Gp
  gates : List Gt
def Ho.d (h : Ho) : PyData := .tuple [.tuple (h.fields.map Fd.d), .tuple (h.groups.map Gp.d), .tuple (h.gates.map Gt.d)]
/-! ### atoms: none where there is none -/
def pathM (a : W) (ps : List W) : PyData := if a.getLast? == some 47 then (if a.dropLast == [] || isPathM a.dropLast then .tuple [.str "under", strD a.dropLast] else .none) else if decide (a ∈ ps) then .tuple [.str "path", strD a] else .none
def numD : Option Nat → PyData
  | none => .none
  | some n => .int n
def fromM (a : W) (most : Nat) : PyData := match TL.par [46, 46] [] a with
  | none => (match wholeM a with
    | none => .none
    | some n => if most < n then .none else .tuple [.str "from", .int n, .int n])
  | some (p, q) => if ((decide (p ≠ []) && (wholeM p).isNone) || (decide (q ≠ []) && (wholeM q).isNone)) || ((wholeM p).any (fun n => decide (most < n)) || (wholeM q).any fun n => decide (most < n)) then .none else match wholeM p, wholeM q with
    | some l, some h => if h ≤ l then .none else .tuple [.str "from", .int l, .int h]
    | l, h => .tuple [.str "from", numD l, numD h]
def firstM (a : W) (wide : Nat) : PyData := if a.getLast? == some 42 then (if amongL a.dropLast "01" && decide (a.dropLast.length < wide) then .tuple [.str "first", strD a.dropLast] else .none) else if amongL a "01" && decide (a.length = wide) then .tuple [.str "first", strD a] else .none
def clockM (a : W) : PyData := match TL.par [46, 46] [] a with
  | none => (match minutesM a with
    | none => .none
    | some n => .tuple [.str "clock", .int n, .int n])
  | some (p, q) => match minutesM p, minutesM q with
    | some b, some e => if b = e then .none else .tuple [.str "clock", .int b, .int e]
    | _, _ => .none
/-- the pieces of a word of marks: sign and name; none where it does not begin with a sign -/
def signC (c : Nat) : Bool := c == 43 || c == 45
/-- the marks behind a sign: the name up to the next sign, and what is left -/
def markName : W → W × W
  | [] => ([], [])
  | c :: r => if signC c then ([], c :: r) else ((c :: (markName r).1), (markName r).2)
theorem markName_len : ∀ a : W, (markName a).2.length ≤ a.length
  | [] => Nat.le_refl _
  | c :: r => by
    unfold markName
    by_cases h : signC c = true
    · rw [if_pos h]; exact Nat.le_refl _
    · rw [if_neg h]; exact Nat.le_succ_of_le (markName_len r)
/-- the index of a mark -/
def markAt (ms : List W) (a : W) : Option Nat := if decide (a ∈ ms) then some (ms.idxOf a) else none
/-- on, off behind the last place -/
def marksGo (ms : List W) : Nat → Int → W → List W → List W → Option (Int × List W × List W)
  | 0, last, _, on, off => some (last, on, off)
  | _ + 1, last, [], on, off => some (last, on, off)
  | n + 1, last, c :: r, on, off => if signC c then (match markAt ms (markName r).1 with
      | some j => if (j : Int) ≤ last then none else if c == 43 then marksGo ms n j (markName r).2 (on ++ [(markName r).1]) off else marksGo ms n j (markName r).2 on (off ++ [(markName r).1])
      | none => none) else none
def marksM (a : W) (ms : List W) : PyData := match marksGo ms (a.length + 1) (-1) a [] [] with
  | some (last, on, off) => if last < 0 then .none else .tuple [.str "marks", strsD on, strsD off]
  | none => .none
def atomM (k : FK) (known : List W) (a : W) : PyData := match k with
  | .names _ => if decide (a ∈ known) then .tuple [.str "name", strD a] else .none
  | .tree ws => pathM a ws
  | .number n => fromM a n
  | .bits n => firstM a n
  | .marks ws => marksM a ws
  | .clock => clockM a
/-! ### lines -/
def thingsM (kind : W) (ws : List W) : Option FK :=
  if S kind = "clock" then (if ws = [] then some .clock else none)
  else if S kind = "number" ∨ S kind = "bits" then (match ws with
    | [a] => (match wholeM a with
      | some n => if S kind = "number" then (if n ≤ 10 ^ 12 then some (.number n) else none) else if 1 ≤ n ∧ n ≤ 32 then some (.bits n) else none
      | none => none)
    | _ => none)
  else if S kind = "names" ∨ S kind = "tree" ∨ S kind = "marks" then
    (if (1 ≤ ws.length ∧ ws.length ≤ (if S kind = "marks" then 5 else 9)) ∧ ws.all (fun a => if S kind = "tree" then isPathM a else isNameM a) = true ∧ ws.Nodup then
      some (if S kind = "names" then .names ws else if S kind = "tree" then .tree ws else .marks ws) else none)
  else none
def isNames : FK → Bool
  | .names _ => true
  | _ => false
def FK.ws : FK → List W
  | .names ws => ws
  | .tree ws => ws
  | .marks ws => ws
  | _ => []
/-- people and groups of a field -/
def knownM (st : Ho) (f : Fd) : List W := f.k.ws ++ (st.groups.filter fun g => g.field == f.name).map (·.name)
def fieldM (st : Ho) (ws : List W) : Option Ho := match ws with
  | _ :: a :: kind :: rest => if st.groups = [] ∧ st.gates = [] ∧ st.fields.length < 4 ∧ isNameM a = true ∧ a ∉ st.fields.map (·.name) then (thingsM kind rest).map fun k => { st with fields := st.fields ++ [⟨a, k⟩] } else none
  | _ => none
def groupM (st : Ho) (ws : List W) : Option Ho := match ws with
  | _ :: fn :: a :: m :: rest => match st.fields.find? fun f => f.name == fn && isNames f.k with
    | some f => if st.gates = [] ∧ st.groups.length < 9 ∧ isNameM a = true ∧ a ∉ knownM st f ∧ (m :: rest).length ≤ 9 ∧ (m :: rest).Nodup ∧ ∀ x ∈ m :: rest, x ∈ knownM st f then some { st with groups := st.groups ++ [⟨fn, a, m :: rest⟩] } else none
    | none => none
  | _ => none
def gateM (st : Ho) (ws : List W) : Option Ho := match ws with
  | [_, a, o] => if st.fields ≠ [] ∧ st.gates.length < 5 ∧ isNameM a = true ∧ a ∉ st.gates.map (·.name) ∧ (S o = "first" ∨ S o = "refusals" ∨ S o = "narrow") then some { st with gates := st.gates ++ [⟨a, o, []⟩] } else none
  | _ => none
def condM (st : Ho) (a : W) : Option (W × PyData) := match TL.par [58] [] a with
  | none => none
  | some (n, r) => match st.fields.find? fun f => f.name == n with
    | none => none
    | some f =>
      let turned := r.head? == some 33
      let ts := TL.spl [124] 0 [] (if turned then r.tail else r)
      let ds := ts.map (atomM f.k (if isNames f.k then knownM st f else []))
      if ts.length ≤ 5 ∧ ds.all (fun d => match d with | .none => false | _ => true) = true then some (n, .tuple [strD n, .bool turned, .tuple ds]) else none
def condsM (st : Ho) : List W → Option (List (W × PyData))
  | [] => some []
  | a :: r => match condM st a with
    | some c => (condsM st r).map fun cs => c :: cs
    | none => none
def ruleM (st : Ho) (ws : List W) : Option Ho := match ws, st.gates.getLast? with
  | w0 :: r, some g => if g.rules.length < 8 then
      (if S w0 = "pass" then (match r with
        | goal :: rest => if goal ∈ st.gates.dropLast.map (·.name) ∧ (g.rules.filter fun r => S r.word = "pass").length < 2 then
            (match condsM st rest with
            | some cs => if (cs.map (·.1)).Nodup then some { st with gates := st.gates.dropLast ++ [{ g with rules := g.rules ++ [⟨w0, some goal, cs.map (·.2)⟩] }] } else none
            | none => none) else none
        | [] => none)
      else (match condsM st r with
        | some cs => if (cs.map (·.1)).Nodup then some { st with gates := st.gates.dropLast ++ [{ g with rules := g.rules ++ [⟨w0, none, cs.map (·.2)⟩] }] } else none
        | none => none)) else none
  | _, _ => none
def lineM (st : Ho) (ws : List W) : Option Ho := match ws with
  | [] => some st
  | w0 :: _ => if S w0 = "field" then fieldM st ws else if S w0 = "group" then groupM st ws else if S w0 = "gate" then gateM st ws else if S w0 = "let" ∨ S w0 = "refuse" ∨ S w0 = "pass" then ruleM st ws else none
/-- a line's words -/
def wordsM (l : W) : List W := (TL.spl [32] 0 [] (match TL.par [35] [] l with | some (p, _) => p | none => l)).filter fun a => decide (a ≠ [])
def rowM (st : Ho) (l : W) : Option Ho := if 9 ∈ l then none else lineM st (wordsM l)
/-- the lines one by one: the house, or the number of the first one that can't stand -/
def rowsM (st : Ho) : Nat → List W → Except Nat Ho
  | k, [] => if st.gates = [] then .error (k + 1) else .ok st
  | k, l :: r => match rowM st l with
    | some st' => rowsM st' (k + 1) r
    | none => .error (k + 1)
def readM (t : W) : Except Nat Ho := rowsM ⟨[], [], []⟩ 0 (TL.spl [10] 0 [] t)
end Gw

set_option maxRecDepth 100000
set_option maxHeartbeats 4000000
namespace Gw
open PySem PySem.Spec PyProof.Rows L2 Evl SX
/-! ### promises -/
/-- one text in, a value out -/
def spS1 (f : W → V) : Sp := fun vs H Q _ => ∃ a : W, vs = [.str (S a)] ∧ a.length ≤ 40000 ∧ ∀ H', Ex H H' → Q (f a) H'
theorem spS1_v {f : W → V} {a : W} {H : Hp} (h : a.length ≤ 40000) : SpV (spS1 f) [.str (S a)] H (f a) := fun H1 _ Q k _ => ⟨a, rfl, h, fun H2 e2 => k H2 e2⟩
theorem spS1_len {f : W → V} {vs : List V} {H : Hp} {Q : VK} {E : XK} (h : spS1 f vs H Q E) : vs.length = 1 := by obtain ⟨a, e, _⟩ := h; subst e; rfl
def oV : Option Nat → V
  | none => .non
  | some n => .int n
def spIsName : Sp := spS1 fun a => .bl (isNameM a)
def spAmong : Sp := fun vs H Q _ => ∃ (a : W) (u : Str), vs = [.str (S a), .str u] ∧ a.length ≤ 40000 ∧ ∀ H', Ex H H' → Q (.bl (amongL a u)) H'
theorem spAmong_v {a : W} {u : Str} {H : Hp} (h : a.length ≤ 40000) : SpV spAmong [.str (S a), .str u] H (.bl (amongL a u)) := fun H1 _ Q k _ => ⟨a, u, rfl, h, fun H2 e2 => k H2 e2⟩
def spWhole : Sp := spS1 fun a => oV (wholeM a)
def spIsPath : Sp := spS1 fun a => .bl (isPathM a)
def spTime : Sp := spS1 fun a => oV (minutesM a)
section
variable {P : Program} {w : World} {K : PySem.W.Frag} {mg : Str → Option Value} {base : Heap}
theorem all_map_id {α : Type} (l : List α) (f : α → Bool) : (l.map f).all id = l.all f := by
  induction l with
  | nil => rfl
  | cons a l ih => simp [ih]
theorem sz4 {n : Nat} (h : n ≤ 40000) : n ≤ sizeLine := Nat.le_trans h (by decide)
theorem szS {a : W} (h : a.length ≤ 40000) : (S a).length ≤ sizeLine := sz4 (by rw [S_len]; exact h)
theorem v_lenW {X : Cx} {e : Expr} {σ : L2.St} {H : Hp} {a : W} {p pos : Pos} (hm : X.mg "len" = none) (h : Vl X e σ H (.str (S a))) (hz : a.length ≤ 40000) (hg : Gl X "len" := by rfl) (hs : starEach [e] X.env = (false, eval e X.env) :: starEach [] X.env := by rfl) (hpl : (backTo pos (starEach [] X.env)).any (·.1) = false := by rfl) :
    Vl X (.Call (.Name "len" p) [e] [] pos) σ H (.int (a.length : Int)) := vl_is (v_lenS hm h (szS hz) hg hs hpl) (by rw [S_len])
theorem ok_isName (T : Tx K mg) : Gd P w K mg base 1 "is_name" spIsName := by
  refine gd_of T dIsName 1 T.g_is_name scIsName (fun _ _ _ _ _ _ us hl => match us, hl with | [_], _ => rfl) (fun _ _ _ _ => spS1_len) fun f cdv A outer s H vs Q E hr ⟨z, e, hz, k⟩ => ?_
  subst e
  have nd := scIsName.nd
  refine xb_when (k := !(decide ((1 : Int) ≤ z.length) && decide ((z.length : Int) ≤ 8))) ?_ (fun hk H1 e1 => ?_) (fun hk H1 e1 => ?_)
  · refine b_w (w_or (b_not (b_v (v_isi (n := "str") (t := .type "str") T.f_isinstance (v_v 0) (fun _ _ => .base (.str _)) T.f_str (by decide +kernel) (k := true) (by rfl)))) fun _ => w_or1 (b_not (bc2 (c_leLe v_int (v_lenW T.f_len (v_v 0) hz) (v_gi T.i_MOST_SIGNS)))))
  · refine xb_ret v_bl fun H2 e2 => ?_
    have : isNameM z = false := by
      unfold isNameM
      simp only [Bool.not_eq_true', Bool.and_eq_false_iff, decide_eq_false_iff_not] at hk ⊢
      left
      omega
    exact this ▸ k H2 (e1.trans e2)
  · have hs : amongL z lettersS = isNameM z := by
      unfold isNameM
      simp only [Bool.not_eq_false', Bool.and_eq_true, decide_eq_true_eq] at hk
      have h1 : decide (1 ≤ z.length) = true := decide_eq_true (by omega)
      have h2 : decide (z.length ≤ 8) = true := decide_eq_true (by omega)
      rw [h1, h2]
      rfl
    refine xb_ret (v := .bl (isNameM z)) ?_ fun H2 e2 => k H2 (e1.trans e2)
    refine vl_is (v_all (bs := z.map fun c => decide (c ∈ lettersS.cps.toList)) rfl T.f_all (ll_sl (ll_is (cp_ll (lc_map (i := 1) (own := [("sign", 1)]) (ws := z) (fun c => V.bl (decide (c ∈ lettersS.cps.toList))) (il_S (z := S z) (v_v 0)) hz
      (blkOk_by (N := nIsName) (sc := defScope sIsName) (by decide +kernel)) (fun _ _ _ _ _ c _ => vc (c_inC (v_v 1) (v_gs T.s_LETTERS))))) (by rw [List.map_map]; rfl)))) ?_
    rw [all_map_id, ← hs]
    rfl
theorem ok_areAmong (T : Tx K mg) : Gd P w K mg base 1 "are_among" spAmong := by
  refine gd_of T dAreAmong 13 T.g_are_among scAreAmong (fun _ _ _ _ _ _ us hl => match us, hl with | [_, _], _ => rfl) (fun vs H Q E ⟨z, u, e, _⟩ => by subst e; rfl) fun f cdv A outer s H vs Q E hr ⟨z, u, e, hz, k⟩ => ?_
  subst e
  have nd := scAreAmong.nd
  refine xb_ret (v := .bl (amongL z u)) ?_ k
  refine vl_is (v_all (bs := z.map fun c => decide (c ∈ u.cps.toList)) rfl T.f_all (ll_sl (ll_is (cp_ll (lc_map (i := 2) (own := [("sign", 2)]) (ws := z) (fun c => V.bl (decide (c ∈ u.cps.toList))) (il_S (z := S z) (v_v 0)) hz
      (blkOk_by (N := nAreAmong) (sc := defScope sAreAmong) (by decide +kernel)) (fun _ _ _ _ _ c _ => vc (c_inC (v_v 2) (v_v 1))))) (by rw [List.map_map]; rfl)))) ?_
  rw [all_map_id]
  rfl
theorem lit0 : ("0" : Str) = S [48] := by decide +kernel
theorem sw1 {a : W} {c : Nat} : Txt.startswith (S a) (S [c]) = (a.head? == some c) := by
  unfold Txt.startswith
  rw [S_len, S_len, sub_at1]
  cases a with
  | nil => rfl
  | cons d r => simp
theorem ew1 {a : W} {c : Nat} : Txt.endswith (S a) (S [c]) = (a.getLast? == some c) := by
  unfold Txt.endswith
  rw [S_len, S_len, sub_at1, List.getLast?_eq_getElem?]
  cases a with
  | nil => rfl
  | cons d r => simp
theorem fig_all {a : W} (h : amongL a figuresS = true) : a.all (fun c => decide (48 ≤ c) && decide (c ≤ 57)) = true := by
  refine List.all_eq_true.mpr fun c hc => ?_
  have := List.all_eq_true.mp h c hc
  have e : figuresS.cps.toList = [48, 49, 50, 51, 52, 53, 54, 55, 56, 57] := by decide +kernel
  rw [e] at this
  have := of_decide_eq_true this
  simp only [List.mem_cons, List.not_mem_nil, or_false] at this
  simp only [Bool.and_eq_true, decide_eq_true_eq]
  omega
theorem int_of {a : W} (h : amongL a figuresS = true) (h1 : 1 ≤ a.length) (h2 : a.length ≤ 640) : PySem.intText? (S a) = some ((NumText.digitsVal a : Nat) : Int) :=
  int_S (fig_all h) (by intro q; rw [q] at h1; cases h1) (by omega)
theorem ok_wholeIn (T : Tx K mg) : Gd P w K mg base 2 "whole_in" spWhole := by
  have GA : Gd P w K mg base 1 "are_among" spAmong := ok_areAmong T
  refine gd_of T dWholeIn 14 T.g_whole_in scWholeIn (fun _ _ _ _ _ _ us hl => match us, hl with | [_], _ => rfl) (fun _ _ _ _ => spS1_len) fun f cdv A outer s H vs Q E hr ⟨z, e, hz, k⟩ => ?_
  subst e
  have nd := scWholeIn.nd
  refine xb_when (k := !(decide ((1 : Int) ≤ z.length) && decide ((z.length : Int) ≤ 13)) || !amongL z figuresS) ?_ (fun hk H1 e1 => ?_) (fun hk H1 e1 => ?_)
  · exact b_w (w_or (b_not (bc2 (c_leLe v_int (v_lenW T.f_len (v_v 0) hz) (v_gi T.i_MOST_FIGURES)))) fun _ => w_or1 (b_not (b_v (v_call GA hr passL (a_cons (v_v 0) (a_1 (v_gs T.s_FIGURES_reading))) (spAmong_v hz)))))
  · refine xb_ret v_non fun H2 e2 => ?_
    have : wholeM z = none := by
      unfold wholeM
      rw [if_neg]
      simp only [Bool.or_eq_true, Bool.not_eq_true', Bool.and_eq_false_iff, decide_eq_false_iff_not, Bool.and_eq_true, decide_eq_true_eq] at hk ⊢
      rintro ⟨⟨⟨a1, a2⟩, a3⟩, a4⟩
      rcases hk with hk | hk
      · omega
      · rw [a3] at hk; cases hk
    have k2 : Q (oV (wholeM z)) H2 := k H2 (e1.trans e2)
    rw [this] at k2
    exact k2
  · simp only [Bool.or_eq_false_iff, Bool.not_eq_false', Bool.and_eq_true, decide_eq_true_eq] at hk
    obtain ⟨⟨k1, k2⟩, k3⟩ := hk
    have h1 : decide (1 ≤ z.length) = true := decide_eq_true (by omega)
    have h2 : decide (z.length ≤ 13) = true := decide_eq_true (by omega)
    refine xb_when (k := !decide (V.str (S z) = V.str "0") && Txt.startswith (S z) "0") (b_w (w_and (bc (c_ne (v_v 0) v_str)) fun _ => w_and1 (b_v (v_startswith (v_v 0) v_str)))) (fun hk H2 e2 => ?_) (fun hk H2 e2 => ?_)
    · refine xb_ret v_non fun H3 e3 => ?_
      have q : Q (oV (wholeM z)) H3 := k H3 ((e1.trans e2).trans e3)
      rw [lit0, sw1] at hk
      have : wholeM z = none := by
        unfold wholeM
        rw [if_neg]
        simp only [Bool.and_eq_true, Bool.not_eq_true', decide_eq_false_iff_not, V.str.injEq, S_eq, beq_iff_eq, decide_eq_true_eq] at hk ⊢
        rintro ⟨_, a4⟩
        simp [hk.1, hk.2] at a4
      rw [this] at q
      exact q
    · refine xb_ret (v_intS T.f_int (v_v 0) (int_of k3 (by omega) (by omega)) (by rw [S_len]; omega)) fun H3 e3 => ?_
      have q : Q (oV (wholeM z)) H3 := k H3 ((e1.trans e2).trans e3)
      rw [lit0, sw1] at hk
      have : wholeM z = some (NumText.digitsVal z) := by
        unfold wholeM
        rw [if_pos]
        rw [h1, h2, k3]
        simp only [Bool.and_eq_false_iff, Bool.not_eq_false', V.str.injEq, S_eq, decide_eq_true_eq] at hk
        rcases hk with hk | hk
        · simp [hk]
        · simp [hk]
      rw [this] at q
      exact q
end
end Gw

set_option maxRecDepth 100000
set_option maxHeartbeats 4000000
namespace Gw
open PySem PySem.Spec PyProof.Rows L2 Evl SX
section
variable {X : Cx} {e o : Expr} {σ : L2.St} {H : Hp} {a b : W} {u : Str} {apos pos : Pos}
theorem l_splitW (hu : u = S b) (ho : Vl X o σ H (.str (S a))) (he : Vl X e σ H (.str u)) (hz : a.length ≤ 40000) (hb : b ≠ [] ∧ b.all (· < 256) = true) (hs : starEach [e] X.env = [(false, eval e X.env)] := by rfl) (hbase : attributeBase o "split" X.env (eval o X.env) = eval o X.env := by rfl) (hline : (apos.endLine == pos.line) = true := by rfl) :
    Ll X (.Call (.Attribute o "split" apos) [e] [] pos) σ H ((TL.spl b 0 [] a).map fun p => V.str (S p)) := by
  refine ll_is (l_split ho he (by rw [hu, S_len]; cases b with | nil => exact absurd rfl hb.1 | cons _ _ => rfl) (by rw [S_len]; exact Nat.le_trans (by omega) (show 40002 ≤ sizeLine by decide)) hs hbase hline) ?_
  rw [hu, split_S hb.1 hb.2, List.map_map]
  rfl
/-- what partition gives: ahead, the mark, behind -/
def parV (b a : W) : List V := match TL.par b [] a with
  | none => [.str (S a), .str (S []), .str (S [])]
  | some (p, q) => [.str (S p), .str (S b), .str (S q)]
theorem u_partW (hu : u = S b) (ho : Vl X o σ H (.str (S a))) (he : Vl X e σ H (.str u)) (hz : a.length ≤ 40000) (hb : b ≠ []) (hs : starEach [e] X.env = [(false, eval e X.env)] := by rfl) (hbase : attributeBase o "partition" X.env (eval o X.env) = eval o X.env := by rfl) (hline : (apos.endLine == pos.line) = true := by rfl) :
    Ul X (.Call (.Attribute o "partition" apos) [e] [] pos) σ H (parV b a) := by
  have h := u_partition ho he (by rw [hu, S_len]; cases b with | nil => exact absurd rfl hb | cons _ _ => rfl) (szS hz) hs hbase hline
  have e : pParts (S a) u = parV b a := by
    unfold pParts parV
    rw [hu]
    cases z : TL.par b [] a with
    | none => rw [partition_none hb z]
    | some pq =>
      obtain ⟨p, q⟩ := pq
      rw [partition_some hb z]
  rw [e] at h
  exact h
end
theorem litSlash : ("/" : Str) = S [47] := by decide +kernel
theorem litColon : (":" : Str) = S [58] := by decide +kernel
theorem litDots : (".." : Str) = S [46, 46] := by decide +kernel
theorem litStar : ("*" : Str) = S [42] := by decide +kernel
theorem litNil : ("" : Str) = S [] := by decide +kernel
theorem all_spl {b a : W} {n : Nat} (hb : b ≠ []) (h : a.length ≤ n) : ∀ p ∈ TL.spl b 0 [] a, p.length ≤ n := fun p hp => Nat.le_trans (spl_le hb hp) h
section
variable {P : Program} {w : World} {K : PySem.W.Frag} {mg : Str → Option Value} {base : Heap}
theorem ok_isPath (T : Tx K mg) : Gd P w K mg base 2 "is_path" spIsPath := by
  have GN : Gd P w K mg base 1 "is_name" spIsName := ok_isName T
  refine gd_of T dIsPath 15 T.g_is_path scIsPath (fun _ _ _ _ _ _ us hl => match us, hl with | [_], _ => rfl) (fun _ _ _ _ => spS1_len) fun f cdv A outer s H vs Q E hr ⟨z, e, hz, k⟩ => ?_
  subst e
  have nd := scIsPath.nd
  refine xb_setL 1 (l_splitW litSlash (v_v 0) v_str hz ⟨by decide, by decide⟩) fun q H1 hq e1 h1 => ?_
  have hlen : (TL.spl [47] 0 [] z).length ≤ 40000 + 1 := Nat.le_trans (spl_many (by decide)) (by omega)
  refine xb_ret (v := .bl (isPathM z)) ?_ fun H2 e2 => k H2 (e1.trans e2)
  refine vl_is (v_and (j := decide (((TL.spl [47] 0 [] z).length : Int) ≤ 3)) (k := (TL.spl [47] 0 [] z).all isNameM) (vl_is (vc (c_le (v_lenL T.f_len (vl_sl (v_v 1) (sq_of h1))) (v_gi T.i_MOST_PARTS))) (by rw [List.length_map])) fun hj => v_one ?_) ?_
  · have h3 : (TL.spl [47] 0 [] z).length ≤ 3 := by have := of_decide_eq_true hj; omega
    refine vl_is (v_all (bs := (TL.spl [47] 0 [] z).map isNameM) rfl T.f_all (ll_sl (ll_is (cp_ll (lc_map (i := 2) (own := [("part", 2)]) (ws := TL.spl [47] 0 [] z) (enc := fun p => V.str (S p)) (fun p => V.bl (isNameM p)) (il_L (vl_sl (v_v 1) (sq_of h1))) (by omega)
      (blkOk_by (N := nIsPath) (sc := defScope sIsPath) (by decide +kernel)) (fun _ _ _ _ _ p hp => v_call GN hr passL (a_1 (v_v 2)) (spS1_v (all_spl (by decide) hz p hp))))) (by rw [List.map_map]; rfl)))) ?_
    rw [all_map_id]
  · have : decide (((TL.spl [47] 0 [] z).length : Int) ≤ 3) = decide ((TL.spl [47] 0 [] z).length ≤ 3) := by
      by_cases h : (TL.spl [47] 0 [] z).length ≤ 3
      · rw [decide_eq_true h, decide_eq_true (by omega)]
      · rw [decide_eq_false h, decide_eq_false (by omega)]
    rw [this]
    rfl
theorem amongL_append {a b : W} {u : Str} : amongL (a ++ b) u = (amongL a u && amongL b u) := by unfold amongL; rw [List.all_append]
theorem fig_dig {a b : Nat} : amongL [a, b] figuresS = (digC a && digC b) := by unfold amongL digC; simp
theorem amongL_sub {a b : W} {u : Str} (h : amongL a u = true) (hs : ∀ c ∈ b, c ∈ a) : amongL b u = true := List.all_eq_true.mpr fun c hc => List.all_eq_true.mp h c (hs c hc)
/-- what time_in tells, by the colon's place -/
theorem minutes_par {z : W} : minutesM z = match TL.par [58] [] z with
    | none => none
    | some (p, q) => if (decide (p.length = 2) && decide (q.length = 2)) && amongL (p ++ q) figuresS && (decide (NumText.digitsVal p ≤ 23) && decide (NumText.digitsVal q ≤ 59)) then some (60 * NumText.digitsVal p + NumText.digitsVal q) else none := by
  have nocol : digC 58 = false := by decide +kernel
  cases h : TL.par [58] [] z with
  | none =>
    have hn := par1_none.mp h
    unfold minutesM
    split
    · rename_i a b c d e
      rw [if_neg]
      intro hc
      simp only [Bool.and_eq_true, beq_iff_eq] at hc
      exact hn (by rw [hc.1.1]; simp)
    · rfl
  | some pq =>
    obtain ⟨p, q⟩ := pq
    have e := par_some_eq h
    have hf := par1_free h
    show minutesM z = if _ then _ else _
    by_cases hl : p.length = 2 ∧ q.length = 2
    · obtain ⟨l1, l2⟩ := hl
      match p, q, l1, l2, e, hf with
      | [a, b], [d, f], _, _, e, hf =>
        rw [e]
        show (if _ then _ else _) = _
        rw [amongL_append, fig_dig, fig_dig]
        have e58 : ((58 : Nat) == 58) = true := rfl
        simp only [e58, Bool.true_and, List.length_cons, List.length_nil, decide_true, Bool.and_assoc, Nat.zero_add, Nat.reduceAdd]
    · have hr : ¬ ((decide (p.length = 2) && decide (q.length = 2)) && amongL (p ++ q) figuresS && (decide (NumText.digitsVal p ≤ 23) && decide (NumText.digitsVal q ≤ 59))) = true := by
        intro hc
        simp only [Bool.and_eq_true, decide_eq_true_eq] at hc
        exact hl hc.1.1
      rw [if_neg hr]
      unfold minutesM
      split
      · rename_i a b c d f
        rw [if_neg]
        intro hc
        simp only [Bool.and_eq_true, beq_iff_eq] at hc
        obtain ⟨⟨hc1, hc2, hc3, hc4, hc5⟩, _⟩ := hc
        have ha : a ≠ 58 := fun q => by rw [q, nocol] at hc2; cases hc2
        have hb : b ≠ 58 := fun q => by rw [q, nocol] at hc3; cases hc3
        have e2 := par1_of (c := 58) (p := [a, b]) (q := [d, f]) (by simp; exact ⟨fun q => ha q.symm, fun q => hb q.symm⟩)
        rw [hc1] at h
        have h2 : TL.par [58] [] [a, b, 58, d, f] = some ([a, b], [d, f]) := e2
        rw [h2] at h
        cases h
        exact hl ⟨rfl, rfl⟩
      · rfl
end
end Gw

set_option maxRecDepth 100000
set_option maxHeartbeats 4000000
namespace Gw
open PySem PySem.Spec PyProof.Rows L2 Evl SX
theorem parV_none {b a : W} (h : TL.par b [] a = none) : parV b a = [.str (S a), .str (S []), .str (S [])] := by unfold parV; rw [h]
theorem parV_some {b a p q : W} (h : TL.par b [] a = some (p, q)) : parV b a = [.str (S p), .str (S b), .str (S q)] := by unfold parV; rw [h]
theorem tu_is {X : Cx} {e : Expr} {σ : L2.St} {H : Hp} {xs ys : List V} (h : Tu X e σ H xs) (q : xs = ys) : Tu X e σ H ys := q ▸ h
theorem par_lens {b a p q : W} {n : Nat} (h : TL.par b [] a = some (p, q)) (hz : a.length ≤ n) : p.length ≤ n ∧ q.length ≤ n := by
  have e := par_some_eq h
  rw [e, List.length_append, List.length_append] at hz
  omega
theorem dec_nil {a : W} : decide (V.str (S a) = V.str "") = decide (a = []) := by
  rw [litNil]
  by_cases h : a = []
  · subst h; rfl
  · rw [decide_eq_false h, decide_eq_false fun q => h (by injection q with q; exact S_inj q)]
theorem dec_lenNe {n m : Nat} : (!decide (V.int (n : Int) = V.int (m : Int))) = !decide (n = m) := by
  by_cases h : n = m
  · subst h; simp
  · rw [decide_eq_false h, decide_eq_false fun q => h (by injection q with q; omega)]
theorem dec_lenEq {n m : Nat} : decide (V.int (n : Int) = V.int (m : Int)) = decide (n = m) := by
  by_cases h : n = m
  · subst h; simp
  · rw [decide_eq_false h, decide_eq_false fun q => h (by injection q with q; omega)]
theorem dec_ltN {n m : Nat} : decide ((n : Int) < (m : Int)) = decide (n < m) := by
  by_cases h : n < m
  · rw [decide_eq_true h, decide_eq_true (by omega)]
  · rw [decide_eq_false h, decide_eq_false (by omega)]
theorem dec_leN {n m : Nat} : decide ((n : Int) ≤ (m : Int)) = decide (n ≤ m) := by
  by_cases h : n ≤ m
  · rw [decide_eq_true h, decide_eq_true (by omega)]
  · rw [decide_eq_false h, decide_eq_false (by omega)]
section
variable {P : Program} {w : World} {K : PySem.W.Frag} {mg : Str → Option Value} {base : Heap}
theorem ok_timeIn (T : Tx K mg) : Gd P w K mg base 2 "time_in" spTime := by
  have GA : Gd P w K mg base 1 "are_among" spAmong := ok_areAmong T
  refine gd_of T dTimeIn 16 T.g_time_in scTimeIn (fun _ _ _ _ _ _ us hl => match us, hl with | [_], _ => rfl) (fun _ _ _ _ => spS1_len) fun f cdv A outer s H vs Q E hr ⟨z, e, hz, k⟩ => ?_
  subst e
  have nd := scTimeIn.nd
  have k' : ∀ H', Ex H H' → Q (oV (minutesM z)) H' := k
  have em := minutes_par (z := z)
  cases h : TL.par [58] [] z with
  | none =>
    rw [h] at em
    dsimp only at em
    refine xb_un3 1 2 3 (tu_is (ul_tu (u_partW litColon (v_v 0) v_str hz (by decide))) (parV_none h)) fun H1 e1 => ?_
    refine xb_when (k := true) (bl_is (b_w (w_or (k := false) (bc (c_eq (v_v 2) v_str)) fun hk => by rw [dec_nil] at hk; cases hk)) (by rw [dec_nil]; rfl)) (fun _ H2 e2 => ?_) fun hk => by cases hk
    refine xb_ret v_non fun H3 e3 => ?_
    have q := k' H3 ((e1.trans e2).trans e3)
    rw [em] at q
    exact q
  | some pq =>
    obtain ⟨p, q⟩ := pq
    rw [h] at em
    dsimp only at em
    obtain ⟨lp, lq⟩ := par_lens h hz
    have lpq : (p ++ q).length ≤ 40000 := by
      have e := par_some_eq h
      rw [e, List.length_append, List.length_append] at hz
      rw [List.length_append]
      simp only [List.length_cons, List.length_nil] at hz
      omega
    refine xb_un3 1 2 3 (tu_is (ul_tu (u_partW litColon (v_v 0) v_str hz (by decide))) (parV_some h)) fun H1 e1 => ?_
    refine xb_when (k := (!decide (p.length = 2) || (!decide (q.length = 2) || !amongL (p ++ q) figuresS))) (bl_is (b_w (w_or (bc (c_eq (v_v 2) v_str)) fun _ => w_or (bc ((c_ne (v_lenW T.f_len (v_v 1) lp) v_int).is dec_lenNe)) fun _ => w_or (bc ((c_ne (v_lenW T.f_len (v_v 3) lq) v_int).is dec_lenNe)) fun _ =>
      w_or1 (b_not (b_v (v_call GA hr passL (a_cons (vl_is (v_addS (v_v 1) (v_v 3) (by rw [S_len, S_len, ← List.length_append]; exact sz4 lpq)) (by rw [S_cat])) (a_1 (v_gs T.s_FIGURES_reading))) (spAmong_v lpq)))))) (by rw [dec_nil]; rfl)) (fun hk H2 e2 => ?_) fun hk H2 e2 => ?_
    · refine xb_ret v_non fun H3 e3 => ?_
      have g := k' H3 ((e1.trans e2).trans e3)
      rw [em, if_neg] at g
      · exact g
      · intro hc
        simp only [Bool.or_eq_true, Bool.not_eq_true', Bool.and_eq_true, decide_eq_true_eq, decide_eq_false_iff_not] at hk hc
        obtain ⟨⟨⟨c1, c2⟩, c3⟩, _⟩ := hc
        rcases hk with a | a | a
        · exact a c1
        · exact a c2
        · rw [c3] at a; cases a
    · simp only [Bool.or_eq_false_iff, Bool.not_eq_false', decide_eq_true_eq] at hk
      obtain ⟨c1, c2, c3⟩ := hk
      have c3' := c3
      rw [amongL_append, Bool.and_eq_true] at c3'
      refine xb_when (k := (decide (23 < NumText.digitsVal p) || decide (59 < NumText.digitsVal q))) (b_w (w_or (bc ((c_gt (v_intS T.f_int (v_v 1) (int_of c3'.1 (by omega) (by omega)) (by rw [S_len]; omega)) v_int).is dec_ltN)) fun _ => w_or1 (bc ((c_gt (v_intS T.f_int (v_v 3) (int_of c3'.2 (by omega) (by omega)) (by rw [S_len]; omega)) v_int).is dec_ltN)))) (fun hk H3 e3 => ?_) fun hk H3 e3 => ?_
      · refine xb_ret v_non fun H4 e4 => ?_
        have g := k' H4 (((e1.trans e2).trans e3).trans e4)
        rw [em, if_neg] at g
        · exact g
        · intro hc
          simp only [Bool.or_eq_true, Bool.and_eq_true, decide_eq_true_eq] at hk hc
          omega
      · refine xb_ret (v_add (v_mulL v_int (v_intS T.f_int (v_v 1) (int_of c3'.1 (by omega) (by omega)) (by rw [S_len]; omega)) (by decide)) (v_intS T.f_int (v_v 3) (int_of c3'.2 (by omega) (by omega)) (by rw [S_len]; omega))) fun H4 e4 => ?_
        have g := k' H4 (((e1.trans e2).trans e3).trans e4)
        rw [em, if_pos] at g
        · exact g
        · simp only [Bool.or_eq_false_iff, decide_eq_false_iff_not] at hk
          simp only [Bool.and_eq_true, decide_eq_true_eq]
          exact ⟨⟨⟨c1, c2⟩, c3⟩, by omega, by omega⟩
/-! ### atoms -/
def spPath : Sp := fun vs H Q _ => ∃ (a : W) (ps : List W) (t : Addr), vs = [.str (S a), .ref t] ∧ Rd H t (.tup (ps.map fun p => V.str (S p))) ∧ a.length ≤ 40000 ∧ GiveD (pathM a ps) H Q
theorem inV_strs {a : W} : ∀ ps : List W, inV (.str (S a)) (ps.map fun p => V.str (S p)) = decide (a ∈ ps)
  | [] => rfl
  | p :: ps => by
    have ih := inV_strs (a := a) ps
    unfold inV at ih ⊢
    rw [List.map_cons, List.any_cons, ih]
    have e : eqV (.str (S p)) (.str (S a)) = decide (p = a) := by
      show decide (S p = S a) = _
      exact dec_S
    rw [e]
    by_cases h : p = a
    · subst h; simp
    · rw [decide_eq_false h, Bool.false_or]
      by_cases hm : a ∈ ps
      · rw [decide_eq_true hm, decide_eq_true (List.mem_cons_of_mem _ hm)]
      · rw [decide_eq_false hm, decide_eq_false (by intro q; rcases List.mem_cons.mp q with q | q; exact h q.symm; exact hm q)]
theorem flat_strs (ps : List W) : (ps.map fun p => V.str (S p)).all flatV = true := by
  rw [List.all_map]
  exact List.all_eq_true.mpr fun _ _ => rfl
theorem cut_butlast {a : W} (h : a ≠ []) : cutS (S a) none (some (-1)) = S a.dropLast := by rw [C8.cutS_slice, slice_butlast h, List.dropLast_eq_take]
theorem ok_pathAtom (T : Tx K mg) : Gd P w K mg base 3 "path_atom" spPath := by
  have GP : Gd P w K mg base 2 "is_path" spIsPath := ok_isPath T
  refine gd_of T dPathAtom 17 T.g_path_atom scPathAtom (fun _ _ _ _ _ _ us hl => match us, hl with | [_, _], _ => rfl) (fun _ _ _ _ ⟨a, ps, t, e, _⟩ => by subst e; rfl) fun f cdv A outer s H vs Q E hr ⟨z, ps, t, e, ht, hz, k⟩ => ?_
  subst e
  have nd := scPathAtom.nd
  refine xb_when (k := z.getLast? == some 47) (bl_is (b_v (v_endswith (v_v 0) v_str)) (by rw [litSlash, ew1])) (fun hk H1 e1 => ?_) fun hk H1 e1 => ?_
  · have hn : z ≠ [] := by intro q; rw [q] at hk; cases hk
    have ld : z.dropLast.length ≤ 40000 := by rw [List.length_dropLast]; omega
    refine xb_set 2 (vl_is (v_slS (v_v 0) o_n (o_s (v_neg v_int)) (szS hz)) (by rw [cut_butlast hn])) fun H2 e2 => ?_
    refine xb_retD (d := pathM z ps) ?_ fun H3 v e3 t => k H3 v ((e1.trans e2).trans e3) t
    have e : pathM z ps = if (z.dropLast == [] || isPathM z.dropLast) = true then .tuple [.str "under", strD z.dropLast] else .none := by unfold pathM; rw [if_pos hk]
    rw [e]
    refine d_if (k := (z.dropLast == [] || isPathM z.dropLast)) (bl_is (b_w (w_or (bc (c_eq (v_v 2) v_str)) fun _ => w_or1 (b_v (v_call GP hr passL (a_1 (v_v 2)) (spS1_v ld))))) ?_) (fun h1 => ?_) fun h1 => ?_
    · rw [dec_nil]
      congr 1
      by_cases q : z.dropLast = [] <;> simp [q]
    · rw [if_pos h1]
      exact d_tup (da_cons (d_str v_str) (da_cons (d_str (v_v 2)) da_nil))
    · rw [if_neg (by rw [h1]; decide)]
      exact d_non
  · refine xb_retD (d := pathM z ps) ?_ fun H3 v e3 t => k H3 v (e1.trans e3) t
    have e : pathM z ps = if decide (z ∈ ps) = true then .tuple [.str "path", strD z] else .none := by unfold pathM; rw [if_neg (by rw [hk]; decide)]
    rw [e]
    refine d_if (k := decide (z ∈ ps)) (bc ((c_inT (v_v 0) (vl_tu (v_v 1) (.inl (ex_rd e1 ht))) rfl (flat_strs ps)).is (inV_strs ps))) (fun h1 => ?_) fun h1 => ?_
    · rw [if_pos h1]
      exact d_tup (da_cons (d_str v_str) (da_cons (d_str (v_v 0)) da_nil))
    · rw [if_neg (by rw [h1]; decide)]
      exact d_non
def spFirst : Sp := fun vs H Q _ => ∃ (a : W) (n : Nat), vs = [.str (S a), .int n] ∧ a.length ≤ 40000 ∧ GiveD (firstM a n) H Q
theorem ok_firstAtom (T : Tx K mg) : Gd P w K mg base 2 "first_atom" spFirst := by
  have GA : Gd P w K mg base 1 "are_among" spAmong := ok_areAmong T
  refine gd_of T dFirstAtom 19 T.g_first_atom scFirstAtom (fun _ _ _ _ _ _ us hl => match us, hl with | [_, _], _ => rfl) (fun _ _ _ _ ⟨a, n, e, _⟩ => by subst e; rfl) fun f cdv A outer s H vs Q E hr ⟨z, n, e, hz, k⟩ => ?_
  subst e
  have nd := scFirstAtom.nd
  refine xb_when (k := z.getLast? == some 42) (bl_is (b_v (v_endswith (v_v 0) v_str)) (by rw [litStar, ew1])) (fun hk H1 e1 => ?_) fun hk H1 e1 => ?_
  · have hn : z ≠ [] := by intro q; rw [q] at hk; cases hk
    have ld : z.dropLast.length ≤ 40000 := by rw [List.length_dropLast]; omega
    refine xb_set 2 (vl_is (v_slS (v_v 0) o_n (o_s (v_neg v_int)) (szS hz)) (by rw [cut_butlast hn])) fun H2 e2 => ?_
    refine xb_retD (d := firstM z n) ?_ fun H3 v e3 t => k H3 v ((e1.trans e2).trans e3) t
    have e : firstM z n = if (amongL z.dropLast "01" && decide (z.dropLast.length < n)) = true then .tuple [.str "first", strD z.dropLast] else .none := by unfold firstM; rw [if_pos hk]
    rw [e]
    refine d_if (b_w (w_and (b_v (v_call GA hr passL (a_cons (v_v 2) (a_1 v_str)) (spAmong_v ld))) fun _ => w_and1 (bc ((c_lt (v_lenW T.f_len (v_v 2) ld) (v_v 1)).is dec_ltN)))) (fun h1 => ?_) fun h1 => ?_
    · rw [if_pos h1]
      exact d_tup (da_cons (d_str v_str) (da_cons (d_str (v_v 2)) da_nil))
    · rw [if_neg (by rw [h1]; decide)]
      exact d_non
  · refine xb_retD (d := firstM z n) ?_ fun H3 v e3 t => k H3 v (e1.trans e3) t
    have e : firstM z n = if (amongL z "01" && decide (z.length = n)) = true then .tuple [.str "first", strD z] else .none := by unfold firstM; rw [if_neg (by rw [hk]; decide)]
    rw [e]
    refine d_if (b_w (w_and (b_v (v_call GA hr passL (a_cons (v_v 0) (a_1 v_str)) (spAmong_v hz))) fun _ => w_and1 (bc ((c_eq (v_lenW T.f_len (v_v 0) hz) (v_v 1)).is dec_lenEq)))) (fun h1 => ?_) fun h1 => ?_
    · rw [if_pos h1]
      exact d_tup (da_cons (d_str v_str) (da_cons (d_str (v_v 0)) da_nil))
    · rw [if_neg (by rw [h1]; decide)]
      exact d_non
end
end Gw

set_option maxRecDepth 100000
set_option maxHeartbeats 4000000
namespace Gw
open PySem PySem.Spec PyProof.Rows L2 Evl SX
theorem wl_is {X : Cx} {e : Expr} {σ : L2.St} {H : Hp} {b c : Bool} (h : Wl X e σ H b) (q : b = c) : Wl X e σ H c := q ▸ h
theorem isN_oV (o : Option Nat) : decide (oV o = .non) = o.isNone := by cases o <;> rfl
section
variable {P : Program} {w : World} {K : PySem.W.Frag} {mg : Str → Option Value} {base : Heap}
def spFrom : Sp := fun vs H Q _ => ∃ (a : W) (n : Nat), vs = [.str (S a), .int n] ∧ a.length ≤ 40000 ∧ GiveD (fromM a n) H Q
theorem tp_oV {H : Hp} (o : Option Nat) : Tp H (oV o) (numD o) := by cases o with | none => exact .non | some n => exact .int n
theorem ok_fromAtom (T : Tx K mg) : Gd P w K mg base 3 "from_atom" spFrom := by
  have GW : Gd P w K mg base 2 "whole_in" spWhole := ok_wholeIn T
  refine gd_of T dFromAtom 18 T.g_from_atom scFromAtom (fun _ _ _ _ _ _ us hl => match us, hl with | [_, _], _ => rfl) (fun _ _ _ _ ⟨a, n, e, _⟩ => by subst e; rfl) fun f cdv A outer s H vs Q E hr ⟨z, n, e, hz, k⟩ => ?_
  subst e
  have nd := scFromAtom.nd
  cases h : TL.par [46, 46] [] z with
  | none =>
    have k' : GiveD (match wholeM z with | none => .none | some m => if n < m then .none else .tuple [.str "from", .int m, .int m]) H Q := by
      have q := k; unfold fromM at q; rw [h] at q; exact q
    refine xb_un3 2 3 4 (tu_is (ul_tu (u_partW litDots (v_v 0) v_str hz (by decide))) (parV_none h)) fun H1 e1 => ?_
    refine xb_when (k := true) (bl_is (bc (c_eq (v_v 3) v_str)) (by rw [dec_nil]; rfl)) (fun _ H2 e2 => ?_) fun hk => by cases hk
    refine xb_set 5 (v_call GW hr passL (a_1 (v_v 0)) (spS1_v hz)) fun H3 e3 => ?_
    refine xb_retD ?_ fun H4 v e4 t => k' H4 v (((e1.trans e2).trans e3).trans e4) t
    cases hw : wholeM z with
    | none =>
      refine d_if (k := true) (bl_is (b_w (w_or (k := false) (bc ((c_isN (v_v 5)).is (isN_oV _))) fun q => by cases q)) rfl) (fun _ => d_non) fun q => by cases q
    | some m =>
      dsimp only
      refine d_if (k := decide (n < m)) (bl_is (b_w (w_or (j := false) (bc ((c_isN (v_v 5)).is rfl)) fun _ => w_or1 (bc ((c_gt (v_v (v := .int m) 5) (v_v 1)).is dec_ltN)))) (by rw [Bool.false_or])) (fun q => ?_) fun q => ?_
      · rw [if_pos (of_decide_eq_true q)]; exact d_non
      · rw [if_neg (of_decide_eq_false q)]
        exact d_tup (da_cons (d_str v_str) (da_cons (d_int (v_v (v := .int m) 5)) (da_cons (d_int (v_v (v := .int m) 5)) da_nil)))
  | some pq =>
    obtain ⟨p, q⟩ := pq
    obtain ⟨lp, lq⟩ := par_lens h hz
    refine xb_un3 2 3 4 (tu_is (ul_tu (u_partW litDots (v_v 0) v_str hz (by decide))) (parV_some h)) fun H1 e1 => ?_
    refine xb_when (k := false) (bl_is (bc (c_eq (v_v 3) v_str)) (by rw [dec_nil]; rfl)) (fun hk => by cases hk) fun _ H2 e2 => ?_
    refine xb_set 6 (v_call GW hr passL (a_1 (v_v 2)) (spS1_v lp)) fun H3 e3 => ?_
    refine xb_set 7 (v_call GW hr passL (a_1 (v_v 4)) (spS1_v lq)) fun H4 e4 => ?_
    have ee := ((e1.trans e2).trans e3).trans e4
    have hf : fromM z n = if ((decide (p ≠ []) && (wholeM p).isNone) || (decide (q ≠ []) && (wholeM q).isNone)) || ((wholeM p).any (fun m => decide (n < m)) || (wholeM q).any fun m => decide (n < m)) then .none else match wholeM p, wholeM q with
        | some l, some h => if h ≤ l then .none else .tuple [.str "from", .int l, .int h]
        | l, h => .tuple [.str "from", numD l, numD h] := by unfold fromM; rw [h] <;> rfl
    have neS : ∀ a : W, (!decide (V.str (S a) = V.str "")) = decide (a ≠ []) := fun a => by rw [dec_nil]; by_cases h : a = [] <;> simp [h]
    refine xb_when (k := ((decide (p ≠ []) && (wholeM p).isNone) || (decide (q ≠ []) && (wholeM q).isNone))) (b_w (w_or (b_w (w_and (bc ((c_ne (v_v 2) v_str).is (neS p))) fun _ => w_and1 (bc ((c_isN (v_v 6)).is (isN_oV _))))) fun _ => w_or1 (b_w (w_and (bc ((c_ne (v_v 4) v_str).is (neS q))) fun _ => w_and1 (bc ((c_isN (v_v 7)).is (isN_oV _)))))))
      (fun hk H5 e5 => ?_) fun hk H5 e5 => ?_
    · refine xb_ret v_non fun H6 e6 => k H6 .non ((ee.trans e5).trans e6) ?_
      rw [hf, hk]; exact .non
    · refine xb_when (k := ((wholeM p).any (fun m => decide (n < m)) || (wholeM q).any fun m => decide (n < m))) ?_ (fun hk2 H6 e6 => ?_) fun hk2 H6 e6 => ?_
      · refine b_w (w_or (b_w ?_) fun _ => w_or1 (b_w ?_))
        · cases hw : wholeM p with
          | none => exact wl_is (w_and (k := false) (bc ((c_notN (v_v 6)).is (l := false) (by first | rfl | (rw [hw]; rfl)))) fun q => by cases q) rfl
          | some m => exact wl_is (w_and (j := true) (bc ((c_notN (v_v 6)).is (by first | rfl | (rw [hw]; rfl)))) fun _ => w_and1 (bc ((c_gt (v_v 6 (by first | rfl | (rw [hw]; rfl))) (v_v 1)).is dec_ltN))) rfl
        · cases hw : wholeM q with
          | none => exact wl_is (w_and (k := false) (bc ((c_notN (v_v 7)).is (l := false) (by first | rfl | (rw [hw]; rfl)))) fun q => by cases q) rfl
          | some m => exact wl_is (w_and (j := true) (bc ((c_notN (v_v 7)).is (by first | rfl | (rw [hw]; rfl)))) fun _ => w_and1 (bc ((c_gt (v_v 7 (by first | rfl | (rw [hw]; rfl))) (v_v 1)).is dec_ltN))) rfl
      · refine xb_ret v_non fun H7 e7 => k H7 .non (((ee.trans e5).trans e6).trans e7) ?_
        rw [hf, hk2, Bool.or_true]; exact .non
      · rw [hk, hk2] at hf
        rw [hf] at k
        have k' := k
        simp only [Bool.or_false, Bool.false_eq_true, if_false] at k'
        cases hp : wholeM p with
        | none =>
          rw [hp] at k'
          refine xb_when (k := false) (bl_is (b_w (w_and (k := false) (bc ((c_notN (v_v 6)).is (l := false) (by first | rfl | (rw [hp]; rfl)))) fun q => by cases q)) rfl) (fun q => by cases q) fun _ H7 e7 => ?_
          exact xb_retD (d_tup (da_cons (d_str v_str) (da_cons (d_v (v_v 6) (by first | exact .non | (rw [hp]; exact .non))) (da_cons (d_v (v_v 7) (tp_oV _)) da_nil)))) fun H8 v e8 t => k' H8 v ((((ee.trans e5).trans e6).trans e7).trans e8) t
        | some l =>
          rw [hp] at k'
          cases hq : wholeM q with
          | none =>
            rw [hq] at k'
            refine xb_when (k := false) (bl_is (b_w (w_and (j := true) (k := false) (bc ((c_notN (v_v 6)).is (by first | rfl | (rw [hp]; rfl)))) fun _ => w_and (j := false) (k := false) (bc ((c_notN (v_v 7)).is (by first | rfl | (rw [hq]; rfl)))) fun q => by cases q)) rfl) (fun q => by cases q) fun _ H7 e7 => ?_
            exact xb_retD (d_tup (da_cons (d_str v_str) (da_cons (d_v (v_v 6) (by first | exact .int l | (rw [hp]; exact .int l))) (da_cons (d_v (v_v 7) (by first | exact .non | (rw [hq]; exact .non))) da_nil)))) fun H8 v e8 t => k' H8 v ((((ee.trans e5).trans e6).trans e7).trans e8) t
          | some m =>
            rw [hq] at k'
            refine xb_when (k := decide (m ≤ l)) (bl_is (b_w (w_and (j := true) (bc ((c_notN (v_v 6)).is (by first | rfl | (rw [hp]; rfl)))) fun _ => w_and (j := true) (bc ((c_notN (v_v 7)).is (by first | rfl | (rw [hq]; rfl)))) fun _ => w_and1 (bc ((c_ge (v_v 6 (by first | rfl | (rw [hp]; rfl))) (v_v 7 (by first | rfl | (rw [hq]; rfl)))).is dec_leN)))) rfl) (fun g H7 e7 => ?_) fun g H7 e7 => ?_
            · refine xb_ret v_non fun H8 e8 => k' H8 .non ((((ee.trans e5).trans e6).trans e7).trans e8) ?_
              dsimp only
              rw [if_pos (of_decide_eq_true g)]; exact .non
            · refine xb_retD (d_tup (da_cons (d_str v_str) (da_cons (d_v (v_v 6) (by first | exact .int l | (rw [hp]; exact .int l))) (da_cons (d_v (v_v 7) (by first | exact .int m | (rw [hq]; exact .int m))) da_nil)))) fun H8 v e8 t => k' H8 v ((((ee.trans e5).trans e6).trans e7).trans e8) ?_
              dsimp only
              rw [if_neg (of_decide_eq_false g)]; exact t
def spClock : Sp := fun vs H Q _ => ∃ a : W, vs = [.str (S a)] ∧ a.length ≤ 40000 ∧ GiveD (clockM a) H Q
theorem ok_clockAtom (T : Tx K mg) : Gd P w K mg base 3 "clock_atom" spClock := by
  have GW : Gd P w K mg base 2 "time_in" spTime := ok_timeIn T
  refine gd_of T dClockAtom 21 T.g_clock_atom scClockAtom (fun _ _ _ _ _ _ us hl => match us, hl with | [_], _ => rfl) (fun _ _ _ _ ⟨a, e, _⟩ => by subst e; rfl) fun f cdv A outer s H vs Q E hr ⟨z, e, hz, k⟩ => ?_
  subst e
  have nd := scClockAtom.nd
  cases h : TL.par [46, 46] [] z with
  | none =>
    have k' : GiveD (match minutesM z with | none => .none | some m => .tuple [.str "clock", .int m, .int m]) H Q := by
      have q := k; unfold clockM at q; rw [h] at q; exact q
    refine xb_un3 1 2 3 (tu_is (ul_tu (u_partW litDots (v_v 0) v_str hz (by decide))) (parV_none h)) fun H1 e1 => ?_
    refine xb_set 4 (v_call GW hr passL (a_1 (v_v 1)) (spS1_v hz)) fun H2 e2 => ?_
    refine xb_set 5 (v_if (k := true) (bl_is (bc (c_eq (v_v 2) v_str)) (by rw [dec_nil]; rfl)) (fun _ => v_v 4) fun q => by cases q) fun H3 e3 => ?_
    have ee := (e1.trans e2).trans e3
    cases hw : minutesM z with
    | none =>
      rw [hw] at k'
      refine xb_when (k := true) (bl_is (b_w (w_or (k := false) (bc ((c_isN (v_v 4)).is (l := true) (by first | rfl | (rw [hw]; rfl)))) fun q => by cases q)) rfl) (fun _ H4 e4 => xb_ret v_non fun H5 e5 => k' H5 .non ((ee.trans e4).trans e5) .non) fun q => by cases q
    | some m =>
      rw [hw] at k'
      refine xb_when (k := false) (bl_is (b_w (w_or (j := false) (k := false) (bc ((c_isN (v_v 4)).is (by first | rfl | (rw [hw]; rfl)))) fun _ => w_or (j := false) (k := false) (bc ((c_isN (v_v 5)).is (by first | rfl | (rw [hw]; rfl)))) fun _ => w_or1 (b_w (w_and (j := false) (k := false) (bc ((c_ne (v_v 2) v_str).is (by rw [dec_nil]; rfl))) fun q => by cases q)))) rfl) (fun q => by cases q) fun _ H4 e4 => ?_
      exact xb_retD (d_tup (da_cons (d_str v_str) (da_cons (d_v (v_v 4) (by first | exact .int m | (rw [hw]; exact .int m))) (da_cons (d_v (v_v 5) (by first | exact .int m | (rw [hw]; exact .int m))) da_nil)))) fun H8 v e8 t => k' H8 v ((ee.trans e4).trans e8) t
  | some pq =>
    obtain ⟨p, q⟩ := pq
    obtain ⟨lp, lq⟩ := par_lens h hz
    have k' : GiveD (match minutesM p, minutesM q with | some b, some e => if b = e then .none else .tuple [.str "clock", .int b, .int e] | _, _ => .none) H Q := by
      have q := k; unfold clockM at q; rw [h] at q; exact q
    refine xb_un3 1 2 3 (tu_is (ul_tu (u_partW litDots (v_v 0) v_str hz (by decide))) (parV_some h)) fun H1 e1 => ?_
    refine xb_set 4 (v_call GW hr passL (a_1 (v_v 1)) (spS1_v lp)) fun H2 e2 => ?_
    refine xb_set 5 (v_if (k := false) (bl_is (bc (c_eq (v_v 2) v_str)) (by rw [dec_nil]; rfl)) (fun q => by cases q) fun _ => v_call GW hr passL (a_1 (v_v 3)) (spS1_v lq)) fun H3 e3 => ?_
    have ee := (e1.trans e2).trans e3
    cases hp : minutesM p with
    | none =>
      rw [hp] at k'
      refine xb_when (k := true) (bl_is (b_w (w_or (k := false) (bc ((c_isN (v_v 4)).is (l := true) (by first | rfl | (rw [hp]; rfl)))) fun q => by cases q)) rfl) (fun _ H4 e4 => xb_ret v_non fun H5 e5 => k' H5 .non ((ee.trans e4).trans e5) .non) fun q => by cases q
    | some l =>
      rw [hp] at k'
      cases hq : minutesM q with
      | none =>
        rw [hq] at k'
        refine xb_when (k := true) (bl_is (b_w (w_or (j := false) (k := true) (bc ((c_isN (v_v 4)).is (by first | rfl | (rw [hp]; rfl)))) fun _ => w_or (j := true) (k := false) (bc ((c_isN (v_v 5)).is (by first | rfl | (rw [hq]; rfl)))) fun q => by cases q)) rfl) (fun _ H4 e4 => xb_ret v_non fun H5 e5 => k' H5 .non ((ee.trans e4).trans e5) .non) fun q => by cases q
      | some m =>
        rw [hq] at k'
        refine xb_when (k := decide (l = m)) (bl_is (b_w (w_or (j := false) (bc ((c_isN (v_v 4)).is (by first | rfl | (rw [hp]; rfl)))) fun _ => w_or (j := false) (bc ((c_isN (v_v 5)).is (by first | rfl | (rw [hq]; rfl)))) fun _ => w_or1 (b_w (w_and (j := true) (bc ((c_ne (v_v 2) v_str).is (by rw [dec_nil]; rfl))) fun _ => w_and1 (bc ((c_eq (v_v 4 (by first | rfl | (rw [hp]; rfl))) (v_v 5 (by first | rfl | (rw [hq]; rfl)))).is dec_lenEq)))))) rfl) (fun g H4 e4 => ?_) fun g H4 e4 => ?_
        · refine xb_ret v_non fun H5 e5 => k' H5 .non ((ee.trans e4).trans e5) ?_
          dsimp only
          rw [if_pos (of_decide_eq_true g)]; exact .non
        · refine xb_retD (d_tup (da_cons (d_str v_str) (da_cons (d_v (v_v 4) (by first | exact .int l | (rw [hp]; exact .int l))) (da_cons (d_v (v_v 5) (by first | exact .int m | (rw [hq]; exact .int m))) da_nil)))) fun H8 v e8 t => k' H8 v ((ee.trans e4).trans e8) ?_
          dsimp only
          rw [if_neg (of_decide_eq_false g)]; exact t
end
end Gw

set_option maxRecDepth 100000
set_option maxHeartbeats 4000000
/-! Slices and items by natural numbers. -/
namespace Gw
open PySem PySem.Spec PyProof.Rows L2 Evl SX
theorem sIx_n (n d k : Nat) : HT.sIx n d (some (k : Int)) = min k n := HT.sIx_nat n d k
theorem cut_nn {a : W} (lo hi : Nat) : cutS (S a) (some (lo : Int)) (some (hi : Int)) = S ((a.drop lo).take (hi - lo)) := by
  unfold cutS
  rw [sIx_n, sIx_n, S_len, tl_S]
  congr 2
  by_cases h : lo ≤ a.length
  · rw [Nat.min_eq_left h]
    by_cases h2 : hi ≤ a.length
    · rw [Nat.min_eq_left h2]
    · rw [Nat.min_eq_right (by omega), List.take_of_length_le (by rw [List.length_drop]; omega), List.take_of_length_le (by rw [List.length_drop]; omega)]
  · rw [show min lo a.length = a.length from by omega, List.drop_eq_nil_of_le (Nat.le_refl _), List.drop_eq_nil_of_le (by omega), List.take_nil, List.take_nil]
theorem cut_from {a : W} (lo : Nat) : cutS (S a) (some (lo : Int)) none = S (a.drop lo) := by
  unfold cutS
  rw [sIx_n, S_len, tl_S, HT.sIx_none]
  congr 2
  by_cases h : lo ≤ a.length
  · rw [Nat.min_eq_left h, List.take_of_length_le (by rw [List.length_drop]; omega)]
  · rw [Nat.min_eq_right (by omega), List.drop_eq_nil_of_le (Nat.le_refl _), List.drop_eq_nil_of_le (by omega), List.take_nil]
theorem cut_to {a : W} (hi : Nat) : cutS (S a) none (some (hi : Int)) = S (a.take hi) := by
  unfold cutS
  rw [sIx_n, S_len, tl_S, HT.sIx_none]
  congr 2
  rw [List.drop_zero, Nat.sub_zero]
  by_cases h : hi ≤ a.length
  · rw [Nat.min_eq_left h]
  · rw [Nat.min_eq_right (by omega), List.take_of_length_le (Nat.le_refl _), List.take_of_length_le (by omega)]
theorem cutV_from {xs : List V} (lo : Nat) : cutV xs (some (lo : Int)) none = xs.drop lo := by
  unfold cutV
  rw [sIx_n, HT.sIx_none]
  by_cases h : lo ≤ xs.length
  · rw [Nat.min_eq_left h, List.take_of_length_le (by rw [List.length_drop]; omega)]
  · rw [Nat.min_eq_right (by omega), List.drop_eq_nil_of_le (Nat.le_refl _), List.drop_eq_nil_of_le (by omega), List.take_nil]
theorem cutV_to {xs : List V} (hi : Nat) : cutV xs none (some (hi : Int)) = xs.take hi := by
  unfold cutV
  rw [sIx_n, HT.sIx_none, List.drop_zero, Nat.sub_zero]
  by_cases h : hi ≤ xs.length
  · rw [Nat.min_eq_left h]
  · rw [Nat.min_eq_right (by omega), List.take_of_length_le (Nat.le_refl _), List.take_of_length_le (by omega)]
theorem cutV_but {xs : List V} : cutV xs none (some (-1)) = xs.dropLast := by
  unfold cutV
  rw [HT.sIx_none, List.drop_zero, Nat.sub_zero, List.dropLast_eq_take]
  congr 1
  rw [show HT.sIx xs.length xs.length (some (-1)) = ((-1 : Int) + (xs.length : Int)).toNat from by unfold HT.sIx; dsimp only; rw [if_pos (by decide)]]
  omega
theorem cutV_nn {xs : List V} (lo hi : Nat) : cutV xs (some (lo : Int)) (some (hi : Int)) = (xs.drop lo).take (hi - lo) := by
  unfold cutV
  rw [sIx_n, sIx_n]
  by_cases h : lo ≤ xs.length
  · rw [Nat.min_eq_left h]
    by_cases h2 : hi ≤ xs.length
    · rw [Nat.min_eq_left h2]
    · rw [Nat.min_eq_right (by omega), List.take_of_length_le (by rw [List.length_drop]; omega), List.take_of_length_le (by rw [List.length_drop]; omega)]
  · rw [show min lo xs.length = xs.length from by omega, List.drop_eq_nil_of_le (Nat.le_refl _), List.drop_eq_nil_of_le (by omega), List.take_nil, List.take_nil]
theorem atI_n {α : Type} {xs : List α} (i : Nat) : atI xs (i : Int) = xs[i]? := by
  unfold atI ixN
  rw [if_pos (by omega)]
  by_cases h : i < xs.length
  · rw [if_pos (by omega)]
    show xs[((i : Nat) : Int).toNat]? = _
    rw [Int.toNat_natCast]
  · rw [if_neg (by omega), List.getElem?_eq_none (by omega)]
    rfl
theorem atI_last {α : Type} {xs : List α} : atI xs (-1) = xs.getLast? := by
  unfold atI ixN
  rw [if_neg (by decide)]
  by_cases h : xs = []
  · subst h; rfl
  · have : 0 < xs.length := by cases xs with | nil => exact absurd rfl h | cons _ _ => simp
    rw [if_pos (by omega), List.getLast?_eq_getElem?]
    show xs[((-1 : Int) + (xs.length : Int)).toNat]? = _
    congr 1
    omega
section
variable {X : Cx} {e a b c o : Expr} {σ : L2.St} {H H' : Hp} {v : V} {xs : List V} {p p2 pos : Pos}
/-- a sign of a text -/
theorem v_ixW {z : W} {c : Nat} (i : Nat) (ha : Vl X a σ H (.str (S z))) (hb : Vl X b σ H (.int (i : Int))) (hz : z.length ≤ 40000) (h : z[i]? = some c) (hs : PlainIx b := by exact fun _ _ => rfl) : Vl X (.Subscript a b pos) σ H (.str (S [c])) := v_ixS ha hb (szS hz) (by rw [tl_S, atI_n, h]) hs
theorem v_slW {z : W} {lo hi : Option Expr} {i j : Option Int} {u : W} (ha : Vl X a σ H (.str (S z))) (h1 : Ol X lo σ H i) (h2 : Ol X hi σ H j) (hz : z.length ≤ 40000) (h : cutS (S z) i j = S u) : Vl X (.Subscript a (.Slice lo hi none p2) pos) σ H (.str (S u)) := vl_is (v_slS ha h1 h2 (szS hz)) (by rw [h])
/-- tuple(list of data) as data -/
theorem d_tupL {ds : List PyData} (hm : X.mg "tuple" = none) (h : Sl X e σ H xs) (ht : TpA H xs ds) (hg : Gl X "tuple" := by rfl) (hs : starEach [e] X.env = (false, eval e X.env) :: starEach [] X.env := by rfl) (hpl : (backTo pos (starEach [] X.env)).any (·.1) = false := by rfl) :
    Dl X (.Call (.Name "tuple" p) [e] [] pos) σ H (.tuple ds) := fun H1 e1 Q k => u_tuple hm h hg hs hpl H1 e1 Q fun q H2 hq e2 h2 => k (.ref q) H2 e2 (.tup (.inl h2) (ht.mono (e1.trans e2)))
theorem Il.mono {tg iter : Expr} (e1 : Ex H H') (h : Il X tg iter σ H xs) : Il X tg iter σ H' xs := let ⟨wi, a, b⟩ := h; ⟨wi, a, fun H1 e => b H1 (e1.trans e)⟩
theorem Du.mono {kvs : List (Key × V)} (e1 : Ex H H') (h : Du X e σ H kvs) : Du X e σ H' kvs := fun H1 a Q q => h H1 (e1.trans a) Q q
end
end Gw

set_option maxRecDepth 100000
set_option maxHeartbeats 4000000
namespace Gw
open PySem PySem.Spec PyProof.Rows L2 Evl SX
/-- the two lists by their signs -/
abbrev pmD (l1 l2 : Addr) : List (Key × V) := [(.inr "+", .ref l1), (.inr "-", .ref l2)]
theorem pm_merge (a b : V) : mergeK [] [((.inr "+" : Key), a), (.inr "-", b)] = [(.inr "+", a), (.inr "-", b)] := by
  show putK (putK [] (.inr "+" : Key) a) (.inr "-") b = _
  have h : valV [((Sum.inr "+" : Key), a)] (Sum.inr "-" : Key) = none := by
    unfold valV
    rw [List.find?_cons_of_neg (by simpa using (show ¬ (Sum.inr "+" : Key) = (Sum.inr "-" : Key) by decide +kernel))]
    rfl
  rw [putK_new (kvs := []) a valV_nil, List.nil_append, putK_new b h]
  rfl
theorem litPlus : ("+" : Str) = S [43] := by decide +kernel
theorem litMinus : ("-" : Str) = S [45] := by decide +kernel
theorem pm_val (l1 l2 : Addr) (c : Nat) : valV (pmD l1 l2) (.inr (S [c])) = if c = 43 then some (.ref l1) else if c = 45 then some (.ref l2) else none := by
  by_cases h1 : c = 43
  · subst h1; rw [if_pos rfl]; exact valV_pos (by rw [litPlus])
  · rw [if_neg h1, valV_neg (by rw [litPlus]; intro q; exact h1 (by injection q with q; have := S_inj q; simpa using this.symm))]
    by_cases h2 : c = 45
    · subst h2; rw [if_pos rfl]; exact valV_pos (by rw [litMinus])
    · rw [if_neg h2, valV_neg (by rw [litMinus]; intro q; exact h2 (by injection q with q; have := S_inj q; simpa using this.symm))]
      rfl
theorem pm_some (l1 l2 : Addr) (c : Nat) : (valV (pmD l1 l2) (.inr (S [c]))).isSome = signC c := by
  rw [pm_val]
  unfold signC
  by_cases h1 : c = 43
  · subst h1; rfl
  · rw [if_neg h1]
    by_cases h2 : c = 45
    · subst h2; rfl
    · rw [if_neg h2]
      have e1 : (c == 43) = false := by simpa using h1
      have e2 : (c == 45) = false := by simpa using h2
      rw [e1, e2]; rfl
/-- where a name ends -/
def nameEnd (r : W) : Nat := (markName r).1.length
theorem name_split : ∀ r : W, r = (markName r).1 ++ (markName r).2
  | [] => rfl
  | c :: r => by
    unfold markName
    by_cases h : signC c = true
    · rw [if_pos h]; rfl
    · rw [if_neg h]
      show c :: r = c :: ((markName r).1 ++ (markName r).2)
      rw [← name_split r]
theorem take_name (r : W) : r.take (markName r).1.length = (markName r).1 :=
  calc r.take (markName r).1.length = ((markName r).1 ++ (markName r).2).take (markName r).1.length := by rw [← name_split r]
    _ = (markName r).1 := by simp
/-- up to k no sign: the scan goes on -/
theorem name_at : ∀ (r : W) (k : Nat), k ≤ (markName r).1.length → (k < (markName r).1.length ↔ ∃ c, r[k]? = some c ∧ signC c = false)
  | [], 0, _ => by simp [markName]
  | [], k + 1, h => by simp [markName] at h
  | c :: r, 0, h => by
    unfold markName
    by_cases hc : signC c = true
    · rw [if_pos hc]; simp [hc]
    · rw [if_neg hc]; simp [hc]
  | c :: r, k + 1, h => by
    unfold markName at h ⊢
    by_cases hc : signC c = true
    · rw [if_pos hc] at h; simp at h
    · rw [if_neg hc] at h ⊢
      have := name_at r k (by simpa using h)
      simpa using this
def spMarks : Sp := fun vs H Q _ => ∃ (a : W) (ms : List W) (t : Addr), vs = [.str (S a), .ref t] ∧ Ft H t (ms.map fun p => V.str (S p)) ∧ a.length ≤ 40000 ∧ GiveD (marksM a ms) H Q
section
variable {P : Program} {w : World} {K : PySem.W.Frag} {mg : Str → Option Value} {base : Heap}

theorem ok_marksAtom (T : Tx K mg) : Gd P w K mg base 1 "marks_atom" spMarks := by
  refine gd_of T dMarksAtom 20 T.g_marks_atom scMarksAtom (fun _ _ _ _ _ _ us hl => match us, hl with | [_, _], _ => rfl) (fun _ _ _ _ ⟨a, ps, t, e, _⟩ => by subst e; rfl) fun f cdv A outer s H vs Q E hr ⟨z, ms, t, e, ht, hz, k⟩ => ?_
  subst e
  have nd := scMarksAtom.nd
  refine xb_setE 2 (xe_disp2 (q1 := .inr "+") (q2 := .inr "-") v_str v_str fun p H1 hp e1 hp1 => (l_lst a_nil) H1 (Ex.refl _) _ fun l1 H2 hl1 e2 h2 => ⟨e2, fun H3 e3 => (l_lst a_nil) H3 (Ex.refl _) _ fun l2 H4 hl2 e4 h4 => ⟨e4, ?_⟩⟩)
  rw [pm_merge]
  have n1 : l1 ≠ p := fun q => by subst q; rw [hp1] at hl1; cases hl1
  have n2 : l2 ≠ p := fun q => by subst q; rw [e3 _ _ (e2 _ _ hp1)] at hl2; cases hl2
  have n3 : l1 ≠ l2 := fun q => by subst q; rw [e3 _ _ h2] at hl2; cases hl2
  have g1 : H l1 = none := fresh_back e1 hl1
  have g2 : H l2 = none := fresh_back ((e1.trans e2).trans e3) hl2
  -- the state of the outer loop
  let W1 : Nat → L2.St → Hp → Prop := fun m σ' H' => ∃ (pre r : W) (last : Int) (on off : List W) (n : Nat) (a5 a6 : Option V), z = pre ++ r ∧ r.length ≤ m ∧ r.length < n ∧ marksGo ms n last r on off = marksGo ms (z.length + 1) (-1) z [] [] ∧
    σ' = [some (.str (S z)), some (.ref t), some (.ref p), some (.int last), some (.int (pre.length : Int)), a5, a6] ∧ Ex H H' ∧ H' p = some (.dK (pmD l1 l2)) ∧ H' l1 = some (.lst (on.map fun a => V.str (S a))) ∧ H' l2 = some (.lst (off.map fun a => V.str (S a))) ∧ on.length + off.length ≤ pre.length
  have hfin : ∀ (on off : List W) (last : Int) (H' : Hp), marksGo ms (z.length + 1) (-1) z [] [] = some (last, on, off) → Ex H H' → ∀ v, Tp H' v (if last < 0 then .none else .tuple [.str "marks", strsD on, strsD off]) → Q v H' := by
    intro on off last H' hm e v q
    have g := k
    unfold marksM at g
    rw [hm] at g
    exact g H' v e q
  refine xb_set 3 (v_neg v_int) fun H5 e5 => xb_set 4 v_int fun H6 e6 => ?_
  have ep : Ex H (upd H4 p (.dK (pmD l1 l2))) := ((((e1.trans e2).trans e3).trans e4)).mut hp
  refine xb_while W1 z.length ⟨[], z, -1, [], [], z.length + 1, none, none, rfl, Nat.le_refl _, Nat.lt_succ_self _, rfl, rfl, (ep.trans e5).trans e6, e6 _ _ (e5 _ _ upd_same), e6 _ _ (e5 _ _ (by rw [upd_ne n1]; exact e4 _ _ (e3 _ _ h2))), e6 _ _ (e5 _ _ (by rw [upd_ne n2]; exact h4)), Nat.le_refl _⟩ po_cx ?_
  rintro m σ' H' ⟨pre, r, last, on, off, n, a5, a6, hzr, hrm, hrn, hgo, hσ, eH, hd, hl1', hl2', hcnt⟩
  subst hσ
  have hzl : pre.length + r.length ≤ 40000 := by rw [hzr, List.length_append] at hz; exact hz
  refine ⟨decide (pre.length < z.length), bc ((c_lt (v_v 4) (v_lenW T.f_len (v_v 0) hz)).is dec_ltN), fun hk H7 e7 => ?_, fun hk H7 e7 => ?_⟩
  · have hk' := of_decide_eq_true hk
    obtain ⟨n, rfl⟩ : ∃ n', n = n' + 1 := ⟨n - 1, by omega⟩
    cases r with
    | nil => rw [hzr] at hk'; simp at hk'
    | cons c r =>
      have hzc : z[pre.length]? = some c := by rw [hzr]; simp
      have hzr' : ∀ j, z[pre.length + 1 + j]? = r[j]? := fun j => by
        rw [hzr, List.getElem?_append_right (by omega), show pre.length + 1 + j - pre.length = j + 1 from by omega]; rfl
      -- the inner loop
      let W2 : Nat → L2.St → Hp → Prop := fun m σ' H'' => ∃ j : Nat, j ≤ (markName r).1.length ∧ (markName r).1.length - j ≤ m ∧ σ' = [some (.str (S z)), some (.ref t), some (.ref p), some (.int last), some (.int (pre.length : Int)), some (.int ((pre.length + 1 + j : Nat) : Int)), a6] ∧ Ex H' H''
      have hlen : (markName r).1.length ≤ r.length := by have := name_split r; have h2 := congrArg List.length this; rw [List.length_append] at h2; omega
      refine xb_set 5 (v_add (v_v 4) v_int) fun H8 e8 => ?_
      refine xb_while W2 (markName r).1.length ⟨0, Nat.zero_le _, Nat.le_refl _, rfl, e7.trans e8⟩ po_cx ?_
      rintro m2 σ2 H9 ⟨j, hj1, hj2, hσ2, e9⟩
      subst hσ2
      have hn2 := name_at r j hj1
      refine ⟨decide (j < (markName r).1.length), ?_, fun hk2 H10 e10 => ?_, fun hk2 H10 e10 => ?_⟩
      · refine bl_is (b_w (w_and (j := decide (pre.length + 1 + j < z.length)) (k := decide (j < (markName r).1.length)) (bc ((c_lt (v_v 5) (v_lenW T.f_len (v_v 0) hz)).is dec_ltN)) fun q => ?_)) ?_
        · have q' := of_decide_eq_true q
          obtain ⟨d, hdj⟩ : ∃ d, z[pre.length + 1 + j]? = some d := ⟨_, List.getElem?_eq_getElem q'⟩
          have hrj : r[j]? = some d := by rw [← hzr' j]; exact hdj
          refine w_and1 (bl_is (bc (c_ninD (q := .inr (S [d])) hr (v_ixW (pre.length + 1 + j) (v_v 0) (v_v 5) hz hdj) (v_v 2) (e9 _ _ hd))) ?_)
          rw [pm_some]
          cases hs : signC d with
          | true =>
            symm
            refine decide_eq_false fun h => ?_
            obtain ⟨c', h1, h2⟩ := hn2.mp h
            rw [hrj] at h1; cases h1; rw [hs] at h2; cases h2
          | false =>
            symm
            exact decide_eq_true (hn2.mpr ⟨d, hrj, hs⟩)
        · by_cases h : j < (markName r).1.length
          · rw [decide_eq_true h, Bool.and_true]
            refine decide_eq_true ?_
            rw [hzr, List.length_append, List.length_cons]; omega
          · rw [decide_eq_false h, Bool.and_false]
      · have hk2' := of_decide_eq_true hk2
        refine xb_inc 5 v_int fun H11 e11 => xb_nil ⟨m2 - 1, by omega, j + 1, hk2', by omega, rfl, (e9.trans e10).trans e11⟩
      · have hk2' : j = (markName r).1.length := by have := of_decide_eq_false hk2; omega
        have hnm : cutS (S z) (some (((pre.length + 1 : Nat)) : Int)) (some ((pre.length + 1 + j : Nat) : Int)) = S (markName r).1 := by
          rw [cut_nn, hzr, show pre.length + 1 + j - (pre.length + 1) = j from by omega]
          congr 1
          rw [show (pre ++ c :: r).drop (pre.length + 1) = r from by rw [List.drop_append]; simp, hk2']
          exact take_name r
        generalize hN : (markName r).1 = nm at *
        have hrest : r = nm ++ (markName r).2 := by have := name_split r; rw [hN] at this; exact this
        have eA : Ex H' H10 := e9.trans e10
        refine xb_set 6 (v_slW (v_v 0) (o_s (vl_is (v_add (v_v 4) v_int) rfl)) (o_s (v_v 5)) hz hnm) fun H11 e11 => ?_
        have eB : Ex H' H11 := eA.trans e11
        have hft : Ft H11 t (ms.map fun p => V.str (S p)) := ht.mono (eH.trans eB)
        have key : marksGo ms (n + 1) last (c :: r) on off = if signC c then (match markAt ms nm with
            | some j => if (j : Int) ≤ last then none else if c == 43 then marksGo ms n j (markName r).2 (on ++ [nm]) off else marksGo ms n j (markName r).2 on (off ++ [nm])
            | none => none) else none := by rw [← hN]; rfl
        rw [hgo] at key
        have knone : ∀ H'', Ex H' H'' → marksGo ms (z.length + 1) (-1) z [] [] = none → Q .non H'' := fun H'' e'' hm => by
          have g := k
          unfold marksM at g
          rw [hm] at g
          exact g H'' .non (eH.trans e'') .non
        refine xb_when (k := !signC c || (!decide (nm ∈ ms) || decide (((ms.idxOf nm : Nat) : Int) ≤ last))) (b_w (w_or (bl_is (bc (c_ninD (q := .inr (S [c])) hr (v_ixW pre.length (v_v 0) (v_v 4) hz hzc) (v_v 2) (eB _ _ hd))) (by rw [pm_some])) fun _ => w_or (j := !decide (nm ∈ ms)) (bc ((c_ninT (v_v 6) (vl_tu (v_v 1) (.inl hft.rd)) rfl (flat_strs ms)).is (by rw [inV_strs]))) fun q => w_or1 (bc (c_le (v_tidx (ms := ms) (v_v 1) hft (v_v 6) (by simpa using q)) (v_v 3))))) (fun h1 H12 e12 => ?_) fun h1 H12 e12 => ?_
        · refine xb_ret v_non fun H13 e13 => knone H13 ((eB.trans e12).trans e13) ?_
          rw [key]
          cases hs : signC c with
          | false => rfl
          | true =>
            rw [hs] at h1
            unfold markAt
            by_cases hm : nm ∈ ms
            · rw [decide_eq_true hm] at h1
              rw [decide_eq_true hm]
              have h3 : ((ms.idxOf nm : Nat) : Int) ≤ last := by simpa using h1
              simp [h3]
            · rw [decide_eq_false hm]; rfl
        · have hs : signC c = true := by cases h : signC c with | true => rfl | false => rw [h] at h1; cases h1
          have hm : nm ∈ ms := by
            rw [hs] at h1
            by_cases hm : nm ∈ ms
            · exact hm
            · rw [decide_eq_false hm] at h1; cases h1
          have hgt : ¬ ((ms.idxOf nm : Nat) : Int) ≤ last := by
            rw [hs, decide_eq_true hm] at h1
            simpa using h1
          rw [hs, if_pos rfl, markAt, decide_eq_true hm, if_pos rfl] at key
          dsimp only at key
          rw [if_neg hgt] at key
          refine xb_set 3 (v_tidx (ms := ms) (v_v 1) (hft.mono e12) (v_v 6) hm) fun H13 e13 => ?_
          have eC : Ex H' H13 := (eB.trans e12).trans e13
          have hzz : z = (pre ++ c :: nm) ++ (markName r).2 := hzr.trans (by rw [List.append_assoc, List.cons_append]; exact congrArg (fun y => pre ++ c :: y) hrest)
          have hl3 : (markName r).2.length + nm.length = r.length := by have := congrArg List.length hrest; rw [List.length_append] at this; omega
          have hr9 : (markName r).2.length < n := by simp only [List.length_cons] at hrn; omega
          have hr8 : (markName r).2.length ≤ m - 1 ∧ m - 1 < m := by simp only [List.length_cons] at hrm; omega
          have hend : (pre.length + 1 + j : Nat) = (pre ++ c :: nm).length := by rw [List.length_append, List.length_cons, hk2']; omega
          have hc2 : on.length + off.length + 1 ≤ (pre ++ c :: nm).length := by rw [List.length_append, List.length_cons]; omega
          have hpre : pre.length ≤ 40000 := by omega
          by_cases h43 : c = 43
          · subst h43
            have key' : marksGo ms n (ms.idxOf nm) (markName r).2 (on ++ [nm]) off = marksGo ms (z.length + 1) (-1) z [] [] := by rw [key]; rfl
            refine xb_app (l := l1) (v_dget (q := .inr (S [43])) hr (vl_du (v_v 2) (eC _ _ hd)) (v_ixW pre.length (v_v 0) (v_v 4) hz hzc) (by rw [pm_val, if_pos rfl])) (eC _ _ hl1') (v_v 6) (fun H14 e14 => ?_) (by rw [List.length_map]; omega)
            refine xb_set 4 (v_v 5) fun H15 e15 => xb_nil ⟨m - 1, hr8.2, pre ++ 43 :: nm, (markName r).2, (ms.idxOf nm : Nat), on ++ [nm], off, n, some (.int ((pre.length + 1 + j : Nat) : Int)), some (.str (S nm)), hzz, hr8.1, hr9, key', by rw [← hend]; rfl, ?_, ?_, ?_, ?_, ?_⟩
            · exact (((eH.trans eC).trans e14).mut g1).trans e15
            · exact e15 _ _ (by rw [upd_ne (Ne.symm n1)]; exact e14 _ _ (eC _ _ hd))
            · exact e15 _ _ (by rw [upd_same, List.map_append]; rfl)
            · exact e15 _ _ (by rw [upd_ne (Ne.symm n3)]; exact e14 _ _ (eC _ _ hl2'))
            · rw [List.length_append, List.length_singleton]; omega
          · have h45 : c = 45 := by
              unfold signC at hs
              simp only [Bool.or_eq_true, beq_iff_eq] at hs
              omega
            subst h45
            have key' : marksGo ms n (ms.idxOf nm) (markName r).2 on (off ++ [nm]) = marksGo ms (z.length + 1) (-1) z [] [] := by rw [key]; rfl
            refine xb_app (l := l2) (v_dget (q := .inr (S [45])) hr (vl_du (v_v 2) (eC _ _ hd)) (v_ixW pre.length (v_v 0) (v_v 4) hz hzc) (by rw [pm_val]; rfl)) (eC _ _ hl2') (v_v 6) (fun H14 e14 => ?_) (by rw [List.length_map]; omega)
            refine xb_set 4 (v_v 5) fun H15 e15 => xb_nil ⟨m - 1, hr8.2, pre ++ 45 :: nm, (markName r).2, (ms.idxOf nm : Nat), on, off ++ [nm], n, some (.int ((pre.length + 1 + j : Nat) : Int)), some (.str (S nm)), hzz, hr8.1, hr9, key', by rw [← hend]; rfl, ?_, ?_, ?_, ?_, ?_⟩
            · exact (((eH.trans eC).trans e14).mut g2).trans e15
            · exact e15 _ _ (by rw [upd_ne (Ne.symm n2)]; exact e14 _ _ (eC _ _ hd))
            · exact e15 _ _ (by rw [upd_ne n3]; exact e14 _ _ (eC _ _ hl1'))
            · exact e15 _ _ (by rw [upd_same, List.map_append]; rfl)
            · rw [List.length_append, List.length_singleton]; omega
  · have hr0 : r = [] := by
      have := of_decide_eq_false hk
      rw [hzr, List.length_append] at this
      exact List.eq_nil_of_length_eq_zero (by omega)
    subst hr0
    obtain ⟨n, rfl⟩ : ∃ n', n = n' + 1 := ⟨n - 1, by simp at hrn; omega⟩
    have hgo' : marksGo ms (z.length + 1) (-1) z [] [] = some (last, on, off) := hgo.symm
    refine xb_retD (d := if last < 0 then .none else .tuple [.str "marks", strsD on, strsD off]) ?_ fun H8 v e8 t => hfin on off last H8 hgo' ((eH.trans e7).trans e8) v t
    refine d_if (k := decide (last < 0)) (bc (c_lt (v_v 3) v_int)) (fun h => ?_) fun h => ?_
    · rw [if_pos (of_decide_eq_true h)]; exact d_non
    · rw [if_neg (of_decide_eq_false h)]
      refine d_tup (da_cons (d_str v_str) (da_cons (d_is (d_tupL (ds := on.map strD) T.f_tuple (vl_sl (v_dget (q := .inr "+") (v := .ref l1) hr (vl_du (v_v 2) (e7 _ _ hd)) v_str (by rw [litPlus, pm_val]; rfl)) (sq_of (e7 _ _ hl1'))) TpA.of_strs) rfl) (da_cons (d_is (d_tupL (ds := off.map strD) T.f_tuple (vl_sl (v_dget (q := .inr "-") (v := .ref l2) hr (vl_du (v_v 2) (e7 _ _ hd)) v_str (by rw [litMinus, pm_val]; rfl)) (sq_of (e7 _ _ hl2'))) TpA.of_strs) rfl) da_nil)))
end
end Gw

set_option maxRecDepth 100000
set_option maxHeartbeats 4000000
namespace Gw
open PySem PySem.Spec PyProof.Rows L2 Evl SX
/-! ### fields, told over the heap -/
def ThAt (H : Hp) (v : V) : FK → Prop
  | .names ws => ∃ t, v = .ref t ∧ Ft H t (ws.map fun p => V.str (S p))
  | .tree ws => ∃ t, v = .ref t ∧ Ft H t (ws.map fun p => V.str (S p))
  | .marks ws => ∃ t, v = .ref t ∧ Ft H t (ws.map fun p => V.str (S p))
  | .number n => v = .int (n : Int)
  | .bits n => v = .int (n : Int)
  | .clock => v = .non
/-- tuples stay, as they are -/
def Fex (H H' : Hp) : Prop := (∀ b xs, H b = some (.tup xs) → H' b = some (.tup xs)) ∧ ∀ b ob xs, H b = some (.frz ob (.tup xs)) → H' b = some (.frz ob (.tup xs))
theorem Fex.of {H H' : Hp} (e : Ex H H') : Fex H H' := ⟨fun b xs h => e b _ h, fun b ob xs h => e b _ h⟩
theorem Fex.refl (H : Hp) : Fex H H := ⟨fun _ _ h => h, fun _ _ _ h => h⟩
theorem Fex.trans {H H1 H2 : Hp} (a : Fex H H1) (b : Fex H1 H2) : Fex H H2 := ⟨fun c xs h => b.1 c xs (a.1 c xs h), fun c o xs h => b.2 c o xs (a.2 c o xs h)⟩
theorem Fex.tex {H H' : Hp} (e : Fex H H') : Tex H H' := fun b xs h => by
  rcases h with h | ⟨o, h⟩
  · exact .inl (e.1 b xs h)
  · exact .inr ⟨o, e.2 b o xs h⟩
/-- no tuple -/
def noTup (H : Hp) (p : Addr) : Prop := (∀ xs, H p ≠ some (.tup xs)) ∧ ∀ ob xs, H p ≠ some (.frz ob (.tup xs))
theorem noTup.lst {H : Hp} {p : Addr} {l : List V} (h : H p = some (.lst l)) : noTup H p := ⟨fun xs q => (by rw [h] at q; cases q), fun ob xs q => (by rw [h] at q; cases q)⟩
theorem noTup.ins {H : Hp} {p C d : Addr} {l : List (Str × V)} (h : H p = some (.ins C d l)) : noTup H p := ⟨fun xs q => (by rw [h] at q; cases q), fun ob xs q => (by rw [h] at q; cases q)⟩
theorem noTup.dK {H : Hp} {p : Addr} {l : List (Key × V)} (h : H p = some (.dK l)) : noTup H p := ⟨fun xs q => (by rw [h] at q; cases q), fun ob xs q => (by rw [h] at q; cases q)⟩
theorem Fex.mut {H H' : Hp} {p : Addr} {o : HO} (e : Fex H H') (h : noTup H' p) : Fex H (upd H' p o) := by
  refine ⟨fun b xs hb => ?_, fun b ob xs hb => ?_⟩
  · have z := e.1 b xs hb
    have hn : b ≠ p := fun q => h.1 xs (by rw [← q]; exact z)
    rw [upd_ne hn]; exact z
  · have z := e.2 b ob xs hb
    have hn : b ≠ p := fun q => h.2 ob xs (by rw [← q]; exact z)
    rw [upd_ne hn]; exact z
theorem Ft.fex {H H' : Hp} {t : Addr} {xs : List V} (e : Fex H H') (h : Ft H t xs) : Ft H' t xs := let ⟨ob, h1, h2⟩ := h; ⟨ob, e.2 _ _ _ h1, h2⟩
theorem ThAt.fex {H H' : Hp} {v : V} {k : FK} (e : Fex H H') (h : ThAt H v k) : ThAt H' v k := by
  cases k with
  | names ws => obtain ⟨t, a, b⟩ := h; exact ⟨t, a, b.fex e⟩
  | tree ws => obtain ⟨t, a, b⟩ := h; exact ⟨t, a, b.fex e⟩
  | marks ws => obtain ⟨t, a, b⟩ := h; exact ⟨t, a, b.fex e⟩
  | number n => exact h
  | bits n => exact h
  | clock => exact h
theorem ThAt.tp {H : Hp} {v : V} {k : FK} (h : ThAt H v k) : Tp H v k.things := by
  cases k with
  | names ws => obtain ⟨t, a, b⟩ := h; subst a; exact .tup b.rd TpA.of_strs
  | tree ws => obtain ⟨t, a, b⟩ := h; subst a; exact .tup b.rd TpA.of_strs
  | marks ws => obtain ⟨t, a, b⟩ := h; subst a; exact .tup b.rd TpA.of_strs
  | number n => have q : v = _ := h; subst q; exact .int _
  | bits n => have q : v = _ := h; subst q; exact .int _
  | clock => have q : v = _ := h; subst q; exact .non
def FdAt (H : Hp) (v : V) (f : Fd) : Prop := ∃ (a : Addr) (tv : V), v = .ref a ∧ Rd H a (.tup [.str (S f.name), .str f.k.word, tv]) ∧ ThAt H tv f.k
theorem FdAt.fex {H H' : Hp} {v : V} {f : Fd} (e : Fex H H') (h : FdAt H v f) : FdAt H' v f := let ⟨a, tv, h1, h2, h3⟩ := h; ⟨a, tv, h1, e.tex _ _ h2, h3.fex e⟩
theorem FdAt.mono {H H' : Hp} {v : V} {f : Fd} (e : Ex H H') (h : FdAt H v f) : FdAt H' v f := h.fex (.of e)
theorem FdAt.tp {H : Hp} {v : V} {f : Fd} (h : FdAt H v f) : Tp H v f.d := by
  obtain ⟨a, tv, h1, h2, h3⟩ := h
  subst h1
  exact .tup h2 (.cons (.str _) (.cons (.str _) (.cons h3.tp .nil)))
def spAtom : Sp := fun vs H Q _ => ∃ (a : W) (f : Fd) (fv : V) (l : Addr) (known : List W), vs = [.str (S a), fv, .ref l] ∧ FdAt H fv f ∧ H l = some (.lst (known.map fun p => V.str (S p))) ∧ a.length ≤ 40000 ∧ GiveD (atomM f.k known a) H Q
section
variable {P : Program} {w : World} {K : PySem.W.Frag} {mg : Str → Option Value} {base : Heap}
theorem b_kwU {X : Cx} {e : Expr} {σ : L2.St} {H : Hp} {u c : Str} {j : Nat} {p pos : Pos} (k : Bool) (h : Vl X e σ H (.str u)) (hk : decide (V.str u = V.str c) = k) : Bl X (.Compare e [.Eq] [.Constant (.str c) j p] pos) σ H k := bl_is (bc (c_eq h v_str)) hk
theorem b_kw {X : Cx} {e : Expr} {σ : L2.St} {H : Hp} {u c : Str} {j : Nat} {p pos : Pos} (k : Bool) (u' : Str) (h : Vl X e σ H (.str u)) (hu : u = u' := by rfl) (hk : decide (u' = c) = k := by decide +kernel) : Bl X (.Compare e [.Eq] [.Constant (.str c) j p] pos) σ H k := b_kwU k (hu ▸ h) (by rw [← hk]; by_cases q : u' = c <;> simp [q])
theorem xb_no {X : Cx} {c : Expr} {sa rest : List Stmt} {σ : L2.St} {H : Hp} {D : Ends} {pos : Pos} (hc : Bl X c σ H false) (h : ∀ H1, Ex H H1 → XB X rest D σ H1) : XB X (.If c sa [] pos :: rest) D σ H := xb_when hc (fun q => by cases q) fun _ => h
theorem xb_yes {X : Cx} {c : Expr} {sa sb rest : List Stmt} {σ : L2.St} {H : Hp} {D : Ends} {pos : Pos} (hc : Bl X c σ H true) (h : ∀ H1, Ex H H1 → XB X sa { D with nx := fun σ' H' => XB X rest D σ' H' } σ H1) : XB X (.If c sa sb pos :: rest) D σ H := xb_if hc (fun _ => h) fun q => by cases q
theorem xb_else {X : Cx} {c : Expr} {sa sb rest : List Stmt} {σ : L2.St} {H : Hp} {D : Ends} {pos : Pos} (hc : Bl X c σ H false) (h : ∀ H1, Ex H H1 → XB X sb { D with nx := fun σ' H' => XB X rest D σ' H' } σ H1) : XB X (.If c sa sb pos :: rest) D σ H := xb_if hc (fun q => by cases q) fun _ => h
theorem slT1 {x y z : V} : ¬ (HT.sIx [x, y, z].length 0 (some 1) = 0 ∧ HT.sIx [x, y, z].length [x, y, z].length none = [x, y, z].length) := by
  rintro ⟨h, _⟩
  rw [show ((1 : Int)) = ((1 : Nat) : Int) from rfl, sIx_n] at h
  simp at h
theorem ok_atomIn (T : Tx K mg) : Gd P w K mg base 4 "atom_in" spAtom := by
  have G1 : Gd P w K mg base 3 "path_atom" spPath := ok_pathAtom T
  have G2 : Gd P w K mg base 3 "from_atom" spFrom := ok_fromAtom T
  have G3 : Gd P w K mg base 2 "first_atom" spFirst := ok_firstAtom T
  have G4 : Gd P w K mg base 1 "marks_atom" spMarks := ok_marksAtom T
  have G5 : Gd P w K mg base 3 "clock_atom" spClock := ok_clockAtom T
  refine gd_of T dAtomIn 22 T.g_atom_in scAtomIn (fun _ _ _ _ _ _ us hl => match us, hl with | [_, _, _], _ => rfl) (fun _ _ _ _ ⟨a, f, fv, l, kn, e, _⟩ => by subst e; rfl) fun f cdv A outer s H vs Q E hr ⟨z, fd, fv, l, kn, e, hf, hl, hz, k⟩ => ?_
  subst e
  have nd := scAtomIn.nd
  obtain ⟨fa, tv, rfl, hfa, hth⟩ := hf
  refine xb_un2 3 4 (tu_is (ul_tu (u_slT (vl_tu (v_v 1) (.inl hfa)) (o_s v_int) o_n slT1)) (show cutV _ (some ((1 : Nat) : Int)) none = [.str fd.k.word, tv] by rw [cutV_from]; rfl)) fun H1 e1 => ?_
  have hr3 : Room 2 (Cxd dAtomIn P w K mg base nAtomIn f cdv A outer s H E).A := hr.mono (by decide)
  have hr1 : Room 1 (Cxd dAtomIn P w K mg base nAtomIn f cdv A outer s H E).A := hr.mono (by decide)
  obtain ⟨fn, fk⟩ := fd
  cases fk with
  | names ws =>
    refine xb_yes (b_kw true "names" (v_v 3)) fun H2 e2 => ?_
    refine xb_retD (d := if decide (z ∈ kn) = true then .tuple [.str "name", strD z] else .none) (d_if (k := decide (z ∈ kn)) (bc ((c_inL (v_v 0) (vl_sl (v_v 2) (sq_of (e2 _ _ (e1 _ _ hl)))) rfl (flat_strs kn)).is (inV_strs kn))) (fun h => ?_) fun h => ?_) fun H3 v e3 t => k H3 v ((e1.trans e2).trans e3) t
    · rw [if_pos h]
      exact d_tup (da_cons (d_str v_str) (da_cons (d_str (v_v 0)) da_nil))
    · rw [if_neg (by rw [h]; decide)]
      exact d_non
  | tree ws =>
    obtain ⟨t, rfl, ht⟩ := hth
    refine xb_no (b_kw false "tree" (v_v 3)) fun H2 e2 => xb_yes (b_kw true "tree" (v_v 3)) fun H3 e3 => ?_
    have ee := (e1.trans e2).trans e3
    exact xb_retE (xe_call G1 hr passL ((a_cons (v_v 0) (a_1 (v_v 4))) H3 (Ex.refl _) _ fun H4 e4 => ⟨z, ws, t, rfl, (ht.mono (ee.trans e4)).rd, hz, k.go (ee.trans e4)⟩))
  | number n =>
    have q : tv = _ := hth
    subst q
    refine xb_no (b_kw false "number" (v_v 3)) fun H2 e2 => xb_no (b_kw false "number" (v_v 3)) fun H3 e3 => xb_yes (b_kw true "number" (v_v 3)) fun H4 e4 => ?_
    have ee := ((e1.trans e2).trans e3).trans e4
    exact xb_retE (xe_call G2 hr passL ((a_cons (v_v 0) (a_1 (v_v 4))) H4 (Ex.refl _) _ fun H5 e5 => ⟨z, n, rfl, hz, k.go (ee.trans e5)⟩))
  | bits n =>
    have q : tv = _ := hth
    subst q
    refine xb_no (b_kw false "bits" (v_v 3)) fun H2 e2 => xb_no (b_kw false "bits" (v_v 3)) fun H3 e3 => xb_no (b_kw false "bits" (v_v 3)) fun H4 e4 => xb_yes (b_kw true "bits" (v_v 3)) fun H5 e5 => ?_
    have ee := (((e1.trans e2).trans e3).trans e4).trans e5
    exact xb_retE (xe_call G3 hr3 passL ((a_cons (v_v 0) (a_1 (v_v 4))) H5 (Ex.refl _) _ fun H6 e6 => ⟨z, n, rfl, hz, k.go (ee.trans e6)⟩))
  | marks ws =>
    obtain ⟨t, rfl, ht⟩ := hth
    refine xb_no (b_kw false "marks" (v_v 3)) fun H2 e2 => xb_no (b_kw false "marks" (v_v 3)) fun H3 e3 => xb_no (b_kw false "marks" (v_v 3)) fun H4 e4 => xb_no (b_kw false "marks" (v_v 3)) fun H5 e5 => xb_yes (b_kw true "marks" (v_v 3)) fun H6 e6 => ?_
    have ee := ((((e1.trans e2).trans e3).trans e4).trans e5).trans e6
    exact xb_retE (xe_call G4 hr1 passL ((a_cons (v_v 0) (a_1 (v_v 4))) H6 (Ex.refl _) _ fun H7 e7 => ⟨z, ws, t, rfl, ht.mono (ee.trans e7), hz, k.go (ee.trans e7)⟩))
  | clock =>
    refine xb_no (b_kw false "clock" (v_v 3)) fun H2 e2 => xb_no (b_kw false "clock" (v_v 3)) fun H3 e3 => xb_no (b_kw false "clock" (v_v 3)) fun H4 e4 => xb_no (b_kw false "clock" (v_v 3)) fun H5 e5 => xb_no (b_kw false "clock" (v_v 3)) fun H6 e6 => ?_
    have ee := ((((e1.trans e2).trans e3).trans e4).trans e5).trans e6
    exact xb_retE (xe_call G5 hr passL ((a_1 (v_v 0)) H6 (Ex.refl _) _ fun H7 e7 => ⟨z, rfl, hz, k.go (ee.trans e7)⟩))
end
end Gw

set_option maxRecDepth 100000
set_option maxHeartbeats 4000000
/-! BadText: made, raised. -/
namespace Gw
open PySem PySem.Spec PyProof.Rows L2 Evl SX
abbrev CB0 (K : PySem.W.Frag) : Addr := He.ga K "BadText"
theorem oexB_ok {K : PySem.W.Frag} {C : Addr} (h : oexB K C = true) : ∃ nm q N bs bm sn sub ab col dd k0 k1 k2 k3 k5, K.lookup C = some (excClassObj nm q C N bs bm true sn sub ab col dd k0 k1 k2 k3 k5 "ValueError.__new__") ∧ PySem.HandSPX.refsVE bm = true := by
  unfold oexB at h
  split at h
  · rename_i cd sl e1
    split at h
    · rename_i C' bm a b c d n f e2 e3
      obtain ⟨nm, bs, mro, ns, qn, hd, sn, sb, ab, col, del⟩ := cd
      dsimp only at e2 h
      subst e2
      simp only [Bool.and_eq_true, beq_iff_eq, Bool.not_eq_true'] at h
      obtain ⟨⟨⟨⟨h1, h2⟩, h3⟩, h4⟩, h5⟩ := h
      subst h1 h2 h3 h4
      have e4 : sl = #[a, b, c, d, some (.builtin "ValueError.__new__"), f] := by
        have := congrArg List.toArray e3
        simpa using this
      subst e4
      exact ⟨nm, qn, ns, bs, bm, sn, sb, ab, col, _, a, b, c, d, f, e1, h5⟩
    · cases h
  · cases h
section
variable {P : Program} {w : World} {K : PySem.W.Frag} {mg : Str → Option Value} {base : Heap}
theorem Tx.oex (T : Tx K mg) : OexC K (CB0 K) where
  cls := oexB_ok (T.c.exI 0)
  sa := He.eqO_ok (T.c.exI 1)
  exC := of_decide_eq_true (T.c.exI 2)
  tyC := of_decide_eq_true (T.c.exI 3)
  kC := T.c.exI 4
end
/-- GateError.__init__(self, ..) -/
theorem pe_geinit {X : Cx} {e : Expr} {es : List Expr} {ta : TA} {pos p1 p2 : Pos} {G : Addr} {pl : Sem Bool} (hg : Gl X "GateError") (hm : X.mg "GateError" = some (.ref G)) (hrd : PySem.W.readsIn X.K G (.type "type") = true)
    (hga : PySem.W.specialIn X.K (.ref G) "__getattribute__" = some (some (.builtin "type.__getattribute__"))) (hv : PySem.W.findCls X.K (.ref G) (.type "type") "__init__" = some (.val (.builtin "ValueError.__init__"))) (ha : PA X (e :: es) ta)
    (hc : eval (.Call (.Attribute (.Name "GateError" p1) "__init__" p2) (e :: es) [] pos) X.env = (do
      let ov ← eval (.Name "GateError" p1) X.env
      standAt p2.atName
      let (f, first) ← holding [ov] (getMethod ov "__init__" pl)
      callWith pos f first (backTo pos (starEach (e :: es) X.env)) (backToKw pos (keywordEach [] X.env))) := by rfl)
    (he : starEach (e :: es) X.env = (false, eval e X.env) :: starEach es X.env := by rfl) (hpl : (backTo pos (starEach es X.env)).any (·.1) = false := by rfl) :
    PE X (.Call (.Attribute (.Name "GateError" p1) "__init__" p2) (e :: es) [] pos) (tVeI X.K ta) := by
  refine ⟨fun pins s σ H Q I h => ?_⟩
  refine PySem.W.methodCall_KW (ld_glob I hg hm ?_ (by decide)) hc
  refine PySem.W.method_cls I.kIn hga (PySem.W.cls_value I.kIn hrd hv (by rfl) ?_)
  show wpAny _ _ (callWith pos (Value.builtin "ValueError.__init__") [] (backTo pos (starEach (e :: es) X.env)) []) _ _ _
  refine PyProof.Rows.callWith_method1 (thn (ha.run pos pins _ σ H _ (I.tok _) h) fun us s1 ⟨vs, H1, I1, r1, a, C, ws, ev, hl, T, ea, q⟩ => ?_) he hpl
  subst ev
  cases r1 with
  | @cons _ u0 _ ur ra rw' =>
    obtain rfl : u0 = Value.ref a := ra
    have hlen : ur.length ≤ sizeLine := by
      rw [← Paired.length rw', sizeLine_eq]
      omega
    exact oinit_ok T I1 ea hlen fun s' J => ⟨.non, H1, J, rfl, q⟩
section
variable {P : Program} {w : World} {K : PySem.W.Frag} {mg : Str → Option Value} {base : Heap}
/-- BadText.__init__ -/
def spBadI (K : PySem.W.Frag) : Sp := fun vs H Q _ => ∃ (a : Addr) (n : Int), vs = [.ref a, .int n] ∧ H a = some (exo a (CB0 K) none) ∧ ∀ dx H', Ex H H' → H' dx = none → dx ≠ a → Q .non (upd (upd H' dx (exd dx [("line", .int n)])) a (exo a (CB0 K) (some dx)))
theorem fclB_ok {K : PySem.W.Frag} {C : Addr} {m : Str} {id : String} (h : fclB K C m id = true) : PySem.W.findCls K (.ref C) (.type "type") m = some (.val (.builtin id)) := by
  unfold fclB at h
  split at h
  · rename_i n e
    rw [e, show n = id from by simpa using h]
  · cases h
theorem eqO_ok {α : Type} [BEq α] [LawfulBEq α] {a b : α} (h : (a == b) = true) : a = b := by simpa using h
theorem ok_badInit (T : Tx K mg) : ∃ fd, Binds K fd ["self", "line"] [] ∧ FnOk P w K mg base (L2.CX P w) 1 (He.ma K (CB0 K) "__init__") fd ["self", "line"] (spBadI K) := by
  obtain ⟨fd, F⟩ := T.c.d.def_ 0 rfl
  have F2 : FunD K dBadTextInit.name dBadTextInit.qual dBadTextInit.params dBadTextInit.body dBadTextInit.scope [] [] (He.ma K (CB0 K) "__init__") fd := F
  refine ⟨fd, F2.bindsN (fun _ _ _ _ _ _ us hl => match us, hl with | [_, _], _ => rfl), fnok_of (N := nBadTextInit) F2 scBadTextInit (fun _ _ _ _ ⟨a, n, e, _⟩ => by subst e; rfl) fun f cdv A outer s H vs Q E hr ⟨a, n, e, ha, k⟩ => ?_⟩
  subst e
  have nd := scBadTextInit.nd
  refine xb_expr (xe_of (pe_geinit rfl T.g_GateError (T.c.exI 11) (He.eqO_ok (T.c.exI 12)) (fclB_ok (T.c.exI 13)) pa_xa) ((a_cons (v_v 0) (a_1 v_str)) H (Ex.refl H) _ fun H1 e1 => ⟨a, CB0 K, _, rfl, by simp, T.oex, e1 _ _ ha, ?_⟩))
  refine xb_cons (xs_of (ps_ost pe_xe pe_xe) ((v_v 1) H1 (Ex.refl H1) _ fun H2 e2 => (v_v 0) H2 (Ex.refl H2) _ fun H3 e3 => ⟨a, CB0 K, rfl, T.oex, He.eqO_ok (T.c.exI 7), .inl ⟨e3 _ _ (e2 _ _ (e1 _ _ ha)), fun dx hd hn => ?_⟩⟩))
  exact xb_nil (k dx H3 ((e1.trans e2).trans e3) hd hn)
/-- what is told of a BadText that flies: its class, its line; the heap as it was and more -/
def Bad (K : PySem.W.Frag) (n : Int) (H : Hp) (E : XK) : Prop := ∀ d H', Ex H H' → H' d = some (.xd [("line", .int n)]) → E (.ref (CB0 K)) (some d) H'
theorem Bad.go {n : Int} {H H' : Hp} {E : XK} (h : Bad K n H E) (e : Ex H H') : Bad K n H' E := fun d H2 e2 q => h d H2 (e.trans e2) q
/-- raise BadText(e) -/
theorem xb_bad {X : Cx} {rest : List Stmt} {e : Expr} {p pos cpos : Pos} {σ : L2.St} {H : Hp} {D : Ends} {n : Int} {W : WX} (T : Tx X.K X.mg) (hc : X.calm = true) (tk : Takes X W) (hr : Room 2 X.A) (h : Vl X e σ H (.int n)) (k : Bad X.K n H fun c d H' => W c d σ H') (hg : Gl X "BadText" := by rfl)
    (hs : starEach [e] X.env = (false, eval e X.env) :: starEach [] X.env := by rfl) (hpl : (backTo cpos (starEach [] X.env)).any (·.1) = false := by rfl) :
    XB X (.Raise (some (.Call (.Name "BadText" p) [e] [] cpos)) none pos :: rest) D σ H := by
  obtain ⟨fd, hb, F⟩ := ok_badInit (P := X.prog) (w := X.w) (base := X.base) T
  refine xb_cons (xs_of (ps_raise hc tk (pmk_oex T.oex (He.eqO_ok (T.c.exI 5)) (of_decide_eq_true (T.c.exI 6)) F hr hb .nil passL hg T.g_BadText pa_xa (by decide) hs hpl)) ?_)
  refine (a_1 h hs) H (Ex.refl H) _ fun H1 e1 => ⟨by simp, fun a ha => ⟨a, n, rfl, upd_same, fun dx H' e2 hd hn => ⟨rfl, dx, [("line", .int n)], upd_same, by rw [upd_ne hn, upd_same], ?_, ?_⟩⟩⟩
  · have : upd H1 a (exo a (CB0 X.K) none) dx = none := fresh_back e2 hd
    rw [upd_ne hn] at this
    exact this
  · refine k dx _ ?_ upd_same
    intro b o hb
    have hb1 : H1 b = some o := e1 _ _ hb
    have na : b ≠ a := fun q => by subst q; rw [ha] at hb1; cases hb1
    have h2 : H' b = some o := e2 _ _ (by rw [upd_ne na]; exact hb1)
    have nx : b ≠ dx := fun q => by subst q; rw [hd] at h2; cases h2
    rw [upd_ne nx, del_ne na, upd_ne na, upd_ne nx]
    exact h2
end
end Gw

set_option maxRecDepth 100000
set_option maxHeartbeats 4000000
/-! set(xs) of a list: of texts, how many; of whole numbers, sorted. -/
namespace GwSt
open PySem PySem.Spec PyProof.Rows
section
variable {P : Program} {w : World} {A : Around} {E : Value → Shared → Prop} {s : Shared}
/-- a set just made -/
abbrev so0 (w : World) : Obj := { cls := .type "set", dict := none, data := .set #[] 0 (.fresh 0 0 (!w.params.followText "set-order")) }
/-- what the loop that fills the set comes to -/
def Fills (P : Program) (w : World) (n : Nat) (Pv : Nat → Value → Prop) (Good : Heap → Addr → Prop) : Prop :=
  ∀ {A : Around} {I : Addr} {fp wr : List Addr} {G : Array GenState → Array GenState → Prop} {St : Nat → Shared → Prop} (s : Shared) (B : Addr) (R : Result → Shared → Prop), WalksS P w A.in1 I fp wr G n Pv St → B ∉ fp → St 0 s → s.heap.get? B = some (so0 w) →
    (∀ s', Moved (B :: wr) G s s' → Good s'.heap B → R (.ok (.ret .none)) s') → codeAny (model P w) A (.builtin "set.update.loop" ⟨[.ref B, .ref I], []⟩) R s
set_option maxHeartbeats 6400000 in
theorem set_ofList {l : Addr} {its : Array Value} {Good : Heap → Addr → Prop} {Q : Value → Shared → Prop} (nohd : A.handled = none) (isl : s.heap.IsList l its) (fills : Fills P w its.size (fun i v => its[i]? = some v) Good)
    (k : ∀ (h' : Heap) (tk : Nat), Good h' s.heap.objs.size → (∀ b o, s.heap.get? b = some o → h'.get? b = some o) → Q (.ref s.heap.objs.size) { s with heap := h', toks := tk }) : wpAny (model P w) A (call (.type "set") [.ref l]) Q E s := by
  obtain ⟨c0, tl0, mro0⟩ := PySem.F.called_set.mro
  have made0 := PySem.F.called_set.made; have sub0 := PySem.F.called_set.sub
  refine wpAny_call (codeAny_of_tree ?_); show wpAny _ _ (callAny (.type "set") _) _ _ _
  refine wpAny_pure ⟨Code.quiet_builtin _ (by decide +kernel), codeAny_builtin PySem.F.entry_type_call ?_⟩; rw [Around.under_plain (weight_type_call_type "set" [.ref l] []) rfl]
  have f1 := PySem.F.called_set.notType; have f2 := PySem.F.called_set.canCreate; have f3 := PySem.F.typeCall_set_1 (.ref l)
  repeat (any_goals (first | assumption | wp_step))
  refine codeAny_mono (L2.code_set_led1 (.ref l) (E := E) (Q₁ := fun ob s1 => ob = .ref s.heap.objs.size ∧ s1 = { s with heap := s.heap.push (so0 w) }) ⟨rfl, rfl⟩) fun r s1 hr => ?_
  match r, hr with
  | .error er, hr => exact hr
  | .ok .next, hr => exact hr.elim
  | .ok .brk, hr => exact hr.elim
  | .ok .cont, hr => exact hr.elim
  | .ok (.ret ob), hr =>
    obtain ⟨rfl, rfl⟩ := hr
    have sget : (s.heap.push (so0 w)).get? s.heap.objs.size = some (so0 w) := Heap.get?_push_size _ rfl
    have sty : Shared.TypeIs { s with heap := s.heap.push (so0 w) } (.ref s.heap.objs.size) "set" := ⟨_, sget, rfl⟩
    have f4 := PySem.F.called_set.init.lookup; have f5 := PySem.F.called_set.init.bind (.ref s.heap.objs.size)
    repeat (any_goals (first | assumption | wp_step))
    refine codeAny_mono (codeAny_call_builtin (R := wants (fun r s2 => r = .none ∧ ∃ h' tk, s2 = { s with heap := h', toks := tk } ∧ Good h' s.heap.objs.size ∧ ∀ b o, s.heap.get? b = some o → h'.get? b = some o) E) PySem.F.called_set.init.plain PySem.F.entry_set_init (check_set_init_1 sty ?_)) fun r2 s2 hr2 => ?_
    · obtain ⟨⟨lc, ld, lda, lsl⟩, lget, e1, nl, e2⟩ := isl
      simp only at e1 e2; subst e1; subst e2
      have lget2 : (s.heap.push (so0 w)).get? l = some ({ cls := .type "list", dict := ld, data := .seq its nl, slots := lsl } : Obj) := Heap.get?_push_of_some _ lget
      have g1 := PySem.F.sub_list_set; have g2 := PySem.F.sub_list_frozenset; have g3 : (Value.type "list" == Value.type "dict") = false := by decide
      have isl2 : (s.heap.push (so0 w)).IsList l its := ⟨_, lget2, rfl, nl, rfl⟩
      unfold Builtin.«set.__init__» noKeywords Builtin.Frozenset.updateFrom
      generalize hpy : pyIter = PY
      wp_walk
      subst hpy
      refine wpAny_pyIter_list isl2 ?_; refine wpAny_bind (wpAny_runValue ?_)
      have llt : l < s.heap.objs.size := Heap.lt_size lget
      have nohd3 : A.in1.in1.in1.handled = none := by simp [nohd]
      have ne1 : l ≠ (s.heap.push (so0 w)).objs.size := by rw [Heap.size_push]; exact Nat.ne_of_lt (Nat.lt_succ_of_lt llt)
      have ne2 : s.heap.objs.size ∉ [(s.heap.push (so0 w)).objs.size, l] := by rw [Heap.size_push]; simp only [List.mem_cons, List.not_mem_nil, or_false, not_or]; exact ⟨Nat.ne_of_lt (Nat.lt_succ_self _), Nat.ne_of_gt llt⟩
      refine fills _ _ _ ((Walks.list nohd3 _ l ne1 its).toS) ne2 ⟨⟨_, Heap.get?_push_size _ rfl, rfl, rfl⟩, isl2.push _⟩ (Heap.get?_push_of_some _ sget) fun s' mv good => ?_
      obtain ⟨h', g', d', tk', os'⟩ := s'
      obtain rfl : g' = s.gens := mv.gens
      obtain rfl : d' = s.drawn := mv.drawn
      obtain rfl : os' = s.os := mv.os
      show wpAny _ _ _ _ _ _; refine wpAny_pure ?_; show wpAny _ _ (ret Value.none) _ _ _
      refine wpAny_pure ⟨rfl, h', tk', rfl, good, fun b o e => ?_⟩
      have blt : b < s.heap.objs.size := Heap.lt_size e
      exact mv.heap b o (by rw [Heap.size_push]; simp only [List.mem_cons, List.not_mem_nil, or_false, not_or]; exact ⟨Nat.ne_of_lt blt, Nat.ne_of_lt (Nat.lt_succ_of_lt blt)⟩) (Heap.get?_push_of_some _ (Heap.get?_push_of_some _ e))
    · match r2, hr2 with
      | .error er, hr2 => exact hr2
      | .ok .next, hr2 => exact hr2.elim
      | .ok .brk, hr2 => exact hr2.elim
      | .ok .cont, hr2 => exact hr2.elim
      | .ok (.ret r3), hr2 =>
        obtain ⟨rfl, h', tk, rfl, good, keep⟩ := hr2
        repeat (any_goals (first | assumption | wp_step))
        exact k _ _ good keep
end
end GwSt

set_option maxRecDepth 100000
set_option maxHeartbeats 4000000
namespace GwSt
open PySem PySem.Spec PyProof.Rows
section
variable {α : Type} [BEq α] [LawfulBEq α] [DecidableEq α]
/-- each text once, as first met -/
def stpS (acc : List α) (x : α) : List α := if acc.any (· == x) then acc else acc ++ [x]
def dis (xs : List α) : List α := xs.foldl stpS []
theorem dis_snoc (xs : List α) (x : α) : dis (xs ++ [x]) = stpS (dis xs) x := by unfold dis; rw [List.foldl_append]; rfl
theorem stpS_any (acc : List α) (x k : α) : (stpS acc x).any (· == k) = (acc.any (· == k) || decide (k = x)) := by
  unfold stpS
  split
  · rename_i h
    by_cases e : k = x
    · subst e; rw [h]; rfl
    · rw [decide_eq_false e, Bool.or_false]
  · rw [List.any_append]
    congr 1
    by_cases e : k = x
    · subst e; simp
    · have : (x == k) = false := by simpa using fun q : x = k => e q.symm
      simp [e, this]
theorem stpS_len (acc : List α) (x : α) : (stpS acc x).length = if acc.any (· == x) then acc.length else acc.length + 1 := by unfold stpS; split <;> simp
theorem snoc_of {n : Nat} {xs : List α} (h : xs.length = n + 1) : ∃ ys y, xs = ys ++ [y] ∧ ys.length = n := by
  have hne : xs ≠ [] := by intro q; rw [q] at h; cases h
  exact ⟨_, _, (List.dropLast_concat_getLast hne).symm, by rw [List.length_dropLast]; omega⟩
theorem dis_le : ∀ n (xs : List α), xs.length = n → (dis xs).length ≤ n
  | 0, xs, h => by rw [List.eq_nil_of_length_eq_zero h]; exact Nat.le_refl _
  | n + 1, xs, h => by
    obtain ⟨ys, y, rfl, hl⟩ := snoc_of h
    rw [dis_snoc, stpS_len]
    have := dis_le n ys hl
    split <;> omega
theorem dis_any (k : α) : ∀ n (xs : List α), xs.length = n → (dis xs).any (· == k) = xs.any (· == k)
  | 0, xs, h => by rw [List.eq_nil_of_length_eq_zero h]; rfl
  | n + 1, xs, h => by
    obtain ⟨ys, y, rfl, hl⟩ := snoc_of h
    rw [dis_snoc, stpS_any, dis_any k n ys hl, List.any_append]
    congr 1
    by_cases e : k = y
    · rw [decide_eq_true e, ← e]; simp
    · rw [decide_eq_false e]
      symm
      simpa using fun q : y = k => e q.symm
theorem dis_nodup : ∀ n (xs : List α), xs.length = n → ((dis xs).length = n ↔ xs.Nodup)
  | 0, xs, h => by rw [List.eq_nil_of_length_eq_zero h]; simp [dis]
  | n + 1, xs, h => by
    obtain ⟨ys, y, rfl, hl⟩ := snoc_of h
    have ih := dis_nodup n ys hl
    have le := dis_le n ys hl
    rw [dis_snoc, stpS_len, dis_any y n ys hl, List.nodup_append]
    by_cases hm : y ∈ ys
    · have : (ys.any (· == y)) = true := List.any_eq_true.mpr ⟨_, hm, by simp⟩
      rw [this, if_pos rfl]
      constructor
      · intro q; omega
      · rintro ⟨_, _, q⟩
        exact absurd rfl (q _ hm _ (by simp))
    · have : (ys.any (· == y)) = false := by
        cases z : (ys.any (· == y)) with
        | false => rfl
        | true =>
          obtain ⟨u, hy, e⟩ := List.any_eq_true.mp z
          rw [show u = y from by simpa using e] at hy
          exact absurd hy hm
      rw [this, if_neg (by decide)]
      constructor
      · intro q
        exact ⟨ih.mp (by omega), by simp, fun a ha b hb e => hm (by simp at hb; rw [← hb, ← e]; exact ha)⟩
      · rintro ⟨q, _, _⟩
        rw [ih.mpr q]
theorem dis_mem (k : α) (xs : List α) : k ∈ dis xs ↔ k ∈ xs := by
  have h := dis_any k xs.length xs rfl
  constructor
  · intro m
    have : (dis xs).any (· == k) = true := List.any_eq_true.mpr ⟨k, m, by simp⟩
    rw [h] at this
    obtain ⟨y, hy, e⟩ := List.any_eq_true.mp this
    rw [← show y = k from by simpa using e]; exact hy
  · intro m
    have : xs.any (· == k) = true := List.any_eq_true.mpr ⟨k, m, by simp⟩
    rw [← h] at this
    obtain ⟨y, hy, e⟩ := List.any_eq_true.mp this
    rw [← show y = k from by simpa using e]; exact hy
theorem stpS_nd {acc : List α} {x : α} (h : acc.Nodup) : (stpS acc x).Nodup := by
  unfold stpS
  split
  · exact h
  · rename_i hn
    rw [List.nodup_append]
    refine ⟨h, by simp, fun a ha b hb e => hn (List.any_eq_true.mpr ⟨a, ha, ?_⟩)⟩
    simp at hb
    rw [e, hb]; simp
theorem dis_nd : ∀ n (xs : List α), xs.length = n → (dis xs).Nodup
  | 0, xs, h => by rw [List.eq_nil_of_length_eq_zero h]; simp [dis]
  | n + 1, xs, h => by
    obtain ⟨ys, y, rfl, hl⟩ := snoc_of h
    rw [dis_snoc]
    exact stpS_nd (dis_nd n ys hl)
end
section
variable {P : Program} {w : World}
abbrev GoodS (P : Program) (w : World) (xs : List Str) (h : Heap) (a : Addr) : Prop := h.SetOf (strKind P w) a (fun k => (dis xs).any (· == k)) (dis xs).length
theorem setOf_keep {xs : List Str} {h h' : Heap} {a : Addr} (g : GoodS P w xs h a) (k : ∀ o, h.get? a = some o → h'.get? a = some o) : GoodS P w xs h' a := by
  obtain ⟨o, es, ep, t, e, rest⟩ := g
  exact ⟨o, es, ep, t, k o e, rest⟩
theorem fills_strs {its : Array Value} {xs : List Str} (hi : StrsAre its.toList xs) (hb : xs.length + 1 < scanBound) : Fills P w its.size (fun i v => its[i]? = some v) (GoodS P w xs) := by
  intro A I fp wr G St s B R W hB st0 hget kR
  have nB : B ∉ wr := fun h => hB (W.sub _ h)
  have hsz : xs.length = its.size := by rw [← StrsAre.len_eq hi, Array.length_toList]
  have turn : ∀ (m i : Nat) (s : Shared), its.size - i = m → i ≤ its.size → St i s → GoodS P w (xs.take i) s.heap B → (∀ s', Moved (B :: wr) G s s' → GoodS P w xs s'.heap B → R (.ok (.ret .none)) s') →
      codeAny (model P w) A (.builtin "set.update.loop" ⟨[.ref B, .ref I], []⟩) R s := by
    intro m
    induction m with
    | zero =>
      intro i s hm hle st g kR
      obtain rfl : i = its.size := by omega
      refine codeAny_builtin F.entry_set_update_loop ?_; rw [Around.under_plainId F.plain_set_update_loop _]; show wpAny _ A.in1 (pyNext (.ref I) >>= _) _ _ s
      refine wpAny_bind (W.done s _ _ st fun s' mv => ?_); show wpAny _ A.in1 (ret Value.none) _ _ s'
      rw [List.take_of_length_le (by omega)] at g
      exact wpAny_pure (kR s' (mv.mono fun b hb => List.mem_cons_of_mem _ hb) (setOf_keep g fun o e => mv.heap B o nB e))
    | succ m ih =>
      intro i s hm hle st g kR
      have lt : i < its.size := by omega
      have lx : i < xs.length := by omega
      refine codeAny_builtin F.entry_set_update_loop ?_; rw [Around.under_plainId F.plain_set_update_loop _]; show wpAny _ A.in1 (pyNext (.ref I) >>= _) _ _ s
      refine wpAny_bind (W.item i s _ _ lt st fun v s' hP st' mv => ?_)
      obtain ⟨t, ev⟩ := SS.strs_at hi i v (by rw [Array.getElem?_toList]; exact hP)
      have ex : xs.getD i Str.empty = xs[i] := by rw [List.getD_eq_getElem?_getD, List.getElem?_eq_getElem lx]; rfl
      rw [ex] at ev
      subst ev
      have g' : GoodS P w (xs.take i) s'.heap B := setOf_keep g fun o e => mv.heap B o nB e
      show wpAny _ A.in1 (holding [Value.str xs[i] t] (setAdd B (.str xs[i] t)) >>= _) _ _ s'
      refine wpAny_bind (wpAny_holding ?_); unfold setAdd; refine wpAny_holding (wpAny_bind ((strKind P w).pyHash (k := xs[i]) (strKind_is _ _ _ _) ?_))
      have few := dis_le _ (xs.take i) rfl
      rw [List.length_take] at few
      refine wpAny_setAddHashed_of (knd := strKind P w) (s := { s' with toks := s'.toks + 1 }) (strKind_is _ _ _ _) rfl g' (by omega) fun h' same g2 => ?_
      have tk : xs.take (i + 1) = xs.take i ++ [xs[i]] := by rw [List.take_add_one, List.getElem?_eq_getElem lx]; rfl
      have g3 : GoodS P w (xs.take (i + 1)) h' B := SetOf_congr g2 (fun k => by rw [tk, dis_snoc, stpS_any]) (by rw [tk, dis_snoc, stpS_len])
      refine wpAny_pure ⟨plainId_quiet F.plain_set_update_loop _, ih (i + 1) _ (by omega) lt (W.frame _ s' _ _ st' (Nat.le_succ _) fun b hb o e => ?_) g3 fun s2 mv2 g4 => kR s2 ?_ g4⟩
      · exact (same.2 b fun q => hB (q ▸ hb)).trans e
      · exact Moved.trans W.gtrans ((mv.mono fun b hb => List.mem_cons_of_mem _ hb).then_heap (Nat.le_succ _) fun b o hb e => (same.2 b fun q => hb (by rw [q]; exact List.mem_cons_self)).trans e) mv2
  exact turn _ 0 s rfl (Nat.zero_le _) st0 (SetOf_congr ((setObjOf_fresh (knd := strKind P w) _).setOf hget (by unfold scanBound; omega)) (fun _ => rfl) rfl) kR
/-- of whole numbers -/
abbrev GoodI (w : World) (ns : List Int) (h : Heap) (a : Addr) : Prop := L2.SetR w h a (fun k => decide (k ∈ ns)) (dis ns).length
theorem fills_ints {its : Array Value} {ns : List Int} (hi : IntsAre its.toList ns) (hb : ns.length + 1 < scanBound) : Fills P w its.size (fun i v => its[i]? = some v) (GoodI w ns) := by
  intro A I fp wr G St s B R W hB st0 hget kR
  have nB : B ∉ wr := fun h => hB (W.sub _ h)
  have hsz : its.size = ns.length := by have q := IntsAre.length hi; rw [Array.length_toList] at q; exact q
  have turn : ∀ (m i : Nat) (s : Shared), its.size - i = m → i ≤ its.size → St i s → GoodI w (ns.take i) s.heap B → (∀ s', Moved (B :: wr) G s s' → GoodI w ns s'.heap B → R (.ok (.ret .none)) s') →
      codeAny (model P w) A (.builtin "set.update.loop" ⟨[.ref B, .ref I], []⟩) R s := by
    intro m
    induction m with
    | zero =>
      intro i s hm hle st g kR
      obtain rfl : i = its.size := by omega
      refine codeAny_builtin F.entry_set_update_loop ?_; rw [Around.under_plainId F.plain_set_update_loop _]; show wpAny _ A.in1 (pyNext (.ref I) >>= _) _ _ s
      refine wpAny_bind (W.done s _ _ st fun s' mv => ?_); show wpAny _ A.in1 (ret Value.none) _ _ s'
      rw [List.take_of_length_le (by omega)] at g
      exact wpAny_pure (kR s' (mv.mono fun b hb => List.mem_cons_of_mem _ hb) (g.at fun o e => mv.heap B o nB e))
    | succ m ih =>
      intro i s hm hle st g kR
      have lt : i < its.size := by omega
      have lx : i < ns.length := by omega
      refine codeAny_builtin F.entry_set_update_loop ?_; rw [Around.under_plainId F.plain_set_update_loop _]; show wpAny _ A.in1 (pyNext (.ref I) >>= _) _ _ s
      refine wpAny_bind (W.item i s _ _ lt st fun v s' hP st' mv => ?_)
      obtain ⟨t, ev⟩ := IntsAre.int_at hi i v (by rw [Array.getElem?_toList]; exact hP)
      have ex : ns.getD i 0 = ns[i] := by rw [List.getD_eq_getElem?_getD, List.getElem?_eq_getElem lx]; rfl
      rw [ex] at ev
      subst ev
      have g' : GoodI w (ns.take i) s'.heap B := g.at fun o e => mv.heap B o nB e
      show wpAny _ A.in1 (holding [Value.int ns[i] t] (setAdd B (.int ns[i] t)) >>= _) _ _ s'
      refine wpAny_bind (wpAny_holding ?_); unfold setAdd; refine wpAny_holding (wpAny_bind ((intKind P w).pyHash (k := ns[i]) (intKind_is _ _ _ _) ?_))
      have few := dis_le _ (ns.take i) rfl
      rw [List.length_take] at few
      refine L2.setR_add_hashed (s := { s' with toks := s'.toks + 1 }) g' (by omega) fun h' same g2 => ?_
      have tk : ns.take (i + 1) = ns.take i ++ [ns[i]] := by rw [List.take_add_one, List.getElem?_eq_getElem lx]; rfl
      have g3 : GoodI w (ns.take (i + 1)) h' B := by
        have e1 : (if decide (ns[i] ∈ ns.take i) = true then (dis (ns.take i)).length else (dis (ns.take i)).length + 1) = (dis (ns.take (i + 1))).length := by
          rw [tk, dis_snoc, stpS_len, dis_any _ _ _ rfl]
          by_cases m : ns[i] ∈ ns.take i
          · rw [if_pos (decide_eq_true m), if_pos (List.any_eq_true.mpr ⟨_, m, by simp⟩)]
          · rw [if_neg (by simpa using m), if_neg]
            intro z
            obtain ⟨y, hy, e⟩ := List.any_eq_true.mp z
            rw [show y = ns[i] from by simpa using e] at hy
            exact m hy
        unfold GoodI
        rw [← e1]
        exact g2.congr fun j => by rw [tk, Bool.eq_iff_iff, decide_eq_true_iff, List.mem_append, List.mem_singleton, Bool.or_eq_true, decide_eq_true_iff, decide_eq_true_iff]
      refine wpAny_pure ⟨plainId_quiet F.plain_set_update_loop _, ih (i + 1) _ (by omega) lt (W.frame _ s' _ _ st' (Nat.le_succ _) fun b hb o e => ?_) g3 fun s2 mv2 g4 => kR s2 ?_ g4⟩
      · exact (same.2 b fun q => hB (q ▸ hb)).trans e
      · exact Moved.trans W.gtrans ((mv.mono fun b hb => List.mem_cons_of_mem _ hb).then_heap (Nat.le_succ _) fun b o hb e => (same.2 b fun q => hb (by rw [q]; exact List.mem_cons_self)).trans e) mv2
  exact turn _ 0 s rfl (Nat.zero_le _) st0 (L2.setR_new_at (ns := ns) hget) kR
end
end GwSt

set_option maxRecDepth 100000
set_option maxHeartbeats 4000000
namespace Gw
open PySem PySem.Spec PyProof.Rows L2 Evl SX
/-- how many unlike ones -/
abbrev setLen (ws : List W) : Nat := (GwSt.dis (ws.map S)).length
theorem setLen_nd {ws : List W} : setLen ws = ws.length ↔ ws.Nodup := by
  rw [← List.length_map (f := S), show setLen ws = (GwSt.dis (ws.map S)).length from rfl, GwSt.dis_nodup _ _ rfl]
  unfold List.Nodup
  rw [List.pairwise_map]
  exact ⟨fun h => h.imp fun q e => q (by rw [e]), fun h => h.imp fun q e => q (S_inj e)⟩
theorem setLen_le (ws : List W) : setLen ws ≤ ws.length := by
  have := GwSt.dis_le _ (ws.map S) rfl
  rw [List.length_map] at this
  exact this
theorem strs_vals : ∀ {ys : List Str} {us : List Value}, Vals (ys.map V.str) us → StrsAre us ys
  | [], _, .nil => .nil
  | y :: ys, _, .cons ⟨k, e⟩ t => by subst e; exact .cons y k (strs_vals t)
theorem ints_vals : ∀ {ns : List Int} {us : List Value}, Vals (ns.map V.int) us → IntsAre us ns
  | [], _, .nil => .nil
  | n :: ns, _, .cons ⟨k, e⟩ t => by subst e; exact .cons n k (ints_vals t)
section
variable {X : Cx} {a : Expr} {σ : L2.St} {H : Hp} {p p2 q pos : Pos}
/-- len(set(xs)), texts -/
theorem v_lenSet {ws : List W} (hm : X.mg "len" = none) (hm2 : X.mg "set" = none) (h : Sl X a σ H (ws.map fun w => V.str (S w))) (hz : ws.length ≤ 4090) (hc : X.calm = true := by rfl) (hg : Gl X "len" := by rfl) (hg2 : Gl X "set" := by rfl)
    (na : starEach [a] X.env = (false, eval a X.env) :: starEach [] X.env := by rfl) : Vl X (.Call (.Name "len" p) [.Call (.Name "set" p2) [a] [] q] [] pos) σ H (.int (setLen ws : Nat)) := by
  intro H0 e0 Q kk
  refine ⟨fun pins s I => ?_⟩
  refine Call_ (ld_blt I hg hm boot_len ?_); refine PyProof.Rows.callWith_builtin1 (PyProof.Rows.args_cons ?_ rfl) rfl rfl
  refine Call_ (ld_blt I hg2 hm2 boot_set ?_)
  refine PyProof.Rows.callWith_type1 (PyProof.Rows.args_cons (thn ((h H0 e0 (fun v H2 => ∃ l, v = .ref l ∧ Ex H0 H2 ∧ SqL X.K H2 l ((ws.map S).map V.str)) fun l H2 e2 h2 => ⟨l, rfl, e2, by rw [List.map_map]; exact h2⟩).run pins s I) fun v s1 ⟨x, H1, I1, r1, l, ex, e1, hq⟩ => PyProof.Rows.args_nil ?_) na) na rfl
  subst ex
  obtain rfl : v = Value.ref l := r1
  obtain ⟨its, rr, pl, hz2⟩ := I1.list hq
  have hlen : (ws.map S).length + 1 < scanBound := by rw [List.length_map]; unfold scanBound; omega
  refine GwSt.set_ofList (I1.ok.hd hc) pl.isList (GwSt.fills_strs (by simpa using strs_vals rr) hlen) fun h' tk good keep => PyProof.Rows.args_nil ?_
  obtain ⟨o, es, ep, t, ho, hex, hd, _, _, _, hf, hn⟩ := good
  have I2 : Inv X pins σ H1 { s1 with heap := h', toks := tk } := I1.kept fun b o e => keep b o e
  have le : (GwSt.dis (ws.map S)).length ≤ ws.length := setLen_le ws
  exact call_len_set ho hex hd hf (by rw [hn]; omega) ⟨.int (setLen ws : Nat), H1, I2.tok _, ⟨_, by rw [hn]⟩, kk H1 e1⟩
/-- set(xs) of whole numbers -/
theorem call_setI (hc : X.calm = true) : CallR X (.type "set") (fun xs H Q => ∃ (l : Addr) (ns : List Int), xs = [.ref l] ∧ SqL X.K H l (ns.map V.int) ∧ ns.length ≤ 4090 ∧ ∀ r, H r = none → Q (.ref r) (upd H r (SetO X.w r (fun k => decide (k ∈ ns)) (GwSt.dis ns).length))) := by
  intro pins s σ H xs us Q I r h
  obtain ⟨l, ns, rfl, hq, hz, q⟩ := h
  rw [Vals.ref1 r]
  obtain ⟨its, rr, pl, hz2⟩ := I.list hq
  refine GwSt.set_ofList (I.ok.hd hc) pl.isList (GwSt.fills_ints (by simpa using ints_vals rr) (by unfold scanBound; omega)) fun h' tk good keep => ?_
  have hn : H s.heap.objs.size = none := I.hok.fresh (Nat.le_refl _)
  exact ⟨.ref s.heap.objs.size, _, I.laid (t' := tk) keep (Nat.le_refl _) (setO_new good), rfl, q _ hn⟩
/-- a list of whole numbers that rises -/
def risen (ns : List Int) : List Int := (GwSt.dis ns).mergeSort (fun a b => decide (a ≤ b))
theorem risen_lt (ns : List Int) : (risen ns).Pairwise (· < ·) := by
  have h1 : (risen ns).Pairwise fun a b => decide (a ≤ b) = true := List.pairwise_mergeSort (fun a b c h1 h2 => by simp at *; omega) (fun a b => by simp; omega) _
  have h2 : (risen ns).Nodup := (List.mergeSort_perm _ _).nodup_iff.mpr (GwSt.dis_nd _ ns rfl)
  exact (h1.and h2).imp fun ⟨a, b⟩ => by simp at a; omega
theorem risen_mem (ns : List Int) (k : Int) : k ∈ risen ns ↔ k ∈ ns := by
  unfold risen
  rw [(List.mergeSort_perm _ _).mem_iff, GwSt.dis_mem]
theorem lt_uniq : ∀ {as bs : List Int}, as.Pairwise (· < ·) → bs.Pairwise (· < ·) → (∀ k, k ∈ as ↔ k ∈ bs) → as = bs
  | [], [], _, _, _ => rfl
  | [], b :: bs, _, _, h => by have := (h b).mpr (by simp); cases this
  | a :: as, [], _, _, h => by have := (h a).mp (by simp); cases this
  | a :: as, b :: bs, ha, hb, h => by
    have ha' := List.pairwise_cons.mp ha
    have hb' := List.pairwise_cons.mp hb
    have e : a = b := by
      have h1 := (h a).mp (by simp)
      have h2 := (h b).mpr (by simp)
      rcases List.mem_cons.mp h1 with q | q
      · exact q
      · rcases List.mem_cons.mp h2 with q2 | q2
        · exact q2.symm
        · have := hb'.1 _ q; have := ha'.1 _ q2; omega
    subst e
    congr 1
    refine lt_uniq ha'.2 hb'.2 fun k => ⟨fun m => ?_, fun m => ?_⟩
    · rcases List.mem_cons.mp ((h k).mp (List.mem_cons_of_mem _ m)) with q | q
      · have := ha'.1 _ m; omega
      · exact q
    · rcases List.mem_cons.mp ((h k).mpr (List.mem_cons_of_mem _ m)) with q | q
      · have := hb'.1 _ m; omega
      · exact q
/-- sorted(set(xs)), few unlike ones -/
theorem l_sortedSet {ns : List Int} (hm : X.mg "sorted" = none) (hm2 : X.mg "set" = none) (h : Sl X a σ H (ns.map V.int)) (hz : ns.length ≤ 4090) (few : (GwSt.dis ns).length < 64) (hc : X.calm = true := by rfl) (hg : Gl X "sorted" := by rfl) (hg2 : Gl X "set" := by rfl)
    (na : starEach [a] X.env = (false, eval a X.env) :: starEach [] X.env := by rfl) (nb : starEach [.Call (.Name "set" p2) [a] [] q] X.env = (false, eval (.Call (.Name "set" p2) [a] [] q) X.env) :: starEach [] X.env := by rfl)
    (h1 : (backTo q (starEach [] X.env)).any (·.1) = false := by rfl) (h2 : (backTo pos (starEach [] X.env)).any (·.1) = false := by rfl) :
    Ll X (.Call (.Name "sorted" p) [.Call (.Name "set" p2) [a] [] q] [] pos) σ H ((risen ns).map V.int) := fun H0 e0 Q kk =>
  xe_of (pe_callB (cr_sortedSet hc) hg hm (by decide +kernel) (pa_cons (pe_callTy (call_setI hc) hg2 hm2 (by decide +kernel) (pa_cons pe_xe pa_nil na) (by decide) (by decide) na h1) pa_nil nb) (by decide) (by decide) nb h2)
    (h H0 e0 _ fun l H2 e2 hq => ⟨l, ns, rfl, hq, hz, fun r hr => ⟨r, _, _, rfl, upd_same, few, fun ms z hs hk hl hz => by
      have e : ms = risen ns := lt_uniq hs (risen_lt ns) fun k => (hk k).trans (by rw [risen_mem, decide_eq_true_iff])
      subst e
      have e3 : Ex H2 (upd H2 r (SetO X.w r (fun k => decide (k ∈ ns)) (GwSt.dis ns).length)) := Ex.new hr
      exact kk z _ (fresh_back (e2.trans e3) hz) ((e2.trans e3).trans (Ex.new hz)) upd_same⟩⟩)
end
end Gw

set_option maxRecDepth 100000
set_option maxHeartbeats 4000000
/-! xs == [], xs != []. -/
namespace Gw
open PySem PySem.Spec PyProof.Rows L2 Evl SX
section
variable {X : Cx} {a b : Expr} {σ : L2.St} {H : Hp} {xs : List V}
def rNil (K : PySem.W.Frag) (f : Bool → Bool) : R2 := fun x y H Q => ∃ p q xs, x = .ref p ∧ y = .ref q ∧ SqL K H p xs ∧ SqL K H q [] ∧ Q (.bl (f xs.isEmpty)) H
theorem op_eqNil (hu : X.A.units < cLine) : OpR X (compareOp .Eq) (rNil X.K id) := by
  intro pins s σ H x y v u Q I rx ry h
  obtain ⟨p, q, xs, rfl, rfl, hp, hq, k⟩ := h
  obtain rfl : v = Value.ref p := rx
  obtain rfl : u = Value.ref q := ry
  obtain ⟨its, rv, ⟨⟨c1, d1, da1, s1⟩, n1, o1, e1, z1, f1⟩, _⟩ := I.list hp
  obtain ⟨jts, rw', ⟨⟨c2, d2, da2, s2⟩, n2, o2, e2, z2, f2⟩, _⟩ := I.list hq
  simp only at e1 f1 e2 f2
  subst e1 f1 e2 f2
  cases rw'
  have t1 : s.TypeIs (.ref p) "list" := ⟨_, o1, rfl⟩
  have t2 : s.TypeIs (.ref q) "list" := ⟨_, o2, rfl⟩
  have hl : its.length = xs.length := rv.length.symm
  show wpAny _ _ (richCompare .Eq (.ref p) (.ref q)) _ _ _
  cases xs with
  | nil =>
    cases rv
    refine wpAny_richCompare_same_room (op := .Eq) t1 t2 PySem.F.slot_list_eq (call_meets PySem.F.slot_list_eq t1 PySem.F.entry_list_eq (PySem.F.args_list_eq_2 _ _) (SeqAt.list_eqAt p q #[] #[] n1 n2 d1 d2 s1 s2 rfl fun _ => true) ⟨o1, o2, fun j h1 _ => absurd h1 (by simp), ?_⟩) hu
    exact ⟨(fun x => nomatch x), ⟨.bl true, H, I, rfl, k⟩⟩
  | cons z zs =>
    refine wpAny_richCompare_same_room (op := .Eq) t1 t2 PySem.F.slot_list_eq (call_meets PySem.F.slot_list_eq t1 PySem.F.entry_list_eq (PySem.F.args_list_eq_2 _ _) (SeqAt.list_eq_lengthsAt p q its.toArray #[] n1 n2 d1 d2 s1 s2 (by simp [hl])) ⟨o1, o2, ?_⟩) hu
    exact ⟨(fun x => nomatch x), ⟨.bl false, H, I, rfl, k⟩⟩
theorem op_neNil (hu : X.A.units < cLine) : OpR X (compareOp .NotEq) (rNil X.K (!·)) := by
  intro pins s σ H x y v u Q I rx ry h
  obtain ⟨p, q, xs, rfl, rfl, hp, hq, k⟩ := h
  obtain rfl : v = Value.ref p := rx
  obtain rfl : u = Value.ref q := ry
  obtain ⟨its, rv, ⟨⟨c1, d1, da1, s1⟩, n1, o1, e1, z1, f1⟩, _⟩ := I.list hp
  obtain ⟨jts, rw', ⟨⟨c2, d2, da2, s2⟩, n2, o2, e2, z2, f2⟩, _⟩ := I.list hq
  simp only at e1 f1 e2 f2
  subst e1 f1 e2 f2
  cases rw'
  have t1 : s.TypeIs (.ref p) "list" := ⟨_, o1, rfl⟩
  have t2 : s.TypeIs (.ref q) "list" := ⟨_, o2, rfl⟩
  have hl : its.length = xs.length := rv.length.symm
  show wpAny _ _ (richCompare .NotEq (.ref p) (.ref q)) _ _ _
  cases xs with
  | nil =>
    cases rv
    refine wpAny_richCompare_same_room (op := .NotEq) t1 t2 PySem.F.slot_list_ne (call_meets PySem.F.slot_list_ne t1 PySem.F.entry_list_ne (PySem.F.args_list_ne_2 _ _) (SeqAt.list_neAt p q #[] #[] n1 n2 d1 d2 s1 s2 rfl fun _ => true) ⟨o1, o2, fun j h1 _ => absurd h1 (by simp), ?_⟩) hu
    exact ⟨(fun x => nomatch x), ⟨.bl false, H, I, rfl, k⟩⟩
  | cons z zs =>
    refine wpAny_richCompare_same_room (op := .NotEq) t1 t2 PySem.F.slot_list_ne (call_meets PySem.F.slot_list_ne t1 PySem.F.entry_list_ne (PySem.F.args_list_ne_2 _ _) (SeqAt.list_ne_lengthsAt p q its.toArray #[] n1 n2 d1 d2 s1 s2 (by simp [hl])) ⟨o1, o2, ?_⟩) hu
    exact ⟨(fun x => nomatch x), ⟨.bl true, H, I, rfl, k⟩⟩
theorem room_units {k : Nat} {A : Around} (hr : Room k A) : A.units < cLine := by have := hu_of hr; omega
theorem c_eqNil {k : Nat} {p : Pos} (hr : Room k X.A) (ha : Sl X a σ H xs) : Cm X .Eq a (.List [] p) σ H xs.isEmpty := cm_of (op_eqNil (room_units hr)) (nobehind _ (by decide) (by decide))
  fun H1 e1 Q q => ha H1 e1 _ fun r H2 e2 h2 => (l_lst a_nil) H2 (e1.trans e2) _ fun t H3 _ e3 h3 => ⟨r, t, xs, rfl, rfl, ex_l e3 h2, sq_of h3, q H3 (e2.trans e3)⟩
theorem c_neNil {k : Nat} {p : Pos} (hr : Room k X.A) (ha : Sl X a σ H xs) : Cm X .NotEq a (.List [] p) σ H (!xs.isEmpty) := cm_of (op_neNil (room_units hr)) (nobehind _ (by decide) (by decide))
  fun H1 e1 Q q => ha H1 e1 _ fun r H2 e2 h2 => (l_lst a_nil) H2 (e1.trans e2) _ fun t H3 _ e3 h3 => ⟨r, t, xs, rfl, rfl, ex_l e3 h2, sq_of h3, q H3 (e2.trans e3)⟩
end
end Gw

set_option maxRecDepth 100000
set_option maxHeartbeats 4000000
/-! The Reader: need; what it holds. -/
namespace Gw
open PySem PySem.Spec PyProof.Rows L2 Evl SX
abbrev CR (K : PySem.W.Frag) : Addr := He.ga K "Reader"
theorem tk_cx {P : Program} {w : World} {K : PySem.W.Frag} {mg : Str → Option Value} {base : Heap} {N : List Str} {d : He.DefD} {f : Addr} {cdv : Value} {A : Around} {outer : List Env} {s : Shared} {H : Hp} {E : XK} : Takes (Cxd d P w K mg base N f cdv A outer s H E) (fun c d _ H => E c d H) := takes_of rfl rfl rfl rfl
def spNeed (K : PySem.W.Frag) : Sp := fun vs H Q E => ∃ (ad dx : Addr) (fs : List (Str × V)) (b : Bool) (n : Int), vs = [.ref ad, .bl b] ∧ H ad = some (.ins (CR K) dx fs) ∧ fs.lookup ("row" : Str) = some (.int n) ∧ (b = true → ∀ H', Ex H H' → Q .non H') ∧ (b = false → Bad K n H E)
section
variable {P : Program} {w : World} {K : PySem.W.Frag} {mg : Str → Option Value} {base : Heap}
theorem ok_need (T : Tx K mg) : Me P w K mg base 3 (CR K) "need" (spNeed K) := by
  refine me_of T dReaderNeed 24 T.m_Reader_need scReaderNeed (fun _ _ _ _ _ _ us hl => match us, hl with | [_, _], _ => rfl) (fun _ _ _ _ ⟨_, _, _, _, _, e, _⟩ => by subst e; rfl) fun f cdv A outer s H vs Q E hr ⟨ad, dx, fs, b, n, e, ha, hl, k1, k2⟩ => ?_
  subst e
  have nd := scReaderNeed.nd
  refine xb_when (k := !b) (b_not (b_v (v_v 1))) (fun hk H1 e1 => ?_) fun hk H1 e1 => ?_
  · exact xb_bad T rfl tk_cx hr (v_fld T.cb_Reader (v_v 0) (e1 _ _ ha) hl) ((k2 (by simpa using hk)).go e1)
  · exact xb_nil (k1 (by simpa using hk) H1 e1)
end
/-- self.need(e) -/
theorem xb_need {X : Cx} {o e : Expr} {rest : List Stmt} {σ : L2.St} {H : Hp} {D : Ends} {apos cpos pos : Pos} {ad dx : Addr} {fs : List (Str × V)} {E : XK} {n : Int} (b : Bool) (T : Tx X.K X.mg) (hr : Room 3 X.A) (hx : Ps X E) (ho : Vl X o σ H (.ref ad)) (ha : H ad = some (.ins (CR X.K) dx fs)) (h : Vl X e σ H (.bl b))
    (k1 : b = true → ∀ H1, Ex H H1 → XB X rest D σ H1) (k2 : b = false → Bad X.K n H E) {pl : Sem Bool}
    (hl : fs.lookup ("need" : Str) = none := by rfl) (hrow : fs.lookup ("row" : Str) = some (.int n) := by rfl)
    (hs : starEach [e] X.env = (false, eval e X.env) :: starEach [] X.env := by rfl) (hpl : (backTo cpos (starEach [] X.env)).any (·.1) = false := by rfl)
    (ht : eval (.Call (.Attribute o "need" apos) [e] [] cpos) X.env = (do
      let ov ← eval o X.env
      standAt apos.atName
      let (f, first) ← holding [ov] (getMethod ov "need" pl)
      callWith cpos f first (backTo cpos (starEach [e] X.env)) (backToKw cpos (keywordEach [] X.env))) := by rfl) (hsw : swapsWith (.Call (.Attribute o "need" apos) [e] [] cpos) none pos.line X.env = pure false := by rfl) :
    XB X (.Expr (.Call (.Attribute o "need" apos) [e] [] cpos) pos :: rest) D σ H :=
  xb_expr (xe_meth T.cb_Reader (ok_need T) hr hx ho ha hl (fun H1 e1 => (a_1 (h.mono e1) hs) H1 (Ex.refl H1) _ fun H2 e2 => ⟨ad, dx, fs, b, n, rfl, (e1.trans e2) _ _ ha, hrow, fun q H3 e3 => k1 q H3 ((e1.trans e2).trans e3), fun q => (k2 q).go (e1.trans e2)⟩) hs hpl ht) hsw
/-! ### what is read so far, over the heap -/
def GtAt (tup : Bool) (H : Hp) (p : Addr × Addr) (g : Gt) : Prop :=
  (if tup then Rd H p.1 (.tup [.str (S g.name), .str (S g.order), .ref p.2]) else H p.1 = some (.lst [.str (S g.name), .str (S g.order), .ref p.2])) ∧ ∃ rs, H p.2 = some (.lst rs) ∧ TpA H rs (g.rules.map Rl.d)
/-- fields, groups, gates in three lists; what changes is new against H0 -/
structure StAt (tup : Bool) (H0 : Hp) (g c d : Addr) (ps : List (Addr × Addr)) (st : Ho) (H : Hp) : Prop where
  ex : Ex H0 H
  new : ∀ a ∈ g :: c :: d :: ps.map (·.2), H0 a = none
  nd : (g :: c :: d :: ps.map (·.2)).Nodup
  sep : tup = false → ∀ p ∈ ps, p.1 ∉ g :: c :: d :: ps.map (·.2)
  gs : ∃ gs, H g = some (.lst gs) ∧ Paired (FdAt H) gs st.fields
  cs : ∃ cs, H c = some (.lst cs) ∧ TpA H cs (st.groups.map Gp.d)
  ds : H d = some (.lst (ps.map fun p => .ref p.1))
  gts : Paired (GtAt tup H) ps st.gates
theorem paired_mono {α β : Type} {R R' : α → β → Prop} (h : ∀ a b, R a b → R' a b) {as : List α} {bs : List β} (p : Paired R as bs) : Paired R' as bs := Paired.mono h p
theorem GtAt.mono {tup : Bool} {H H' : Hp} {p : Addr × Addr} {g : Gt} (e : Ex H H') (h : GtAt tup H p g) : GtAt tup H' p g := by
  obtain ⟨h1, rs, h2, h3⟩ := h
  refine ⟨?_, rs, e _ _ h2, h3.mono e⟩
  cases tup with
  | true => rw [if_pos rfl] at h1 ⊢; exact ex_rd e h1
  | false => rw [if_neg (by decide)] at h1 ⊢; exact e _ _ h1
/-- a change elsewhere -/
theorem GtAt.upd {tup : Bool} {H : Hp} {p : Addr × Addr} {g : Gt} {a : Addr} {xs : List V} {o : HO} (h : GtAt tup H p g) (ha : H a = some (.lst xs)) (n2 : p.2 ≠ a) (n1 : tup = false → p.1 ≠ a) : GtAt tup (upd H a o) p g := by
  obtain ⟨h1, rs, h2, h3⟩ := h
  have tx : Tex H (L2.upd H a o) := ((Fex.refl H).mut (noTup.lst ha)).tex
  refine ⟨?_, rs, by rw [upd_ne n2]; exact h2, h3.tex tx⟩
  cases tup with
  | true => rw [if_pos rfl] at h1 ⊢; exact tx _ _ h1
  | false => rw [if_neg (by decide)] at h1 ⊢; rw [upd_ne (n1 rfl)]; exact h1
theorem StAt.mono {tup : Bool} {H0 H H' : Hp} {g c d : Addr} {ps : List (Addr × Addr)} {st : Ho} (e : Ex H H') (h : StAt tup H0 g c d ps st H) : StAt tup H0 g c d ps st H' where
  ex := h.ex.trans e
  new := h.new
  nd := h.nd
  sep := h.sep
  gs := let ⟨gs, a, b⟩ := h.gs; ⟨gs, e _ _ a, Paired.mono (fun _ _ q => q.mono e) b⟩
  cs := let ⟨cs, a, b⟩ := h.cs; ⟨cs, e _ _ a, b.mono e⟩
  ds := e _ _ h.ds
  gts := Paired.mono (fun _ _ q => q.mono e) h.gts
theorem paired_snoc {α β : Type} {R : α → β → Prop} {as : List α} {bs : List β} {a : α} {b : β} (p : Paired R as bs) (h : R a b) : Paired R (as ++ [a]) (bs ++ [b]) := Paired.snoc p h
theorem paired_imp {α β : Type} {R R' : α → β → Prop} : ∀ {as : List α} {bs : List β}, Paired R as bs → (∀ a ∈ as, ∀ b, R a b → R' a b) → Paired R' as bs
  | _, _, .nil, _ => .nil
  | _, _, .cons h t, k => .cons (k _ (by simp) _ h) (paired_imp t fun a m => k a (List.mem_cons_of_mem _ m))
/-- a field more -/
theorem StAt.field {tup : Bool} {H0 H : Hp} {g c d : Addr} {ps : List (Addr × Addr)} {st : Ho} {gs : List V} {v : V} {f : Fd} (h : StAt tup H0 g c d ps st H) (hg : H g = some (.lst gs)) (hf : FdAt H v f) : StAt tup H0 g c d ps { st with fields := st.fields ++ [f] } (upd H g (.lst (gs ++ [v]))) := by
  have fx : Fex H (upd H g (.lst (gs ++ [v]))) := (Fex.refl H).mut (noTup.lst hg)
  obtain ⟨gs', a1, a2⟩ := h.gs
  rw [hg] at a1
  cases a1
  have nd := h.nd
  simp only [List.nodup_cons, List.mem_cons, not_or] at nd
  obtain ⟨⟨n1, n2, n3⟩, -⟩ := nd
  refine ⟨h.ex.mut (h.new g (by simp)), h.new, h.nd, h.sep, ⟨_, upd_same, paired_snoc (Paired.mono (fun _ _ q => q.fex fx) a2) (hf.fex fx)⟩, ?_, ?_, paired_imp h.gts fun p hp b q => q.upd hg (fun z => n3 (by rw [← z]; exact List.mem_map_of_mem hp)) fun t z => h.sep t p hp (by rw [z]; simp)⟩
  · obtain ⟨cs, b1, b2⟩ := h.cs
    exact ⟨cs, by rw [upd_ne (Ne.symm n1)]; exact b1, b2.tex fx.tex⟩
  · rw [upd_ne (Ne.symm n2)]; exact h.ds
/-- a group more -/
theorem StAt.group {tup : Bool} {H0 H : Hp} {g c d : Addr} {ps : List (Addr × Addr)} {st : Ho} {cs : List V} {v : V} {f : Gp} (h : StAt tup H0 g c d ps st H) (hc : H c = some (.lst cs)) (hf : Tp H v f.d) : StAt tup H0 g c d ps { st with groups := st.groups ++ [f] } (upd H c (.lst (cs ++ [v]))) := by
  have fx : Fex H (upd H c (.lst (cs ++ [v]))) := (Fex.refl H).mut (noTup.lst hc)
  obtain ⟨cs', a1, a2⟩ := h.cs
  rw [hc] at a1
  cases a1
  have nd := h.nd
  simp only [List.nodup_cons, List.mem_cons, not_or] at nd
  obtain ⟨⟨n1, n2, n3⟩, ⟨n4, n5⟩, -⟩ := nd
  refine ⟨h.ex.mut (h.new c (by simp)), h.new, h.nd, h.sep, ?_, ⟨_, upd_same, by rw [List.map_append]; exact (a2.tex fx.tex).snoc (hf.tex fx.tex)⟩, ?_, paired_imp h.gts fun p hp b q => q.upd hc (fun z => n5 (by rw [← z]; exact List.mem_map_of_mem hp)) fun t z => h.sep t p hp (by rw [z]; simp)⟩
  · obtain ⟨gs, b1, b2⟩ := h.gs
    exact ⟨gs, by rw [upd_ne n1]; exact b1, Paired.mono (fun _ _ q => q.fex fx) b2⟩
  · rw [upd_ne (Ne.symm n4)]; exact h.ds
/-- a gate more -/
theorem StAt.gate {tup : Bool} {H0 H : Hp} {g c d : Addr} {ps : List (Addr × Addr)} {st : Ho} {p : Addr × Addr} {f : Gt} (h : StAt tup H0 g c d ps st H) (hf : GtAt tup H p f) (hn : H0 p.2 = none) (hm : p.2 ∉ g :: c :: d :: ps.map (·.2)) (hs : tup = false → p.1 ∉ g :: c :: d :: (ps ++ [p]).map (·.2)) (hs2 : tup = false → ∀ q ∈ ps, q.1 ≠ p.2) :
    StAt tup H0 g c d (ps ++ [p]) { st with gates := st.gates ++ [f] } (upd H d (.lst ((ps.map fun p => V.ref p.1) ++ [.ref p.1]))) := by
  have fx : Fex H (upd H d (.lst ((ps.map fun p => V.ref p.1) ++ [.ref p.1]))) := (Fex.refl H).mut (noTup.lst h.ds)
  have nd := h.nd
  simp only [List.nodup_cons, List.mem_cons, not_or] at nd
  obtain ⟨⟨n1, n2, n3⟩, ⟨n4, n5⟩, n6, n7⟩ := nd
  have hm' := hm
  simp only [List.mem_cons, not_or] at hm'
  obtain ⟨m1, m2, m3, m4⟩ := hm'
  refine ⟨h.ex.mut (h.new d (by simp)), fun a ha => ?_, ?_, fun t q hq => ?_, ?_, ?_, by rw [upd_same, List.map_append]; rfl, paired_snoc (paired_imp h.gts fun q hq b r => r.upd h.ds (fun z => n6 (by rw [← z]; exact List.mem_map_of_mem hq)) fun t z => h.sep t q hq (by rw [z]; simp)) (hf.upd h.ds m3 fun t z => hs t (by rw [z]; simp))⟩
  · rw [List.map_append] at ha
    simp only [List.mem_cons, List.mem_append, List.map_cons, List.map_nil, List.not_mem_nil, or_false] at ha
    rcases ha with q | q | q | q | q
    · exact h.new a (by simp [q])
    · exact h.new a (by simp [q])
    · exact h.new a (by simp [q])
    · exact h.new a (by simp [q])
    · rw [q]; exact hn
  · have e : g :: c :: d :: (ps ++ [p]).map (·.2) = (g :: c :: d :: ps.map (·.2)) ++ [p.2] := by simp
    rw [e, List.nodup_append]
    exact ⟨h.nd, by simp, fun a ha b hb z => hm (by simp at hb; rw [← hb, ← z]; exact ha)⟩
  · rcases List.mem_append.mp hq with q1 | q1
    · have z := h.sep t q q1
      have z2 := hs2 t q q1
      simp only [List.mem_cons, not_or, List.map_append, List.mem_append, List.map_cons, List.map_nil, List.not_mem_nil, or_false] at z ⊢
      exact ⟨z.1, z.2.1, z.2.2.1, z.2.2.2, z2⟩
    · simp only [List.mem_cons, List.not_mem_nil, or_false] at q1
      rw [q1]; exact hs t
  · obtain ⟨gs, b1, b2⟩ := h.gs
    exact ⟨gs, by rw [upd_ne n2]; exact b1, Paired.mono (fun _ _ q => q.fex fx) b2⟩
  · obtain ⟨cs, b1, b2⟩ := h.cs
    exact ⟨cs, by rw [upd_ne n4]; exact b1, b2.tex fx.tex⟩
end Gw

set_option maxRecDepth 100000
set_option maxHeartbeats 4000000
namespace Gw
open PySem PySem.Spec PyProof.Rows L2 Evl SX
theorem nodup_snd_ne {ps : List (Addr × Addr)} {p : Addr × Addr} {g c d : Addr} (h : (g :: c :: d :: (ps ++ [p]).map (·.2)).Nodup) : g ≠ p.2 ∧ c ≠ p.2 ∧ d ≠ p.2 ∧ ∀ q ∈ ps, q.2 ≠ p.2 := by
  have e : g :: c :: d :: (ps ++ [p]).map (·.2) = (g :: c :: d :: ps.map (·.2)) ++ [p.2] := by simp
  rw [e, List.nodup_append] at h
  obtain ⟨_, _, h⟩ := h
  exact ⟨h g (by simp) _ (by simp), h c (by simp) _ (by simp), h d (by simp) _ (by simp), fun q hq => h q.2 (by simp; exact Or.inr (Or.inr (Or.inr ⟨q.1, hq⟩))) _ (by simp)⟩
theorem paired_last {α β : Type} {R : α → β → Prop} : ∀ {as : List α} {bs : List β} {a : α} {b : β}, Paired R (as ++ [a]) (bs ++ [b]) → Paired R as bs ∧ R a b
  | [], [], _, _, .cons h .nil => ⟨.nil, h⟩
  | [], b' :: bs, a, b, .cons h t => by
    have := Paired.length t
    simp at this
  | a' :: as, [], a, b, .cons h t => by
    have := Paired.length t
    simp at this
  | a' :: as, b' :: bs, a, b, .cons h t => by
    obtain ⟨x, y⟩ := paired_last t
    exact ⟨.cons h x, y⟩
/-- a rule more, of the last gate -/
theorem StAt.rule {tup : Bool} {H0 H : Hp} {g c d : Addr} {ps : List (Addr × Addr)} {p : Addr × Addr} {st : Ho} {gts : List Gt} {gt : Gt} {rs : List V} {v : V} {r : Rl} (h : StAt tup H0 g c d (ps ++ [p]) st H) (eg : st.gates = gts ++ [gt]) (hrs : H p.2 = some (.lst rs)) (hf : Tp H v r.d) :
    StAt tup H0 g c d (ps ++ [p]) { st with gates := gts ++ [{ gt with rules := gt.rules ++ [r] }] } (upd H p.2 (.lst (rs ++ [v]))) := by
  have fx : Fex H (upd H p.2 (.lst (rs ++ [v]))) := (Fex.refl H).mut (noTup.lst hrs)
  obtain ⟨n1, n2, n3, n4⟩ := nodup_snd_ne h.nd
  have pm : p ∈ ps ++ [p] := by simp
  have h7 := h.gts
  rw [eg] at h7
  obtain ⟨h8, h9⟩ := paired_last h7
  refine ⟨h.ex.mut (h.new p.2 (by simp)), h.new, h.nd, h.sep, ?_, ?_, by rw [upd_ne n3]; exact h.ds, paired_snoc (paired_imp h8 fun q hq b z => z.upd hrs (n4 q hq) fun t y => h.sep t q (by simp [hq]) (by rw [y]; simp)) ?_⟩
  · obtain ⟨gs, b1, b2⟩ := h.gs
    exact ⟨gs, by rw [upd_ne n1]; exact b1, Paired.mono (fun _ _ q => q.fex fx) b2⟩
  · obtain ⟨cs, b1, b2⟩ := h.cs
    exact ⟨cs, by rw [upd_ne n2]; exact b1, b2.tex fx.tex⟩
  · obtain ⟨k1, rs', k2, k3⟩ := h9
    rw [hrs] at k2
    cases k2
    refine ⟨?_, _, upd_same, by rw [List.map_append]; exact (k3.tex fx.tex).snoc (hf.tex fx.tex)⟩
    cases tup with
    | true => rw [if_pos rfl] at k1 ⊢; exact fx.tex _ _ k1
    | false =>
      rw [if_neg (by decide)] at k1 ⊢
      rw [upd_ne fun y => h.sep rfl p pm (by rw [y]; simp)]
      exact k1
/-- bounds of what is read -/
def FkOk : FK → Prop
  | .names ws => ws.length ≤ 9 ∧ ∀ a ∈ ws, isNameM a = true
  | .tree ws => ws.length ≤ 9 ∧ ∀ a ∈ ws, isPathM a = true
  | .marks ws => ws.length ≤ 5 ∧ ∀ a ∈ ws, isNameM a = true
  | .number n => n ≤ 10 ^ 12
  | .bits n => 1 ≤ n ∧ n ≤ 32
  | .clock => True
structure HoOk (st : Ho) : Prop where
  f4 : st.fields.length ≤ 4
  f : ∀ f ∈ st.fields, isNameM f.name = true ∧ FkOk f.k
  g9 : st.groups.length ≤ 9
  g : ∀ g ∈ st.groups, isNameM g.name = true ∧ g.members.length ≤ 9
  t5 : st.gates.length ≤ 5
  t : ∀ g ∈ st.gates, g.rules.length ≤ 8
theorem FkOk.few {k : FK} (h : FkOk k) : k.ws.length ≤ 9 := by
  cases k with
  | names ws => exact h.1
  | tree ws => exact h.1
  | marks ws => exact Nat.le_trans h.1 (by decide)
  | number n => exact Nat.zero_le _
  | bits n => exact Nat.zero_le _
  | clock => exact Nat.zero_le _
abbrev rdF (g c d am : Addr) (row : Int) : List (Str × V) := [("grounds", .ref g), ("crews", .ref c), ("doors", .ref d), ("aimed", .ref am), ("is_alone", .bl false), ("limit", .int 5), ("row", .int row)]
structure RdAt (K : PySem.W.Frag) (H0 : Hp) (ad dx g c d am : Addr) (row : Int) (ps : List (Addr × Addr)) (st : Ho) (H : Hp) : Prop where
  ins : H ad = some (.ins (CR K) dx (rdF g c d am row))
  sta : StAt false H0 g c d ps st H
  amz : H am = some (.lst [])
  amn : am ∉ g :: c :: d :: ps.map (·.2)
  adn : H0 ad = none
  ok : HoOk st
theorem RdAt.mono {K : PySem.W.Frag} {H0 H H' : Hp} {ad dx g c d am : Addr} {row : Int} {ps : List (Addr × Addr)} {st : Ho} (e : Ex H H') (h : RdAt K H0 ad dx g c d am row ps st H) : RdAt K H0 ad dx g c d am row ps st H' :=
  ⟨e _ _ h.ins, h.sta.mono e, e _ _ h.amz, h.amn, h.adn, h.ok⟩
/-- data with what it is, one by one -/
theorem TpA.zip {α : Type} {H : Hp} {f : α → PyData} : ∀ {vs : List V} {xs : List α}, TpA H vs (xs.map f) → ∃ zs : List (V × α), vs = zs.map (·.1) ∧ xs = zs.map (·.2) ∧ ∀ z ∈ zs, Tp H z.1 (f z.2)
  | _, [], .nil => ⟨[], rfl, rfl, fun _ h => by cases h⟩
  | _, x :: xs, .cons h t => by
    obtain ⟨zs, a, b, c⟩ := TpA.zip t
    exact ⟨(_, x) :: zs, by rw [a]; rfl, by rw [b]; rfl, fun z hz => by
      rcases List.mem_cons.mp hz with q | q
      · subst q; exact h
      · exact c z q⟩
theorem paired_zip {α β : Type} {R : α → β → Prop} : ∀ {vs : List α} {xs : List β}, Paired R vs xs → ∃ zs : List (α × β), vs = zs.map (·.1) ∧ xs = zs.map (·.2) ∧ ∀ z ∈ zs, R z.1 z.2
  | _, _, .nil => ⟨[], rfl, rfl, fun _ h => by cases h⟩
  | v :: vs, x :: xs, .cons h t => by
    obtain ⟨zs, a, b, c⟩ := paired_zip t
    exact ⟨(v, x) :: zs, by rw [a]; rfl, by rw [b]; rfl, fun z hz => by
      rcases List.mem_cons.mp hz with q | q
      · subst q; exact h
      · exact c z q⟩
theorem Tp.gp {H : Hp} {v : V} {g : Gp} (h : Tp H v g.d) : ∃ a m, v = .ref a ∧ Rd H a (.tup [.str (S g.field), .str (S g.name), m]) ∧ Tp H m (strsD g.members) := by
  obtain ⟨f, n, ms⟩ := g
  cases h with
  | tup h1 h2 =>
    cases h2 with
    | cons p1 h2 =>
      cases h2 with
      | cons p2 h2 =>
        cases h2 with
        | cons p3 h2 =>
          cases h2
          cases p1
          cases p2
          exact ⟨_, _, rfl, h1, p3⟩
theorem strs_map {ws : List W} : ws.map (fun a => V.str (S a)) = (ws.map S).map V.str := by rw [List.map_map]; rfl
theorem dec_str {a b : W} : decide (V.str (S a) = V.str (S b)) = (a == b) := by
  by_cases h : a = b
  · subst h; simp
  · rw [decide_eq_false fun q => h (by injection q with q; exact S_inj q)]; symm; simpa using h
def RetS (ws : List W) (H : Hp) (Q : VK) : Prop := RetL (ws.map fun a => V.str (S a)) H Q
def spWordsFor (K : PySem.W.Frag) : Sp := fun vs H Q _ => ∃ (H0 : Hp) (ad dx g c d am : Addr) (row : Int) (ps : List (Addr × Addr)) (st : Ho) (f : Fd) (fv : V) (ns : List W), vs = [.ref ad, fv] ∧ RdAt K H0 ad dx g c d am row ps st H ∧ FdAt H fv f ∧ f.k = .names ns ∧ ns.length ≤ 9 ∧ RetS (knownM st f) H Q
section
variable {P : Program} {w : World} {K : PySem.W.Frag} {mg : Str → Option Value} {base : Heap}
theorem ok_wordsFor (T : Tx K mg) : Me P w K mg base 1 (CR K) "words_for" (spWordsFor K) := by
  refine me_of T dReaderWordsFor 25 T.m_Reader_words_for scReaderWordsFor (fun _ _ _ _ _ _ us hl => match us, hl with | [_, _], _ => rfl) (fun _ _ _ _ ⟨_, _, _, _, _, _, _, _, _, _, _, _, _, e, _⟩ => by subst e; rfl) fun f cdv A outer s H vs Q E hr ⟨H0, ad, dx, g, c, d, am, row, ps, st, fd, fv, ns, e, hR, hf, hk, hns, k⟩ => ?_
  subst e
  have nd := scReaderWordsFor.nd
  obtain ⟨fa, tv, rfl, hfa, hth⟩ := hf
  rw [hk] at hth
  obtain ⟨t, rfl, ht⟩ := hth
  obtain ⟨cs, hcs, htp⟩ := hR.sta.cs
  obtain ⟨zs, e1, e2, e3⟩ := htp.zip
  subst e1
  have zl : zs.length ≤ 9 := by have := hR.ok.g9; rw [e2, List.length_map] at this; exact this
  have hk2 : knownM st fd = ns ++ ((zs.filter fun z => z.2.field == fd.name).map fun z => z.2.name) := by
    unfold knownM
    rw [hk, e2, List.filter_map, List.map_map]
    rfl
  refine xb_retE ((l_cat (xs := ns.map fun a => V.str (S a)) (ys := (zs.filter fun z => z.2.field == fd.name).map fun z => V.str (S z.2.name)) (ll_hl (l_listT T.f_list (vl_tu (v_ixT (vl_tu (v_v 1) (.inl hfa)) v_int rfl) (.inl ht.rd)))) (ll_hl (cp_ll (lc_fil (i := 2) (own := [("crew", 2)]) (ws := zs) (enc := fun z => z.1) (fun z => z.2.field == fd.name) (fun z => V.str (S z.2.name))
    (il_L (vl_sl (v_fld T.cb_Reader (v_v 0) hR.ins rfl) (sq_of hcs))) (by omega) (blkOk_by (N := nReaderWordsFor) (sc := defScope sReaderWordsFor) (by decide +kernel))
    (fun _ _ _ _ _ z hz => ?_) (fun _ _ _ _ _ z hz _ => ?_)))) ?_) H (Ex.refl H) _ fun p H2 hp e2' h2 => k p H2 hp e2' (by rw [h2, hk2, List.map_append, List.map_map]; rfl))
  · obtain ⟨a, m, ea, ra, _⟩ := (e3 z hz).gp
    rw [ea]
    exact bl_is (bc (c_eq (v_ixT (vl_tu (v_v 2) (.inl ra)) v_int rfl) (v_ixT (vl_tu (v_v 1) (.inl hfa)) v_int rfl))) dec_str
  · obtain ⟨a, m, ea, ra, _⟩ := (e3 z hz).gp
    rw [ea]
    exact v_ixT (vl_tu (v_v 2) (.inl ra)) v_int rfl
  · rw [List.length_map, List.length_map]
    have := List.length_filter_le (fun z : V × Gp => z.2.field == fd.name) zs
    omega
end
end Gw

set_option maxRecDepth 100000
set_option maxHeartbeats 4000000
namespace Gw
open PySem PySem.Spec PyProof.Rows L2 Evl SX
theorem dec_V {a b : Str} : decide (V.str a = V.str b) = decide (a = b) := by by_cases h : a = b <;> simp [h]
/-- texts that are read -/
def TxOk (ws : List W) : Prop := ws.length ≤ 4090 ∧ ∀ a ∈ ws, a.length ≤ 40000
def spThings (K : PySem.W.Frag) : Sp := fun vs H Q E => ∃ (ad dx g c d am : Addr) (row : Int) (kind : W) (wl : Addr) (ws : List W), vs = [.ref ad, .str (S kind), .ref wl] ∧ H ad = some (.ins (CR K) dx (rdF g c d am row)) ∧ H wl = some (.lst (ws.map fun a => V.str (S a))) ∧ TxOk ws ∧
  (∀ k, thingsM kind ws = some k → ∀ H' v, Ex H H' → ThAt H' v k → Q v H') ∧ (thingsM kind ws = none → Bad K row H E)
section
variable {P : Program} {w : World} {K : PySem.W.Frag} {mg : Str → Option Value} {base : Heap}
theorem isEmpty_map {α β : Type} (l : List α) (f : α → β) : (l.map f).isEmpty = l.isEmpty := by cases l <;> rfl
theorem inV3 {k a b c : Str} : inV (.str k) [.str a, .str b, .str c] = (decide (k = a) || (decide (k = b) || decide (k = c))) := by
  have h : ∀ x y : Str, eqV (.str x) (.str y) = decide (y = x) := fun x y => by show decide (x = y) = _; by_cases q : x = y <;> simp [q, eq_comm]
  unfold inV
  simp only [List.any_cons, List.any_nil, Bool.or_false, h]
theorem things_one {kind a : W} (nk : ¬ S kind = "clock") (hk : S kind = "number" ∨ S kind = "bits") : thingsM kind [a] = match wholeM a with
    | some n => if S kind = "number" then (if n ≤ 10 ^ 12 then some (.number n) else none) else if 1 ≤ n ∧ n ≤ 32 then some (.bits n) else none
    | none => none := by unfold thingsM; rw [if_neg nk, if_pos hk] <;> rfl
theorem things_not {kind : W} {ws : List W} (nk : ¬ S kind = "clock") (hk : S kind = "number" ∨ S kind = "bits") (h : ¬ ∃ a, ws = [a]) : thingsM kind ws = none := by
  unfold thingsM
  rw [if_neg nk, if_pos hk]
  match ws, h with
  | [], _ => rfl
  | [a], h => exact absurd ⟨a, rfl⟩ h
  | _ :: _ :: _, _ => rfl
theorem ok_thingsIn (T : Tx K mg) : Me P w K mg base 4 (CR K) "things_in" (spThings K) := by
  have GW : Gd P w K mg base 2 "whole_in" spWhole := ok_wholeIn T
  have GP : Gd P w K mg base 2 "is_path" spIsPath := ok_isPath T
  have GN : Gd P w K mg base 1 "is_name" spIsName := ok_isName T
  refine me_of T dReaderThingsIn 26 T.m_Reader_things_in scReaderThingsIn (fun _ _ _ _ _ _ us hl => match us, hl with | [_, _, _], _ => rfl) (fun _ _ _ _ ⟨_, _, _, _, _, _, _, _, _, _, e, _⟩ => by subst e; rfl) fun f cdv A outer s H vs Q E hr ⟨ad, dx, g, c, d, am, row, kind, wl, ws, e, ha, hw, hz, k1, k2⟩ => ?_
  subst e
  have nd := scReaderThingsIn.nd
  have hr2 : Room 2 (Cxd dReaderThingsIn P w K mg base nReaderThingsIn f cdv A outer s H E).A := hr.mono (by decide)
  have hr1 : Room 1 (Cxd dReaderThingsIn P w K mg base nReaderThingsIn f cdv A outer s H E).A := hr.mono (by decide)
  refine xb_when (k := decide (S kind = "clock")) (bl_is (bc (c_eq (v_v 1) v_str)) dec_V) (fun hk H1 e1 => ?_) fun hk H1 e1 => ?_
  · have hk' := of_decide_eq_true hk
    have et : thingsM kind ws = if ws = [] then some .clock else none := by unfold thingsM; rw [if_pos hk']
    refine xb_need ws.isEmpty T hr ps_cx (v_v 0) (e1 _ _ ha) (h := vl_is (vc (c_eqNil hr (vl_sl (v_v 2) (sq_of (e1 _ _ hw))))) (by rw [isEmpty_map])) (fun q H2 e2 => ?_) fun q => (k2 ?_).go e1
    · exact xb_ret v_non fun H3 e3 => k1 .clock (by rw [et, if_pos (by simpa using q)]) H3 .non ((e1.trans e2).trans e3) rfl
    · rw [et, if_neg (by intro z; rw [z] at q; cases q)]
  · have nk := of_decide_eq_false hk
    refine xb_when (k := decide (S kind = "number") || decide (S kind = "bits")) (b_w (w_or (bl_is (bc (c_eq (v_v 1) v_str)) dec_V) fun _ => w_or1 (bl_is (bc (c_eq (v_v 1) v_str)) dec_V))) (fun hk2 H2 e2 => ?_) fun hk2 H2 e2 => ?_
    · have hk2' : S kind = "number" ∨ S kind = "bits" := by simpa using hk2
      have ee := e1.trans e2
      by_cases one : ∃ a, ws = [a]
      · obtain ⟨a, rfl⟩ := one
        have et := things_one nk hk2' (a := a)
        refine xb_set 3 (v := oV (wholeM a)) (v_if (k := true) (bc ((c_eq (v_lenL T.f_len (vl_sl (v_v 2) (sq_of (ee _ _ hw)))) v_int).is rfl)) (fun _ => v_call GW hr2 passL (a_1 (v_ixL (vl_sl (v_v 2) (sq_of (ee _ _ hw))) v_int rfl)) (spS1_v (hz.2 a (by simp)))) fun q => by cases q) fun H3 e3 => ?_
        have ef := ee.trans e3
        cases hn : wholeM a with
        | none =>
          rw [hn] at et
          exact xb_need false T hr ps_cx (v_v 0) (ef _ _ ha) (vl_is (vc ((c_notN (v_v 3)).is (l := false) rfl)) rfl) (fun q => by cases q) fun _ => (k2 et).go ef
        | some n =>
          rw [hn] at et
          dsimp only at et
          refine xb_need true T hr ps_cx (v_v 0) (ef _ _ ha) (vl_is (vc ((c_notN (v_v 3)).is (l := true) rfl)) rfl) (fun _ H4 e4 => ?_) fun q => by cases q
          have eg := ef.trans e4
          by_cases hkn : S kind = "number"
          · rw [if_pos hkn] at et
            refine xb_need (decide ((n : Int) ≤ 1000000000000)) T hr ps_cx (v_v 0) (eg _ _ ha) (v_if (k := true) (bl_is (bc (c_eq (v_v 1) v_str)) (by rw [dec_V]; exact decide_eq_true hkn)) (fun _ => vc (c_le (v_v (v := .int (n : Int)) 3) (v_gi T.i_GREATEST))) fun q => by cases q) (fun q H5 e5 => ?_) fun q => (k2 ?_).go eg
            · exact xb_ret (v_v (v := .int (n : Int)) 3) fun H6 e6 => k1 (.number n) (by rw [et, if_pos (by have := of_decide_eq_true q; omega)]) H6 _ ((eg.trans e5).trans e6) rfl
            · rw [et, if_neg (by have := of_decide_eq_false q; omega)]
          · rw [if_neg hkn] at et
            refine xb_need (decide ((1 : Int) ≤ n) && decide ((n : Int) ≤ 32)) T hr ps_cx (v_v 0) (eg _ _ ha) (v_if (k := false) (bl_is (bc (c_eq (v_v 1) v_str)) (by rw [dec_V]; exact decide_eq_false hkn)) (fun q => by cases q) fun _ => vc2 (c_leLe v_int (v_v (v := .int (n : Int)) 3) (v_gi T.i_MOST_WIDE))) (fun q H5 e5 => ?_) fun q => (k2 ?_).go eg
            · exact xb_ret (v_v (v := .int (n : Int)) 3) fun H6 e6 => k1 (.bits n) (by rw [et, if_pos (by simp at q; omega)]) H6 _ ((eg.trans e5).trans e6) rfl
            · rw [et, if_neg (by simp at q; omega)]
      · have et := things_not nk hk2' one
        refine xb_set 3 (v := .non) (v_if (k := false) (bc ((c_eq (v_lenL T.f_len (vl_sl (v_v 2) (sq_of (ee _ _ hw)))) v_int).is (by
          rw [List.length_map]
          match ws, one with
          | [], _ => rfl
          | [a], h => exact absurd ⟨a, rfl⟩ h
          | a :: b :: r, _ => simp; omega))) (fun q => by cases q) fun _ => v_non) fun H3 e3 => ?_
        exact xb_need false T hr ps_cx (v_v 0) ((ee.trans e3) _ _ ha) (vl_is (vc ((c_notN (v_v 3)).is (l := false) rfl)) rfl) (fun q => by cases q) fun _ => (k2 et).go (ee.trans e3)
    · have nk2 : ¬ (S kind = "number" ∨ S kind = "bits") := by simpa using hk2
      have et : thingsM kind ws = if S kind = "names" ∨ S kind = "tree" ∨ S kind = "marks" then
          (if (1 ≤ ws.length ∧ ws.length ≤ (if S kind = "marks" then 5 else 9)) ∧ ws.all (fun a => if S kind = "tree" then isPathM a else isNameM a) = true ∧ ws.Nodup then
            some (if S kind = "names" then .names ws else if S kind = "tree" then .tree ws else .marks ws) else none)
        else none := by unfold thingsM; rw [if_neg nk, if_neg nk2]
      have ee := e1.trans e2
      refine xb_need (decide (S kind = "names") || (decide (S kind = "tree") || decide (S kind = "marks"))) T hr ps_cx (v_v 0) (ee _ _ ha) (vl_is (vc (c_inT (v_v 1) (ul_tu (u_tup (a_cons v_str (a_cons v_str (a_1 v_str))))) rfl rfl)) ?_) (fun q H3 e3 => ?_) fun q => (k2 ?_).go ee
      · rw [inV3]
      · have q' : S kind = "names" ∨ S kind = "tree" ∨ S kind = "marks" := by simpa using q
        rw [if_pos q'] at et
        have ef := ee.trans e3
        refine xb_need (decide ((1 : Int) ≤ ws.length) && decide ((ws.length : Int) ≤ ((if S kind = "marks" then 5 else 9 : Nat) : Int))) T hr ps_cx (v_v 0) (ef _ _ ha) (vl_is (vc2 (c_leLe v_int (v_lenL T.f_len (vl_sl (v_v 2) (sq_of (ef _ _ hw)))) (v_if (x := .int ((if S kind = "marks" then 5 else 9 : Nat) : Int)) (k := decide (S kind = "marks")) (bl_is (bc (c_eq (v_v 1) v_str)) dec_V) (fun z => vl_is (v_gi T.i_MOST_MARKS) (by rw [if_pos (of_decide_eq_true z)]; rfl)) fun z => vl_is (v_gi T.i_MOST_THINGS) (by rw [if_neg (of_decide_eq_false z)]; rfl)))) (by rw [List.length_map])) (fun p4 H4 e4 => ?_) fun p4 => (k2 ?_).go ef
        · have eg := ef.trans e4
          refine xb_need (ws.all (fun a => if S kind = "tree" then isPathM a else isNameM a)) T hr ps_cx (v_v 0) (eg _ _ ha) (vl_is (v_all (bs := ws.map fun a => if S kind = "tree" then isPathM a else isNameM a) rfl T.f_all (ll_sl (ll_is (cp_ll (lc_map (i := 4) (own := [("word", 4)]) (ws := ws) (enc := fun a => V.str (S a)) (fun a => V.bl (if S kind = "tree" then isPathM a else isNameM a)) (il_L (vl_sl (v_v 2) (sq_of (eg _ _ hw)))) (by have := hz.1; omega)
            (blkOk_by (N := nReaderThingsIn) (sc := defScope sReaderThingsIn) (by decide +kernel)) (fun _ _ _ _ _ a ha => v_if (k := decide (S kind = "tree")) (bl_is (bc (c_eq (v_v 1) v_str)) dec_V) (fun z => vl_is (v_call GP hr2 passL (a_1 (v_v 4)) (spS1_v (hz.2 a ha))) (by rw [if_pos (of_decide_eq_true z)])) fun z => vl_is (v_call GN hr1 passL (a_1 (v_v 4)) (spS1_v (hz.2 a ha))) (by rw [if_neg (of_decide_eq_false z)])))) (by rw [List.map_map]; rfl)))) (by rw [all_map_id])) (fun p5 H5 e5 => ?_) fun p5 => (k2 ?_).go eg
          · have eh := eg.trans e5
            refine xb_need (decide ws.Nodup) T hr ps_cx (v_v 0) (eh _ _ ha) (vl_is (vc ((c_eq (v_lenSet T.f_len T.f_set (vl_sl (v_v 2) (sq_of (eh _ _ hw))) hz.1) (v_lenL T.f_len (vl_sl (v_v 2) (sq_of (eh _ _ hw))))).is (by rw [List.length_map, dec_lenEq]))) (by congr 1; exact decide_eq_decide.mpr setLen_nd)) (fun p6 H6 e6 => ?_) fun p6 => (k2 ?_).go eh
            · have ei := eh.trans e6
              refine xb_retE (xe_tupleF T.f_tuple (vl_sl (v_v 2) (sq_of (ei _ _ hw))) fun l H7 hl e7 ft => ?_)
              have all : (1 ≤ ws.length ∧ ws.length ≤ (if S kind = "marks" then 5 else 9)) ∧ ws.all (fun a => if S kind = "tree" then isPathM a else isNameM a) = true ∧ ws.Nodup := ⟨by simp only [Bool.and_eq_true, decide_eq_true_eq] at p4; omega, p5, of_decide_eq_true p6⟩
              rw [if_pos all] at et
              refine k1 _ et H7 _ (ei.trans e7) ?_
              by_cases h1 : S kind = "names"
              · rw [if_pos h1]; exact ⟨l, rfl, ft⟩
              · rw [if_neg h1]
                by_cases h2 : S kind = "tree"
                · rw [if_pos h2]; exact ⟨l, rfl, ft⟩
                · rw [if_neg h2]; exact ⟨l, rfl, ft⟩
            · rw [et, if_neg fun z => (of_decide_eq_false p6) z.2.2]
          · rw [et, if_neg fun z => by rw [z.2.1] at p5; cases p5]
        · rw [et, if_neg fun z => ?_]
          have z1 := z.1
          simp only [Bool.and_eq_false_iff, decide_eq_false_iff_not] at p4
          omega
      · rw [et, if_neg (by simpa using q)]
end
end Gw

set_option maxRecDepth 100000
set_option maxHeartbeats 4000000
namespace Gw
open PySem PySem.Spec PyProof.Rows L2 Evl SX
section
variable {X : Cx} {a e : Expr} {es : List Expr} {σ : L2.St} {H : Hp} {Q : VK} {QA : List V → Hp → Prop} {pos : Pos}
theorem xa_nil (h : QA [] H) : XA X [] σ H QA := xa_of pa_nil h
theorem xa_cons (h : XE X a σ H fun x H1 => XA X es σ H1 fun vs H2 => QA (x :: vs) H2) (hs : starEach (a :: es) X.env = (false, eval a X.env) :: starEach es X.env := by rfl) : XA X (a :: es) σ H QA := xa_of (pa_cons pe_xe pa_xa hs) h
theorem xe_tup {x1 : Nat} (h : XA X es σ H fun vs H1 => vs.length ≤ 100000 ∧ ∀ p, H1 p = none → Q (.ref p) (upd H1 p (.tup vs))) : XE X (.Tuple es x1 pos) σ H Q := xe_of (pe_tup pa_xa) ⟨fun pos' pins s I => thn (h.run pos' pins s I) fun us s1 ⟨ws, H1, I1, r, q1, q2⟩ => ⟨ws, H1, I1, r, sz_of q1, q2⟩⟩
/-- a value, then the rest -/
theorem xe_v {v : V} (h : Vl X e σ H v) (k : ∀ H1, Ex H H1 → Q v H1) : XE X e σ H Q := h H (Ex.refl H) Q k
theorem xe_l {xs : List V} (h : Ll X e σ H xs) (k : ∀ p H1, H p = none → Ex H H1 → H1 p = some (.lst xs) → Q (.ref p) H1) : XE X e σ H Q := h H (Ex.refl H) Q k
end
def spLine (K : PySem.W.Frag) (M : Ho → List W → Option Ho) : Sp := fun vs H Q E => ∃ (H0 : Hp) (ad dx g c d am : Addr) (row : Int) (ps : List (Addr × Addr)) (st : Ho) (wl : Addr) (ws : List W), vs = [.ref ad, .ref wl] ∧ RdAt K H0 ad dx g c d am row ps st H ∧ H wl = some (.lst (ws.map fun a => V.str (S a))) ∧ TxOk ws ∧ ws ≠ [] ∧
  (∀ st', M st ws = some st' → ∀ g' c' d' ps' H', RdAt K H0 ad dx g' c' d' am row ps' st' H' → Q .non H') ∧ (M st ws = none → Bad K row H0 E)
theorem spLine_len {K : PySem.W.Frag} {M : Ho → List W → Option Ho} {vs : List V} {H : Hp} {Q : VK} {E : XK} (h : spLine K M vs H Q E) : vs.length = 2 := by
  obtain ⟨_, _, _, _, _, _, _, _, _, _, _, _, e, _⟩ := h
  subst e; rfl
/-- a change of one of the lists leaves the Reader -/
theorem RdAt.upd {K : PySem.W.Frag} {H0 H : Hp} {ad dx g c d am : Addr} {row : Int} {ps ps' : List (Addr × Addr)} {st st' : Ho} {a : Addr} {o : HO} {xs : List V} (h : RdAt K H0 ad dx g c d am row ps st H) (hx : H a = some (.lst xs)) (hm : am ≠ a) (s : StAt false H0 g c d ps' st' (upd H a o)) (ha : am ∉ g :: c :: d :: ps'.map (·.2)) (k : HoOk st') :
    RdAt K H0 ad dx g c d am row ps' st' (upd H a o) :=
  ⟨by rw [upd_ne (show ad ≠ a from fun q => by have z := h.ins; rw [q, hx] at z; cases z)]; exact h.ins, s, by rw [upd_ne hm]; exact h.amz, ha, h.adn, k⟩
theorem things_word {kind : W} {ws : List W} {k : FK} (h : thingsM kind ws = some k) : S kind = k.word := by
  unfold thingsM at h
  split at h
  · rename_i z
    split at h
    · cases h; exact z
    · cases h
  · split at h
    · rename_i z
      split at h
      · split at h
        · split at h
          · rename_i z2
            split at h
            · cases h; exact z2
            · cases h
          · rename_i z2
            split at h
            · cases h
              rcases z with z | z
              · exact absurd z z2
              · exact z
            · cases h
        · cases h
      · cases h
    · split at h
      · rename_i z
        by_cases cc : (1 ≤ ws.length ∧ ws.length ≤ (if S kind = "marks" then 5 else 9)) ∧ ws.all (fun a => if S kind = "tree" then isPathM a else isNameM a) = true ∧ ws.Nodup
        · rw [if_pos cc] at h
          by_cases h1 : S kind = "names"
          · rw [if_pos h1] at h; cases h; exact h1
          · rw [if_neg h1] at h
            by_cases h2 : S kind = "tree"
            · rw [if_pos h2] at h; cases h; exact h2
            · rw [if_neg h2] at h
              cases h
              rcases z with q | q | q
              · exact absurd q h1
              · exact absurd q h2
              · exact q
        · rw [if_neg cc] at h; cases h
      · cases h
theorem things_ok {kind : W} {ws : List W} {k : FK} (h : thingsM kind ws = some k) : FkOk k := by
  unfold thingsM at h
  split at h
  · split at h
    · cases h; exact trivial
    · cases h
  · split at h
    · split at h
      · split at h
        · split at h
          · split at h
            · cases h; rename_i z; exact z
            · cases h
          · split at h
            · cases h; rename_i z; exact z
            · cases h
        · cases h
      · cases h
    · split at h
      · rename_i z5
        by_cases cc : (1 ≤ ws.length ∧ ws.length ≤ (if S kind = "marks" then 5 else 9)) ∧ ws.all (fun a => if S kind = "tree" then isPathM a else isNameM a) = true ∧ ws.Nodup
        · rw [if_pos cc] at h
          obtain ⟨⟨z1, z2⟩, z3, _⟩ := cc
          have z4 := List.all_eq_true.mp z3
          by_cases h1 : S kind = "names"
          · rw [if_pos h1] at h
            cases h
            rw [if_neg (by rw [h1]; decide +kernel)] at z2
            exact ⟨z2, fun a ha => by have := z4 a ha; rw [if_neg (by rw [h1]; decide +kernel)] at this; exact this⟩
          · rw [if_neg h1] at h
            by_cases h2 : S kind = "tree"
            · rw [if_pos h2] at h
              cases h
              rw [if_neg (by rw [h2]; decide +kernel)] at z2
              exact ⟨z2, fun a ha => by have := z4 a ha; rw [if_pos h2] at this; exact this⟩
            · rw [if_neg h2] at h
              cases h
              have h3 : S kind = "marks" := by rcases z5 with q | q | q; exact absurd q h1; exact absurd q h2; exact q
              rw [if_pos h3] at z2
              exact ⟨z2, fun a ha => by have := z4 a ha; rw [if_neg h2] at this; exact this⟩
        · rw [if_neg cc] at h; cases h
      · cases h
section
variable {P : Program} {w : World} {K : PySem.W.Frag} {mg : Str → Option Value} {base : Heap}
theorem len_gs {tup : Bool} {H0 H : Hp} {g c d : Addr} {ps : List (Addr × Addr)} {st : Ho} {gs : List V} (h : StAt tup H0 g c d ps st H) (e : H g = some (.lst gs)) : gs.length = st.fields.length := by
  obtain ⟨gs', a, b⟩ := h.gs
  rw [e] at a; cases a
  exact Paired.length b
theorem len_cs {tup : Bool} {H0 H : Hp} {g c d : Addr} {ps : List (Addr × Addr)} {st : Ho} {cs : List V} (h : StAt tup H0 g c d ps st H) (e : H c = some (.lst cs)) : cs.length = st.groups.length := by
  obtain ⟨cs', a, b⟩ := h.cs
  rw [e] at a; cases a
  rw [b.length, List.length_map]
theorem len_ds {tup : Bool} {H0 H : Hp} {g c d : Addr} {ps : List (Addr × Addr)} {st : Ho} (h : StAt tup H0 g c d ps st H) : ps.length = st.gates.length := Paired.length h.gts
theorem empty_iff {α β : Type} {as : List α} {bs : List β} (h : as.length = bs.length) : as.isEmpty = decide (bs = []) := by
  cases as with
  | nil => cases bs with
    | nil => rfl
    | cons _ _ => cases h
  | cons _ _ => cases bs with
    | nil => cases h
    | cons _ _ => rfl
theorem v_ixW0 {X : Cx} {a b : Expr} {σ : L2.St} {H : Hp} {ws : List W} {w : W} {pos : Pos} (i : Nat) (ha : Sl X a σ H (ws.map fun a => V.str (S a))) (hb : Vl X b σ H (.int (i : Int))) (h : ws[i]? = some w) (hs : PlainIx b := by exact fun _ _ => rfl) : Vl X (.Subscript a b pos) σ H (.str (S w)) :=
  v_ixL ha hb (by rw [atI_n, List.getElem?_map, h]; rfl) hs
theorem FdAt.at' {H : Hp} {v : V} {f : Fd} (h : FdAt H v f) : ∃ a tv, v = .ref a ∧ Rd H a (.tup [.str (S f.name), .str f.k.word, tv]) ∧ ThAt H tv f.k := h
theorem name_len {a : W} (h : isNameM a = true) : a.length ≤ 8 := by
  unfold isNameM at h
  simp only [Bool.and_eq_true, decide_eq_true_eq] at h
  exact h.1.2
theorem ok_fieldLine (T : Tx K mg) : Me P w K mg base 5 (CR K) "field_line" (spLine K fieldM) := by
  have GN : Gd P w K mg base 1 "is_name" spIsName := ok_isName T
  have MT : Me P w K mg base 4 (CR K) "things_in" (spThings K) := ok_thingsIn T
  refine me_of T dReaderFieldLine 27 T.m_Reader_field_line scReaderFieldLine (fun _ _ _ _ _ _ us hl => match us, hl with | [_, _], _ => rfl) (fun _ _ _ _ => spLine_len) fun f cdv A outer s H vs Q E hr ⟨H0, ad, dx, g, c, d, am, row, ps, st, wl, ws, e, hR, hw, hz, hne, k1, k2⟩ => ?_
  subst e
  have nd := scReaderFieldLine.nd
  have hr1 : Room 1 (Cxd dReaderFieldLine P w K mg base nReaderFieldLine f cdv A outer s H E).A := hr.mono (by decide)
  have hr3 : Room 3 (Cxd dReaderFieldLine P w K mg base nReaderFieldLine f cdv A outer s H E).A := hr.mono (by decide)
  have bad : fieldM st ws = none → ∀ H', Ex H H' → Bad K row H' E := fun q H' e' => (k2 q).go (hR.sta.ex.trans e')
  obtain ⟨gs, hgs, hgp⟩ := hR.sta.gs
  obtain ⟨cs, hcs, hcp⟩ := hR.sta.cs
  refine xb_need (decide (st.groups = []) && decide (st.gates = [])) T hr3 ps_cx (v_v 0) hR.ins (vl_is (v_and (v_not (v_fld T.cb_Reader (v_v 0) hR.ins (v := .bl false) rfl)) fun _ => v_and (vc (c_eqNil hr (vl_sl (v_fld T.cb_Reader (v_v 0) hR.ins rfl) (sq_of hcs)))) fun _ => v_one (vc (c_eqNil hr (vl_sl (v_fld T.cb_Reader (v_v 0) hR.ins rfl) (sq_of hR.sta.ds))))) (by rw [isEmpty_map, empty_iff (len_cs hR.sta hcs), empty_iff (len_ds hR.sta)]; rfl)) (fun q1 H1 e1 => ?_) fun q => bad ?_ H (Ex.refl H)
  · simp only [Bool.and_eq_true, decide_eq_true_eq] at q1
    have R1 := hR.mono e1
    refine xb_need (decide (st.fields.length < 4) && decide (2 < ws.length)) T hr3 ps_cx (v_v 0) R1.ins (v_and (vl_is (vc (c_lt (v_lenL T.f_len (vl_sl (v_fld T.cb_Reader (v_v 0) R1.ins rfl) (sq_of (e1 _ _ hgs)))) (v_gi T.i_MOST_FIELDS))) ?_) fun _ => v_one (vl_is (vc (c_gt (v_lenL T.f_len (vl_sl (v_v 1) (sq_of (e1 _ _ hw)))) v_int)) ?_)) (fun q2 H2 e2 => ?_) fun q => bad ?_ H1 e1
    · rw [len_gs hR.sta hgs]; congr 1; exact decide_eq_decide.mpr (by omega)
    · rw [List.length_map]; congr 1; exact decide_eq_decide.mpr (by omega)
    · simp only [Bool.and_eq_true, decide_eq_true_eq] at q2
      match ws, hw, hz, k1, bad, q2 with
      | w0 :: a :: kind :: rest, hw, hz, k1, bad, q2 =>
        have R2 := R1.mono e2
        have E2 := e1.trans e2
        obtain ⟨zs, z1, z2, z3⟩ := paired_zip hgp
        have zl : zs.length ≤ 4 := by have := hR.ok.f4; rw [z2, List.length_map] at this; exact this
        have la : a.length ≤ 40000 := hz.2 a (by simp)
        refine xb_need (isNameM a && !decide (a ∈ st.fields.map (·.name))) T hr3 ps_cx (v_v 0) R2.ins (v_and (v_call GN hr1 passL (a_1 (v_ixW0 1 (vl_sl (v_v 1) (sq_of (E2 _ _ hw))) v_int rfl)) (spS1_v la)) fun _ => v_one (vl_is (vc (c_ninL (v_ixW0 1 (vl_sl (v_v 1) (sq_of (E2 _ _ hw))) v_int rfl) (ll_sl (ll_is (ys := (st.fields.map (·.name)).map fun p => V.str (S p)) (cp_ll (lc_map (i := 2) (own := [("field", 2)]) (ws := zs) (enc := fun z => z.1) (fun z => V.str (S z.2.name)) (il_L (vl_sl (v_fld T.cb_Reader (v_v 0) R2.ins rfl) (sq_of (by rw [← z1]; exact E2 _ _ hgs)))) (by omega)
          (blkOk_by (N := nReaderFieldLine) (sc := defScope sReaderFieldLine) (by decide +kernel)) (fun _ _ _ _ _ z hz => ?_))) (by rw [z2, List.map_map, List.map_map]; rfl))) rfl (flat_strs _))) (by rw [inV_strs]))) (fun q3 H3 e3 => ?_) fun q => bad ?_ H2 E2
        · obtain ⟨fa, tv, ea, ra, _⟩ := (z3 z hz).mono E2
          rw [ea]
          exact v_ixT (vl_tu (v_v 2) (.inl ra)) v_int rfl
        · simp only [Bool.and_eq_true, Bool.not_eq_true', decide_eq_false_iff_not] at q3
          have E3 := E2.trans e3
          have R3 := R2.mono e3
          have et : fieldM st (w0 :: a :: kind :: rest) = (thingsM kind rest).map fun k => { st with fields := st.fields ++ [⟨a, k⟩] } := by
            unfold fieldM
            dsimp only
            rw [if_pos ⟨q1.1, q1.2, q2.1, q3.1, q3.2⟩]
          refine xb_appE (l := g) (xs := gs) (v_fld T.cb_Reader (v_v 0) R3.ins rfl) (E3 _ _ hgs) (fun H4 e4 => ?_) (by rw [len_gs hR.sta hgs]; omega)
          have E4 := E3.trans e4
          have R4 := R3.mono e4
          refine xe_tup (xa_cons (xe_v (v_ixW0 1 (vl_sl (v_v 1) (sq_of (E4 _ _ hw))) v_int rfl) fun H5 e5 => xa_cons (xe_v (v_ixW0 2 (vl_sl (v_v 1) (sq_of ((E4.trans e5) _ _ hw))) v_int rfl) fun H6 e6 => ?_)))
          have E6 := (E4.trans e5).trans e6
          have R6 := (R4.mono e5).mono e6
          refine xa_cons (xe_meth T.cb_Reader MT hr ps_cx (v_v 0) R6.ins rfl fun H7 e7 => xa_cons (xe_v (v_ixW0 2 (vl_sl (v_v 1) (sq_of ((E6.trans e7) _ _ hw))) v_int rfl) fun H8 e8 => xa_cons (xe_l (ll_is (l_slL (vl_sl (v_v 1) (sq_of (((E6.trans e7).trans e8) _ _ hw))) (o_s v_int) o_n) (show cutV _ (some ((3 : Nat) : Int)) none = rest.map fun a => V.str (S a) by rw [cutV_from]; rfl)) fun rl H9 hrl e9 h9 => xa_nil ?_)))
          have E9 := ((E6.trans e7).trans e8).trans e9
          have R9 := ((R6.mono e7).mono e8).mono e9
          refine ⟨ad, dx, g, c, d, am, row, kind, rl, rest, rfl, R9.ins, h9, ⟨by have := hz.1; simp only [List.length_cons] at this; omega, fun x hx => hz.2 x (by simp [hx])⟩, fun k hk H10 v e10 tv => xa_nil ⟨by simp, fun p hp => ?_⟩, fun hk => bad (by rw [et, hk]; rfl) H9 E9⟩
          have R10 := (R9.mono e10).mono (Ex.new (o := .tup [.str (S a), .str (S kind), v]) hp)
          have E10 := (E9.trans e10).trans (Ex.new (o := .tup [.str (S a), .str (S kind), v]) hp)
          have hgf := E10 _ _ hgs
          have fd : FdAt (upd H10 p (.tup [.str (S a), .str (S kind), v])) (.ref p) ⟨a, k⟩ := ⟨p, v, rfl, .inl (by rw [upd_same, things_word hk]), tv.fex (.of (Ex.new hp))⟩
          have hm : am ≠ g := fun q => R10.amn (by rw [q]; simp)
          refine ⟨hgf, xb_nil (k1 _ (by rw [et, hk]; rfl) _ _ _ _ _ (R10.upd hgf hm (R10.sta.field hgf fd) R10.amn ⟨?_, ?_, R10.ok.g9, R10.ok.g, R10.ok.t5, R10.ok.t⟩))⟩
          · show (st.fields ++ [_]).length ≤ 4
            rw [List.length_append, List.length_singleton]; omega
          · intro f hf
            rcases List.mem_append.mp hf with q | q
            · exact R10.ok.f f q
            · simp only [List.mem_cons, List.not_mem_nil, or_false] at q
              subst q
              exact ⟨q3.1, things_ok hk⟩
        · unfold fieldM
          dsimp only
          rw [if_neg]
          rintro ⟨_, _, _, y1, y2⟩
          simp only [Bool.and_eq_false_iff, Bool.not_eq_false', decide_eq_true_eq] at q
          rcases q with q | q
          · rw [y1] at q; cases q
          · exact y2 q
    · simp only [Bool.and_eq_false_iff, decide_eq_false_iff_not] at q
      unfold fieldM
      split
      · rw [if_neg]
        rintro ⟨_, _, y, _⟩
        simp only [List.length_cons] at q
        omega
      · rfl
  · unfold fieldM
    split
    · rw [if_neg]
      rintro ⟨y1, y2, _⟩
      simp [y1, y2] at q
    · rfl
end
end Gw

set_option maxRecDepth 100000
set_option maxHeartbeats 4000000
namespace Gw
open PySem PySem.Spec PyProof.Rows L2 Evl SX
theorem word_names (k : FK) : decide (k.word = "names") = isNames k := by
  cases k with
  | names ws => exact (by decide +kernel : decide (("names" : Str) = "names") = true)
  | tree ws => exact (by decide +kernel : decide (("tree" : Str) = "names") = false)
  | number n => exact (by decide +kernel : decide (("number" : Str) = "names") = false)
  | bits n => exact (by decide +kernel : decide (("bits" : Str) = "names") = false)
  | marks ws => exact (by decide +kernel : decide (("marks" : Str) = "names") = false)
  | clock => exact (by decide +kernel : decide (("clock" : Str) = "names") = false)
theorem isNames_of {k : FK} (h : isNames k = true) : ∃ ns, k = .names ns := by
  cases k with
  | names ws => exact ⟨ws, rfl⟩
  | tree ws => cases h
  | number n => cases h
  | bits n => cases h
  | marks ws => cases h
  | clock => cases h
theorem find_head {α : Type} (p : α → Bool) (l : List α) : l.find? p = (l.filter p).head? := List.head?_filter.symm
section
variable {P : Program} {w : World} {K : PySem.W.Frag} {mg : Str → Option Value} {base : Heap}
theorem v_ixLn {X : Cx} {a b : Expr} {σ : L2.St} {H : Hp} {xs : List V} {v : V} {pos : Pos} (i : Nat) (ha : Sl X a σ H xs) (hb : Vl X b σ H (.int (i : Int))) (h : xs[i]? = some v) (hs : PlainIx b := by exact fun _ _ => rfl) : Vl X (.Subscript a b pos) σ H v := v_ixL ha hb (by rw [atI_n, h]) hs
theorem xe_d {X : Cx} {e : Expr} {σ : L2.St} {H : Hp} {Q : VK} {d : PyData} (h : Dl X e σ H d) (k : ∀ y H1, Ex H H1 → Tp H1 y d → Q y H1) : XE X e σ H Q := h H (Ex.refl H) Q fun y H1 e1 t => k y H1 e1 t
theorem xe_lst {X : Cx} {es : List Expr} {σ : L2.St} {H : Hp} {Q : VK} {pos : Pos} (h : XA X es σ H fun vs H1 => vs.length ≤ 100000 ∧ ∀ p, H1 p = none → Q (.ref p) (upd H1 p (.lst vs))) : XE X (.List es pos) σ H Q := xe_of (pe_lst pa_xa) ⟨fun pos' pins s I => thn (h.run pos' pins s I) fun us s1 ⟨ws, H1, I1, r, q1, q2⟩ => ⟨ws, H1, I1, r, sz_of q1, q2⟩⟩
theorem ok_groupLine (T : Tx K mg) : Me P w K mg base 4 (CR K) "group_line" (spLine K groupM) := by
  have GN : Gd P w K mg base 1 "is_name" spIsName := ok_isName T
  have MW : Me P w K mg base 1 (CR K) "words_for" (spWordsFor K) := ok_wordsFor T
  refine me_of T dReaderGroupLine 28 T.m_Reader_group_line scReaderGroupLine (fun _ _ _ _ _ _ us hl => match us, hl with | [_, _], _ => rfl) (fun _ _ _ _ => spLine_len) fun f cdv A outer s H vs Q E hr ⟨H0, ad, dx, g, c, d, am, row, ps, st, wl, ws, e, hR, hw, hz, hne, k1, k2⟩ => ?_
  subst e
  have nd := scReaderGroupLine.nd
  have hr1 : Room 1 (Cxd dReaderGroupLine P w K mg base nReaderGroupLine f cdv A outer s H E).A := hr.mono (by decide)
  have bad : groupM st ws = none → ∀ H', Ex H H' → Bad K row H' E := fun q H' e' => (k2 q).go (hR.sta.ex.trans e')
  obtain ⟨gs, hgs, hgp⟩ := hR.sta.gs
  obtain ⟨cs, hcs, hcp⟩ := hR.sta.cs
  refine xb_need (decide (st.gates = [])) T hr ps_cx (v_v 0) hR.ins (vl_is (v_and (v_not (v_fld T.cb_Reader (v_v 0) hR.ins (v := .bl false) rfl)) fun _ => v_one (vc (c_eqNil hr (vl_sl (v_fld T.cb_Reader (v_v 0) hR.ins rfl) (sq_of hR.sta.ds))))) (by rw [isEmpty_map, empty_iff (len_ds hR.sta)]; rfl)) (fun q1 H1 e1 => ?_) fun q => bad ?_ H (Ex.refl H)
  · have q1 := of_decide_eq_true q1
    have R1 := hR.mono e1
    refine xb_need (decide (st.groups.length < 9) && decide (3 < ws.length)) T hr ps_cx (v_v 0) R1.ins (v_and (vl_is (vc (c_lt (v_lenL T.f_len (vl_sl (v_fld T.cb_Reader (v_v 0) R1.ins rfl) (sq_of (e1 _ _ hcs)))) (v_gi T.i_MOST_GROUPS))) ?_) fun _ => v_one (vl_is (vc (c_gt (v_lenL T.f_len (vl_sl (v_v 1) (sq_of (e1 _ _ hw)))) v_int)) ?_)) (fun q2 H2 e2 => ?_) fun q => bad ?_ H1 e1
    · rw [len_cs hR.sta hcs]; congr 1; exact decide_eq_decide.mpr (by omega)
    · rw [List.length_map]; congr 1; exact decide_eq_decide.mpr (by omega)
    · simp only [Bool.and_eq_true, decide_eq_true_eq] at q2
      match ws, hw, hz, k1, bad, q2 with
      | w0 :: fn :: a :: m :: rest, hw, hz, k1, bad, q2 =>
        have R2 := R1.mono e2
        have E2 := e1.trans e2
        obtain ⟨zs, z1, z2, z3⟩ := paired_zip hgp
        have zl : zs.length ≤ 4 := by have := hR.ok.f4; rw [z2, List.length_map] at this; exact this
        have la : a.length ≤ 40000 := hz.2 a (by simp)
        have efind : st.fields.find? (fun f => f.name == fn && isNames f.k) = ((zs.filter fun z => z.2.name == fn && isNames z.2.k).head?).map (·.2) := by
          rw [find_head, z2, List.filter_map, List.head?_map]; rfl
        refine xb_setCv (zs := ((zs.filter fun z => z.2.name == fn && isNames z.2.k).map fun z => z.1)) 2 (lc_fil (i := 5) (own := [("field", 5)]) (ws := zs) (enc := fun z => z.1) (fun z => z.2.name == fn && isNames z.2.k) (fun z => z.1) (il_L (vl_sl (v_fld T.cb_Reader (v_v 0) R2.ins rfl) (sq_of (by rw [← z1]; exact E2 _ _ hgs)))) (by omega)
          (blkOk_by (N := nReaderGroupLine) (sc := defScope sReaderGroupLine) (by decide +kernel)) (fun _ _ _ _ _ z hz => ?_) (fun _ _ _ _ _ z hz _ => v_v 5)) (fun fl H3 hfl e3 h3 => ?_)
        · obtain ⟨fa, tv, ea, ra, _⟩ := (z3 z hz).mono E2
          rw [ea]
          exact b_w (w_and (bl_is (bc (c_eq (v_ixT (vl_tu (v_v 5) (.inl ra)) v_int rfl) (v_ixW0 1 (vl_sl (v_v 1) (sq_of (E2 _ _ hw))) v_int rfl))) dec_str) fun _ => w_and1 (bl_is (bc (c_eq (v_ixT (vl_tu (v_v 5) (.inl ra)) v_int rfl) v_str)) (by rw [dec_V, word_names])))
        · have E3 := E2.trans e3
          have R3 := R2.mono e3
          cases hzf : zs.filter fun z => z.2.name == fn && isNames z.2.k with
          | nil =>
            rw [hzf] at h3 efind
            exact xb_need false T hr ps_cx (v_v 0) R3.ins (vc (c_neNil hr (vl_sl (v_v 2) (sq_of h3)))) (fun q => by cases q) fun _ => bad (by unfold groupM; dsimp only; rw [efind]; rfl) H3 E3
          | cons z0 zr =>
            rw [hzf] at h3 efind
            have m0 : z0 ∈ zs.filter fun z => z.2.name == fn && isNames z.2.k := by rw [hzf]; simp
            obtain ⟨m1, m2⟩ := List.mem_filter.mp m0
            simp only [Bool.and_eq_true, beq_iff_eq] at m2
            obtain ⟨ns, en⟩ := isNames_of m2.2
            have fok := hR.ok.f z0.2 (by rw [z2]; exact List.mem_map_of_mem m1)
            have nsl : ns.length ≤ 9 := by have := fok.2.few; rw [en] at this; exact this
            have em : groupM st (w0 :: fn :: a :: m :: rest) = if st.gates = [] ∧ st.groups.length < 9 ∧ isNameM a = true ∧ a ∉ knownM st z0.2 ∧ (m :: rest).length ≤ 9 ∧ (m :: rest).Nodup ∧ ∀ x ∈ m :: rest, x ∈ knownM st z0.2 then some { st with groups := st.groups ++ [⟨fn, a, m :: rest⟩] } else none := by
              unfold groupM; dsimp only; rw [efind]; rfl
            refine xb_need true T hr ps_cx (v_v 0) R3.ins (vc (c_neNil hr (vl_sl (v_v 2) (sq_of h3)))) (fun _ H4 e4 => ?_) fun q => by cases q
            have E4 := E3.trans e4
            have R4 := R3.mono e4
            refine xb_setE 3 (xe_meth T.cb_Reader MW hr1 passL (v_v 0) R4.ins rfl fun H5 e5 => xa_cons (xe_v (v_ixLn 0 (v := z0.1) (vl_sl (v_v 2) (sq_of ((e4.trans e5) _ _ h3))) v_int rfl) fun H6 e6 => xa_nil ⟨H0, ad, dx, g, c, d, am, row, ps, st, z0.2, z0.1, ns, rfl, (R4.mono e5).mono e6, ((z3 z0 m1).mono ((E4.trans e5).trans e6)), en, nsl, fun kl H7 hkl e7 h7 => ?_⟩))
            have E7 := ((E4.trans e5).trans e6).trans e7
            have R7 := ((R4.mono e5).mono e6).mono e7
            refine xb_setL 4 (ll_is (l_slL (vl_sl (v_v 1) (sq_of (E7 _ _ hw))) (o_s v_int) o_n) (show cutV _ (some ((3 : Nat) : Int)) none = (m :: rest).map fun a => V.str (S a) by rw [cutV_from]; rfl)) fun ml H8 hml e8 h8 => ?_
            have E8 := E7.trans e8
            have R8 := R7.mono e8
            have kz : (m :: rest).length ≤ 4090 := by have := hz.1; simp only [List.length_cons] at this ⊢; omega
            refine xb_need (isNameM a && !decide (a ∈ knownM st z0.2)) T hr ps_cx (v_v 0) R8.ins (v_and (v_call GN hr1 passL (a_1 (v_ixW0 2 (vl_sl (v_v 1) (sq_of (E8 _ _ hw))) v_int rfl)) (spS1_v la)) fun _ => v_one (vl_is (vc (c_ninL (v_ixW0 2 (vl_sl (v_v 1) (sq_of (E8 _ _ hw))) v_int (w := a) rfl) (vl_sl (v_v 3) (sq_of (e8 _ _ h7))) rfl (flat_strs _))) (by rw [inV_strs]))) (fun q3 H9 e9 => ?_) fun q => bad ?_ H8 E8
            · simp only [Bool.and_eq_true, Bool.not_eq_true', decide_eq_false_iff_not] at q3
              have E9 := E8.trans e9
              have R9 := R8.mono e9
              refine xb_need (decide ((m :: rest).length ≤ 9) && decide (m :: rest).Nodup) T hr ps_cx (v_v 0) R9.ins (v_and (vl_is (vc (c_le (v_lenL T.f_len (vl_sl (v_v 4) (sq_of (e9 _ _ h8)))) (v_gi T.i_MOST_THINGS))) ?_) fun _ => v_one (vl_is (vc ((c_eq (v_lenSet T.f_len T.f_set (vl_sl (v_v 4) (sq_of (e9 _ _ h8))) kz) (v_lenL T.f_len (vl_sl (v_v 4) (sq_of (e9 _ _ h8))))).is (by rw [List.length_map, dec_lenEq]))) (by congr 1; exact decide_eq_decide.mpr setLen_nd))) (fun q4 H10 e10 => ?_) fun q => bad ?_ H9 E9
              · rw [List.length_map]; congr 1; exact decide_eq_decide.mpr (by omega)
              · simp only [Bool.and_eq_true, decide_eq_true_eq] at q4
                have E10 := E9.trans e10
                have R10 := R9.mono e10
                have h10 := (e9.trans e10) _ _ h8
                have k10 := ((e8.trans e9).trans e10) _ _ h7
                refine xb_need ((m :: rest).all fun x => decide (x ∈ knownM st z0.2)) T hr ps_cx (v_v 0) R10.ins (vl_is (v_all (bs := (m :: rest).map fun x => decide (x ∈ knownM st z0.2)) rfl T.f_all (ll_sl (ll_is (cp_ll (lc_map (i := 6) (own := [("member", 6)]) (ws := m :: rest) (enc := fun a => V.str (S a)) (fun x => V.bl (decide (x ∈ knownM st z0.2))) (il_L (vl_sl (v_v 4) (sq_of h10))) (by omega)
                  (blkOk_by (N := nReaderGroupLine) (sc := defScope sReaderGroupLine) (by decide +kernel)) (fun _ _ _ _ _ x hx => vl_is (vc (c_inL (v_v 6) (vl_sl (v_v 3) (sq_of k10)) rfl (flat_strs _))) (by rw [inV_strs])))) (by rw [List.map_map]; rfl)))) (by rw [all_map_id])) (fun q5 H11 e11 => ?_) fun q => bad ?_ H10 E10
                · have q5' : ∀ x ∈ m :: rest, x ∈ knownM st z0.2 := fun x hx => of_decide_eq_true (List.all_eq_true.mp q5 x hx)
                  rw [if_pos ⟨q1, q2.1, q3.1, q3.2, q4.1, q4.2, q5'⟩] at em
                  have E11 := E10.trans e11
                  have R11 := R10.mono e11
                  refine xb_appE (l := c) (xs := cs) (v_fld T.cb_Reader (v_v 0) R11.ins rfl) (E11 _ _ hcs) (fun H12 e12 => ?_) (by rw [len_cs hR.sta hcs]; omega)
                  have E12 := E11.trans e12
                  refine xe_d (d := Gp.d ⟨fn, a, m :: rest⟩) (d_tup (da_cons (d_str (v_ixW0 1 (vl_sl (v_v 1) (sq_of (E12 _ _ hw))) v_int rfl)) (da_cons (d_str (v_ixW0 2 (vl_sl (v_v 1) (sq_of (E12 _ _ hw))) v_int rfl)) (da_cons (d_tupL T.f_tuple (vl_sl (v_v 4) (sq_of ((e11.trans e12) _ _ h10))) TpA.of_strs) da_nil)))) fun y H13 e13 ty => ?_
                  have E13 := E12.trans e13
                  have R13 := (R11.mono e12).mono e13
                  have hm : am ≠ c := fun q => R13.amn (by rw [q]; simp)
                  refine ⟨E13 _ _ hcs, xb_nil (k1 _ em _ _ _ _ _ (R13.upd (E13 _ _ hcs) hm (R13.sta.group (E13 _ _ hcs) ty) R13.amn ⟨R13.ok.f4, R13.ok.f, ?_, ?_, R13.ok.t5, R13.ok.t⟩))⟩
                  · show (st.groups ++ [_]).length ≤ 9
                    rw [List.length_append, List.length_singleton]; omega
                  · intro f hf
                    rcases List.mem_append.mp hf with q | q
                    · exact R13.ok.g f q
                    · simp only [List.mem_cons, List.not_mem_nil, or_false] at q
                      subst q
                      exact ⟨q3.1, q4.1⟩
                · rw [em, if_neg]
                  rintro ⟨_, _, _, _, _, _, y⟩
                  rw [List.all_eq_true.mpr fun x hx => decide_eq_true (y x hx)] at q
                  cases q
              · rw [em, if_neg]
                rintro ⟨_, _, _, _, y1, y2, _⟩
                rw [decide_eq_true y1, decide_eq_true y2] at q
                cases q
            · rw [em, if_neg]
              rintro ⟨_, _, y1, y2, _⟩
              rw [y1, decide_eq_false y2] at q
              cases q
    · simp only [Bool.and_eq_false_iff, decide_eq_false_iff_not] at q
      unfold groupM
      split
      · split
        · rw [if_neg]
          rintro ⟨_, y, _⟩
          simp only [List.length_cons] at q
          omega
        · rfl
      · rfl
  · unfold groupM
    split
    · split
      · rw [if_neg]
        rintro ⟨y, _⟩
        rw [decide_eq_true y] at q
        cases q
      · rfl
    · rfl
end
end Gw

set_option maxRecDepth 100000
set_option maxHeartbeats 4000000
namespace Gw
open PySem PySem.Spec PyProof.Rows L2 Evl SX
section
variable {P : Program} {w : World} {K : PySem.W.Frag} {mg : Str → Option Value} {base : Heap}
theorem GtAt.lst {H : Hp} {p : Addr × Addr} {g : Gt} (h : GtAt false H p g) : H p.1 = some (.lst [.str (S g.name), .str (S g.order), .ref p.2]) ∧ ∃ rs, H p.2 = some (.lst rs) ∧ TpA H rs (g.rules.map Rl.d) := by
  obtain ⟨h1, h2⟩ := h
  rw [if_neg (by decide)] at h1
  exact ⟨h1, h2⟩
theorem ok_gateLine (T : Tx K mg) : Me P w K mg base 4 (CR K) "gate_line" (spLine K gateM) := by
  have GN : Gd P w K mg base 1 "is_name" spIsName := ok_isName T
  refine me_of T dReaderGateLine 29 T.m_Reader_gate_line scReaderGateLine (fun _ _ _ _ _ _ us hl => match us, hl with | [_, _], _ => rfl) (fun _ _ _ _ => spLine_len) fun f cdv A outer s H vs Q E hr ⟨H0, ad, dx, g, c, d, am, row, ps, st, wl, ws, e, hR, hw, hz, hne, k1, k2⟩ => ?_
  subst e
  have nd := scReaderGateLine.nd
  have hr1 : Room 1 (Cxd dReaderGateLine P w K mg base nReaderGateLine f cdv A outer s H E).A := hr.mono (by decide)
  have bad : gateM st ws = none → ∀ H', Ex H H' → Bad K row H' E := fun q H' e' => (k2 q).go (hR.sta.ex.trans e')
  obtain ⟨gs, hgs, hgp⟩ := hR.sta.gs
  have ld : (ps.map fun p => V.ref p.1).length = st.gates.length := by rw [List.length_map, len_ds hR.sta]
  refine xb_need (!decide (st.fields = []) && (decide (st.gates.length < 5) && decide (ws.length = 3))) T hr ps_cx (v_v 0) hR.ins (v_and (vl_is (vc (c_neNil hr (vl_sl (v_fld T.cb_Reader (v_v 0) hR.ins rfl) (sq_of hgs)))) (by rw [empty_iff (len_gs hR.sta hgs)])) fun _ => v_and (vl_is (vc (c_lt (v_lenL T.f_len (vl_sl (v_fld T.cb_Reader (v_v 0) hR.ins rfl) (sq_of hR.sta.ds))) (v_fld T.cb_Reader (v_v 0) hR.ins (v := .int 5) rfl))) (by rw [ld]; congr 1; exact decide_eq_decide.mpr (by omega))) fun _ => v_one (vl_is (vc (c_eq (v_lenL T.f_len (vl_sl (v_v 1) (sq_of hw))) v_int)) (by rw [List.length_map]; congr 1; exact decide_eq_decide.mpr (by rw [V.int.injEq]; omega)))) (fun q1 H1 e1 => ?_) fun q => bad ?_ H (Ex.refl H)
  · simp only [Bool.and_eq_true, Bool.not_eq_true', decide_eq_true_eq, decide_eq_false_iff_not] at q1
    have R1 := hR.mono e1
    match ws, hw, hz, k1, bad, q1 with
    | [w0, a, o], hw, hz, k1, bad, q1 =>
      obtain ⟨zs, z1, z2, z3⟩ := paired_zip hR.sta.gts
      have la : a.length ≤ 40000 := hz.2 a (by simp)
      have zl : zs.length ≤ 5 := by have := hR.ok.t5; rw [z2, List.length_map] at this; exact this
      refine xb_need (isNameM a && !decide (a ∈ st.gates.map (·.name))) T hr ps_cx (v_v 0) R1.ins (v_and (v_call GN hr1 passL (a_1 (v_ixW0 1 (vl_sl (v_v 1) (sq_of (e1 _ _ hw))) v_int rfl)) (spS1_v la)) fun _ => v_one (vl_is (vc (c_ninL (v_ixW0 1 (vl_sl (v_v 1) (sq_of (e1 _ _ hw))) v_int (w := a) rfl) (ll_sl (ll_is (ys := (st.gates.map (·.name)).map fun p => V.str (S p)) (cp_ll (lc_map (i := 2) (own := [("door", 2)]) (ws := zs) (enc := fun z => V.ref z.1.1) (fun z => V.str (S z.2.name)) (il_L (vl_sl (v_fld T.cb_Reader (v_v 0) R1.ins rfl) (sq_of (show H1 d = some (.lst (zs.map fun z => V.ref z.1.1)) by have := e1 _ _ hR.sta.ds; rw [z1, List.map_map] at this; exact this)))) (by omega)
        (blkOk_by (N := nReaderGateLine) (sc := defScope sReaderGateLine) (by decide +kernel)) (fun _ _ _ _ _ z hz => v_ixL (vl_sl (v_v 2) (sq_of (e1 _ _ (z3 z hz).lst.1))) v_int rfl))) (by rw [z2, List.map_map, List.map_map]; rfl))) rfl (flat_strs _))) (by rw [inV_strs]))) (fun q3 H2 e2 => ?_) fun q => bad ?_ H1 e1
      · simp only [Bool.and_eq_true, Bool.not_eq_true', decide_eq_false_iff_not] at q3
        have E2 := e1.trans e2
        have R2 := R1.mono e2
        have em : gateM st [w0, a, o] = if S o = "first" ∨ S o = "refusals" ∨ S o = "narrow" then some { st with gates := st.gates ++ [⟨a, o, []⟩] } else none := by
          unfold gateM
          dsimp only
          by_cases h : S o = "first" ∨ S o = "refusals" ∨ S o = "narrow"
          · rw [if_pos h, if_pos ⟨q1.1, q1.2.1, q3.1, q3.2, h⟩]
          · rw [if_neg h, if_neg fun z => h z.2.2.2.2]
        refine xb_need (decide (S o = "first") || (decide (S o = "refusals") || decide (S o = "narrow"))) T hr ps_cx (v_v 0) R2.ins (vl_is (vc (c_inT (xs := [.str "first", .str "refusals", .str "narrow"]) (v_ixW0 2 (vl_sl (v_v 1) (sq_of (E2 _ _ hw))) v_int (w := o) rfl) (vl_tu (v_g T.g_ORDERS rfl) (He.tupB_ok (T.c.exI 19) _)) rfl rfl)) (by rw [inV3])) (fun q4 H3 e3 => ?_) fun q => bad ?_ H2 E2
        · have q4' : S o = "first" ∨ S o = "refusals" ∨ S o = "narrow" := by simpa using q4
          rw [if_pos q4'] at em
          have E3 := E2.trans e3
          have R3 := R2.mono e3
          refine xb_appE (l := d) (v_fld T.cb_Reader (v_v 0) R3.ins rfl) R3.sta.ds (fun H4 e4 => ?_) (by rw [ld]; omega)
          have E4 := E3.trans e4
          refine xe_lst (xa_cons (xe_v (v_ixW0 1 (vl_sl (v_v 1) (sq_of (E4 _ _ hw))) v_int (w := a) rfl) fun H5 e5 => xa_cons (xe_v (v_ixW0 2 (vl_sl (v_v 1) (sq_of ((E4.trans e5) _ _ hw))) v_int (w := o) rfl) fun H6 e6 => xa_cons (xe_l (l_lst a_nil) fun r H7 hr' e7 h7 => xa_nil ⟨by simp, fun p hp => ?_⟩))))
          have E7 := ((E4.trans e5).trans e6).trans e7
          have en : Ex H7 (upd H7 p (.lst [.str (S a), .str (S o), .ref r])) := Ex.new hp
          have R8 := ((((R3.mono e4).mono e5).mono e6).mono e7).mono en
          have hrH : H r = none := fresh_back ((E4.trans e5).trans e6) hr'
          have hpH : H p = none := fresh_back E7 hp
          have rp : r ≠ p := fun q => by subst q; rw [hp] at h7; cases h7
          have old : ∀ x ∈ g :: c :: d :: ps.map (·.2), x ≠ r ∧ x ≠ p := by
            have key : ∀ x : Addr, (∃ xs, H x = some (.lst xs)) → x ≠ r ∧ x ≠ p := fun x ⟨xs, hx⟩ => ⟨fun q => (by rw [q, hrH] at hx; cases hx), fun q => (by rw [q, hpH] at hx; cases hx)⟩
            intro x hx
            simp only [List.mem_cons] at hx
            rcases hx with q | q | q | q
            · exact key x ⟨_, by rw [q]; exact hgs⟩
            · obtain ⟨cs, hcs, _⟩ := hR.sta.cs
              exact key x ⟨_, by rw [q]; exact hcs⟩
            · exact key x ⟨_, by rw [q]; exact hR.sta.ds⟩
            · obtain ⟨pr, hpr, ex⟩ := List.mem_map.mp q
              rw [z1] at hpr
              obtain ⟨z, hz, ez⟩ := List.mem_map.mp hpr
              obtain ⟨_, rs, hrs, _⟩ := (z3 z hz).lst
              exact key x ⟨_, by rw [← ex, ← ez]; exact hrs⟩
          have new0 : ∀ x : Addr, H x = none → H0 x = none := fun x hx => by
            cases hz0 : H0 x with
            | none => rfl
            | some u => have := hR.sta.ex _ _ hz0; rw [hx] at this; cases this
          have gt : GtAt false (upd H7 p (.lst [.str (S a), .str (S o), .ref r])) (p, r) ⟨a, o, []⟩ := ⟨by rw [if_neg (by decide), upd_same], [], en _ _ h7, .nil⟩
          have hds : (upd H7 p (.lst [.str (S a), .str (S o), .ref r])) d = some (.lst (ps.map fun p => V.ref p.1)) := R8.sta.ds
          have amne : am ≠ r ∧ am ≠ p := ⟨fun q => (by have := hR.amz; rw [q, hrH] at this; cases this), fun q => (by have := hR.amz; rw [q, hpH] at this; cases this)⟩
          have hm : am ≠ d := fun q => R8.amn (by rw [q]; simp)
          refine ⟨hds, xb_nil (k1 _ em _ _ _ _ _ (R8.upd hds hm (R8.sta.gate gt (new0 r hrH) (fun q => (old r q).1 rfl) (fun _ q => ?_) (fun _ q hq z => ?_)) ?_ ⟨R8.ok.f4, R8.ok.f, R8.ok.g9, R8.ok.g, ?_, ?_⟩))⟩
          · rw [List.map_append] at q
            have q' : p ∈ (g :: c :: d :: ps.map (·.2)) ∨ p = r := by
              simp only [List.mem_cons, List.mem_append, List.map_cons, List.map_nil, List.not_mem_nil, or_false] at q ⊢
              rcases q with q | q | q | q | q
              · exact .inl (.inl q)
              · exact .inl (.inr (.inl q))
              · exact .inl (.inr (.inr (.inl q)))
              · exact .inl (.inr (.inr (.inr q)))
              · exact .inr q
            rcases q' with q' | q'
            · exact (old p q').2 rfl
            · exact rp q'.symm
          · rw [z1] at hq
            obtain ⟨z', hz', ez⟩ := List.mem_map.mp hq
            have := (z3 z' hz').lst.1
            rw [ez, z, hrH] at this
            cases this
          · intro q
            rw [List.map_append] at q
            have q' : am ∈ (g :: c :: d :: ps.map (·.2)) ∨ am = r := by
              simp only [List.mem_cons, List.mem_append, List.map_cons, List.map_nil, List.not_mem_nil, or_false] at q ⊢
              rcases q with q | q | q | q | q
              · exact .inl (.inl q)
              · exact .inl (.inr (.inl q))
              · exact .inl (.inr (.inr (.inl q)))
              · exact .inl (.inr (.inr (.inr q)))
              · exact .inr q
            rcases q' with q' | q'
            · exact hR.amn q'
            · exact amne.1 q'
          · show (st.gates ++ [_]).length ≤ 5
            rw [List.length_append, List.length_singleton]; omega
          · intro f hf
            rcases List.mem_append.mp hf with q | q
            · exact R8.ok.t f q
            · simp only [List.mem_cons, List.not_mem_nil, or_false] at q
              subst q
              exact Nat.zero_le _
        · rw [em, if_neg]
          intro z
          simp only [Bool.or_eq_false_iff, decide_eq_false_iff_not] at q
          rcases z with z | z | z
          · exact q.1 z
          · exact q.2.1 z
          · exact q.2.2 z
      · unfold gateM
        dsimp only
        rw [if_neg]
        rintro ⟨_, _, y1, y2, _⟩
        rw [y1, decide_eq_false y2] at q
        cases q
    | [], _, _, _, _, q1 => simp at q1
    | [_], _, _, _, _, q1 => simp at q1
    | [_, _], _, _, _, _, q1 => simp at q1
    | _ :: _ :: _ :: _ :: _, _, _, _, _, q1 => simp at q1
  · unfold gateM
    split
    · rw [if_neg]
      rintro ⟨y1, y2, _⟩
      rw [decide_eq_false y1, decide_eq_true y2] at q
      simp at q
    · rfl
end
end Gw

set_option maxRecDepth 100000
set_option maxHeartbeats 4000000
/-! None in xs, [] in xs. -/
namespace Gw
open PySem PySem.Spec PyProof.Rows L2 Evl SX
def NonTup (K : PySem.W.Frag) (H : Hp) (z : V) : Prop := z = .non ∨ ∃ a xs, z = .ref a ∧ SqT K H a xs
def isNonV : V → Bool
  | .non => true
  | _ => false
def isNonU : Value → Bool
  | .none => true
  | _ => false
section
variable {X : Cx} {a b : Expr} {σ : L2.St} {H : Hp} {xs : List V}
theorem nt_at {pins : List (Addr × Obj)} {s : Shared} {A : Around} (I : Inv X pins σ H s) (hu : A.units < cLine) {z : V} {u : Value} (r : RelV z u) (f : NonTup X.K H z) : SeqAt.EqAt A s u .none (isNonU u) ∧ isNonU u = isNonV z := by
  rcases f with rfl | ⟨p, ys, rfl, h⟩
  · cases r
    exact ⟨SeqAt.EqAt.same _, rfl⟩
  · cases r
    obtain ⟨its, _, t, _⟩ := I.tuple h
    exact ⟨SeqAt.EqAt.tuple_none t hu, rfl⟩
theorem nt_all {pins : List (Addr × Obj)} {s : Shared} {A : Around} (I : Inv X pins σ H s) (hu : A.units < cLine) : ∀ {xs : List V} {us : List Value}, Vals xs us → (∀ z ∈ xs, NonTup X.K H z) → (∀ u ∈ us, SeqAt.EqAt A s u .none (isNonU u)) ∧ us.any isNonU = xs.any isNonV
  | _, _, .nil, _ => ⟨fun u h => (by cases h), rfl⟩
  | y :: xs, u :: us, .cons r t, f => by
    obtain ⟨h1, h2⟩ := nt_at I hu r (f y (by simp))
    obtain ⟨k1, k2⟩ := nt_all I hu t fun z hz => f z (List.mem_cons_of_mem _ hz)
    exact ⟨fun u' hu' => by
      rcases List.mem_cons.mp hu' with e | e
      · subst e; exact h1
      · exact k1 u' e, by rw [List.any_cons, List.any_cons, h2, k2]⟩
theorem op_noneNin (hu : X.A.units + 1 < cLine) : OpR X (compareOp .NotIn) (fun x y H Q => ∃ p xs, x = .non ∧ y = .ref p ∧ SqL X.K H p xs ∧ (∀ z ∈ xs, NonTup X.K H z) ∧ Q (.bl (!xs.any isNonV)) H) := by
  intro pins s σ H x y v u Q I rx ry h
  obtain ⟨p, xs, rfl, rfl, hq, f, q⟩ := h
  cases rx
  obtain rfl : u = Value.ref p := ry
  obtain ⟨its, rv, hl, _⟩ := I.list hq
  obtain ⟨k1, k2⟩ := nt_all (A := X.A.in1) I (show X.A.units + 1 < cLine from hu) rv f
  refine SeqAt.notIn_listAt isNonU hl.isList (fun z hz => k1 z (by simpa using hz)) ⟨.bl _, H, I, ?_, q⟩
  show Value.bool _ = Value.bool _
  rw [← k2]
  simp
theorem c_noneNin {k : Nat} {j : Nat} {p : Pos} (hr : Room k X.A) (hb : Sl X b σ H xs) (f : ∀ H1, Ex H H1 → ∀ z ∈ xs, NonTup X.K H1 z) (hm : behindInMarks .NotIn b = false := by rfl) : Cm X .NotIn (.Constant .none j p) b σ H (!xs.any isNonV) := cm_of (op_noneNin (hu_of hr)) hm
  fun H1 e1 Q q => v_non H1 e1 _ fun H2 e2 => hb H2 (e1.trans e2) _ fun t H3 e3 h3 => ⟨t, xs, rfl, rfl, h3, f H3 ((e1.trans e2).trans e3), q H3 (e2.trans e3)⟩
/-- [] in xs, lists in xs -/
def LstOf (K : PySem.W.Frag) (H : Hp) (z : V) (e : Bool) : Prop := ∃ a ys, z = .ref a ∧ SqL K H a ys ∧ ys.isEmpty = e
theorem nil_at {pins : List (Addr × Obj)} {s : Shared} {A : Around} (I : Inv X pins σ H s) (hu : A.units < cLine) {z : V} {u : Value} {e : Bool} {q : Addr} (r : RelV z u) (f : LstOf X.K H z e) (hq : SqL X.K H q []) : SeqAt.EqAt A s u (.ref q) e := by
  obtain ⟨p, xs, rfl, hp, rfl⟩ := f
  obtain rfl : u = Value.ref p := r
  obtain ⟨its, rv, ⟨⟨c1, d1, da1, s1⟩, n1, o1, e1, z1, f1⟩, _⟩ := I.list hp
  obtain ⟨jts, rw', ⟨⟨c2, d2, da2, s2⟩, n2, o2, e2, z2, f2⟩, _⟩ := I.list hq
  simp only at e1 f1 e2 f2
  subst e1 f1 e2 f2
  cases rw'
  have t1 : s.TypeIs (.ref p) "list" := ⟨_, o1, rfl⟩
  have t2 : s.TypeIs (.ref q) "list" := ⟨_, o2, rfl⟩
  have hl : its.length = xs.length := rv.length.symm
  intro prog w E Q k
  by_cases epq : p = q
  · subst epq
    rw [o1] at o2
    have : its = [] := by
      have := Option.some.inj o2
      simp at this
      exact this.2.1.1
    rw [this] at hl
    have hx : xs = [] := List.eq_nil_of_length_eq_zero (by rw [← hl]; rfl)
    subst hx
    exact SeqAt.EqAt.same _ prog w E Q k
  · refine SeqAt.eqP_refs epq (fun E' Q' k' => ?_) E Q k
    cases xs with
    | nil =>
      cases rv
      refine wpAny_richCompare_same_room (op := .Eq) t1 t2 PySem.F.slot_list_eq (call_meets PySem.F.slot_list_eq t1 PySem.F.entry_list_eq (PySem.F.args_list_eq_2 _ _) (SeqAt.list_eqAt p q #[] #[] n1 n2 d1 d2 s1 s2 rfl fun _ => true) ⟨o1, o2, fun j h1 _ => absurd h1 (by simp), ?_⟩) hu
      exact ⟨(fun x => nomatch x), k'⟩
    | cons z zs =>
      refine wpAny_richCompare_same_room (op := .Eq) t1 t2 PySem.F.slot_list_eq (call_meets PySem.F.slot_list_eq t1 PySem.F.entry_list_eq (PySem.F.args_list_eq_2 _ _) (SeqAt.list_eq_lengthsAt p q its.toArray #[] n1 n2 d1 d2 s1 s2 (by simp [hl])) ⟨o1, o2, ?_⟩) hu
      exact ⟨(fun x => nomatch x), k'⟩
def emptyAt (h : Heap) (v : Value) : Bool := match v with
  | .ref a => (match h.get? a with
    | some o => (match o.data with
      | .seq items _ => items.isEmpty
      | _ => false)
    | none => false)
  | _ => false
theorem emptyAt_of {pins : List (Addr × Obj)} {s : Shared} (I : Inv X pins σ H s) {z : V} {u : Value} {e : Bool} (r : RelV z u) (f : LstOf X.K H z e) : emptyAt s.heap u = e := by
  obtain ⟨p, xs, rfl, hp, rfl⟩ := f
  obtain rfl : u = Value.ref p := r
  obtain ⟨its, rv, ⟨⟨c1, d1, da1, s1⟩, n1, o1, e1, z1, f1⟩, _⟩ := I.list hp
  simp only at e1 f1
  subst e1 f1
  unfold emptyAt
  dsimp only
  rw [o1]
  have hl : its.length = xs.length := rv.length.symm
  cases xs with
  | nil => cases rv; rfl
  | cons _ _ => cases rv; rfl
theorem nil_all {pins : List (Addr × Obj)} {s : Shared} {A : Around} (I : Inv X pins σ H s) (hu : A.units < cLine) {q : Addr} (hq : SqL X.K H q []) : ∀ {zs : List (V × Bool)} {us : List Value}, Vals (zs.map (·.1)) us → (∀ z ∈ zs, LstOf X.K H z.1 z.2) → (∀ u ∈ us, SeqAt.EqAt A s u (.ref q) (emptyAt s.heap u)) ∧ us.any (emptyAt s.heap) = zs.any (·.2)
  | [], _, .nil, _ => ⟨fun u h => (by cases h), rfl⟩
  | y :: zs, u :: us, .cons r t, f => by
    have h0 := emptyAt_of I r (f y (by simp))
    have h1 := nil_at I hu r (f y (by simp)) hq
    obtain ⟨k1, k2⟩ := nil_all I hu hq t fun z hz => f z (List.mem_cons_of_mem _ hz)
    refine ⟨fun u' hu' => ?_, by rw [List.any_cons, List.any_cons, h0, k2]⟩
    rcases List.mem_cons.mp hu' with e | e
    · subst e; rw [h0]; exact h1
    · exact k1 u' e
theorem op_nilIn (hu : X.A.units + 1 < cLine) : OpR X (compareOp .In) (fun x y H Q => ∃ (q p : Addr) (zs : List (V × Bool)), x = .ref q ∧ y = .ref p ∧ SqL X.K H q [] ∧ SqL X.K H p (zs.map (·.1)) ∧ (∀ z ∈ zs, LstOf X.K H z.1 z.2) ∧ Q (.bl (zs.any (·.2))) H) := by
  intro pins s σ H x y v u Q I rx ry h
  obtain ⟨q, p, zs, rfl, rfl, hq, hp, f, k⟩ := h
  obtain rfl : v = Value.ref q := rx
  obtain rfl : u = Value.ref p := ry
  obtain ⟨its, rv, hl, _⟩ := I.list hp
  obtain ⟨k1, k2⟩ := nil_all (A := X.A.in1) I (show X.A.units + 1 < cLine from hu) hq rv f
  refine SeqAt.in_listAt (emptyAt s.heap) hl.isList (fun z hz => k1 z (by simpa using hz)) ⟨.bl _, H, I, ?_, k⟩
  show Value.bool _ = Value.bool _
  rw [← k2]
  simp
theorem c_nilIn {k : Nat} {zs : List (V × Bool)} {p : Pos} (hr : Room k X.A) (hb : Sl X b σ H (zs.map (·.1))) (f : ∀ H1, Ex H H1 → ∀ z ∈ zs, LstOf X.K H1 z.1 z.2) (hm : behindInMarks .In b = false := by rfl) : Cm X .In (.List [] p) b σ H (zs.any (·.2)) := cm_of (op_nilIn (hu_of hr)) hm
  fun H1 e1 Q q => (l_lst a_nil) H1 e1 _ fun r H2 _ e2 h2 => hb H2 (e1.trans e2) _ fun t H3 e3 h3 => ⟨r, t, zs, rfl, rfl, ex_l e3 (sq_of h2), h3, f H3 ((e1.trans e2).trans e3), q H3 (e2.trans e3)⟩
end
end Gw

set_option maxRecDepth 100000
set_option maxHeartbeats 4000000
namespace Gw
open PySem PySem.Spec PyProof.Rows L2 Evl SX
theorem litBang : ("!" : Str) = S [33] := by decide +kernel
theorem litBar : ("|" : Str) = S [124] := by decide +kernel
def someD : PyData → Bool
  | .none => false
  | _ => true
/-- the texts of a condition's atoms -/
def cTexts (r : W) : List W := TL.spl [124] 0 [] (if r.head? == some 33 then r.tail else r)
def cKnown (st : Ho) (f : Fd) : List W := if isNames f.k then knownM st f else []
def cData (st : Ho) (f : Fd) (r : W) : List PyData := (cTexts r).map (atomM f.k (cKnown st f))
theorem condM_none {st : Ho} {a : W} (h : TL.par [58] [] a = none) : condM st a = none := by unfold condM; rw [h]
theorem condM_nof {st : Ho} {a n r : W} (h : TL.par [58] [] a = some (n, r)) (hf : st.fields.find? (fun f => f.name == n) = none) : condM st a = none := by
  unfold condM; rw [h]; dsimp only; rw [hf]
theorem condM_some {st : Ho} {a n r : W} {f : Fd} (h : TL.par [58] [] a = some (n, r)) (hf : st.fields.find? (fun f => f.name == n) = some f) :
    condM st a = if (cTexts r).length ≤ 5 ∧ (cData st f r).all someD = true then some (n, .tuple [strD n, .bool (r.head? == some 33), .tuple (cData st f r)]) else none := by
  unfold condM; rw [h]; dsimp only; rw [hf]
  rfl
theorem tp_someD {H : Hp} {v : V} {d : PyData} (h : Tp H v d) : isNonV v = !someD d := by cases h <;> rfl
theorem tpa_someD {H : Hp} : ∀ {vs : List V} {ds : List PyData}, TpA H vs ds → (!vs.any isNonV) = ds.all someD
  | _, _, .nil => rfl
  | _, _, .cons h t => by
    rw [List.any_cons, List.all_cons, ← tpa_someD t, tp_someD h]
    simp
theorem atom_tup (k : FK) (known : List W) (a : W) : atomM k known a = .none ∨ ∃ ds, atomM k known a = .tuple ds := by
  have h1 : ∀ (c : Prop) [Decidable c] (ds : List PyData), (if c then PyData.tuple ds else PyData.none) = .none ∨ ∃ es, (if c then PyData.tuple ds else PyData.none) = .tuple es := fun c _ ds => by
    by_cases h : c
    · rw [if_pos h]; exact .inr ⟨_, rfl⟩
    · rw [if_neg h]; exact .inl rfl
  have h2 : ∀ (c : Prop) [Decidable c] (ds : List PyData), (if c then PyData.none else PyData.tuple ds) = .none ∨ ∃ es, (if c then PyData.none else PyData.tuple ds) = .tuple es := fun c _ ds => by
    by_cases h : c
    · rw [if_pos h]; exact .inl rfl
    · rw [if_neg h]; exact .inr ⟨_, rfl⟩
  cases k with
  | names ws => exact h1 _ _
  | tree ws =>
    show pathM a ws = .none ∨ _
    show _ ∨ ∃ ds, pathM a ws = .tuple ds
    unfold pathM
    split
    · exact h1 _ _
    · exact h1 _ _
  | number n =>
    show fromM a n = .none ∨ ∃ ds, fromM a n = .tuple ds
    unfold fromM
    split
    · split
      · exact .inl rfl
      · exact h2 _ _
    · split
      · exact .inl rfl
      · split
        · exact h2 _ _
        · exact .inr ⟨_, rfl⟩
  | bits n =>
    show firstM a n = .none ∨ ∃ ds, firstM a n = .tuple ds
    unfold firstM
    split
    · exact h1 _ _
    · exact h1 _ _
  | marks ws =>
    show marksM a ws = .none ∨ ∃ ds, marksM a ws = .tuple ds
    unfold marksM
    split
    · exact h2 _ _
    · exact .inl rfl
  | clock =>
    show clockM a = .none ∨ ∃ ds, clockM a = .tuple ds
    unfold clockM
    split
    · split
      · exact .inl rfl
      · exact .inr ⟨_, rfl⟩
    · split
      · exact h2 _ _
      · exact .inl rfl
def spCond (K : PySem.W.Frag) : Sp := fun vs H Q E => ∃ (H0 : Hp) (ad dx g c d am : Addr) (row : Int) (ps : List (Addr × Addr)) (st : Ho) (a : W), vs = [.ref ad, .str (S a)] ∧ RdAt K H0 ad dx g c d am row ps st H ∧ a.length ≤ 40000 ∧
  (∀ n dt, condM st a = some (n, dt) → GiveD dt H Q) ∧ (condM st a = none → Bad K row H E)
section
variable {P : Program} {w : World} {K : PySem.W.Frag} {mg : Str → Option Value} {base : Heap}
theorem ok_condIn (T : Tx K mg) : Me P w K mg base 5 (CR K) "condition_in" (spCond K) := by
  have GA : Gd P w K mg base 4 "atom_in" spAtom := ok_atomIn T
  have MW : Me P w K mg base 1 (CR K) "words_for" (spWordsFor K) := ok_wordsFor T
  refine me_of T dReaderConditionIn 31 T.m_Reader_condition_in scReaderConditionIn (fun _ _ _ _ _ _ us hl => match us, hl with | [_, _], _ => rfl) (fun _ _ _ _ ⟨_, _, _, _, _, _, _, _, _, _, _, e, _⟩ => by subst e; rfl) fun f cdv A outer s H vs Q E hr ⟨H0, ad, dx, g, c, d, am, row, ps, st, z, e, hR, hz, k1, k2⟩ => ?_
  subst e
  have nd := scReaderConditionIn.nd
  have hr1 : Room 1 (Cxd dReaderConditionIn P w K mg base nReaderConditionIn f cdv A outer s H E).A := hr.mono (by decide)
  have hr3 : Room 3 (Cxd dReaderConditionIn P w K mg base nReaderConditionIn f cdv A outer s H E).A := hr.mono (by decide)
  obtain ⟨gs, hgs, hgp⟩ := hR.sta.gs
  obtain ⟨zs, z1, z2, z3⟩ := paired_zip hgp
  have zl : zs.length ≤ 4 := by have := hR.ok.f4; rw [z2, List.length_map] at this; exact this
  have comp : ∀ (n : W) (σ' : L2.St) (H1 : Hp), Ex H H1 → True := fun _ _ _ _ => trivial
  cases h : TL.par [58] [] z with
  | none =>
    refine xb_un3 2 3 4 (tu_is (ul_tu (u_partW litColon (v_v 1) v_str hz (by decide))) (parV_none h)) fun H1 e1 => ?_
    refine xb_setL (xs := ((zs.filter fun y => y.2.name == z).map fun y => y.1)) 5 (cp_ll (lc_fil (i := 10) (own := [("field", 10)]) (ws := zs) (enc := fun y => y.1) (fun y => y.2.name == z) (fun y => y.1) (il_L (vl_sl (v_fld T.cb_Reader (v_v 0) (hR.mono e1).ins rfl) (sq_of (by rw [← z1]; exact e1 _ _ hgs)))) (by omega)
      (blkOk_by (N := nReaderConditionIn) (sc := defScope sReaderConditionIn) (by decide +kernel)) (fun _ _ _ _ _ y hy => ?_) (fun _ _ _ _ _ y hy _ => v_v 10))) (fun fl H2 hfl e2 h2 => ?_)
    · obtain ⟨fa, tv, ea, ra, _⟩ := (z3 y hy).mono e1
      rw [ea]
      exact bl_is (bc (c_eq (v_ixT (vl_tu (v_v 10) (.inl ra)) v_int rfl) (v_v (v := .str (S z)) 2))) dec_str
    · have R2 := (hR.mono e1).mono e2
      exact xb_need false T hr3 ps_cx (v_v 0) R2.ins (vl_is (v_and (j := false) (k := false) (vl_is (vc (c_eq (v_v (v := .str (S [])) 3) v_str)) (by rw [litColon]; rfl)) fun q => by cases q) rfl) (fun q => by cases q) fun _ => (k2 (condM_none h)).go (e1.trans e2)
  | some pq =>
    obtain ⟨n, r⟩ := pq
    obtain ⟨ln, lr⟩ := par_lens h hz
    refine xb_un3 2 3 4 (tu_is (ul_tu (u_partW litColon (v_v 1) v_str hz (by decide))) (parV_some h)) fun H1 e1 => ?_
    have efind : st.fields.find? (fun f => f.name == n) = ((zs.filter fun y => y.2.name == n).head?).map (·.2) := by
      rw [find_head, z2, List.filter_map, List.head?_map]; rfl
    refine xb_setL (xs := ((zs.filter fun y => y.2.name == n).map fun y => y.1)) 5 (cp_ll (lc_fil (i := 10) (own := [("field", 10)]) (ws := zs) (enc := fun y => y.1) (fun y => y.2.name == n) (fun y => y.1) (il_L (vl_sl (v_fld T.cb_Reader (v_v 0) (hR.mono e1).ins rfl) (sq_of (by rw [← z1]; exact e1 _ _ hgs)))) (by omega)
      (blkOk_by (N := nReaderConditionIn) (sc := defScope sReaderConditionIn) (by decide +kernel)) (fun _ _ _ _ _ y hy => ?_) (fun _ _ _ _ _ y hy _ => v_v 10))) (fun fl H2 hfl e2 h2 => ?_)
    · obtain ⟨fa, tv, ea, ra, _⟩ := (z3 y hy).mono e1
      rw [ea]
      exact bl_is (bc (c_eq (v_ixT (vl_tu (v_v 10) (.inl ra)) v_int rfl) (v_v (v := .str (S n)) 2))) dec_str
    · have E2 := e1.trans e2
      have R2 := (hR.mono e1).mono e2
      cases hzf : zs.filter fun y => y.2.name == n with
      | nil =>
        rw [hzf] at h2 efind
        exact xb_need false T hr3 ps_cx (v_v 0) R2.ins (vl_is (v_and (j := true) (k := false) (vl_is (vc (c_eq (v_v (v := .str (S [58])) 3) v_str)) (by rw [litColon]; simp)) fun _ => v_one (vc (c_neNil hr (vl_sl (v_v 5) (sq_of h2))))) rfl) (fun q => by cases q) fun _ => (k2 (condM_nof h efind)).go E2
      | cons z0 zr =>
        rw [hzf] at h2 efind
        have m0 : z0 ∈ zs.filter fun y => y.2.name == n := by rw [hzf]; simp
        obtain ⟨m1, m2⟩ := List.mem_filter.mp m0
        have em := condM_some h efind
        refine xb_need true T hr3 ps_cx (v_v 0) R2.ins (vl_is (v_and (j := true) (k := true) (vl_is (vc (c_eq (v_v (v := .str (S [58])) 3) v_str)) (by rw [litColon]; simp)) fun _ => v_one (vc (c_neNil hr (vl_sl (v_v 5) (sq_of h2))))) rfl) (fun _ H3 e3 => ?_) fun q => by cases q
        have E3 := E2.trans e3
        have R3 := R2.mono e3
        refine xb_set 6 (vl_is (v_startswith (v_v (v := .str (S r)) 4) v_str) (by rw [litBang, sw1])) fun H4 e4 => ?_
        have lt : (if r.head? == some 33 then r.tail else r).length ≤ 40000 := by split; rw [List.length_tail]; omega; exact lr
        refine xb_setL 7 (l_splitW (a := if r.head? == some 33 then r.tail else r) litBar (v_if (k := r.head? == some 33) (b_v (v_v 6)) (fun q => v_slW (v_v 4) (o_s v_int) o_n lr (by rw [if_pos q, show ((1 : Int)) = ((1 : Nat) : Int) from rfl, cut_from, List.drop_one])) fun q => vl_is (v_v (v := .str (S r)) 4) (by rw [if_neg (by rw [q]; decide)])) v_str lt ⟨by decide, by decide⟩) fun tl H5 htl e5 h5 => ?_
        have E5 := (E3.trans e4).trans e5
        have R5 := (R3.mono e4).mono e5
        refine xb_need (decide ((cTexts r).length ≤ 5)) T hr3 ps_cx (v_v 0) R5.ins (vl_is (vc (c_le (v_lenL T.f_len (vl_sl (v_v 7) (sq_of h5))) (v_gi T.i_MOST_ATOMS))) (by rw [List.length_map]; congr 1; exact decide_eq_decide.mpr (by unfold cTexts; omega))) (fun q4 H6 e6 => ?_) fun q => (k2 (by rw [em, if_neg fun y => (of_decide_eq_false q) y.1])).go E5
        have q4' := of_decide_eq_true q4
        have E6 := E5.trans e6
        have R6 := R5.mono e6
        have zf := (z3 z0 m1).mono E6
        have fok := hR.ok.f z0.2 (by rw [z2]; exact List.mem_map_of_mem m1)
        have h6 := ((((e3.trans e4).trans e5).trans e6) _ _ h2)
        refine xb_setE 8 (xe_mono (Q := fun v H7 => ∃ wl, v = .ref wl ∧ Ex H6 H7 ∧ H7 wl = some (.lst ((cKnown st z0.2).map fun a => V.str (S a)))) ?_ fun v H7 ⟨wl, ev, e7, h7⟩ => ?_)
        · obtain ⟨fa, tv, ea, ra, _⟩ := zf
          refine xe_if (k := isNames z0.2.k) (bl_is (bc (c_eq (v_ixT (vl_tu (v_ixLn 0 (v := .ref fa) (vl_sl (v_v 5) (sq_of h6)) v_int (by rw [← ea]; rfl)) (.inl ra)) v_int rfl) v_str)) (by rw [dec_V, word_names])) (fun q H7 e7 => ?_) fun q H7 e7 => ?_
          · obtain ⟨ns, en⟩ := isNames_of q
            have nsl : ns.length ≤ 9 := by have := fok.2.few; rw [en] at this; exact this
            refine xe_meth T.cb_Reader MW hr1 passL (v_v 0) (R6.mono e7).ins rfl fun H8 e8 => xa_cons (xe_v (v_ixLn 0 (v := z0.1) (vl_sl (v_v 5) (sq_of ((e7.trans e8) _ _ h6))) v_int rfl) fun H9 e9 => xa_nil ⟨H0, ad, dx, g, c, d, am, row, ps, st, z0.2, z0.1, ns, rfl, ((R6.mono e7).mono e8).mono e9, ((z3 z0 m1).mono (((E6.trans e7).trans e8).trans e9)), en, nsl, fun kl H10 hkl e10 h10 => ⟨kl, rfl, ((e7.trans e8).trans e9).trans e10, by rw [h10]; unfold cKnown; rw [if_pos q]⟩⟩)
          · exact xe_l (l_lst a_nil) fun p H8 hp e8 h8 => ⟨p, rfl, e7.trans e8, by rw [h8]; unfold cKnown; rw [if_neg (by rw [q]; decide)]; rfl⟩
        · subst ev
          have E7 := E6.trans e7
          have R7 := R6.mono e7
          have tlen : ∀ x ∈ cTexts r, x.length ≤ 40000 := all_spl (by decide) lt
          refine xb_setC 9 (lc_gen (i := 11) (own := [("text", 11)]) (ws := cTexts r) (enc := fun a => V.str (S a)) (fun _ => true) (fun D x y H => Tp H y (atomM z0.2.k (cKnown st z0.2) x)) nd rfl (blkOk_by (N := nReaderConditionIn) (sc := defScope sReaderConditionIn) (by decide +kernel)) (il_L (vl_sl (v_v 7) (sq_of (e7 _ _ (e6 _ _ h5))))) (by omega) (fun _ _ _ _ _ => ⟨by assumption, rfl, Or.inl rfl, Or.inr rfl⟩) (by intro _; rfl) (fun _ _ _ _ _ _ _ => q_nil)
            (fun _ _ _ _ _ x hx _ D acc H8 e8 _ _ Q' k' => xe_call GA hr passL ((a_cons (v_v 11) (a_cons (v_ixLn 0 (v := z0.1) (vl_sl (v_v 5) (sq_of (e8 _ _ (e7 _ _ h6)))) v_int rfl) (a_1 (v_v 8)))) H8 (Ex.refl _) _ fun H9 e9 => ⟨x, z0.2, z0.1, wl, cKnown st z0.2, rfl, (z3 z0 m1).mono ((E7.trans e8).trans e9), (e8.trans e9) _ _ h7, tlen x hx, fun H10 y e10 ty => k' y H10 (e9.trans e10) ty⟩))
            (fun _ _ _ _ _ e t => t.mono e) (fun _ _ _ _ _ _ t hl => t.tex ((Fex.refl _).mut (noTup.lst hl)).tex)) fun al ys H8 hal e8 h8 pr => ?_
          rw [filter_tt] at pr
          have ta : TpA H8 ys (cData st z0.2 r) := TpA.of_paired pr
          have E8 := E7.trans e8
          have R8 := R7.mono e8
          have ntp : ∀ H9, Ex H8 H9 → ∀ y ∈ ys, NonTup K H9 y := fun H9 e9 y hy => by
            obtain ⟨j, hj⟩ := List.mem_iff_getElem?.mp hy
            obtain ⟨dd, hd, t⟩ := (ta.mono e9).get hj
            unfold cData at hd
            rw [List.getElem?_map] at hd
            cases hc : (cTexts r)[j]? with
            | none => rw [hc] at hd; cases hd
            | some x =>
              rw [hc] at hd
              cases hd
              rcases atom_tup z0.2.k (cKnown st z0.2) x with q | ⟨es, q⟩
              · rw [q] at t; cases t; exact .inl rfl
              · rw [q] at t
                cases t with
                | tup h1 _ => exact .inr ⟨_, _, rfl, .inl h1⟩
          refine xb_need ((cData st z0.2 r).all someD) T hr3 ps_cx (v_v 0) R8.ins (vl_is (vc (c_noneNin hr (vl_sl (v_v 9) (sq_of h8)) ntp)) (by rw [tpa_someD ta])) (fun q9 H9 e9 => ?_) fun q => (k2 (by rw [em, if_neg fun y => by rw [y.2] at q; cases q])).go E8
          refine xb_retD (d_tup (da_cons (d_str (v_v (v := .str (S n)) 2)) (da_cons (d_v (v_v (v := .bl (r.head? == some 33)) 6) (.bl _)) (da_cons (d_tupL T.f_tuple (vl_sl (v_v 9) (sq_of (e9 _ _ h8))) (ta.mono e9)) da_nil)))) fun H10 v e10 t => ?_
          exact k1 n _ (by rw [em, if_pos ⟨q4', q9⟩]; rfl) H10 v ((E8.trans e9).trans e10) t
end
end Gw

set_option maxRecDepth 100000
set_option maxHeartbeats 4000000
/-! name = [e for x in xs], where e may raise: what a call in e lets out leaves the comprehension. -/
namespace GwC
open PySem PySem.Spec PyProof.Rows L2
section
variable {X : Cx} {W : WX} {E : XK} {ce : Env} {fp : List Addr} {pins : List (Addr × Obj)} {σ : L2.St} {H3 H1 : Hp} {s3 s1 s2 : Shared}
theorem comp_flew (hs : X.stack = X.env :: X.outer) (hf : X.env.frame = some X.env.locals) (tk : Takes X W) (hW : ∀ cls d H, E cls d H → W cls d σ H) (I3 : Inv X pins σ H3 s3) (hcf : ce.frame = X.env.frame) (hcL : ce.locals = s3.heap.objs.size)
    (hfp : ∀ b ∈ fp, (b ∈ X.ex ∨ X.s_0.heap.objs.size ≤ b) ∧ b ≠ X.env.locals ∧ (∀ x c, X.env.cells.lookup x = some c → c ≠ b) ∧ ∀ p ∈ X.pn ++ pins, p.1 ≠ b) (u : Un (frs X.stack) fp H3 H1 s3.heap s1.heap) (ho : s1.os = s3.os) (hC : ∃ m, s1.heap.Ns ce.locals m) (nC : H1 ce.locals = none)
    {e : Value} (c : L2.CX X.prog X.w X.stack H1 s1 E e s2) : notedBy (model X.prog X.w) X.A ce (fun x s' => CompFails (model X.prog X.w) X.A X.xe ce x s') e s2 := by
  obtain ⟨a, B, H2, cls, d, rfl, fl, hok2, ub, na, os, ag, hE⟩ := c
  obtain ⟨m, oC, es, ep, hoC, hdC, hrC⟩ := hC
  have small : ∀ {b : Addr} {o : Obj}, s3.heap.get? b = some o → b ≠ ce.locals := fun {b o} z => by rw [hcL]; exact Nat.ne_of_lt (Heap.lt_size z)
  have nofr : ce.locals ∉ frs X.stack := fun z => by
    obtain ⟨_, o, e, _⟩ := I3.stack.mem z
    exact small e rfl
  obtain ⟨B2, g1, g2⟩ := restrict B fun b => decide (b ≠ ce.locals)
  have sub : ∀ b o, B2.get? b = some o → B.get? b = some o ∧ b ≠ ce.locals := fun b o z => by
    by_cases hb : b = ce.locals
    · rw [hb, g2 _ (by simp)] at z; cases z
    · exact ⟨by rw [← g1 b (by simp [hb])]; exact z, hb⟩
  have sup : ∀ b o, b ≠ ce.locals → B.get? b = some o → B2.get? b = some o := fun b o hb z => by rw [g1 b (by simp [hb])]; exact z
  have non : ∀ b, B.get? b = none → B2.get? b = none := fun b z => by
    cases q : B2.get? b with
    | none => rfl
    | some o => rw [(sub b o q).1] at z; cases z
  have nBC : B2.get? ce.locals = none := g2 _ (by simp)
  obtain ⟨st, en, ff, oe, vs, T, oT, ts, t1, t2, t3, t4, t5, t6, t7, t8, t9⟩ := fl
  have fl2 : HandSPX.FlyingZ B2 (X.env :: X.outer) a (Zc cls d) s2.heap := by
    rw [← hs]
    exact ⟨fun b o z => st b o (sub b o z).1, non a en, funFrames_none ff fun L hL => non L (ff.mem hL).1, oe, vs, T, oT, ts, t1, t2, t3, t4, non T t5, t6, t7, t8, t9⟩
  have hfr : X.A.frames = some (X.env :: X.outer) := by rw [I3.ok.frames, hs]
  show wpAny _ X.A (noteFrame (.ref a) ce) _ _ s2
  rw [noteFrame_env _ hcf]
  refine HandSPX.looks_onZ Zc.steady hfr hf fl2 fun h1 held up1 => ?_
  have gC2 : s2.heap.get? ce.locals = some oC := st _ _ (ub.keep _ _ hoC nC nofr)
  obtain ⟨sl, gC1⟩ := up1 _ _ gC2 fun vs q => by rw [hdC] at q; cases q
  refine ⟨m, ⟨_, es, ep, gC1, hdC, hrC⟩, fun h2 m2 hn2 sb2 => ?_⟩
  obtain ⟨b1, b0, f1, oe', vs', T', oT', ts', u1, u2, u3, u4, u5, u6, u7, u8, u9⟩ := held
  have nofld : ∀ {b : Addr} {o : Obj} {ws : Array Value}, h1.get? b = some o → o.data = .fields ws → b ≠ ce.locals := fun {b o ws} z q w => by
    rw [w, gC1] at z
    cases z
    rw [show oC.data = _ from hdC] at q
    cases q
  have held2 : HandSPX.HeldZ B2 (X.env :: X.outer) a (Zc cls d) X.env.locals h2 :=
    ⟨fun b o z => (sb2.2 b (sub b o z).2).trans (b1 b o z), b0, Heap.FunFrames.sameBut sb2 hn2 f1, oe', vs', T', oT', ts', (sb2.2 a (nofld u1 u3)).trans u1, u2, u3, u4, u5, u6, (sb2.2 T' (nofld u7 u8)).trans u7, u8, u9⟩
  unfold PySem.passOn
  refine wpAny_bind (wpAny_field ((sb2.2 a (nofld u1 u3)).trans u1) u3 u4 ?_)
  rw [if_neg (show ¬ ((Value.ref T' == Value.none) = true) from by simp), hcf, hf]
  refine wpAny_bind (HandSPX.setFlight_onZ held2 fun h4 held4 up4 => wpAny_throw (tk _ _ ?_))
  -- the state without the exception, told of the def
  obtain ⟨G, k1, k2⟩ := restrict s2.heap fun b => (B2.get? b).isSome || decide (b ∈ frs X.stack)
  have gB : ∀ b o, B2.get? b = some o → G.get? b = some o := fun b o z => by
    rw [k1 b (by simp [z])]
    exact st b o (sub b o z).1
  have gF : ∀ b, b ∈ frs X.stack → G.get? b = s2.heap.get? b := fun b hb => k1 b (by simp [hb])
  have og : ∀ b o, G.get? b = some o → s2.heap.get? b = some o ∧ ((B2.get? b).isSome = true ∨ b ∈ frs X.stack) := fun b o z => by
    cases q : ((B2.get? b).isSome || decide (b ∈ frs X.stack)) with
    | false => rw [k2 b q] at z; cases z
    | true =>
      rw [k1 b q] at z
      exact ⟨z, by simpa [Bool.or_eq_true] using q⟩
  have ogC : ∀ b o, G.get? b = some o → b ≠ ce.locals := fun b o z w => by
    rcases (og b o z).2 with q | q
    · rw [w, nBC] at q; cases q
    · rw [w] at q; exact nofr q
  have hC2 : H2 ce.locals = none := ub.free _ _ hoC nC
  have hokB : HOk X.prog X.w H2 B2 := fun b o z => (hok2 b o z).stay
    (fun c v hc y => sup c v (fun w => by
      rcases hc with hc | hc
      · rw [← hc, w, hC2] at z; cases z
      · rw [w, hC2] at hc; cases hc) y) (fun c hc => hc) (fun c xs hc => hc)
  have U : Un (frs X.stack) fp H3 H2 s3.heap G := {
    keep := fun b o z n nf nx => gB b o (sup b o (small z) (ub.keep b o (u.keep b o z n nf nx) (u.free b o z n nx) nf))
    slot := fun b o z n hb nx => by
      obtain ⟨sl1, e1⟩ := u.slot b o z n hb nx
      obtain ⟨sl2, e2⟩ := ub.slot b _ e1 hb
      exact ⟨sl2, by rw [gF b hb]; exact e2⟩
    free := fun b o z n nx => by
      obtain ⟨sl1, e1⟩ := u.any z n nx
      exact ub.free b _ e1 (u.free b o z n nx)
    there := fun b o z nx => by
      obtain ⟨o1, e1⟩ := u.there b o z nx
      by_cases hb : b ∈ frs X.stack
      · obtain ⟨sl2, e2⟩ := ub.slot b _ e1 hb
        exact ⟨_, by rw [gF b hb]; exact e2⟩
      · obtain ⟨o2, e2⟩ := ub.there b o1 e1 hb
        exact ⟨o2, gB b o2 (sup b o2 (small z) e2)⟩
    tups := fun b xs z => ub.tups b xs (u.tups b xs z)
    frzs := fun b o v z => ub.frzs b o v (u.frzs b o v z)
    tbls := fun b ps z => by
      obtain ⟨p1, e1⟩ := u.tbls b ps z
      obtain ⟨p2, e2⟩ := ub.tbls b _ e1
      exact ⟨p1 ++ p2, by rw [e2, Array.append_assoc]⟩ }
  have J : Inv X pins σ H2 { s3 with heap := G, gens := s2.gens, drawn := s2.drawn, toks := s2.toks } := I3.call' (s' := { s3 with heap := G, gens := s2.gens, drawn := s2.drawn, toks := s2.toks }) (ch := fp) rfl U (hokB.kept gB) ag hfp
  refine ⟨a, B2, _, pins, σ, H2, cls, d, rfl, J, fun b o z hb => ?_, fun b o z hnf => ?_, .inr (.inr (by rw [hs]; exact held4)), na, os.trans ho, ag, hW _ _ _ hE⟩
  · obtain ⟨e1, q⟩ := og b o z
    rcases q with q | q
    · obtain ⟨o', q⟩ := Option.isSome_iff_exists.mp q
      have w := st b o' (sub b o' q).1
      rw [e1] at w
      cases w
      exact q
    · exact absurd q hb
  · obtain ⟨e1, _⟩ := og b o z
    obtain ⟨sl1, e2⟩ := up1 b o e1 hnf
    obtain ⟨sl2, e3⟩ := up4 b _ ((sb2.2 b (ogC b o z)).trans e2) hnf
    exact ⟨sl2, e3⟩
end
/-- the same context, another wish about exceptions -/
abbrev Rx (X : Cx) (xe : Value → Shared → Prop) : Cx := { X with xe := xe }
theorem inv_rx {X : Cx} {pins : List (Addr × Obj)} {σ : L2.St} {H : Hp} {s : Shared} (I : Inv X pins σ H s) (xe : Value → Shared → Prop) : Inv (Rx X xe) pins σ H s :=
  ⟨⟨I.ok.mod, I.ok.kind, I.ok.glob, I.ok.blt, I.ok.above, I.ok.inj, I.ok.has, I.ok.cab, I.ok.hd, I.ok.frames, I.ok.stk, I.ok.exf, I.ok.bs, I.ok.bsz, I.ok.noex, I.ok.exfs, I.ok.funs, I.ok.frf⟩, I.os, I.bare, I.base, I.loc, I.cell, I.free, I.freeC, I.pin, I.hok, I.len⟩
theorem inv_xr {X : Cx} {pins : List (Addr × Obj)} {σ : L2.St} {H : Hp} {s : Shared} {xe : Value → Shared → Prop} (I : Inv (Rx X xe) pins σ H s) : Inv X pins σ H s :=
  ⟨⟨I.ok.mod, I.ok.kind, I.ok.glob, I.ok.blt, I.ok.above, I.ok.inj, I.ok.has, I.ok.cab, I.ok.hd, I.ok.frames, I.ok.stk, I.ok.exf, I.ok.bs, I.ok.bsz, I.ok.noex, I.ok.exfs, I.ok.funs, I.ok.frf⟩, I.os, I.bare, I.base, I.loc, I.cell, I.free, I.freeC, I.pin, I.hok, I.len⟩
section
variable {X : Cx} {W : WX}
/-- what the element must bear, whatever the block -/
def EltX (X : Cx) (W : WX) (scope : Scope) (elt : Expr) (te : TE) : Prop := ∀ (s : Shared) (H : Hp) (C : Addr) (cl : List (Str × Addr)) (fp : List Addr) (xe : Value → Shared → Prop),
  (∀ E : XK, (∀ σ cls d H, E cls d H → W cls d σ H) → Passes (L2.CX X.prog X.w) (Rx (X.blk s H scope (compEnvC scope cl C X.env) fp) xe) E) → PE (Rx (X.blk s H scope (compEnvC scope cl C X.env) fp) xe) elt te
theorem ps_setLcX {i : Nat} {y : Str} {py : Pos} {elt tg iter : Expr} {scope : Scope} {own : List (Str × Nat)} {pos spos : Pos} {wi : TI} {g : TG} {te : TE} (hc : X.calm = true) (hN : X.N.Nodup) (hy : X.N[i]? = some y) (hyl : X.env.scope.names.lookup y = some .local)
    (hsw : swapsWith (.ListComp elt [⟨tg, iter, [], 0⟩] scope pos) (some (.Name y py)) spos.line X.env = pure true) (stk : X.stack = X.env :: X.outer) (frm : X.env.frame = some X.env.locals) (tk : Takes X W) (hi : PI X tg iter wi) (ok : BlkOk X.N X.env.scope scope own)
    (hg : ∀ (s : Shared) (H : Hp) (C : Addr) (cl : List (Str × Addr)) (fp : List Addr), PG (X.blk s H scope (compEnvC scope cl C X.env) fp) tg g) (he : EltX X W scope elt te) (hs : ∀ x, foldedSetIterable iter X.env x = pure x := by intro _; rfl) :
    PS X (.Assign [.Name y py] (.ListComp elt [⟨tg, iter, [], 0⟩] scope pos) spos) (tAsg (tLc wi g tYes te (own.map (·.2))) (gName i)) := by
  refine ⟨fun pins s σ H D I h => ?_⟩
  have hfree : ∀ y ∈ scope.names, y.2 = .free → ∃ c, X.env.cells.lookup y.1 = some c := fun y hy e => I.ok.has _ (ok.free y hy e)
  rw [exec_Assign_Name_used _ _ _ _ hsw]
  refine wpAny_bind (wpAny_standAt (wpAny_bind ?_))
  show wpAny _ X.A (do let _ ← comprehension (.ListComp elt [⟨tg, iter, [], 0⟩] scope pos) scope X.env (firstIterPos [⟨tg, iter, [], 0⟩] pos) (newList []) false (eval iter X.env) (some (assign (.Name y py) X.env))) _ _ s
  have h : tLc wi g tYes te (own.map (·.2)) σ H (fun x H1 => gName i x σ H1 D.nx) := h
  refine wpAny_bind (thn (PySem.comprehension_at (use := some (assign (.Name y py) X.env)) (Q := fun _ s' => SP X pins D .next s') rfl hs (closure_ok hfree) ok.kind (fun z hz e => by rw [ok.uniq z hz, e]) ?_) fun _ s' hq => wpAny_pure (wpAny_pure hq))
  refine thn (hi.run pins s σ H _ I h) fun xv s1 hx => thn hx fun itv s2 ⟨it, fp, tn, J, H2, e, I2, T, st2, f2, q⟩ => ?_
  subst e
  refine wpAny_newObj_type (newEnv_comp ?_) (by show 0 ≤ sizeLine; decide)
  generalize hD : s2.heap.objs.size = D1
  have hDn : H2 D1 = none := I2.hok.fresh (Nat.le_of_eq hD)
  obtain ⟨Wt, ⟨m0, w0⟩, turn⟩ := q D1 hDn
  generalize hs3 : ({ s2 with heap := s2.heap.push { cls := .type "list", data := .seq ([] : List Value).toArray } } : Shared) = s3
  have h3 : s3.heap = s2.heap.push { cls := .type "list", data := .seq ([] : List Value).toArray } := by rw [← hs3]
  have I3 : Inv X pins σ (upd H2 D1 (.lst [])) s3 := by
    rw [← hs3]
    exact I2.laid (t' := s2.toks) (fun b o e => Heap.get?_push_of_some _ e) (Nat.le_of_eq hD) ⟨Nat.zero_le _, [], 0, .nil, by rw [← hD]; exact Heap.get?_push_size _ rfl⟩
  have f3 : ∀ b ∈ fp, FpOk X pins (upd H2 D1 (.lst [])) b ∧ b < s3.heap.objs.size := fun b hb => by
    obtain ⟨o, e, _⟩ := T.obj _ _ st2 b hb
    have hlt := Heap.lt_size e
    exact ⟨⟨by rw [upd_ne (by rw [← hD]; exact Nat.ne_of_lt hlt)]; exact (f2 b hb).1, (f2 b hb).2⟩, by rw [h3, Heap.size_push]; exact Nat.lt_succ_of_lt hlt⟩
  have st3 : tn 0 s3.heap := T.keep _ _ _ st2 fun b _ o e => by rw [h3]; exact Heap.get?_push_of_some _ e
  have I4 := block_start I3 ok hN f3
  generalize hcl : cellsFrom (s3.heap.objs.size + 1) scope.names (cloFrom X.env.cells scope.names []) = cl at I4
  have pg := hg s3 (upd H2 D1 (.lst [])) s3.heap.objs.size cl fp
  have pe := he s3 (upd H2 D1 (.lst [])) s3.heap.objs.size cl fp
  show codeAny _ _ (.compStart (.ListComp elt [⟨tg, iter, [], 0⟩] scope pos) 0 (.ref it) (.ref D1) (compEnvC scope cl s3.heap.objs.size X.env)) (compEnds (model X.prog X.w) X.A X.xe (some (assign (.Name y py) X.env)) (fun _ s' => SP X pins D .next s') (.ref D1) (compEnvC scope cl s3.heap.objs.size X.env)) { s3 with heap := pushCells (s3.heap.push { cls := .type "dict", data := .dict #[] }) scope.names }
  have nfp : ∀ b ∈ fp, (upd H2 D1 (.lst [])) b = none := fun b hb => (f3 b hb).1.1
  generalize hce : compEnvC scope cl s3.heap.objs.size X.env = ce at I4 pg pe ⊢
  have cL : ce.locals = s3.heap.objs.size := by subst hce; rfl
  have cF : ce.frame = X.env.frame := by subst hce; rfl
  generalize hH3 : upd H2 D1 (.lst []) = H3 at I3 I4 pg pe w0 nfp f3
  generalize hs4 : ({ s3 with heap := pushCells (s3.heap.push { cls := .type "dict", data := .dict #[] }) scope.names } : Shared) = s4 at I4 ⊢
  have st4 : tn 0 s4.heap := T.keep _ _ _ st3 fun b _ o e => by rw [← hs4]; exact pushCells_keeps _ _ _ _ (Heap.get?_push_of_some _ e)
  have stat : ∀ {σ' : L2.St} {H' : Hp} {s' : Shared}, Inv (X.blk s3 H3 scope ce fp) [] σ' H' s' → (∀ b ∈ fp, H' b = none) → ∀ b ∈ fp, FpOk (X.blk s3 H3 scope ce fp) [] H' b := fun {σ' H' s'} I' hn b hb =>
    ⟨hn b hb, (I'.ok.exf b hb).1, I'.ok.exfs b hb, .inl hb, fun x c e => (I'.ok.exf b hb).2 x c e, fun p hp => absurd (show p ∈ ([] : List (Addr × Obj)) ++ [] from hp) (by simp)⟩
  have out : ∀ b ∈ fp, (b ∈ X.ex ∨ X.s_0.heap.objs.size ≤ b) ∧ b ≠ X.env.locals ∧ (∀ x c, X.env.cells.lookup x = some c → c ≠ b) ∧ ∀ p ∈ X.pn ++ pins, p.1 ≠ b := fun b hb => ⟨(f3 b hb).1.2.2.2.1, (f3 b hb).1.2.1, (f3 b hb).1.2.2.2.2.1, (f3 b hb).1.2.2.2.2.2⟩
  have pass : ∀ E : XK, (∀ σ cls d H, E cls d H → W cls d σ H) → Passes (L2.CX X.prog X.w) (Rx (X.blk s3 H3 scope ce fp) (notedBy (model X.prog X.w) X.A ce fun x s' => CompFails (model X.prog X.w) X.A X.xe ce x s')) E := fun E hW pins' σ' H' s' e s'' I' c => by
    obtain ⟨m, hn, _⟩ := I'.loc
    exact comp_flew stk frm tk (hW σ) I3 cF cL out I'.base I'.os ⟨m, hn⟩ I'.free c
  have loop : codeAny (model X.prog X.w) X.A (.compLoop (.ListComp elt [⟨tg, iter, [], 0⟩] scope pos) 0 (.ref it) (.ref D1) ce) (compEnds (model X.prog X.w) X.A X.xe (some (assign (.Name y py) X.env)) (fun _ s' => SP X pins D .next s') (.ref D1) ce) s4 := by
    refine compLoop_any (fun n s' => ∃ i H', Inv (X.blk s3 H3 scope ce fp) [] (wipe σ (own.map (·.2))) H' s' ∧ tn i s'.heap ∧ (∀ b ∈ fp, H' b = none) ∧ Wt i n H') ?_ m0 ⟨0, H3, I4, st4, nfp, w0⟩
    rintro n s5 ⟨j, H5, I5, st5, n5, w5⟩
    rcases turn j n H5 w5 with ⟨stop, qq⟩ | ⟨go, Nx, hNx, step⟩
    · refine thnF (T.done (X.blk s3 H3 scope ce fp) rfl rfl rfl hc j [] s5 _ H5 (fun _ _ => False) I5 (stat I5 n5) st5 stop) fun r s6 ⟨hr, I6⟩ => ?_
      subst hr
      have I7 : Inv X pins σ H5 s6 := I3.call' (ch := fp) I6.os I6.base I6.hok I6.bare out
      have nC : H5 s3.heap.objs.size = none := by have z : H5 ce.locals = none := I6.free; rw [cL] at z; exact z
      obtain ⟨m, hn, _⟩ := I6.loc
      have hn : s6.heap.Ns ce.locals m := hn
      obtain ⟨z0, z1, z2, z3, z4, z5⟩ := I3.fpOk (H' := H5) (Nat.le_refl _) nC
      show wpAny _ _ (assign (.Name y py) X.env (.ref D1)) _ _ _
      refine wpAny_assign_Name (store_ok2 (v := V.ref D1) I7 hN hy (.inl hyl) rfl (fun s8 I8 ⟨a, sb, ha⟩ => ?_) (.inr hyl))
      have hne : ce.locals ≠ a := by
        rw [cL]
        rcases ha with z | z
        · rw [z]; exact z1
        · exact fun e => z4 y a z e.symm
      refine ⟨m, hn.sameBut sb hne, fun h9 sb9 => ?_⟩
      rw [cL] at sb9
      exact ⟨_, H5, I8.turned (t' := s8.toks) (fun b o hb e => (sb9.2 b hb).trans e) z0 z1 z3 z4 z5, qq⟩
    · refine thnF (T.item (X.blk s3 H3 scope ce fp) rfl rfl rfl hc j [] s5 _ H5 (fun _ _ => False) I5 (stat I5 n5) st5 go) fun r s6 ⟨u, hr, h6⟩ => ?_
      subst hr
      refine thnF h6 fun _ s7 ⟨x, H7, I7, r7, y7, st7, n7⟩ => ?_
      refine thnF (pg.run _ s7 _ H7 x u _ (I7.pinned (stat I7 n7) (T.obj _ _ st7)) r7 (step x H7 y7)) fun _ s8 ⟨σ8, H8, I8, hw8, q8⟩ => ?_
      refine wpAny_tests_nil ?_
      have q8 : te σ8 H8 fun y H4 => ∃ acc, H4 D1 = some (.lst acc) ∧ acc.length < sizeLine ∧ Nx (upd H4 D1 (.lst (acc ++ [y]))) := q8
      rw [if_pos rfl]
      refine wpAny_mono ((pe _ pass).run _ s8 σ8 H8 _ (inv_rx I8 _) q8) (fun z s10 ⟨yv, H10, I10, r10, acc, hD10, hz10, nx⟩ => ?_) fun _ _ z => z
      refine app_ok (X := X.blk s3 H3 scope ce fp) (inv_xr I10) hD10 hz10 r10 fun s11 I11 => ?_
      obtain ⟨m', hm, w'⟩ := hNx _ nx
      have pin' : ∀ b ∈ fp, ∀ o, s7.heap.get? b = some o → s11.heap.get? b = some o ∧ (upd H10 D1 (.lst (acc ++ [yv]))) b = none := fun b hb o e =>
        let z := I11.pin (b, o) (List.mem_append_right _ (List.mem_append_right _ (mem_pinsAt hb e)))
        ⟨z.1, z.2.1⟩
      refine ⟨m', hm, j + 1, _, (I11.unpinned (pins := [])).weak (by rw [← hw8, wipe_length]) (fun k v e => ?_), T.keep _ _ _ st7 fun b hb o e => (pin' b hb o e).1, fun b hb => ?_, w'⟩
      · rw [← hw8] at e
        exact (wipe_some e).1
      · obtain ⟨o, e, _⟩ := T.obj _ _ st7 b hb
        exact (pin' b hb o e).2
  exact codeAny_compStart_list loop (T.self X.A 0 _ _ _ st4 loop)
end
end GwC

set_option maxRecDepth 100000
set_option maxHeartbeats 4000000
namespace Gw
open PySem PySem.Spec PyProof.Rows L2 Evl SX
section
variable {X : Cx} {W : WX} {elt iter : Expr} {scope : Scope} {rest : List Stmt} {σ : L2.St} {H : Hp} {D : Ends} {n y : Str} {i j : Nat} {p pos spos py : Pos}
/-- an element's block, with the wish of the comprehension about what is raised -/
abbrev Bx (X : Cx) (scope : Scope) (s : Shared) (H : Hp) (C : Addr) (cl : List (Str × Addr)) (fp : List Addr) (xe : Value → Shared → Prop) : Cx := GwC.Rx (Bk X scope s H C cl fp) xe
def XEx (X : Cx) (W : WX) (scope : Scope) (e : Expr) : TE := fun σ H Q => ∀ s H0 C cl fp xe, (∀ E : XK, (∀ σ cls d H, E cls d H → W cls d σ H) → Passes (L2.CX X.prog X.w) (Bx X scope s H0 C cl fp xe) E) → XE (Bx X scope s H0 C cl fp xe) e σ H Q
/-- y = [elt for n in iter], elt may raise -/
theorem xb_setCX {α : Type} {ws : List α} {enc : α → V} {own : List (Str × Nat)} (j : Nat) (R : Addr → α → V → Hp → Prop) (tk : Takes X W) (hN : X.N.Nodup) (hc : X.calm = true) (ok : BlkOk X.N X.env.scope scope own) (hi : Il X (.Name n p) iter σ H (ws.map enc)) (hz : ws.length ≤ 40000)
    (hg : ∀ s H0 C cl fp, Nm (Bk X scope s H0 C cl fp) i n) (hw : ∀ x, wipe ((wipe σ (own.map (·.2))).set i (some x)) (own.map (·.2)) = wipe σ (own.map (·.2)))
    (he : ∀ s H0 C cl fp xe, (∀ E : XK, (∀ σ cls d H, E cls d H → W cls d σ H) → Passes (L2.CX X.prog X.w) (Bx X scope s H0 C cl fp xe) E) → ∀ w ∈ ws, ∀ D H1, Ex H H1 → H D = none → ∀ Q : VK, (∀ y H2, Ex H1 H2 → R D w y H2 → Q y H2) → XE (Bx X scope s H0 C cl fp xe) elt ((wipe σ (own.map (·.2))).set i (some (enc w))) H1 Q)
    (hR : ∀ D w y H1 H2, Ex H1 H2 → R D w y H1 → R D w y H2) (hU : ∀ D w y H1 l l', R D w y H1 → H1 D = some (.lst l) → R D w y (upd H1 D (.lst l')))
    (k : ∀ q ys H2, H q = none → Ex H H2 → H2 q = some (.lst ys) → Paired (fun w y => R q w y H2) ws ys → XB X rest D (σ.set j (some (.ref q))) H2)
    (stk : X.stack = X.env :: X.outer := by rfl) (frm : X.env.frame = some X.env.locals := by rfl) (hy : X.N[j]? = some y := by rfl) (hyl : X.env.scope.names.lookup y = some .local := by rfl)
    (hsw : swapsWith (.ListComp elt [⟨.Name n p, iter, [], 0⟩] scope pos) (some (.Name y py)) spos.line X.env = pure true := by exact sw_true rfl rfl rfl (by decide +kernel))
    (hs : ∀ x, foldedSetIterable iter X.env x = pure x := by intro _; rfl) : XB X (.Assign [.Name y py] (.ListComp elt [⟨.Name n p, iter, [], 0⟩] scope pos) spos :: rest) D σ H := by
  obtain ⟨wi, hpi, hit⟩ := hi
  have hgB : ∀ s H0 C cl fp, PG (Bk X scope s H0 C cl fp) (.Name n p) (gName i) := fun s H0 C cl fp => (hg s H0 C cl fp).pg
  have heB : GwC.EltX X W scope elt (XEx X W scope elt) := fun s H0 C cl fp xe ps => ⟨fun pins s' σ' H' Q' I h => (h s H0 C cl fp xe ps).run pins s' I⟩
  refine xb_cons (xs_of (GwC.ps_setLcX hc hN hy hyl hsw stk frm tk hpi ok hgB heB hs) ?_)
  show tLc wi (gName i) tYes (XEx X W scope elt) (own.map (·.2)) σ H fun x H1 => gName j x σ H1 fun σ' H' => XB X rest D σ' H'
  refine hit H (Ex.refl H) _ fun J G H2 e2 hG wk Dl hD => ?_
  rw [List.length_map] at wk
  refine lc_it wk (fun m H' => H2 Dl = none ∧ Ex H2 H' ∧ ∃ acc, H' Dl = some (.lst acc) ∧ acc.length ≤ m ∧ Paired (fun w y => R Dl w y H') (ws.take m) acc) ⟨hD, Ex.new hD, [], upd_same, Nat.le_refl _, .nil⟩ (fun m H' _ q => hG H' q.2.1) ?_ ?_
  · rintro m x H' H'' hm ⟨q1, q2, acc, q3, q4, q5⟩ ⟨ey, hx⟩
    subst H''
    have hw' : ws[m]? = some ws[m] := by simp [hm]
    have mem : ws[m] ∈ ws := List.getElem_mem hm
    have ex : x = enc ws[m] := by
      rw [List.getElem?_map, hw'] at hx
      exact (Option.some.inj hx).symm
    subst ex
    have htk : ws.take (m + 1) = ws.take m ++ [ws[m]] := by rw [List.take_succ, hw']; rfl
    refine ⟨hw _, ?_⟩
    unfold tYes
    dsimp only
    rw [if_pos rfl]
    intro s' H0' C' cl' fp' xe' ps'
    refine he s' H0' C' cl' fp' xe' ps' _ mem Dl H' (e2.trans q2) (fresh_back e2 q1) _ fun yv H4 e4 r => ⟨acc, e4 _ _ q3, sz_lt (by omega), q1, Ex.mut (q2.trans e4) q1, acc ++ [yv], upd_same, by rw [List.length_append]; simp; omega, ?_⟩
    rw [htk]
    refine Paired.snoc (Paired.mono (fun w y h => hU _ _ _ _ _ _ (hR _ _ _ _ _ e4 h) (e4 _ _ q3)) q5) ?_
    exact hU _ _ _ _ _ _ r (e4 _ _ q3)
  · rintro H' ⟨q1, q2, acc, q3, q4, q5⟩
    rw [List.take_length] at q5
    exact k Dl acc H' (fresh_back e2 q1) (e2.trans q2) q3 q5
end
end Gw

set_option maxRecDepth 100000
set_option maxHeartbeats 4000000
namespace Gw
open PySem PySem.Spec PyProof.Rows L2 Evl SX
section
variable {X : Cx} {c : Expr} {sa sb sts rest : List Stmt} {σ : L2.St} {H : Hp} {D D' : Ends} {pos : Pos}
theorem xb_mono (h : XB X sts D σ H) (k : ∀ σ' H', D.nx σ' H' → D'.nx σ' H') (hr : ∀ v H', D.rt v H' → D'.rt v H') (hb : ∀ σ' H', D.bk σ' H' → D'.bk σ' H') (hc : ∀ σ' H', D.ct σ' H' → D'.ct σ' H') : XB X sts D' σ H := ⟨fun pins s I => thn (h.run pins s I) fun f s1 q => by
  cases f with
  | next => obtain ⟨σ', H', J, q⟩ := q; exact ⟨σ', H', J, k _ _ q⟩
  | brk => obtain ⟨σ', H', J, q⟩ := q; exact ⟨σ', H', J, hb _ _ q⟩
  | cont => obtain ⟨σ', H', J, q⟩ := q; exact ⟨σ', H', J, hc _ _ q⟩
  | ret v => obtain ⟨σ', u, H', J, r, q⟩ := q; exact ⟨σ', u, H', J, r, hr _ _ q⟩⟩
/-- an if, what holds behind it told once -/
theorem xb_ifM {k : Bool} (Mid : L2.St → Hp → Prop) (hc : Bl X c σ H k) (h1 : k = true → ∀ H1, Ex H H1 → XB X sa { D with nx := Mid } σ H1) (h2 : k = false → ∀ H1, Ex H H1 → XB X sb { D with nx := Mid } σ H1) (h3 : ∀ σ' H', Mid σ' H' → XB X rest D σ' H') : XB X (.If c sa sb pos :: rest) D σ H :=
  xb_if hc (fun q H1 e1 => xb_mono (h1 q H1 e1) h3 (fun _ _ q => q) (fun _ _ q => q) fun _ _ q => q) fun q H1 e1 => xb_mono (h2 q H1 e1) h3 (fun _ _ q => q) (fun _ _ q => q) fun _ _ q => q
end

/-- what a rule line comes to, the goal and the conditions' words known -/
def ruleFin (st : Ho) (gts : List Gt) (gt : Gt) (w0 : W) (goal : Option W) (r : List W) : Option Ho := match condsM st r with
  | some cs => if (cs.map (·.1)).Nodup then some { st with gates := gts ++ [{ gt with rules := gt.rules ++ [⟨w0, goal, cs.map (·.2)⟩] }] } else none
  | none => none
theorem ruleM_one {st : Ho} {gts : List Gt} {gt : Gt} {w0 : W} {r : List W} (e : st.gates = gts ++ [gt]) (hl : gt.rules.length < 8) :
    ruleM st (w0 :: r) = if S w0 = "pass" then (match r with
        | goal :: rest => if goal ∈ gts.map (·.name) ∧ (gt.rules.filter fun r => S r.word = "pass").length < 2 then ruleFin st gts gt w0 (some goal) rest else none
        | [] => none) else ruleFin st gts gt w0 none r := by
  unfold ruleM
  rw [e, List.getLast?_append]
  simp only [List.getLast?_singleton, Option.some_or]
  rw [if_pos hl]
  have ed : (gts ++ [gt]).dropLast = gts := by simp
  by_cases h : S w0 = "pass"
  · rw [if_pos h, if_pos h]
    cases r with
    | nil => rfl
    | cons goal rest =>
      dsimp only
      rw [ed]
      rfl
  · rw [if_neg h, if_neg h, ed]
    rfl
def goalV : Option W → V
  | none => .non
  | some a => .str (S a)
theorem goal_tp {H : Hp} (o : Option W) : Tp H (goalV o) (goalD o) := by cases o with | none => exact .non | some a => exact .str _
theorem condM_name {st : Ho} {a n : W} {dt : PyData} (h : condM st a = some (n, dt)) : ∃ ds, dt = .tuple (strD n :: ds) := by
  cases e : TL.par [58] [] a with
  | none => rw [condM_none e] at h; cases h
  | some pq =>
    obtain ⟨p, q⟩ := pq
    cases ef : st.fields.find? (fun f => f.name == p) with
    | none => rw [condM_nof e ef] at h; cases h
    | some f =>
      rw [condM_some e ef] at h
      split at h
      · cases h; exact ⟨_, rfl⟩
      · cases h
/-- conditions read, one by one -/
theorem conds_of {st : Ho} {H : Hp} : ∀ {ws : List W} {ys : List V}, Paired (fun w y => ∃ n dt, condM st w = some (n, dt) ∧ Tp H y dt) ws ys → ∃ cs, condsM st ws = some cs ∧ TpA H ys (cs.map (·.2)) ∧ cs.length = ws.length ∧ ∀ c ∈ cs, ∃ ds, c.2 = .tuple (strD c.1 :: ds)
  | _, _, .nil => ⟨[], rfl, .nil, rfl, fun _ h => by cases h⟩
  | w :: ws, y :: ys, .cons ⟨n, dt, h1, h2⟩ t => by
    obtain ⟨cs, a, b, l, c⟩ := conds_of t
    refine ⟨(n, dt) :: cs, ?_, .cons h2 b, by simp [l], fun x hx => ?_⟩
    · show (match condM st w with | some c => (condsM st ws).map fun cs => c :: cs | none => none) = _
      rw [h1, a]; rfl
    · rcases List.mem_cons.mp hx with q | q
      · subst q; exact condM_name h1
      · exact c x q
theorem conds_bad {st : Ho} {w : W} (h : condM st w = none) : ∀ {ws : List W}, w ∈ ws → condsM st ws = none
  | a :: ws, hm => by
    show (match condM st a with | some c => (condsM st ws).map fun cs => c :: cs | none => none) = none
    rcases List.mem_cons.mp hm with q | q
    · rw [← q, h]
    · rw [conds_bad h q]
      cases condM st a <;> rfl
section
variable {P : Program} {w : World} {K : PySem.W.Frag} {mg : Str → Option Value} {base : Heap}
theorem snoc_split {α β : Type} {as : List α} {bs : List β} (h : as.length = bs.length) (hne : as ≠ []) : ∃ a0 a b0 b, as = a0 ++ [a] ∧ bs = b0 ++ [b] := by
  have h2 : bs ≠ [] := fun q => by rw [q] at h; exact hne (List.eq_nil_of_length_eq_zero h)
  exact ⟨_, _, _, _, (List.dropLast_concat_getLast hne).symm, (List.dropLast_concat_getLast h2).symm⟩
theorem v_ixLT {X : Cx} {e : Expr} {σ : L2.St} {H : Hp} {t : Addr} {v : V} {vs : List V} {p pos : Pos} {j : Nat} (h1 : Rd H t (.tup (v :: vs))) (h : Vl X e σ H (.ref t) := by exact v_v 11) : Vl X (.Subscript e (.Constant (.int 0) j p) pos) σ H v := v_ixT (vl_tu h (.inl h1)) v_int (by rw [show (0 : Int) = ((0 : Nat) : Int) from rfl, atI_n]; rfl)
theorem ok_ruleLine (T : Tx K mg) : Me P w K mg base 6 (CR K) "rule_line" (spLine K ruleM) := by
  have MC : Me P w K mg base 5 (CR K) "condition_in" (spCond K) := ok_condIn T
  refine me_of T dReaderRuleLine 30 T.m_Reader_rule_line scReaderRuleLine (fun _ _ _ _ _ _ us hl => match us, hl with | [_, _], _ => rfl) (fun _ _ _ _ => spLine_len) fun f cdv A outer s H vs Q E hr ⟨H0, ad, dx, g, c, d, am, row, ps, st, wl, ws, e, hR, hw, hz, hne, k1, k2⟩ => ?_
  subst e
  have nd := scReaderRuleLine.nd
  have hr3 : Room 3 (Cxd dReaderRuleLine P w K mg base nReaderRuleLine f cdv A outer s H E).A := hr.mono (by decide)
  have bad : ruleM st ws = none → ∀ H', Ex H H' → Bad K row H' E := fun q H' e' => (k2 q).go (hR.sta.ex.trans e')
  have lenD := len_ds hR.sta
  cases hps : ps with
  | nil =>
    subst hps
    have hg : st.gates = [] := List.eq_nil_of_length_eq_zero (by rw [← lenD]; rfl)
    exact xb_need false T hr3 ps_cx (v_v 0) hR.ins (vl_is (v_and (j := false) (k := false) (vc (c_neNil hr (vl_sl (v_fld T.cb_Reader (v_v 0) hR.ins rfl) (sq_of hR.sta.ds)))) fun q => by cases q) rfl) (fun q => by cases q) fun _ => bad (by unfold ruleM; rw [hg]; cases ws <;> rfl) H (Ex.refl H)
  | cons p0 pr =>
    obtain ⟨ps', p, gts, gt, ep, eg⟩ := snoc_split lenD (by rw [hps]; simp)
    clear hps
    subst ep
    have hgt := hR.sta.gts
    rw [eg] at hgt
    obtain ⟨hgt1, hgt2⟩ := paired_last hgt
    obtain ⟨hp1, rs, hp2, hrs⟩ := hgt2.lst
    have hdl : H d = some (.lst ((ps'.map fun p => V.ref p.1) ++ [.ref p.1])) := by rw [hR.sta.ds, List.map_append]; rfl
    have lrs : rs.length = gt.rules.length := by rw [hrs.length, List.length_map]
    refine xb_need (decide (gt.rules.length < 8)) T hr3 ps_cx (v_v 0) hR.ins (vl_is (v_and (j := true) (k := decide (gt.rules.length < 8)) (vl_is (vc (c_neNil hr (vl_sl (v_fld T.cb_Reader (v_v 0) hR.ins rfl) (sq_of hdl)))) (by simp)) fun _ => v_one (vl_is (vc (c_lt (v_lenL T.f_len (vl_sl (v_ixL (vl_sl (v_ixL (v := .ref p.1) (vl_sl (v_fld T.cb_Reader (v_v 0) hR.ins rfl) (sq_of hdl)) (v_neg v_int) ((atI_last).trans (by simp))) (sq_of hp1)) v_int rfl) (sq_of hp2))) (v_gi T.i_MOST_RULES))) (by rw [lrs]; congr 1; exact decide_eq_decide.mpr (by omega)))) rfl) (fun q1 H1 e1 => ?_) fun q => bad ?_ H (Ex.refl H)
    · have q1 := of_decide_eq_true q1
      have R1 := hR.mono e1
      refine xb_set 2 (v_ixL (v := .ref p.2) (vl_sl (v_ixL (v := .ref p.1) (vl_sl (v_fld T.cb_Reader (v_v 0) R1.ins rfl) (sq_of (e1 _ _ hdl))) (v_neg v_int) ((atI_last).trans (by simp))) (sq_of (e1 _ _ hp1))) v_int rfl) fun H2 e2 => ?_
      refine xb_set 3 v_non fun H3 e3 => ?_
      have E3 := (e1.trans e2).trans e3
      match ws, hw, hz, k1, bad, hne with
      | w0 :: r, hw, hz, k1, bad, hne =>
        have em := ruleM_one (w0 := w0) (r := r) eg q1
        refine xb_setL 4 (ll_is (l_slL (vl_sl (v_v 1) (sq_of (E3 _ _ hw))) (o_s v_int) o_n) (show cutV _ (some ((1 : Nat) : Int)) none = r.map fun a => V.str (S a) by rw [cutV_from]; rfl)) fun rl H4 hrl e4 h4 => ?_
        have E4 := E3.trans e4
        have R4 := hR.mono E4
        have hzr : TxOk r := ⟨by have := hz.1; simp only [List.length_cons] at this; omega, fun x hx => hz.2 x (by simp [hx])⟩
        -- what holds behind the if
        refine xb_ifM (k := decide (S w0 = "pass")) (fun σ' H' => ∃ (goal : Option W) (r' : List W) (rl' : Addr) (o5 : Option V), σ' = [some (.ref ad), some (.ref wl), some (.ref p.2), some (goalV goal), some (.ref rl'), o5, none, none, none, none, none, none] ∧ Ex H H' ∧ H' rl' = some (.lst (r'.map fun a => V.str (S a))) ∧ TxOk r' ∧ ruleM st (w0 :: r) = ruleFin st gts gt w0 goal r')
          (bl_is (bc (c_eq (v_ixW0 0 (vl_sl (v_v 1) (sq_of (E4 _ _ hw))) v_int (w := w0) rfl) v_str)) dec_V) (fun hk H5 e5 => ?_) (fun hk H5 e5 => ?_) ?_
        · have hk' := of_decide_eq_true hk
          rw [if_pos hk'] at em
          have E5 := E4.trans e5
          have R5 := R4.mono e5
          obtain ⟨zs, z1, z2, z3⟩ := paired_zip hgt1
          have zl : zs.length ≤ 5 := by have := hR.ok.t5; rw [eg, z2, List.length_append, List.length_map] at this; omega
          refine xb_setL 5 (ll_is (l_cat (xs := []) (ys := (gts.map (·.name)).map fun a => V.str (S a)) (vl_hl (v_fld T.cb_Reader (v_v 0) R5.ins rfl) R5.amz) (ll_hl (ll_is (cp_ll (lc_map (i := 8) (own := [("door", 8)]) (ws := zs) (enc := fun z => V.ref z.1.1) (fun z => V.str (S z.2.name)) (il_L (ll_sl (ll_is (l_slL (vl_sl (v_fld T.cb_Reader (v_v 0) R5.ins rfl) (sq_of (E5 _ _ hdl))) o_n (o_s (v_neg v_int))) (cutV_but.trans (by rw [List.dropLast_concat, z1, List.map_map]; rfl))))) (by omega)
            (blkOk_by (N := nReaderRuleLine) (sc := defScope sReaderRuleLine) (by decide +kernel)) (fun _ _ _ _ _ z hz => v_ixL (vl_sl (v_v 8) (sq_of (E5 _ _ (z3 z hz).lst.1))) v_int rfl))) (by rw [z2, List.map_map, List.map_map]; rfl))) (by rw [z2]; simp; omega)) (List.nil_append _)) fun gl H6 hgl e6 h6 => ?_
          have E6 := E5.trans e6
          have R6 := R5.mono e6
          have h46 := (e5.trans e6) _ _ h4
          match r, h4, h46, hzr, hw, hz, k1, bad, hne, em with
          | [], h4, h46, hzr, hw, hz, k1, bad, hne, em =>
            exact xb_need false T hr3 ps_cx (v_v 0) R6.ins (vl_is (v_and (j := false) (k := false) (vc (c_neNil hr (vl_sl (v_v 4) (sq_of h46)))) fun q => by cases q) rfl) (fun q => by cases q) fun _ => bad em H6 E6
          | gw :: r2, h4, h46, hzr, hw, hz, k1, bad, hne, em =>
            dsimp only at em
            refine xb_need (decide (gw ∈ gts.map (·.name))) T hr3 ps_cx (v_v 0) R6.ins (vl_is (v_and (j := true) (k := decide (gw ∈ gts.map (·.name))) (vc (c_neNil hr (vl_sl (v_v 4) (sq_of h46)))) fun _ => v_one (vl_is (vc (c_inL (v_ixW0 0 (vl_sl (v_v 4) (sq_of h46)) v_int (w := gw) rfl) (vl_sl (v_v 5) (sq_of h6)) rfl (flat_strs _))) (by rw [inV_strs]))) rfl) (fun q2 H7 e7 => ?_) fun q => bad (by rw [em, if_neg fun y => (of_decide_eq_false q) y.1]) H6 E6
            have E7 := E6.trans e7
            have R7 := R6.mono e7
            obtain ⟨zr, y1, y2, y3⟩ := hrs.zip
            have yl : zr.length ≤ 8 := by rw [y2, List.length_map] at q1; omega
            have efl : (gt.rules.filter fun r => decide (S r.word = "pass")).length = (zr.filter fun z => decide (S z.2.word = "pass")).length := by rw [y2, List.filter_map, List.length_map]; rfl
            refine xb_need (decide ((gt.rules.filter fun r => decide (S r.word = "pass")).length < 2)) T hr3 ps_cx (v_v 0) R7.ins (vl_is (vc (c_lt (v_lenL T.f_len (ll_sl (cp_ll (lc_fil (i := 9) (own := [("rule", 9)]) (ws := zr) (enc := fun z => z.1) (fun z => decide (S z.2.word = "pass")) (fun z => z.1) (il_L (vl_sl (v_v 2) (sq_of (by rw [← y1]; exact E7 _ _ hp2)))) (by omega)
              (blkOk_by (N := nReaderRuleLine) (sc := defScope sReaderRuleLine) (by decide +kernel)) (fun _ _ _ _ _ z hz => ?_) (fun _ _ _ _ _ z hz _ => v_v 9))))) (v_gi T.i_MOST_PASSING))) (by rw [List.length_map, efl]; congr 1; exact decide_eq_decide.mpr (by omega))) (fun q3 H8 e8 => ?_) fun q => bad (by rw [em, if_neg fun y => (of_decide_eq_false q) y.2]) H7 E7
            · obtain ⟨za, zb⟩ := z
              obtain ⟨rw0, rg, rc⟩ := zb
              have t := (y3 _ hz).mono E7
              cases t with
              | tup h1 h2 =>
                cases h2 with
                | cons p1 h2 =>
                  cases p1
                  exact bl_is (bc (c_eq (v_ixLT h1 (v_v 9)) v_str)) dec_V
            · have h48 := (e7.trans e8) _ _ h46
              refine xb_set 3 (v_ixW0 0 (vl_sl (v_v 4) (sq_of h48)) v_int (w := gw) rfl) fun H9 e9 => ?_
              refine xb_setL 4 (ll_is (l_slL (vl_sl (v_v 4) (sq_of (e9 _ _ h48))) (o_s v_int) o_n) (show cutV _ (some ((1 : Nat) : Int)) none = r2.map fun a => V.str (S a) by rw [cutV_from]; rfl)) fun rl2 H10 hrl2 e10 h10 => ?_
              exact xb_nil ⟨some gw, r2, rl2, some (.ref gl), rfl, ((E7.trans e8).trans e9).trans e10, h10, ⟨by have := hzr.1; simp only [List.length_cons] at this; omega, fun x hx => hzr.2 x (by simp [hx])⟩, by rw [em, if_pos ⟨of_decide_eq_true q2, of_decide_eq_true q3⟩]⟩
        · have hk' := of_decide_eq_false hk
          refine xb_nil ⟨none, r, rl, none, rfl, E4.trans e5, e5 _ _ h4, hzr, by rw [em, if_neg hk']⟩
        · rintro σ' H5 ⟨goal, r', rl', o5, hσ, E5, h5, hzr', em'⟩
          subst hσ
          have R5 := hR.mono E5
          refine xb_setCX (W := fun c d _ H => E c d H) (i := 10) (own := [("word", 10)]) (ws := r') (enc := fun a => V.str (S a)) 6 (fun _ x y H => ∃ n dt, condM st x = some (n, dt) ∧ Tp H y dt) tk_cx nd rfl (blkOk_by (N := nReaderRuleLine) (sc := defScope sReaderRuleLine) (by decide +kernel)) (il_L (vl_sl (v_v 4) (sq_of h5))) (by have := hzr'.1; omega) (fun _ _ _ _ _ => ⟨by assumption, rfl, Or.inl rfl, Or.inr rfl⟩) (by intro _; rfl)
            (fun _ _ _ _ _ xe pass' x hx D H6 e6 _ Q' k' => xe_meth T.cb_Reader MC hr (pass' E fun _ _ _ _ h => h) (v_v 0) (R5.mono e6).ins rfl fun H7 e7 => xa_cons (xe_v (v_v 10) fun H8 e8 => xa_nil ⟨H0, ad, dx, g, c, d, am, row, ps' ++ [p], st, x, rfl, ((R5.mono e6).mono e7).mono e8, hzr'.2 x hx, fun n dt hc H9 y e9 t => k' y H9 ((e7.trans e8).trans e9) ⟨n, dt, hc, t⟩, fun hc => bad (by rw [em']; unfold ruleFin; rw [conds_bad hc hx]) H8 (((E5.trans e6).trans e7).trans e8)⟩))
            (fun _ _ _ _ _ e ⟨n, dt, a, b⟩ => ⟨n, dt, a, b.mono e⟩) (fun _ _ _ _ _ _ ⟨n, dt, a, b⟩ hl => ⟨n, dt, a, b.tex ((Fex.refl _).mut (noTup.lst hl)).tex⟩) fun cl ys H6 hcl e6 h6 pr => ?_
          obtain ⟨cs, hcs, hct, hlen, hnm⟩ := conds_of pr
          have emf : ruleM st (w0 :: r) = if (cs.map (·.1)).Nodup then some { st with gates := gts ++ [{ gt with rules := gt.rules ++ [⟨w0, goal, cs.map (·.2)⟩] }] } else none := by rw [em']; unfold ruleFin; rw [hcs]
          have E6 := E5.trans e6
          have R6 := R5.mono e6
          obtain ⟨zc, c1, c2, c3⟩ := TpA.zip (f := fun x : W × PyData => x.2) hct
          have lc : zc.length ≤ 4090 := by have := hzr'.1; rw [← hlen, c2, List.length_map] at this; exact this
          refine xb_setCv (zs := (cs.map (·.1)).map fun a => V.str (S a)) 7 ((lc_map (i := 11) (own := [("condition", 11)]) (ws := zc) (enc := fun z => z.1) (fun z => V.str (S z.2.1)) (il_L (vl_sl (v_v 6) (sq_of (by rw [← c1]; exact h6)))) (by omega) (blkOk_by (N := nReaderRuleLine) (sc := defScope sReaderRuleLine) (by decide +kernel)) (fun _ _ _ _ _ z hz => ?_)).is fun _ _ _ _ q => by rw [q, c2, List.map_map, List.map_map]; rfl) fun nl H7 hnl e7 h7 => ?_
          · obtain ⟨ds, hd⟩ := hnm z.2 (by rw [c2]; exact List.mem_map_of_mem hz)
            have t := c3 z hz
            rw [hd] at t
            generalize z.1 = zv at t ⊢
            cases t with
            | tup h1 h2 =>
              cases h2 with
              | cons p1 h2 =>
                cases p1
                exact v_ixLT h1
          · have E7 := E6.trans e7
            have R7 := R6.mono e7
            have nsl : (cs.map (·.1)).length ≤ 4090 := by rw [List.length_map, hlen]; exact hzr'.1
            refine xb_need (decide (cs.map (·.1)).Nodup) T hr3 ps_cx (v_v 0) R7.ins (vl_is (vc ((c_eq (v_lenSet T.f_len T.f_set (vl_sl (v_v 7) (sq_of h7)) nsl) (v_lenL T.f_len (vl_sl (v_v 7) (sq_of h7)))).is (by rw [List.length_map, dec_lenEq]))) (by congr 1; exact decide_eq_decide.mpr setLen_nd)) (fun q H8 e8 => ?_) fun q => bad (by rw [emf, if_neg (of_decide_eq_false q)]) H7 E7
            rw [if_pos (of_decide_eq_true q)] at emf
            have E8 := E7.trans e8
            have R8 := R7.mono e8
            refine xb_appE (l := p.2) (xs := rs) (v_v 2) (E8 _ _ hp2) (fun H9 e9 => ?_) (by rw [lrs]; omega)
            refine xe_d (d := Rl.d ⟨w0, goal, cs.map (·.2)⟩) (d_tup (da_cons (d_str (v_ixW0 0 (vl_sl (v_v 1) (sq_of ((E8.trans e9) _ _ hw))) v_int (w := w0) rfl)) (da_cons (d_v (v_v 3) (goal_tp goal)) (da_cons (d_tupL T.f_tuple (vl_sl (v_v 6) (sq_of (((e7.trans e8).trans e9) _ _ h6))) (hct.mono ((e7.trans e8).trans e9))) da_nil)))) fun y H10 e10 ty => ?_
            have E10 := (E8.trans e9).trans e10
            have R10 := (R8.mono e9).mono e10
            have hm : am ≠ p.2 := fun q => R10.amn (by rw [q]; simp)
            refine ⟨E10 _ _ hp2, xb_nil (k1 _ emf _ _ _ _ _ (R10.upd (E10 _ _ hp2) hm (R10.sta.rule eg (E10 _ _ hp2) ty) R10.amn ⟨R10.ok.f4, R10.ok.f, R10.ok.g9, R10.ok.g, ?_, ?_⟩))⟩
            · have := R10.ok.t5
              rw [eg] at this
              simpa using this
            · intro x hx
              rcases List.mem_append.mp hx with q' | q'
              · exact R10.ok.t x (by rw [eg]; simp [q'])
              · simp only [List.mem_cons, List.not_mem_nil, or_false] at q'
                subst q'
                show (gt.rules ++ [_]).length ≤ 8
                rw [List.length_append, List.length_singleton]; omega
    · cases ws with
      | nil => exact absurd rfl hne
      | cons w0 r =>
        unfold ruleM
        rw [eg, List.getLast?_append]
        simp only [List.getLast?_singleton, Option.some_or]
        rw [if_neg (of_decide_eq_false q)]
end
end Gw

set_option maxRecDepth 100000
set_option maxHeartbeats 4000000
namespace Gw
open PySem PySem.Spec PyProof.Rows L2 Evl SX
section
variable {X : Cx} {e : Expr} {rest sb : List Stmt} {σ : L2.St} {H : Hp} {D : Ends} {xs : List V} {n m : Str} {p p1 p2 p3 p4 pos pos2 : Pos} {k1 : Nat}
/-- for n, m in enumerate(e), e a list that stands at ad -/
theorem xb_forE {ad : Addr} (i l : Nat) (hp : PassesOwn (model X.prog X.w) X.A X.env X.xe) (hm : X.mg "enumerate" = none) (h : Vl X e σ H (.ref ad)) (hx : SqL X.K H ad xs) (Pv : Nat → L2.St → Hp → Prop) (h0 : ∀ H1, Ex H H1 → Pv 0 σ H1) (hl : ∀ j σ' H', j ≤ xs.length → Pv j σ' H' → SqL X.K H' ad xs)
    (hs : ∀ j x σ' H', xs[j]? = some x → Pv j σ' H' → ∀ H1, Ex H' H1 → XB X sb { D with nx := Pv (j + 1), ct := Pv (j + 1), bk := fun σ2 H2 => XB X rest D σ2 H2 } ((σ'.set i (some (.int (j : Nat)))).set l (some x)) H1) (hd : ∀ σ' H', Pv xs.length σ' H' → XB X rest D σ' H') (hc : X.calm = true := by rfl)
    (h1 : Nm X i n := by exact ⟨by assumption, rfl, by first | exact Or.inl rfl | exact Or.inr rfl, by first | exact .inl rfl | exact .inr rfl⟩) (h2 : Nm X l m := by exact ⟨by assumption, rfl, by first | exact Or.inl rfl | exact Or.inr rfl, by first | exact .inl rfl | exact .inr rfl⟩)
    (hg : Gl X "enumerate" := by rfl) (ha : starEach [e] X.env = [(false, eval e X.env)] := by rfl) (hfs : ∀ x, foldedSetIterable (.Call (.Name "enumerate" p) [e] [] pos) X.env x = pure x := by intro _; rfl)
    (hn : (assignEach [.Name n p1, .Name m p2] X.env).length = 2 := by rfl) (hst : (assignEach [.Name n p1, .Name m p2] X.env).findIdx? (·.1) = none := by rfl) :
    XB X (.For (.Tuple [.Name n p1, .Name m p2] k1 p3) (.Call (.Name "enumerate" p) [e] [] pos) sb [] pos2 :: rest) D σ H :=
  xb_cons (xs_of (ps_for hp hc (pi_enum hg hm pa_xa ha) (pg_tup hc (pgs_cons h1.pg (pgs_cons h2.pg pgs_nil)) hn hst) pss_xb hfs)
    ((a_1 h ha) H (Ex.refl H) _ fun H1 e1 => ⟨ad, xs, rfl, ex_l e1 hx, for_it (D := { D with nx := fun σ2 H2 => XB X rest D σ2 H2 }) (walk_enum (K := X.K) (a := ad) (xs := xs)) Pv (h0 H1 e1) (fun j σ' H' hj q => hl j σ' H' hj q)
      (fun j x σ' H' H'' hj q y => by
        obtain ⟨t, u, v, ev, ht, eh, eu, hv⟩ := y
        subst ev eh
        cases eu
        exact ⟨t, [.int (j : Nat), v], rfl, st_of upd_same, rfl, _, [v], rfl, v, [], rfl, rfl, hs j v σ' H' hv q _ (Ex.new ht)⟩)
      (fun σ' H' q => hd σ' H' q)⟩))
end
end Gw

set_option maxRecDepth 100000
set_option maxHeartbeats 4000000
namespace Gw
open PySem PySem.Spec PyProof.Rows L2 Evl SX
section
variable {P : Program} {w : World} {K : PySem.W.Frag} {mg : Str → Option Value} {base : Heap}
theorem lineM_cons {st : Ho} {w0 : W} {r : List W} : lineM st (w0 :: r) = if S w0 = "field" then fieldM st (w0 :: r) else if S w0 = "group" then groupM st (w0 :: r) else if S w0 = "gate" then gateM st (w0 :: r) else if S w0 = "let" ∨ S w0 = "refuse" ∨ S w0 = "pass" then ruleM st (w0 :: r) else none := rfl
theorem ok_went (T : Tx K mg) : Me P w K mg base 7 (CR K) "went" (spLine K lineM) := by
  have M1 : Me P w K mg base 5 (CR K) "field_line" (spLine K fieldM) := ok_fieldLine T
  have M2 : Me P w K mg base 4 (CR K) "group_line" (spLine K groupM) := ok_groupLine T
  have M3 : Me P w K mg base 4 (CR K) "gate_line" (spLine K gateM) := ok_gateLine T
  have M4 : Me P w K mg base 6 (CR K) "rule_line" (spLine K ruleM) := ok_ruleLine T
  refine me_of T dReaderWent 32 T.m_Reader_went scReaderWent (fun _ _ _ _ _ _ us hl => match us, hl with | [_, _], _ => rfl) (fun _ _ _ _ => spLine_len) fun f cdv A outer s H vs Q E hr ⟨H0, ad, dx, g, c, d, am, row, ps, st, wl, ws, e, hR, hw, hz, hne, k1, k2⟩ => ?_
  subst e
  have nd := scReaderWent.nd
  have hr5 : Room 5 (Cxd dReaderWent P w K mg base nReaderWent f cdv A outer s H E).A := hr.mono (by decide)
  have hr4 : Room 4 (Cxd dReaderWent P w K mg base nReaderWent f cdv A outer s H E).A := hr.mono (by decide)
  have hr3 : Room 3 (Cxd dReaderWent P w K mg base nReaderWent f cdv A outer s H E).A := hr.mono (by decide)
  match ws, hw, hz, k1, k2, hne with
  | w0 :: r, hw, hz, k1, k2, hne =>
    have bad : lineM st (w0 :: r) = none → ∀ H', Ex H H' → Bad K row H' E := fun q H' e' => (k2 q).go (hR.sta.ex.trans e')
    have w00 : ∀ {e : Expr} {σ' : L2.St} {X' : Cx} {H' : Hp} {p pos : Pos} {j : Nat}, True := trivial
    have go : ∀ (M : Ho → List W → Option Ho), M st (w0 :: r) = lineM st (w0 :: r) → ∀ H', Ex H H' → spLine K M [.ref ad, .ref wl] H' (fun v H2 => v = .non ∧ Q .non H2) E := fun M hM H' e' => ⟨H0, ad, dx, g, c, d, am, row, ps, st, wl, w0 :: r, rfl, hR.mono e', e' _ _ hw, hz, hne, fun st' hs g' c' d' ps' H2 R2 => ⟨rfl, k1 st' (by rw [← hM]; exact hs) g' c' d' ps' H2 R2⟩, fun hs => k2 (by rw [← hM]; exact hs)⟩
    have em := lineM_cons (st := st) (w0 := w0) (r := r)
    by_cases h1 : S w0 = "field"
    · rw [if_pos h1] at em
      refine xb_yes (bl_is (bc (c_eq (v_ixW0 0 (vl_sl (v_v 1) (sq_of hw)) v_int (w := w0) rfl) v_str)) (by rw [dec_V]; exact decide_eq_true h1)) fun H1 e1 => ?_
      refine xb_expr (xe_mono (xe_meth T.cb_Reader M1 hr5 ps_cx (v_v 0) (hR.mono e1).ins rfl fun H2 e2 => xa_cons (xe_v (v_v 1) fun H3 e3 => xa_nil (go fieldM em.symm H3 ((e1.trans e2).trans e3)))) fun v H2 q => xb_nil (xb_nil q.2))
    · rw [if_neg h1] at em
      refine xb_else (bl_is (bc (c_eq (v_ixW0 0 (vl_sl (v_v 1) (sq_of hw)) v_int (w := w0) rfl) v_str)) (by rw [dec_V]; exact decide_eq_false h1)) fun H1 e1 => ?_
      by_cases h2 : S w0 = "group"
      · rw [if_pos h2] at em
        refine xb_yes (bl_is (bc (c_eq (v_ixW0 0 (vl_sl (v_v 1) (sq_of (e1 _ _ hw))) v_int (w := w0) rfl) v_str)) (by rw [dec_V]; exact decide_eq_true h2)) fun H2 e2 => ?_
        have E2 := e1.trans e2
        refine xb_expr (xe_mono (xe_meth T.cb_Reader M2 hr4 ps_cx (v_v 0) (hR.mono E2).ins rfl fun H3 e3 => xa_cons (xe_v (v_v 1) fun H4 e4 => xa_nil (go groupM em.symm H4 ((E2.trans e3).trans e4)))) fun v H3 q => xb_nil (xb_nil (xb_nil q.2)))
      · rw [if_neg h2] at em
        refine xb_else (bl_is (bc (c_eq (v_ixW0 0 (vl_sl (v_v 1) (sq_of (e1 _ _ hw))) v_int (w := w0) rfl) v_str)) (by rw [dec_V]; exact decide_eq_false h2)) fun H2 e2 => ?_
        have E2 := e1.trans e2
        by_cases h3 : S w0 = "gate"
        · rw [if_pos h3] at em
          refine xb_yes (bl_is (bc (c_eq (v_ixW0 0 (vl_sl (v_v 1) (sq_of (E2 _ _ hw))) v_int (w := w0) rfl) v_str)) (by rw [dec_V]; exact decide_eq_true h3)) fun H3 e3 => ?_
          have E3 := E2.trans e3
          refine xb_expr (xe_mono (xe_meth T.cb_Reader M3 hr4 ps_cx (v_v 0) (hR.mono E3).ins rfl fun H4 e4 => xa_cons (xe_v (v_v 1) fun H5 e5 => xa_nil (go gateM em.symm H5 ((E3.trans e4).trans e5)))) fun v H4 q => xb_nil (xb_nil (xb_nil (xb_nil q.2))))
        · rw [if_neg h3] at em
          refine xb_else (bl_is (bc (c_eq (v_ixW0 0 (vl_sl (v_v 1) (sq_of (E2 _ _ hw))) v_int (w := w0) rfl) v_str)) (by rw [dec_V]; exact decide_eq_false h3)) fun H3 e3 => ?_
          have E3 := E2.trans e3
          have R3 := hR.mono E3
          refine xb_need (decide (S w0 = "let") || (decide (S w0 = "refuse") || decide (S w0 = "pass"))) T hr3 ps_cx (v_v 0) R3.ins (vl_is (vc (c_inT (v_ixW0 0 (vl_sl (v_v 1) (sq_of (E3 _ _ hw))) v_int (w := w0) rfl) (ul_tu (u_tup (a_cons v_str (a_cons v_str (a_1 v_str))))) rfl rfl)) (by rw [inV3])) (fun q H4 e4 => ?_) fun q => bad (by rw [em, if_neg (by simpa using q)]) H3 E3
          rw [if_pos (by simpa using q)] at em
          have E4 := E3.trans e4
          exact xb_expr (xe_mono (xe_meth T.cb_Reader M4 hr ps_cx (v_v 0) (hR.mono E4).ins rfl fun H5 e5 => xa_cons (xe_v (v_v 1) fun H6 e6 => xa_nil (go ruleM em.symm H6 ((E4.trans e5).trans e6)))) fun v H5 q => xb_nil (xb_nil (xb_nil (xb_nil q.2))))
end
end Gw

set_option maxRecDepth 100000
set_option maxHeartbeats 4000000
namespace Gw
open PySem PySem.Spec PyProof.Rows L2 Evl SX
theorem litNl : ("\n" : Str) = S [10] := by decide +kernel
theorem litTab : ("\t" : Str) = S [9] := by decide +kernel
theorem litHash : ("#" : Str) = S [35] := by decide +kernel
theorem litBlank : (" " : Str) = S [32] := by decide +kernel
theorem putF_row {g c d am : Addr} {n : Int} {v : Int} : putF "row" (.int v) (rdF g c d am n) = rdF g c d am v := by
  unfold rdF
  simp only [putF]
  repeat rw [if_neg (by decide +kernel)]
  rw [if_pos trivial]
theorem GtAt.ins {tup : Bool} {H : Hp} {p : Addr × Addr} {g : Gt} {a C dx : Addr} {fs : List (Str × V)} {o : HO} (h : GtAt tup H p g) (ha : H a = some (.ins C dx fs)) : GtAt tup (L2.upd H a o) p g := by
  obtain ⟨h1, rs, h2, h3⟩ := h
  have tx : Tex H (L2.upd H a o) := ((Fex.refl H).mut (noTup.ins ha)).tex
  have ne : ∀ {b : Addr} {l : List V}, H b = some (.lst l) → b ≠ a := fun {b l} z q => by rw [q, ha] at z; cases z
  refine ⟨?_, rs, by rw [upd_ne (ne h2)]; exact h2, h3.tex tx⟩
  cases tup with
  | true => rw [if_pos rfl] at h1 ⊢; exact tx _ _ h1
  | false => rw [if_neg (by decide)] at h1 ⊢; rw [upd_ne (ne h1)]; exact h1
theorem RdAt.setRow {K : PySem.W.Frag} {H0 H : Hp} {ad dx g c d am : Addr} {row : Int} {ps : List (Addr × Addr)} {st : Ho} (h : RdAt K H0 ad dx g c d am row ps st H) (n : Int) : RdAt K H0 ad dx g c d am n ps st (L2.upd H ad (.ins (CR K) dx (rdF g c d am n))) := by
  have fx : Fex H (L2.upd H ad (.ins (CR K) dx (rdF g c d am n))) := (Fex.refl H).mut (noTup.ins h.ins)
  have ne : ∀ {b : Addr} {l : List V}, H b = some (.lst l) → b ≠ ad := fun {b l} z q => by rw [q, h.ins] at z; cases z
  refine ⟨upd_same, ⟨h.sta.ex.mut h.adn, h.sta.new, h.sta.nd, h.sta.sep, ?_, ?_, by rw [upd_ne (ne h.sta.ds)]; exact h.sta.ds, paired_imp h.sta.gts fun p _ b q => q.ins h.ins⟩, by rw [upd_ne (ne h.amz)]; exact h.amz, h.amn, h.adn, h.ok⟩
  · obtain ⟨gs, a, b⟩ := h.sta.gs
    exact ⟨gs, by rw [upd_ne (ne a)]; exact a, Paired.mono (fun _ _ q => q.fex fx) b⟩
  · obtain ⟨cs, a, b⟩ := h.sta.cs
    exact ⟨cs, by rw [upd_ne (ne a)]; exact a, b.tex fx.tex⟩
theorem RdAt.less {K : PySem.W.Frag} {H0 H1 H : Hp} {ad dx g c d am : Addr} {row : Int} {ps : List (Addr × Addr)} {st : Ho} (e : Ex H0 H1) (h : RdAt K H1 ad dx g c d am row ps st H) : RdAt K H0 ad dx g c d am row ps st H :=
  ⟨h.ins, ⟨e.trans h.sta.ex, fun a ha => fresh_back e (h.sta.new a ha), h.sta.nd, h.sta.sep, h.sta.gs, h.sta.cs, h.sta.ds, h.sta.gts⟩, h.amz, h.amn, fresh_back e h.adn, h.ok⟩
/-- a list made later belongs to what stays -/
theorem RdAt.keep {K : PySem.W.Frag} {H0 H1 H : Hp} {ad dx g c d am l : Addr} {row : Int} {ps : List (Addr × Addr)} {st : Ho} {o : HO} (h : RdAt K H0 ad dx g c d am row ps st H1) (e : Ex H1 H) (hl : H1 l = none) (hl2 : H l = some o) : RdAt K (L2.upd H0 l o) ad dx g c d am row ps st H := by
  have h' := h.mono e
  have ne : ∀ {b : Addr} {u : HO}, H1 b = some u → b ≠ l := fun {b u} z q => by rw [q, hl] at z; cases z
  refine ⟨h'.ins, ⟨fun b u z => ?_, fun a ha => ?_, h'.sta.nd, h'.sta.sep, h'.sta.gs, h'.sta.cs, h'.sta.ds, h'.sta.gts⟩, h'.amz, h'.amn, by rw [upd_ne (ne h.ins)]; exact h.adn, h'.ok⟩
  · by_cases q : b = l
    · subst q; rw [upd_same] at z; cases z; exact hl2
    · rw [upd_ne q] at z; exact h'.sta.ex _ _ z
  · have : ∃ u, H1 a = some u := by
      simp only [List.mem_cons] at ha
      rcases ha with q | q | q | q
      · obtain ⟨gs, a1, _⟩ := h.sta.gs; exact ⟨_, by rw [q]; exact a1⟩
      · obtain ⟨cs, a1, _⟩ := h.sta.cs; exact ⟨_, by rw [q]; exact a1⟩
      · exact ⟨_, by rw [q]; exact h.sta.ds⟩
      · obtain ⟨pr, hpr, ex⟩ := List.mem_map.mp q
        obtain ⟨j, hj⟩ := List.mem_iff_getElem?.mp hpr
        obtain ⟨zs, z1, z2, z3⟩ := paired_zip h.sta.gts
        rw [z1] at hpr
        obtain ⟨z, hz, ez⟩ := List.mem_map.mp hpr
        obtain ⟨_, rs, hrs, _⟩ := (z3 z hz).lst
        exact ⟨_, by rw [← ex, ← ez]; exact hrs⟩
    obtain ⟨u, hu⟩ := this
    rw [upd_ne (ne hu)]
    exact h.sta.new a ha
def TextOk (t : W) : Prop := t.length ≤ 1000000 ∧ ∀ l ∈ TL.spl [10] 0 [] t, l.length ≤ 8000
def spThrough (K : PySem.W.Frag) : Sp := fun vs H Q E => ∃ (H0 : Hp) (ad dx g c d am : Addr) (row : Int) (ps : List (Addr × Addr)) (t : W), vs = [.ref ad, .str (S t)] ∧ RdAt K H0 ad dx g c d am row ps ⟨[], [], []⟩ H ∧ TextOk t ∧
  (∀ st', readM t = .ok st' → ∀ n g' c' d' ps' H', RdAt K H0 ad dx g' c' d' am n ps' st' H' → Q .non H') ∧ (∀ n : Nat, readM t = .error n → Bad K (n : Int) H0 E)
theorem nonempty_few {a : W} : 2 * ((TL.spl [32] 0 [] a).filter fun w => decide (w ≠ [])).length ≤ a.length + 1 := by
  have key : ∀ (n : Nat) (a : W), a.length ≤ n → 2 * ((TL.spl [32] 0 [] a).filter fun w => decide (w ≠ [])).length ≤ a.length + 1 := by
    intro n
    induction n with
    | zero =>
      intro a h
      rw [List.eq_nil_of_length_eq_zero (Nat.le_zero.mp h)]
      decide
    | succ n ih =>
      intro a h
      rw [spl_par (by decide) a]
      cases e : TL.par [32] [] a with
      | none =>
        dsimp only
        by_cases hn : a = []
        · subst hn; decide
        · have : 0 < a.length := by cases a with | nil => exact absurd rfl hn | cons _ _ => simp
          simp [hn]; omega
      | some pq =>
        obtain ⟨p, q⟩ := pq
        dsimp only
        have ea := par_some_eq e
        have la : a.length = p.length + 1 + q.length := by rw [ea]; simp; omega
        have := ih q (by omega)
        by_cases hp : p = []
        · rw [List.filter_cons, if_neg (by simp [hp])]
          rw [hp] at la
          simp only [List.length_nil] at la
          omega
        · have : 0 < p.length := by cases p with | nil => exact absurd rfl hp | cons _ _ => simp
          rw [List.filter_cons, if_pos (by simp [hp]), List.length_cons]
          omega
  exact key a.length a (Nat.le_refl _)
/-- a line's text ahead of a remark -/
def headL (l : W) : W := match TL.par [35] [] l with | some (p, _) => p | none => l
theorem headL_len (l : W) : (headL l).length ≤ l.length := by
  unfold headL
  cases e : TL.par [35] [] l with
  | none => exact Nat.le_refl _
  | some pq =>
    obtain ⟨p, q⟩ := pq
    have := congrArg List.length (par_some_eq e)
    simp at this
    dsimp only
    omega
theorem wordsM_eq (l : W) : wordsM l = (TL.spl [32] 0 [] (headL l)).filter fun a => decide (a ≠ []) := rfl
theorem parV_head (l : W) : ∃ r, parV [35] l = .str (S (headL l)) :: r := by
  unfold parV headL
  cases TL.par [35] [] l with
  | none => exact ⟨_, rfl⟩
  | some pq => obtain ⟨p, q⟩ := pq; exact ⟨_, rfl⟩
theorem words_ok {l : W} (h : l.length ≤ 8000) : TxOk (wordsM l) := by
  have h1 := headL_len l
  have h2 := nonempty_few (a := headL l)
  rw [wordsM_eq]
  exact ⟨by omega, fun a ha => by
    have := spl_le (by decide) (List.mem_filter.mp ha).1
    omega⟩
section
variable {P : Program} {w : World} {K : PySem.W.Frag} {mg : Str → Option Value} {base : Heap}
theorem l_splitBig {X : Cx} {e o : Expr} {σ : L2.St} {H : Hp} {a b : W} {u : Str} {apos pos : Pos} (hu : u = S b) (ho : Vl X o σ H (.str (S a))) (he : Vl X e σ H (.str u)) (hz : a.length ≤ 1000000) (hb : b ≠ [] ∧ b.all (· < 256) = true) (hs : starEach [e] X.env = [(false, eval e X.env)] := by rfl) (hbase : attributeBase o "split" X.env (eval o X.env) = eval o X.env := by rfl) (hline : (apos.endLine == pos.line) = true := by rfl) :
    Ll X (.Call (.Attribute o "split" apos) [e] [] pos) σ H ((TL.spl b 0 [] a).map fun p => V.str (S p)) := by
  refine ll_is (l_split ho he (by rw [hu, S_len]; cases b with | nil => exact absurd rfl hb.1 | cons _ _ => rfl) (by rw [S_len]; exact Nat.le_trans (show a.length + 2 ≤ 1000002 by omega) (show 1000002 ≤ sizeLine by decide)) hs hbase hline) ?_
  rw [hu, split_S hb.1 hb.2, List.map_map]
  rfl
theorem rowsM_cons {st : Ho} {k : Nat} {l : W} {r : List W} : rowsM st k (l :: r) = match rowM st l with | some st' => rowsM st' (k + 1) r | none => .error (k + 1) := rfl
theorem ok_wentThrough (T : Tx K mg) : Me P w K mg base 8 (CR K) "went_through" (spThrough K) := by
  have MW : Me P w K mg base 7 (CR K) "went" (spLine K lineM) := ok_went T
  refine me_of T dReaderWentThrough 33 T.m_Reader_went_through scReaderWentThrough (fun _ _ _ _ _ _ us hl => match us, hl with | [_, _], _ => rfl) (fun _ _ _ _ ⟨_, _, _, _, _, _, _, _, _, _, e, _⟩ => by subst e; rfl) fun f cdv A outer s H vs Q E hr ⟨H0, ad, dx, g, c, d, am, row, ps, t, e, hR, ht, k1, k2⟩ => ?_
  subst e
  have nd := scReaderWentThrough.nd
  have hr3 : Room 3 (Cxd dReaderWentThrough P w K mg base nReaderWentThrough f cdv A outer s H E).A := hr.mono (by decide)
  generalize hL : TL.spl [10] 0 [] t = lines at *
  have hlines : ∀ l ∈ lines, l.length ≤ 8000 := by rw [← hL]; exact ht.2
  refine xb_setL 2 (l_splitBig litNl (v_v 1) v_str ht.1 ⟨by decide, by decide⟩) fun ll H1 hll e1 h1 => ?_
  rw [hL] at h1
  have R1 := hR.keep e1 hll h1
  have exA : Ex H0 (upd H0 ll (.lst (lines.map fun p => V.str (S p)))) := Ex.new (fresh_back hR.sta.ex hll)
  refine xb_forE 3 4 (xs := lines.map fun p => V.str (S p)) po_cx T.f_enumerate (v_v 2) (sq_of h1) (fun j σ' H' => ∃ row' g' c' d' ps' st' o3 o4 o5, σ' = [some (.ref ad), some (.str (S t)), some (.ref ll), o3, o4, o5, none] ∧ RdAt K (upd H0 ll (.lst (lines.map fun p => V.str (S p)))) ad dx g' c' d' am row' ps' st' H' ∧ readM t = rowsM st' j (lines.drop j))
    (fun H2 e2 => ⟨row, g, c, d, ps, ⟨[], [], []⟩, none, none, none, rfl, R1.mono e2, by unfold readM; rw [hL]; rfl⟩) (fun j σ' H' _ ⟨_, _, _, _, _, _, _, _, _, _, R, _⟩ => sq_of (R.sta.ex _ _ upd_same)) ?_ ?_
  · rintro j x σ' H' hx ⟨row', g', c', d', ps', st', o3, o4, o5, hσ, R, em⟩ H2 e2
    subst hσ
    rw [List.getElem?_map] at hx
    cases hlj : lines[j]? with
    | none => rw [hlj] at hx; cases hx
    | some l =>
      rw [hlj] at hx
      cases hx
      have hlm : l ∈ lines := List.mem_of_getElem? hlj
      have hl8 := hlines l hlm
      have hlt : j < lines.length := (List.getElem?_eq_some_iff.mp hlj).1
      have hdr : lines.drop j = l :: lines.drop (j + 1) := by rw [List.drop_eq_getElem_cons hlt]; congr 1; exact (List.getElem?_eq_some_iff.mp hlj).2
      rw [hdr, rowsM_cons] at em
      have bad : rowM st' l = none → ∀ H3, Ex (upd H0 ll (.lst (lines.map fun p => V.str (S p)))) H3 → Bad K ((j + 1 : Nat) : Int) H3 E := fun q H3 e3 => by
        rw [q] at em
        exact (k2 _ em).go (exA.trans e3)
      refine xb_fld T.cb_Reader (v_add (v_v 3) v_int) (v_v 0) (R.mono e2).ins fun H3 e3 => ?_
      have R3 := (((R.mono e2).mono e3).setRow ((j : Int) + 1))
      rw [putF_row]
      generalize upd H3 ad (.ins (CR K) dx (rdF g' c' d' am ((j : Int) + 1))) = H4 at R3 ⊢
      refine xb_need (!decide (9 ∈ l)) T hr3 ps_cx (v_v 0) R3.ins (vc (c_ninC (c := 9) (z := S l) (vl_is v_str (by rw [litTab])) (v_v 4))) (fun q H5 e5 => ?_) fun q => bad (by unfold rowM; rw [if_pos (by simpa using q)]) H4 R3.sta.ex
      have nt : ¬ 9 ∈ l := by simpa using q
      have er : rowM st' l = lineM st' (wordsM l) := by unfold rowM; rw [if_neg nt]
      have R5 := R3.mono e5
      obtain ⟨pr, epr⟩ := parV_head l
      have hh := headL_len l
      refine xb_setCv (zs := (wordsM l).map fun a => V.str (S a)) 5 ((lc_fil (i := 6) (own := [("word", 6)]) (ws := TL.spl [32] 0 [] (headL l)) (enc := fun a => V.str (S a)) (fun a => decide (a ≠ [])) (fun a => V.str (S a)) (il_L (ll_sl (l_splitW litBlank (v_ixT (v := .str (S (headL l))) (tu_is (ul_tu (u_partW litHash (v_v 4) v_str (by omega) (by decide))) epr) v_int (by rw [show (0 : Int) = ((0 : Nat) : Int) from rfl, atI_n]; rfl)) v_str (by omega) ⟨by decide, by decide⟩))) (by have := spl_many (s := [32]) (a := headL l) (by decide); omega) (blkOk_by (N := nReaderWentThrough) (sc := defScope sReaderWentThrough) (by decide +kernel))
        (fun _ _ _ _ _ a _ => bl_is (bc (c_ne (v_v 6) v_str)) (by rw [dec_nil]; by_cases z : a = [] <;> simp [z])) (fun _ _ _ _ _ a _ _ => v_v 6)).is fun _ _ _ _ q => q) fun wl H6 hwl e6 h6 => ?_
      have R6 := R5.mono e6
      refine xb_when (k := !(wordsM l).isEmpty) (bl_is (bc (c_neNil hr (vl_sl (v_v 5) (sq_of h6)))) (by rw [isEmpty_map])) (fun q2 H7 e7 => ?_) fun q2 H7 e7 => ?_
      · have hne : wordsM l ≠ [] := by intro z; rw [z] at q2; cases q2
        have R7 := R6.mono e7
        refine xb_expr (xe_mono (Q := fun v H10 => ∃ (g2 c2 d2 : Addr) (ps2 : List (Addr × Addr)) (st2 : Ho), lineM st' (wordsM l) = some st2 ∧ RdAt K (L2.upd H0 ll (.lst (lines.map fun p => V.str (S p)))) ad dx g2 c2 d2 am ((j : Int) + 1) ps2 st2 H10) (xe_meth T.cb_Reader MW hr ps_cx (v_v 0) R7.ins rfl fun H8 e8 => xa_cons (xe_v (v_v 5) fun H9 e9 => xa_nil ⟨_, ad, dx, g', c', d', am, (j : Int) + 1, ps', st', wl, wordsM l, rfl, (R7.mono e8).mono e9, ((e7.trans e8).trans e9) _ _ h6, words_ok hl8, hne, fun st2 hs g2 c2 d2 ps2 H10 R10 => ⟨g2, c2, d2, ps2, st2, hs, R10⟩, fun hs => bad (by rw [er]; exact hs) _ (Ex.refl _)⟩)) fun v H10 ⟨g2, c2, d2, ps2, st2, hs, R10⟩ => ?_)
        refine xb_nil (xb_nil ⟨_, g2, c2, d2, ps2, st2, _, _, _, rfl, R10, by rw [em, er, hs]⟩)
      · have hne : wordsM l = [] := by simpa using q2
        exact xb_nil ⟨_, g', c', d', ps', st', _, _, _, rfl, R6.mono e7, by rw [em, er, hne]; rfl⟩
  · rintro σ' H' ⟨row', g', c', d', ps', st', o3, o4, o5, hσ, R, em⟩
    subst hσ
    rw [List.length_map, List.drop_length] at em
    have hlst := R.sta.ex _ _ (upd_same (H := H0) (a := ll) (o := .lst (lines.map fun p => V.str (S p))))
    refine xb_fld T.cb_Reader (vl_is (v_add (v_lenL T.f_len (vl_sl (v_v 2) (sq_of hlst))) v_int) (by rw [List.length_map])) (v_v 0) R.ins fun H3 e3 => ?_
    have R3 := ((R.mono e3).setRow ((lines.length : Int) + 1))
    rw [putF_row]
    generalize upd H3 ad (.ins (CR K) dx (rdF g' c' d' am ((lines.length : Int) + 1))) = H4 at R3 ⊢
    have em2 : readM t = if st'.gates = [] then .error (lines.length + 1) else .ok st' := em
    refine xb_need (!decide (st'.gates = [])) T hr3 ps_cx (v_v 0) R3.ins (vl_is (vc (c_neNil hr (vl_sl (v_fld T.cb_Reader (v_v 0) R3.ins rfl) (sq_of R3.sta.ds)))) (by rw [isEmpty_map, empty_iff (len_ds R3.sta)])) (fun q H5 e5 => ?_) fun q => ?_
    · rw [if_neg (by simpa using q)] at em2
      exact xb_nil (k1 st' em2 _ _ _ _ _ H5 ((R3.mono e5).less exA))
    · rw [if_pos (by simpa using q)] at em2
      exact (k2 _ em2).go (exA.trans R3.sta.ex)
end
end Gw

set_option maxRecDepth 100000
set_option maxHeartbeats 4000000
namespace Gw
open PySem PySem.Spec PyProof.Rows L2 Evl SX
section
variable {X : Cx} {e : Expr} {σ : L2.St} {H : Hp} {ds : List PyData} {p pos : Pos}
/-- tuple([..]) as data -/
theorem d_tupC {P : Addr → List V → Hp → Hp → Prop} (hm : X.mg "tuple" = none) (h : Cp X e σ H P) (k : ∀ q ys H1 H2, Ex H H1 → Ex H1 H2 → H2 q = some (.lst ys) → P q ys H1 H2 → TpA H2 ys ds) (hg : Gl X "tuple" := by rfl) (hs : starEach [e] X.env = (false, eval e X.env) :: starEach [] X.env := by rfl) (hpl : (backTo pos (starEach [] X.env)).any (·.1) = false := by rfl) :
    Dl X (.Call (.Name "tuple" p) [e] [] pos) σ H (.tuple ds) := fun H1 e1 Q kk => xe_of (pe_callTy call_tuple_of hg hm (by decide +kernel) (pa_cons pe_xe pa_nil hs) (by decide) (by decide) hs hpl)
  (h.v H1 e1 _ fun q ys H2 hq e2 h2 r => ⟨q, ys, rfl, .inl ⟨sq_of h2, fun l hl => kk (.ref l) _ (e2.trans (Ex.new hl)) (.tup (.inl upd_same) ((k q ys H1 H2 e1 e2 h2 r).mono (Ex.new hl)))⟩⟩)
end
section
variable {P : Program} {w : World} {K : PySem.W.Frag} {mg : Str → Option Value} {base : Heap}
def spGates (K : PySem.W.Frag) : Sp := fun vs H Q _ => ∃ (H0 : Hp) (ad dx g c d am : Addr) (row : Int) (ps : List (Addr × Addr)) (st : Ho), vs = [.ref ad] ∧ RdAt K H0 ad dx g c d am row ps st H ∧ GiveD (.tuple (st.gates.map Gt.d)) H Q
theorem ok_gatesRead (T : Tx K mg) : Me P w K mg base 1 (CR K) "gates_read" (spGates K) := by
  refine me_of T dReaderGatesRead 34 T.m_Reader_gates_read scReaderGatesRead (fun _ _ _ _ _ _ us hl => match us, hl with | [_], _ => rfl) (fun _ _ _ _ ⟨_, _, _, _, _, _, _, _, _, _, e, _⟩ => by subst e; rfl) fun f cdv A outer s H vs Q E hr ⟨H0, ad, dx, g, c, d, am, row, ps, st, e, hR, k⟩ => ?_
  subst e
  have nd := scReaderGatesRead.nd
  obtain ⟨zs, z1, z2, z3⟩ := paired_zip hR.sta.gts
  have zl : zs.length ≤ 5 := by have := hR.ok.t5; rw [z2, List.length_map] at this; exact this
  refine xb_retD (d_tupC T.f_tuple (lc_gen (i := 1) (own := [("door", 1)]) (ws := zs) (enc := fun z => V.ref z.1.1) (fun _ => true) (fun D z y H => Tp H y z.2.d) nd rfl (blkOk_by (N := nReaderGatesRead) (sc := defScope sReaderGatesRead) (by decide +kernel)) (il_L (vl_sl (v_fld T.cb_Reader (v_v 0) hR.ins rfl) (sq_of (show H d = some (.lst (zs.map fun z => V.ref z.1.1)) by have := hR.sta.ds; rw [z1, List.map_map] at this; exact this)))) (by omega) (fun _ _ _ _ _ => ⟨by assumption, rfl, Or.inl rfl, Or.inr rfl⟩) (by intro _; rfl) (fun _ _ _ _ _ _ _ => q_nil)
    (fun _ _ _ _ _ z hz _ D acc H1 e1 _ _ Q' k' => ?_) (fun _ _ _ _ _ e t => t.mono e) (fun _ _ _ _ _ _ t hl => t.tex ((Fex.refl _).mut (noTup.lst hl)).tex)) fun q ys H1 H2 _ _ _ pr => by rw [filter_tt] at pr; rw [z2, List.map_map]; exact TpA.of_paired pr) k
  obtain ⟨h1, rs, h2, h3⟩ := (z3 z hz).lst
  exact xe_d (d := z.2.d) (d_tup (da_cons (d_str (v_ixL (vl_sl (v_v 1) (sq_of (e1 _ _ h1))) v_int rfl)) (da_cons (d_str (v_ixL (vl_sl (v_v 1) (sq_of (e1 _ _ h1))) v_int rfl)) (da_cons (d_tupL T.f_tuple (vl_sl (v_ixL (v := .ref z.1.2) (vl_sl (v_v 1) (sq_of (e1 _ _ h1))) v_int rfl) (sq_of (e1 _ _ h2))) (h3.mono e1)) da_nil)))) k'
def spNeedText : Sp := fun vs H Q _ => ∃ z : Str, vs = [.str z] ∧ ∀ H', Ex H H' → Q .non H'
theorem ok_needText (T : Tx K mg) : Gd P w K mg base 1 "need_text" spNeedText := by
  refine gd_of T dNeedText 35 T.g_need_text scNeedText (fun _ _ _ _ _ _ us hl => match us, hl with | [_], _ => rfl) (fun _ _ _ _ ⟨_, e, _⟩ => by subst e; rfl) fun f cdv A outer s H vs Q E hr ⟨z, e, k⟩ => ?_
  subst e
  have nd := scNeedText.nd
  exact xb_no (b_not (b_v (v_isi (n := "str") (t := .type "str") T.f_isinstance (v_v 0) (fun _ _ => .base (.str _)) T.f_str (by decide +kernel) (k := true) (by rfl)))) fun H1 e1 => xb_nil (k H1 e1)
/-- Reader(..), made anew -/
def spRdInit (K : PySem.W.Frag) : Sp := fun vs H Q _ => ∃ (H0 : Hp) (ad dx a b c : Addr), vs = [.ref ad, .ref a, .ref b, .ref c, .bl false, .int 5] ∧ H ad = some (.ins (CR K) dx []) ∧ H a = some (.lst []) ∧ H b = some (.lst []) ∧ H c = some (.lst []) ∧ Ex H0 H ∧ H0 ad = none ∧
  ∀ g c d am H', RdAt K H0 ad dx g c d am 0 [] ⟨[], [], []⟩ H' → Q .non H'
theorem ok_rdInit (T : Tx K mg) : Mc P w K mg base 1 "Reader" (CR K) (spRdInit K) := by
  refine mc_of T (cI := "Reader") dReaderInit 23 T.g_Reader T.mk_Reader rfl scReaderInit (fun _ _ _ _ _ _ us hl => match us, hl with | [_, _, _, _, _, _], _ => rfl) (fun _ _ _ _ ⟨_, _, _, _, _, _, e, _⟩ => by subst e; rfl) fun f cdv A outer s H vs Q E hr ⟨H0, ad, dx, a, b, c, e, had, ha, hb, hc, eH, h0, k⟩ => ?_
  subst e
  have nd := scReaderInit.nd
  have ne : ∀ {H : Hp} {C dx : Addr} {fs : List (Str × V)} {x : Addr} {l : List V}, H ad = some (.ins C dx fs) → H x = some (.lst l) → x ≠ ad := fun h1 h2 q => by rw [q, h1] at h2; cases h2
  refine xb_fldL T.cb_Reader (l_list T.f_list (vl_sl (v_v 1) (sq_of ha))) (v_v 0) had fun g H1 hg e1 h1 => ?_
  have n1 := ne (e1 _ _ had) h1
  have B1 : upd H1 ad (.ins (CR K) dx (putF "grounds" (.ref g) [])) b = some (.lst []) := by rw [upd_ne (ne had hb)]; exact e1 _ _ hb
  refine xb_fldL T.cb_Reader (l_list T.f_list (vl_sl (v_v 2) (sq_of B1))) (v_v 0) upd_same fun cc H2 hcc e2 h2 => ?_
  have g2 : H2 g = some (.lst []) := e2 _ _ (by rw [upd_ne n1]; exact h1)
  have ad2 := e2 _ _ upd_same
  have n2 := ne ad2 h2
  have c2 : H2 c = some (.lst []) := e2 _ _ (by rw [upd_ne (ne had hc)]; exact e1 _ _ hc)
  refine xb_fldL T.cb_Reader (l_lst a_nil) (v_v 0) upd_same fun d H3 hd e3 h3 => ?_
  have ad3 := e3 _ _ upd_same
  have n3 := ne ad3 h3
  have g3 : H3 g = some (.lst []) := e3 _ _ (by rw [upd_ne n1]; exact g2)
  have cc3 : H3 cc = some (.lst []) := e3 _ _ (by rw [upd_ne n2]; exact h2)
  have c3 : H3 c = some (.lst []) := e3 _ _ (by rw [upd_ne (ne ad2 c2)]; exact c2)
  refine xb_fldL T.cb_Reader (l_list T.f_list (vl_sl (v_v 3) (sq_of (show upd H3 ad _ c = some (.lst []) by rw [upd_ne (ne ad3 c3)]; exact c3)))) (v_v 0) upd_same fun am H4 ham e4 h4 => ?_
  have ad4 := e4 _ _ upd_same
  have n4 := ne ad4 h4
  have g4 : H4 g = some (.lst []) := e4 _ _ (by rw [upd_ne n1]; exact g3)
  have cc4 : H4 cc = some (.lst []) := e4 _ _ (by rw [upd_ne n2]; exact cc3)
  have d4 : H4 d = some (.lst []) := e4 _ _ (by rw [upd_ne n3]; exact h3)
  refine xb_fld T.cb_Reader (v_v 4) (v_v 0) upd_same fun H5 e5 => ?_
  refine xb_fld T.cb_Reader (v_v 5) (v_v 0) upd_same fun H6 e6 => ?_
  refine xb_fld T.cb_Reader v_int (v_v 0) upd_same fun H7 e7 => ?_
  -- the fields, in order
  have hfs : putF "row" (.int 0) (putF "limit" (.int 5) (putF "is_alone" (.bl false) (putF "aimed" (.ref am) (putF "doors" (.ref d) (putF "crews" (.ref cc) (putF "grounds" (.ref g) [])))))) = rdF g cc d am 0 := by
    unfold rdF
    repeat (first | rw [if_neg (by decide +kernel)] | simp only [putF])
  rw [hfs]
  refine xb_nil (k g cc d am _ ?_)
  have lift : ∀ {x : Addr}, H4 x = some (.lst []) → upd H7 ad (.ins (CR K) dx (rdF g cc d am 0)) x = some (.lst []) := fun {x} h => by
    have nx := ne ad4 h
    rw [upd_ne nx]
    exact e7 _ _ (by rw [upd_ne nx]; exact e6 _ _ (by rw [upd_ne nx]; exact e5 _ _ (by rw [upd_ne nx]; exact h)))
  have EX : Ex H0 (upd H7 ad (.ins (CR K) dx (rdF g cc d am 0))) := ((((((((eH.trans e1).mut h0).trans e2).mut h0).trans e3).mut h0).trans e4).mut h0 |>.trans e5).mut h0 |>.trans e6 |>.mut h0 |>.trans e7 |>.mut h0
  have gn : H g = none := hg
  have ccn : upd H1 ad (.ins (CR K) dx (putF "grounds" (.ref g) [])) cc = none := hcc
  have gcc : g ≠ cc := fun q => by rw [← q, upd_ne n1, h1] at ccn; cases ccn
  have gd : g ≠ d := fun q => by rw [← q, upd_ne n1, g2] at hd; cases hd
  have ccd : cc ≠ d := fun q => by rw [← q, upd_ne n2, h2] at hd; cases hd
  have amg : am ≠ g := fun q => by rw [q, upd_ne n1, g3] at ham; cases ham
  have amc : am ≠ cc := fun q => by rw [q, upd_ne n2, cc3] at ham; cases ham
  have amd : am ≠ d := fun q => by rw [q, upd_ne n3, h3] at ham; cases ham
  have E1 : Ex H0 (upd H1 ad (.ins (CR K) dx (putF "grounds" (.ref g) []))) := (eH.trans e1).mut h0
  have E2 : Ex H0 (upd H2 ad (.ins (CR K) dx (putF "crews" (.ref cc) (putF "grounds" (.ref g) [])))) := (E1.trans e2).mut h0
  refine ⟨upd_same, ⟨EX, fun x hx => ?_, ?_, fun _ p hp => (by cases hp), ⟨[], lift g4, .nil⟩, ⟨[], lift cc4, .nil⟩, lift d4, .nil⟩, lift h4, ?_, h0, ⟨by simp, fun _ h => (by cases h), by simp, fun _ h => (by cases h), by simp, fun _ h => (by cases h)⟩⟩
  · simp only [List.map_nil, List.mem_cons, List.not_mem_nil, or_false] at hx
    rcases hx with q | q | q
    · rw [q]; exact fresh_back eH gn
    · rw [q]; exact fresh_back E1 ccn
    · rw [q]; exact fresh_back E2 hd
  · simp only [List.map_nil, List.nodup_cons, List.mem_cons, List.not_mem_nil, or_false, not_or, not_false_eq_true, List.nodup_nil, and_true]
    exact ⟨⟨gcc, gd⟩, ccd⟩
  · simp only [List.map_nil, List.mem_cons, List.not_mem_nil, or_false, not_or]
    exact ⟨amg, amc, amd⟩
end
end Gw

set_option maxRecDepth 100000
set_option maxHeartbeats 4000000
/-! Folk: what stands in it, what is asked of it. -/
namespace Gw
open PySem PySem.Spec PyProof.Rows L2 Evl SX
section
variable {X : Cx} {e a b o : Expr} {rest sb : List Stmt} {σ : L2.St} {H : Hp} {Q : VK} {D : Ends} {v : V} {n : Str} {p pos apos lp : Pos} {kvs : List (Key × V)} {q : Key} {ad : Addr}
theorem xe_dict0 (k : ∀ r, H r = none → Q (.ref r) (upd H r (.dK []))) : XE X (.Dict [] [] pos) σ H Q := xe_of pe_dnewK k
/-- d.get(x, []) -/
theorem xe_get {k0 : Nat} (hr : Room k0 X.A) (ho : Vl X o σ H (.ref ad)) (hd : H ad = some (.dK kvs)) (hb : Vl X a σ H (kV q)) (k : ∀ z H1, H z = none → Ex H H1 → H1 z = some (.lst []) → Q ((valV kvs q).getD (.ref z)) H1) (m : M2 X o "get" apos a (.List [] lp) pos := by exact ⟨rfl, rfl, rfl, rfl⟩) :
    XE X (.Call (.Attribute o "get" apos) [a, .List [] lp] [] pos) σ H Q := xe_of (pe_dget2 (hu_of hr) pe_xe pe_xe pe_xe m)
  (ho H (Ex.refl H) _ fun H1 e1 => ⟨ad, rfl, .inl ⟨kvs, .inl (e1 _ _ hd)⟩, hb H1 e1 _ fun H2 e2 => (l_lst a_nil) H2 (Ex.refl H2) _ fun z H3 hz e3 h3 => ⟨_, DGet.k ((e1.trans (e2.trans e3)) _ _ hd), k z H3 (fresh_back (e1.trans e2) hz) ((e1.trans e2).trans e3) h3⟩⟩)
/-- d.setdefault(x, []) -/
theorem xe_setd (ho : Vl X o σ H (.ref ad)) (hd : H ad = some (.dK kvs)) (hb : Vl X a σ H (kV q)) (hz : kvs.length < 100000) (k1 : ∀ v H1, Ex H H1 → valV kvs q = some v → Q v H1) (k2 : ∀ z H1, H z = none → Ex H H1 → H1 z = some (.lst []) → valV kvs q = none → Q (.ref z) (upd H1 ad (.dK (putK kvs q (.ref z))))) (m : M2 X o "setdefault" apos a (.List [] lp) pos := by exact ⟨rfl, rfl, rfl, rfl⟩) :
    XE X (.Call (.Attribute o "setdefault" apos) [a, .List [] lp] [] pos) σ H Q := xe_of (pe_dsetd pe_xe pe_xe pe_xe m)
  (ho H (Ex.refl H) _ fun H1 e1 => ⟨ad, rfl, .inl ⟨kvs, .inl (e1 _ _ hd)⟩, hb H1 e1 _ fun H2 e2 => (l_lst a_nil) H2 (Ex.refl H2) _ fun z H3 hzz e3 h3 => ⟨kvs, q, (e1.trans (e2.trans e3)) _ _ hd, rfl, sz_lt hz, fun v hv => k1 v H3 ((e1.trans e2).trans e3) hv, fun hv => k2 z H3 (fresh_back (e1.trans e2) hzz) ((e1.trans e2).trans e3) h3 hv⟩⟩)
/-- for n in e, whatever list e gives -/
theorem xb_forG (i : Nat) (hp : PassesOwn (model X.prog X.w) X.A X.env X.xe) (h : XE X e σ H fun v H1 => ∃ ad xs, v = .ref ad ∧ SqL X.K H1 ad xs ∧ ∃ Pv : Nat → L2.St → Hp → Prop, Pv 0 σ H1 ∧ (∀ j σ' H', j ≤ xs.length → Pv j σ' H' → SqL X.K H' ad xs) ∧
      (∀ j x σ' H', xs[j]? = some x → Pv j σ' H' → XB X sb { D with nx := Pv (j + 1), ct := Pv (j + 1), bk := fun σ2 H2 => XB X rest D σ2 H2 } (σ'.set i (some x)) H') ∧ ∀ σ' H', Pv xs.length σ' H' → XB X rest D σ' H')
    (hn : Nm X i n := by exact ⟨by assumption, rfl, by first | exact Or.inl rfl | exact Or.inr rfl, by first | exact .inl rfl | exact .inr rfl⟩) (hfs : ∀ x, foldedSetIterable e X.env x = pure x := by intro _; rfl) (hc : X.calm = true := by rfl) : XB X (.For (.Name n p) e sb [] pos :: rest) D σ H :=
  xb_cons (xs_of (ps_for hp hc (pi_list pe_xe) hn.pg pss_xb hfs) (xe_mono h fun v H1 ⟨ad, xs, ev, hx, Pv, h0, hl, hs, hd⟩ => ⟨ad, ev, ⟨xs, hx⟩, for_list (D := { D with nx := fun σ2 H2 => XB X rest D σ2 H2 }) Pv h0 hl hs hd⟩))
end
abbrev CF (K : PySem.W.Frag) : Addr := He.ga K "Folk"
abbrev Rw : Type := W × Addr × List W
abbrev rwK (rws : List Rw) : List (Key × V) := rws.map fun r => (.inr (S r.1), .ref r.2.1)
structure FkAt (K : PySem.W.Frag) (H0 : Hp) (ad dx cl rd : Addr) (ns : List W) (rws : List Rw) (H : Hp) : Prop where
  ex : Ex H0 H
  ins : H ad = some (.ins (CF K) dx [("crowd", .ref cl), ("rows", .ref rd)])
  crowd : H cl = some (.lst (ns.map fun a => V.str (S a)))
  rows : H rd = some (.dK (rwK rws))
  ls : ∀ r ∈ rws, H r.2.1 = some (.lst (r.2.2.map fun a => V.str (S a)))
  new : H0 rd = none ∧ ∀ r ∈ rws, H0 r.2.1 = none
  nd : (cl :: rws.map (·.2.1)).Nodup
  few : rws.length ≤ 50
theorem FkAt.mono {K : PySem.W.Frag} {H0 H H' : Hp} {ad dx cl rd : Addr} {ns : List W} {rws : List Rw} (h : FkAt K H0 ad dx cl rd ns rws H) (e : Ex H H') : FkAt K H0 ad dx cl rd ns rws H' :=
  ⟨h.ex.trans e, e _ _ h.ins, e _ _ h.crowd, e _ _ h.rows, fun r hr => e _ _ (h.ls r hr), h.new, h.nd, h.few⟩
theorem rwK_val {rws : List Rw} {u : W} : valV (rwK rws) (.inr (S u)) = (rws.find? fun r => r.1 == u).map fun r => V.ref r.2.1 := by
  unfold valV rwK
  rw [List.find?_map]
  have : ((fun kv : Key × V => decide (kv.1 = .inr (S u))) ∘ fun r : Rw => ((.inr (S r.1) : Key), V.ref r.2.1)) = fun r : Rw => r.1 == u := by
    funext r
    show decide ((Sum.inr (S r.1) : Key) = Sum.inr (S u)) = (r.1 == u)
    by_cases h : r.1 = u
    · rw [h]; simp
    · rw [decide_eq_false fun q => h (by injection q with q; exact S_inj q)]; symm; simpa using h
  rw [this]
  cases rws.find? fun r => r.1 == u <;> rfl
def thereB (ns : List W) (rws : List Rw) (u : W) : Bool := decide (u ∈ ns) || (rws.find? fun r => r.1 == u).isSome
def spThere (K : PySem.W.Frag) : Sp := fun vs H Q _ => ∃ (H0 : Hp) (ad dx cl rd : Addr) (ns : List W) (rws : List Rw) (u : W), vs = [.ref ad, .str (S u)] ∧ FkAt K H0 ad dx cl rd ns rws H ∧ ∀ H', Ex H H' → Q (.bl (thereB ns rws u)) H'
def spNeedThere (K : PySem.W.Frag) : Sp := fun vs H Q _ => ∃ (H0 : Hp) (ad dx cl rd : Addr) (ns : List W) (rws : List Rw) (u : W), vs = [.ref ad, .str (S u)] ∧ FkAt K H0 ad dx cl rd ns rws H ∧ thereB ns rws u = true ∧ ∀ H', Ex H H' → Q .non H'
theorem nd_le : ∀ (l U : List W), l.Nodup → (∀ x ∈ l, x ∈ U) → l.length ≤ U.length
  | [], _, _, _ => Nat.zero_le _
  | a :: l, U, h, k => by
    have h' := List.nodup_cons.mp h
    have ha := k a (by simp)
    have := nd_le l (U.erase a) h'.2 fun x hx => (List.mem_erase_of_ne (fun q => h'.1 (by rw [← q]; exact hx))).mpr (k x (by simp [hx]))
    rw [List.length_erase_of_mem ha] at this
    have : 0 < U.length := List.length_pos_of_mem ha
    simp only [List.length_cons]
    omega
/-- the rows lead nowhere out of U -/
def Closed (U : List W) (rws : List Rw) : Prop := ∀ r ∈ rws, r.1 ∈ U → ∀ m ∈ r.2.2, m ∈ U
def spReached (K : PySem.W.Frag) : Sp := fun vs H Q _ => ∃ (H0 : Hp) (ad dx cl rd : Addr) (ns : List W) (rws : List Rw) (u : W) (U : List W), vs = [.ref ad, .str (S u)] ∧ FkAt K H0 ad dx cl rd ns rws H ∧ u ∈ U ∧ U.length ≤ 50 ∧ Closed U rws ∧
  ∀ (p : Addr) (fd : List W) (H' : Hp), H p = none → Ex H H' → H' p = some (.lst (fd.map fun a => V.str (S a))) → (∀ x ∈ fd, x ∈ U) → Q (.ref p) H'
section
variable {P : Program} {w : World} {K : PySem.W.Frag} {mg : Str → Option Value} {base : Heap}
theorem ok_isThere (T : Tx K mg) : Me P w K mg base 1 (CF K) "is_there" (spThere K) := by
  refine me_of T dFolkIsThere 3 T.m_Folk_is_there scFolkIsThere (fun _ _ _ _ _ _ us hl => match us, hl with | [_, _], _ => rfl) (fun _ _ _ _ ⟨_, _, _, _, _, _, _, _, e, _⟩ => by subst e; rfl) fun f cdv A outer s H vs Q E hr ⟨H0, ad, dx, cl, rd, ns, rws, u, e, hF, k⟩ => ?_
  subst e
  have nd := scFolkIsThere.nd
  refine xb_ret (v := .bl (thereB ns rws u)) (vl_is (v_and (j := true) (k := thereB ns rws u) (v_isi (n := "str") (t := .type "str") T.f_isinstance (v_v 1) (fun _ _ => .base (.str _)) T.f_str (by decide +kernel) (k := true) (by rfl)) fun _ => v_one (vl_is (v_or (j := decide (u ∈ ns)) (vl_is (vc (c_inL (v_v 1) (vl_sl (v_fld T.cb_Folk (v_v 0) hF.ins rfl) (sq_of hF.crowd)) rfl (flat_strs _))) (by rw [inV_strs])) fun _ => v_one (vc (c_inD (q := .inr (S u)) hr (v_v 1) (v_fld T.cb_Folk (v_v 0) hF.ins rfl) hF.rows))) (by rw [rwK_val]; unfold thereB; cases rws.find? (fun r => r.1 == u) <;> rfl))) rfl) k
theorem ok_needThere (T : Tx K mg) : Me P w K mg base 2 (CF K) "need_there" (spNeedThere K) := by
  have MT : Me P w K mg base 1 (CF K) "is_there" (spThere K) := ok_isThere T
  refine me_of T dFolkNeedThere 4 T.m_Folk_need_there scFolkNeedThere (fun _ _ _ _ _ _ us hl => match us, hl with | [_, _], _ => rfl) (fun _ _ _ _ ⟨_, _, _, _, _, _, _, _, e, _⟩ => by subst e; rfl) fun f cdv A outer s H vs Q E hr ⟨H0, ad, dx, cl, rd, ns, rws, u, e, hF, ht, k⟩ => ?_
  subst e
  have nd := scFolkNeedThere.nd
  refine xb_no (b_not (b_v (k := true) fun H1 e1 Q' k' => xe_meth T.cb_Folk MT hr passL (v_v 0) (hF.mono e1).ins rfl fun H2 e2 => xa_cons (xe_v (v_v 1) fun H3 e3 => xa_nil ⟨H0, ad, dx, cl, rd, ns, rws, u, rfl, ((hF.mono e1).mono e2).mono e3, fun H4 e4 => by rw [ht]; exact k' H4 ((e2.trans e3).trans e4)⟩))) fun H1 e1 => xb_nil (k H1 e1)
theorem ok_reached (T : Tx K mg) : Me P w K mg base 1 (CF K) "reached" (spReached K) := by
  refine me_of T dFolkReached 5 T.m_Folk_reached scFolkReached (fun _ _ _ _ _ _ us hl => match us, hl with | [_, _], _ => rfl) (fun _ _ _ _ ⟨_, _, _, _, _, _, _, _, _, e, _⟩ => by subst e; rfl) fun f cdv A outer s H vs Q E hr ⟨H0, ad, dx, cl, rd, ns, rws, u, U, e, hF, hu, hU, hC, k⟩ => ?_
  subst e
  have nd := scFolkReached.nd
  refine xb_setL 2 (l_lst (a_1 (v_v 1))) fun fl H1 hfl e1 h1 => ?_
  refine xb_set 3 v_int fun H2 e2 => ?_
  refine xb_while (fun m σ' H' => ∃ (fd : List W) (at_ : Nat) (o4 : Option V), σ' = [some (.ref ad), some (.str (S u)), some (.ref fl), some (.int (at_ : Int)), o4] ∧ Ex H H' ∧ H' fl = some (.lst (fd.map fun a => V.str (S a))) ∧ fd.Nodup ∧ (∀ x ∈ fd, x ∈ U) ∧ at_ ≤ fd.length ∧ m = U.length - at_) (U.length - 0)
    ⟨[u], 0, none, rfl, e1.trans e2, e2 _ _ h1, by simp, fun x hx => by simp at hx; rw [hx]; exact hu, by simp, rfl⟩ po_cx ?_
  rintro m σ' H' ⟨fd, at_, o4, hσ, eH, hfd, fnd, fU, hle, hm⟩
  subst hσ
  have fl50 : fd.length ≤ U.length := nd_le fd U fnd fU
  refine ⟨decide (at_ < fd.length), bc ((c_lt (v_v 3) (v_lenL T.f_len (vl_sl (v_v 2) (sq_of hfd)))).is (by rw [List.length_map, dec_ltN])), fun hk H3 e3 => ?_, fun hk H3 e3 => ?_⟩
  · have hk' := of_decide_eq_true hk
    obtain ⟨y, hy⟩ : ∃ y, fd[at_]? = some y := ⟨_, List.getElem?_eq_getElem hk'⟩
    have E3 := eH.trans e3
    have F3 := hF.mono E3
    have yU : y ∈ U := fU y (List.mem_of_getElem? hy)
    refine xb_forG 4 po_cx (xe_get (q := .inr (S y)) hr (v_fld T.cb_Folk (v_v 0) F3.ins rfl) F3.rows (v_ixW0 at_ (vl_sl (v_v 2) (sq_of (e3 _ _ hfd))) (v_v 3) hy) fun z H4 hz e4 h4 => ?_)
    -- the list that is walked
    have E4 := E3.trans e4
    have F4 := F3.mono e4
    have walk : ∃ (la : Addr) (ms : List W), (valV (rwK rws) (.inr (S y))).getD (.ref z) = .ref la ∧ H4 la = some (.lst (ms.map fun a => V.str (S a))) ∧ la ≠ fl ∧ ∀ x ∈ ms, x ∈ U := by
      rw [rwK_val]
      cases hf : rws.find? fun r => r.1 == y with
      | none => exact ⟨z, [], rfl, h4, fun q => (by rw [q, e3 _ _ hfd] at hz; cases hz), fun x h => (by cases h)⟩
      | some r =>
        have hr' := List.mem_of_find?_eq_some hf
        have er : r.1 = y := by simpa using List.find?_some hf
        exact ⟨r.2.1, r.2.2, rfl, F4.ls r hr', fun q => (by have := hF.ls r hr'; rw [q, hfl] at this; cases this), hC r hr' (by rw [er]; exact yU)⟩
    obtain ⟨la, ms, ela, hla, nla, mU⟩ := walk
    refine ⟨la, _, ela, sq_of hla, fun j σ' H' => ∃ (fd' : List W) (o4 : Option V), σ' = [some (.ref ad), some (.str (S u)), some (.ref fl), some (.int (at_ : Int)), o4] ∧ Ex H H' ∧ H' fl = some (.lst (fd'.map fun a => V.str (S a))) ∧ fd'.Nodup ∧ (∀ x ∈ fd', x ∈ U) ∧ at_ < fd'.length ∧ H' la = some (.lst (ms.map fun a => V.str (S a))),
      ⟨fd, o4, rfl, E4, (e3.trans e4) _ _ hfd, fnd, fU, hk', hla⟩, fun j σ' H' _ ⟨_, _, _, _, _, _, _, _, q⟩ => sq_of q, ?_, ?_⟩
    · rintro j x σ' H5 hx ⟨fd', o4', hσ, eH5, hfd', fnd', fU', hlt', hla'⟩
      subst hσ
      rw [List.getElem?_map] at hx
      cases hmj : ms[j]? with
      | none => rw [hmj] at hx; cases hx
      | some y2 =>
        rw [hmj] at hx
        cases hx
        have y2U := mU y2 (List.mem_of_getElem? hmj)
        have l5 := nd_le fd' U fnd' fU'
        refine xb_when (k := !decide (y2 ∈ fd')) (bl_is (bc (c_ninL (v_v 4) (vl_sl (v_v 2) (sq_of hfd')) rfl (flat_strs _))) (by rw [inV_strs])) (fun q H6 e6 => ?_) fun q H6 e6 => ?_
        · have ny : y2 ∉ fd' := by simpa using q
          refine xb_app (l := fl) (v_v 2) (e6 _ _ hfd') (v_v 4) (fun H7 e7 => ?_) (by rw [List.length_map]; omega)
          refine xb_nil (xb_nil ⟨fd' ++ [y2], _, rfl, ((eH5.trans e6).trans e7).mut hfl, by rw [upd_same, List.map_append]; rfl, List.nodup_append.mpr ⟨fnd', by simp, fun a ha b hb q => ny (by simp at hb; rw [← hb, ← q]; exact ha)⟩, fun a ha => ?_, by rw [List.length_append]; omega, by rw [upd_ne nla]; exact (e6.trans e7) _ _ hla'⟩)
          rcases List.mem_append.mp ha with h | h
          · exact fU' a h
          · simp at h; rw [h]; exact y2U
        · exact xb_nil ⟨fd', _, rfl, eH5.trans e6, e6 _ _ hfd', fnd', fU', hlt', e6 _ _ hla'⟩
    · rintro σ' H5 ⟨fd', o4', hσ, eH5, hfd', fnd', fU', hlt', hla'⟩
      subst hσ
      have l5 := nd_le fd' U fnd' fU'
      refine xb_inc 3 v_int fun H6 e6 => xb_nil ⟨U.length - (at_ + 1), by omega, fd', at_ + 1, o4', rfl, eH5.trans e6, e6 _ _ hfd', fnd', fU', by omega, rfl⟩
  · exact xb_ret (v_v 2) fun H4 e4 => k fl fd H4 hfl ((eH.trans e3).trans e4) ((e3.trans e4) _ _ hfd) fU
end
end Gw

set_option maxRecDepth 100000
set_option maxHeartbeats 4000000
namespace Gw
open PySem PySem.Spec PyProof.Rows L2 Evl SX
def spPut (K : PySem.W.Frag) : Sp := fun vs H Q _ => ∃ (H0 : Hp) (ad dx cl rd : Addr) (ns : List W) (rws : List Rw) (u m : W) (U : List W), vs = [.ref ad, .str (S u), .str (S m)] ∧ FkAt K H0 ad dx cl rd ns rws H ∧ isNameM u = true ∧ u ∉ ns ∧ m ≠ u ∧ thereB ns rws m = true ∧ m ∈ U ∧ u ∉ U ∧ U.length ≤ 50 ∧ Closed U rws ∧ rws.length ≤ 40 ∧
  (((rws.find? fun r => r.1 == u) = none ∧ ∀ l H', FkAt K H0 ad dx cl rd ns (rws ++ [(u, l, [m])]) H' → Q .non H') ∨
    ∃ r0 l ms, rws = r0 ++ [(u, l, ms)] ∧ (r0.find? fun r => r.1 == u) = none ∧ m ∉ ms ∧ ms.length ≤ 50 ∧ ∀ H', FkAt K H0 ad dx cl rd ns (r0 ++ [(u, l, ms ++ [m])]) H' → Q .non H')
theorem inV_no {a : W} {fd U : List W} (h : ∀ x ∈ fd, x ∈ U) (hn : a ∉ U) : inV (.str (S a)) (fd.map fun p => V.str (S p)) = false := by
  rw [inV_strs]
  exact decide_eq_false fun q => hn (h a q)
section
variable {P : Program} {w : World} {K : PySem.W.Frag} {mg : Str → Option Value} {base : Heap}
theorem ok_put (T : Tx K mg) : Me P w K mg base 3 (CF K) "put" (spPut K) := by
  have GN : Gd P w K mg base 1 "is_name" spIsName := ok_isName T
  have MN : Me P w K mg base 2 (CF K) "need_there" (spNeedThere K) := ok_needThere T
  have MR : Me P w K mg base 1 (CF K) "reached" (spReached K) := ok_reached T
  refine me_of T dFolkPut 6 T.m_Folk_put scFolkPut (fun _ _ _ _ _ _ us hl => match us, hl with | [_, _, _], _ => rfl) (fun _ _ _ _ ⟨_, _, _, _, _, _, _, _, _, _, e, _⟩ => by subst e; rfl) fun f cdv A outer s H vs Q E hr ⟨H0, ad, dx, cl, rd, ns, rws, u, m, U, e, hF, hu, huns, hmu, hth, hmU, huU, hU, hC, hfew, hout⟩ => ?_
  subst e
  have nd := scFolkPut.nd
  have hr1 : Room 1 (Cxd dFolkPut P w K mg base nFolkPut f cdv A outer s H E).A := hr.mono (by decide)
  have lu : u.length ≤ 40000 := by have := name_len hu; omega
  refine xb_no (bl_is (b_w (w_or (j := false) (k := false) (bl_is (b_not (b_v (v_call GN hr1 passL (a_1 (v_v 1)) (spS1_v lu)))) (by rw [hu]; rfl)) fun _ => w_or1 (bl_is (bc (c_inL (v_v 1) (vl_sl (v_fld T.cb_Folk (v_v 0) hF.ins rfl) (sq_of hF.crowd)) rfl (flat_strs _))) (by rw [inV_strs]; exact decide_eq_false huns)))) rfl) fun H1 e1 => ?_
  have F1 := hF.mono e1
  refine xb_ifM (k := true) (fun σ' H' => σ' = start nFolkPut [.ref ad, .str (S u), .str (S m)] ∧ Ex H1 H') (bl_is (bc (c_ne (v_v 2) (v_v 1))) (by rw [dec_V, decide_eq_false fun q => hmu (S_inj q)]; rfl)) (fun _ H2 e2 => ?_) (fun q => by cases q) ?_
  · refine xb_expr (xe_meth T.cb_Folk MN hr passL (v_v 0) (F1.mono e2).ins rfl fun H3 e3 => xa_cons (xe_v (v_v 2) fun H4 e4 => xa_nil ⟨H0, ad, dx, cl, rd, ns, rws, m, rfl, ((F1.mono e2).mono e3).mono e4, hth, fun H5 e5 => xb_nil ⟨rfl, ((e2.trans e3).trans e4).trans e5⟩⟩))
  · rintro σ' H2 ⟨hσ, e2⟩
    subst hσ
    have F2 := F1.mono e2
    refine xb_no (bc (cm_of op_in_seq rfl fun H3 e3 Q' k' => (v_v 1) H3 e3 _ fun H4 e4 => xe_meth T.cb_Folk MR hr1 passL (v_v 0) ((F2.mono e3).mono e4).ins rfl fun H5 e5 => xa_cons (xe_v (v_v 2) fun H6 e6 => xa_nil ⟨H0, ad, dx, cl, rd, ns, rws, m, U, rfl, (((F2.mono e3).mono e4).mono e5).mono e6, hmU, hU, hC, fun p fd H7 hp e7 h7 hfd => ⟨p, _, rfl, .inl (sq_of h7), rfl, flat_strs fd, by rw [inV_no hfd huU]; exact k' H7 (((e4.trans e5).trans e6).trans e7)⟩⟩))) fun H3 e3 => ?_
    have F3 := F2.mono e3
    rcases hout with ⟨hnone, k⟩ | ⟨r0, l, ms, erw, hr0, hmms, hmsl, k⟩
    · have hv : valV (rwK rws) (.inr (S u)) = none := by rw [rwK_val, hnone]; rfl
      refine xb_setE 3 (xe_setd (q := .inr (S u)) (v_fld T.cb_Folk (v_v 0) F3.ins rfl) F3.rows (v_v 1) (by rw [List.length_map]; omega) (fun v H4 e4 hs => by rw [hv] at hs; cases hs) fun z H4 hz e4 h4 _ => ?_)
      have F4 := F3.mono e4
      have hrz : rd ≠ z := fun q => by rw [← q, F3.rows] at hz; cases hz
      rw [putK_new _ hv]
      have g4 : upd H4 rd (.dK (rwK rws ++ [(.inr (S u), .ref z)])) z = some (.lst []) := by rw [upd_ne (Ne.symm hrz)]; exact h4
      refine xb_when (k := true) (bl_is (bc (c_ninL (xs := []) (v_v 2) (vl_sl (v_v 3) (sq_of g4)) rfl rfl)) rfl) (fun _ H5 e5 => ?_) fun q => by cases q
      refine xb_app (l := z) (v_v 3) (e5 _ _ g4) (v_v 2) (fun H6 e6 => ?_) (by simp)
      have lst0 : ∀ {x : Addr} {o : HO}, H3 x = some o → x ≠ rd → upd H6 z (.lst ([] ++ [V.str (S m)])) x = some o := fun {x o} hx hne => by
        have nz : x ≠ z := fun q => by rw [q, hz] at hx; cases hx
        rw [upd_ne nz]
        exact e6 _ _ (e5 _ _ (by rw [upd_ne hne]; exact e4 _ _ hx))
      have zn : H0 z = none := fresh_back F3.ex hz
      have ne_rd : ∀ {x : Addr} {xs : List V}, H3 x = some (.lst xs) → x ≠ rd := fun {x xs} hx q => by rw [q, F3.rows] at hx; cases hx
      refine xb_nil (xb_nil (k z _ ⟨((((F4.ex.mut F3.new.1).trans e5).trans e6).mut zn), ?_, lst0 F3.crowd (ne_rd F3.crowd), ?_, fun r hrr => ?_, ⟨F3.new.1, fun r hrr => ?_⟩, ?_, by rw [List.length_append, List.length_singleton]; omega⟩))
      · exact lst0 F3.ins fun q => by have := F3.ins; rw [q, F3.rows] at this; cases this
      · rw [upd_ne hrz]
        refine (e6 _ _ (e5 _ _ upd_same)).trans ?_
        unfold rwK
        rw [List.map_append]
        rfl
      · rcases List.mem_append.mp hrr with q | q
        · exact lst0 (F3.ls r q) (ne_rd (F3.ls r q))
        · simp only [List.mem_cons, List.not_mem_nil, or_false] at q
          subst q
          exact upd_same
      · rcases List.mem_append.mp hrr with q | q
        · exact F3.new.2 r q
        · simp only [List.mem_cons, List.not_mem_nil, or_false] at q
          subst q
          exact zn
      · have e : cl :: (rws ++ [(u, z, [m])]).map (·.2.1) = (cl :: rws.map (·.2.1)) ++ [z] := by simp
        rw [e, List.nodup_append]
        refine ⟨F3.nd, by simp, fun a ha b hb q => ?_⟩
        simp only [List.mem_cons, List.not_mem_nil, or_false] at hb
        rw [hb] at q
        have hsome : ∃ o, H3 a = some o := by
          rcases List.mem_cons.mp ha with h | h
          · exact ⟨_, by rw [h]; exact F3.crowd⟩
          · obtain ⟨r, hr', er⟩ := List.mem_map.mp h
            exact ⟨_, by rw [← er]; exact F3.ls r hr'⟩
        obtain ⟨o, ho⟩ := hsome
        rw [q, hz] at ho
        cases ho
    · subst erw
      have hfind : ((r0 ++ [(u, l, ms)]).find? fun r => r.1 == u) = some (u, l, ms) := by rw [List.find?_append, hr0]; simp
      have hv : valV (rwK (r0 ++ [(u, l, ms)])) (.inr (S u)) = some (.ref l) := by rw [rwK_val, hfind]; rfl
      refine xb_setE 3 (xe_setd (q := .inr (S u)) (v_fld T.cb_Folk (v_v 0) F3.ins rfl) F3.rows (v_v 1) (by have z : (rwK (r0 ++ [(u, l, ms)])).length = (r0 ++ [(u, l, ms)]).length := List.length_map _; exact Nat.lt_of_le_of_lt (Nat.le_of_eq z) (Nat.lt_of_le_of_lt hfew (by decide))) (fun v H4 e4 hs => ?_) fun z H4 hz e4 h4 hs => by rw [hv] at hs; cases hs)
      rw [hv] at hs
      cases hs
      have F4 := F3.mono e4
      have hl4 := F4.ls (u, l, ms) (by simp)
      refine xb_when (k := true) (bl_is (bc (c_ninL (v_v 2) (vl_sl (v_v (v := .ref l) 3) (sq_of hl4)) rfl (flat_strs _))) (by rw [inV_strs]; simpa using hmms)) (fun _ H5 e5 => ?_) fun q => by cases q
      refine xb_app (l := l) (v_v (v := .ref l) 3) (e5 _ _ hl4) (v_v 2) (fun H6 e6 => ?_) (by rw [List.length_map]; exact Nat.lt_of_le_of_lt hmsl (by decide))
      have F6 := (F4.mono e5).mono e6
      have nd6 := F6.nd
      have e : cl :: (r0 ++ [(u, l, ms)]).map (·.2.1) = (cl :: r0.map (·.2.1)) ++ [l] := by simp
      rw [e, List.nodup_append] at nd6
      have oth : ∀ x ∈ cl :: r0.map (·.2.1), x ≠ l := fun x hx => nd6.2.2 x hx l (by simp)
      have l6 := F6.ls (u, l, ms) (by simp)
      refine xb_nil (xb_nil (k _ ⟨F6.ex.mut (F6.new.2 (u, l, ms) (by simp)), ?_, by rw [upd_ne (oth cl (by simp))]; exact F6.crowd, ?_, fun r hrr => ?_, ⟨F6.new.1, fun r hrr => ?_⟩, ?_, ?_⟩))
      · rw [upd_ne fun q => by have := F6.ins; rw [q, l6] at this; cases this]; exact F6.ins
      · rw [upd_ne fun q => by have := F6.rows; rw [q, l6] at this; cases this]
        rw [F6.rows]
        unfold rwK
        rw [List.map_append, List.map_append]
        rfl
      · rcases List.mem_append.mp hrr with q | q
        · rw [upd_ne (oth r.2.1 (List.mem_cons_of_mem _ (List.mem_map_of_mem q)))]; exact F6.ls r (by simp [q])
        · simp only [List.mem_cons, List.not_mem_nil, or_false] at q
          subst q
          rw [upd_same, List.map_append]; rfl
      · rcases List.mem_append.mp hrr with q | q
        · exact F6.new.2 r (by simp [q])
        · simp only [List.mem_cons, List.not_mem_nil, or_false] at q
          subst q
          exact F6.new.2 (u, l, ms) (by simp)
      · have := F6.nd
        simpa using this
      · have := F6.few
        simpa using this
end
end Gw

set_option maxRecDepth 100000
set_option maxHeartbeats 4000000
namespace Gw
open PySem PySem.Spec PyProof.Rows L2 Evl SX
section
variable {X : Cx} {e : Expr} {rest sb : List Stmt} {σ : L2.St} {H : Hp} {D : Ends} {xs : List V} {n m r : Str} {p1 p2 p3 p4 pos pos2 : Pos} {k1 : Nat}
/-- for n, m, r in e, e a tuple of threes that stands at ad -/
theorem xb_forT3 {ad : Addr} (i j l : Nat) (hp : PassesOwn (model X.prog X.w) X.A X.env X.xe) (h : Vl X e σ H (.ref ad)) (hx : SqT X.K H ad xs) (Pv : Nat → L2.St → Hp → Prop) (h0 : ∀ H1, Ex H H1 → Pv 0 σ H1) (hl : ∀ q σ' H', q ≤ xs.length → Pv q σ' H' → SqT X.K H' ad xs)
    (hs : ∀ q x σ' H', xs[q]? = some x → Pv q σ' H' → ∃ t a b c, x = .ref t ∧ SqT X.K H' t [a, b, c] ∧ XB X sb { D with nx := Pv (q + 1), ct := Pv (q + 1), bk := fun σ2 H2 => XB X rest D σ2 H2 } (((σ'.set i (some a)).set j (some b)).set l (some c)) H') (hd : ∀ σ' H', Pv xs.length σ' H' → XB X rest D σ' H') (hc : X.calm = true := by rfl)
    (h1 : Nm X i n := by exact ⟨by assumption, rfl, by first | exact Or.inl rfl | exact Or.inr rfl, by first | exact .inl rfl | exact .inr rfl⟩) (h2 : Nm X j m := by exact ⟨by assumption, rfl, by first | exact Or.inl rfl | exact Or.inr rfl, by first | exact .inl rfl | exact .inr rfl⟩) (h3 : Nm X l r := by exact ⟨by assumption, rfl, by first | exact Or.inl rfl | exact Or.inr rfl, by first | exact .inl rfl | exact .inr rfl⟩)
    (hfs : ∀ x, foldedSetIterable e X.env x = pure x := by intro _; rfl) (hn : (assignEach [.Name n p1, .Name m p2, .Name r p4] X.env).length = 3 := by rfl) (hst : (assignEach [.Name n p1, .Name m p2, .Name r p4] X.env).findIdx? (·.1) = none := by rfl) :
    XB X (.For (.Tuple [.Name n p1, .Name m p2, .Name r p4] k1 p3) e sb [] pos2 :: rest) D σ H :=
  xb_cons (xs_of (ps_for hp hc (pi_tup pe_xe) (pg_tup hc (pgs_cons h1.pg (pgs_cons h2.pg (pgs_cons h3.pg pgs_nil))) hn hst) pss_xb hfs) (s_forT (D := { D with nx := fun σ2 H2 => XB X rest D σ2 H2 }) h hx Pv h0 hl (fun q x σ' H' hq hP => by
    obtain ⟨t, a, b, c, ex, ht, k⟩ := hs q x σ' H' hq hP
    exact ⟨t, [a, b, c], ex, ht, rfl, a, [b, c], rfl, b, [c], rfl, c, [], rfl, rfl, k⟩) hd))
end
/-- groups of one field, in order: names and members well told -/
def WFG (ns : List W) (l : List (W × List W)) : Prop := ∀ pre g post, l = pre ++ g :: post → isNameM g.1 = true ∧ g.1 ∉ ns ∧ g.1 ∉ pre.map (·.1) ∧ (∀ m ∈ g.2, m ∈ ns ++ pre.map (·.1)) ∧ g.2.Nodup ∧ g.2 ≠ [] ∧ g.2.length ≤ 9
def grpsOf (gs : List Gp) (fn : W) : List (W × List W) := (gs.filter fun g => g.field == fn).map fun g => (g.name, g.members)
def spFkInit (K : PySem.W.Frag) : Sp := fun vs H Q _ => ∃ (H0 : Hp) (ad dx t : Addr) (ns : List W), vs = [.ref ad, .ref t] ∧ H ad = some (.ins (CF K) dx []) ∧ Rd H t (.tup (ns.map fun a => V.str (S a))) ∧ Ex H0 H ∧ H0 ad = none ∧ ∀ cl rd H', FkAt K H0 ad dx cl rd ns [] H' → Q .non H'
section
variable {P : Program} {w : World} {K : PySem.W.Frag} {mg : Str → Option Value} {base : Heap}
theorem ok_fkInit (T : Tx K mg) : Mc P w K mg base 1 "Folk" (CF K) (spFkInit K) := by
  refine mc_of T (cI := "Folk") dFolkInit 2 T.g_Folk T.mk_Folk rfl scFolkInit (fun _ _ _ _ _ _ us hl => match us, hl with | [_, _], _ => rfl) (fun _ _ _ _ ⟨_, _, _, _, _, e, _⟩ => by subst e; rfl) fun f cdv A outer s H vs Q E hr ⟨H0, ad, dx, t, ns, e, had, ht, eH, h0, k⟩ => ?_
  subst e
  have nd := scFolkInit.nd
  refine xb_fldL T.cb_Folk (l_listT T.f_list (vl_tu (v_v 1) (.inl ht))) (v_v 0) had fun cl H1 hcl e1 h1 => ?_
  have ncl : cl ≠ ad := fun q => by rw [q, had] at hcl; cases hcl
  refine xb_fldE T.cb_Folk (xe_dict0 fun rd hrd => ⟨ad, v_v 0, dx, putF "crowd" (.ref cl) [], ?_, by exact Nat.le_of_ble_eq_true rfl, fun H3 e3 => ?_⟩)
  · have : rd ≠ ad := fun q => by rw [q, upd_same] at hrd; cases hrd
    rw [upd_ne (Ne.symm this), upd_same]
  · have nrd : rd ≠ ad := fun q => by rw [q, upd_same] at hrd; cases hrd
    have nrc : rd ≠ cl := fun q => by rw [q, upd_ne ncl, h1] at hrd; cases hrd
    have hrd1 : H1 rd = none := by rw [upd_ne nrd] at hrd; exact hrd
    have hfs : putF "rows" (.ref rd) (putF "crowd" (.ref cl) []) = [(("crowd" : Str), V.ref cl), ("rows", V.ref rd)] := by
      repeat (first | rw [if_neg (by decide +kernel)] | simp only [putF])
    rw [hfs]
    have E1 : Ex H0 (upd H1 ad (.ins (CF K) dx (putF "crowd" (.ref cl) []))) := (eH.trans e1).mut h0
    have rdn : H0 rd = none := fresh_back E1 hrd
    refine xb_nil (k cl rd _ ⟨((E1.mut rdn).trans e3).mut h0, upd_same, ?_, ?_, fun r hr' => (by cases hr'), ⟨rdn, fun r hr' => (by cases hr')⟩, by simp, by simp⟩)
    · rw [upd_ne ncl]
      exact e3 _ _ (by rw [upd_ne (Ne.symm nrc), upd_ne ncl]; exact h1)
    · rw [upd_ne nrd]
      exact e3 _ _ (by rw [upd_same]; rfl)
def spFolkOf (K : PySem.W.Frag) : Sp := fun vs H Q _ => ∃ (f : Fd) (fv : V) (ns : List W) (gt : Addr) (gvs : List V) (gs : List Gp), vs = [fv, .ref gt] ∧ FdAt H fv f ∧ f.k = .names ns ∧ ns.length ≤ 9 ∧ Rd H gt (.tup gvs) ∧ TpA H gvs (gs.map Gp.d) ∧ gs.length ≤ 9 ∧ WFG ns (grpsOf gs f.name) ∧ ∀ v H', Ex H H' → Q v H'
theorem find_none_of {rws : List Rw} {u : W} (h : u ∉ rws.map (·.1)) : (rws.find? fun r => r.1 == u) = none := by
  rw [List.find?_eq_none]
  intro r hr q
  exact h (by rw [← show r.1 = u by simpa using q]; exact List.mem_map_of_mem hr)
theorem there_of {ns : List W} {rws : List Rw} {m : W} (h : m ∈ ns ++ rws.map (·.1)) : thereB ns rws m = true := by
  unfold thereB
  rcases List.mem_append.mp h with q | q
  · rw [decide_eq_true q]; rfl
  · obtain ⟨r, hr, er⟩ := List.mem_map.mp q
    have : (rws.find? fun r => r.1 == m).isSome = true := by rw [List.find?_isSome]; exact ⟨r, hr, by simpa using er⟩
    rw [this, Bool.or_true]
theorem ok_folkOf (T : Tx K mg) : Gd P w K mg base 4 "folk_of" (spFolkOf K) := by
  have MF : Mc P w K mg base 1 "Folk" (CF K) (spFkInit K) := ok_fkInit T
  have MP : Me P w K mg base 3 (CF K) "put" (spPut K) := ok_put T
  refine gd_of T dFolkOf 9 T.g_folk_of scFolkOf (fun _ _ _ _ _ _ us hl => match us, hl with | [_, _], _ => rfl) (fun _ _ _ _ ⟨_, _, _, _, _, _, e, _⟩ => by subst e; rfl) fun f cdv A outer s H vs Q E hr ⟨fd, fv, ns, gt, gvs, gs, e, hf, hk, hns, hgt, hgv, hgl, hwf, k⟩ => ?_
  subst e
  have nd := scFolkOf.nd
  have hr2 : Room 2 (Cxd dFolkOf P w K mg base nFolkOf f cdv A outer s H E).A := hr.mono (by decide)
  obtain ⟨fa, tv, rfl, hfa, hth⟩ := hf
  rw [hk] at hth
  obtain ⟨t, rfl, ht⟩ := hth
  refine xb_setE 2 (xe_make MF hr2 passL (xa_cons (xe_v (v_ixT (v := .ref t) (vl_tu (v_v 0) (.inl hfa)) v_int rfl) fun H1 e1 => xa_nil fun ad dx hx hdx hne => ⟨H1, ad, dx, t, ns, rfl, upd_same, ?_, ((Ex.new hdx).trans (Ex.new (by rw [upd_ne (Ne.symm hne)]; exact hx))), hx, fun cl rd H2 F => ⟨rfl, ?_⟩⟩)))
  · have e2 : Ex H1 (upd (upd H1 dx (.own ad)) ad (.ins (CF K) dx [])) := (Ex.new hdx).trans (Ex.new (by rw [upd_ne (Ne.symm hne)]; exact hx))
    exact (ht.mono (e1.trans e2)).rd
  · -- the groups, one by one
    have eH := e1.trans F.ex
    have gtH : ∀ {H'}, Ex H1 H' → Rd H' gt (.tup gvs) := fun e => ex_rd (e1.trans e) hgt
    obtain ⟨zs, z1, z2, z3⟩ := hgv.zip
    refine xb_forT3 3 4 5 (xs := gvs) po_cx (v_v 1) (.inl (gtH F.ex)) (fun j σ' H' => ∃ (rws : List Rw) (o3 o4 o5 o6 : Option V), σ' = [some (.ref fa), some (.ref gt), some (.ref ad), o3, o4, o5, o6] ∧ FkAt K H1 ad dx cl rd ns rws H' ∧ rws.map (fun r => (r.1, r.2.2)) = grpsOf (gs.take j) fd.name ∧ rws.length ≤ j)
      (fun H3 e3 => ⟨[], none, none, none, none, rfl, F.mono e3, rfl, Nat.le_refl _⟩) (fun j σ' H' _ ⟨rws, _, _, _, _, _, F', _⟩ => .inl (gtH F'.ex)) ?_ (fun σ' H' ⟨rws, _, _, _, _, hσ, F', _⟩ => by subst hσ; exact xb_ret (v_v 2) fun H4 e4 => k _ H4 ((e1.trans F'.ex).trans e4))
    rintro j x σ' H' hx ⟨rws, o3, o4, o5, o6, hσ, F', hrw, hrl⟩
    subst hσ
    rw [z1, List.getElem?_map] at hx
    cases hzj : zs[j]? with
    | none => rw [hzj] at hx; cases hx
    | some z =>
      rw [hzj] at hx
      cases hx
      have hzm : z ∈ zs := List.mem_of_getElem? hzj
      obtain ⟨ga, mv, ea, ra, tm⟩ := ((z3 z hzm).mono e1).gp
      have hgj : gs[j]? = some z.2 := by rw [z2, List.getElem?_map, hzj]; rfl
      have htk : gs.take (j + 1) = gs.take j ++ [z.2] := by rw [List.take_add_one, hgj]; rfl
      have hj9 : j < gs.length := (List.getElem?_eq_some_iff.mp hgj).1
      refine ⟨ga, _, _, _, ea, .inl (ex_rd F'.ex ra), ?_⟩
      have mvt : ∃ mt, mv = .ref mt ∧ Rd H1 mt (.tup (z.2.members.map fun a => V.str (S a))) := by
        cases tm with
        | tup h1 h2 => exact ⟨_, rfl, by rw [← TpA.strs h2]; exact h1⟩
      obtain ⟨mt, rfl, hmt⟩ := mvt
      refine xb_when (k := z.2.field == fd.name) (bl_is (bc (c_eq (v_v 3) (v_ixT (v := .str (S fd.name)) (vl_tu (v_v 0) (.inl (ex_rd (e1.trans F'.ex) hfa))) v_int rfl))) dec_str) (fun hq H4 e4 => ?_) fun hq H4 e4 => ?_
      · have F4 := F'.mono e4
        have esplit : grpsOf gs fd.name = grpsOf (gs.take j) fd.name ++ (z.2.name, z.2.members) :: grpsOf (gs.drop (j + 1)) fd.name := by
          have e : gs = gs.take j ++ z.2 :: gs.drop (j + 1) := by
            conv => lhs; rw [← List.take_append_drop j gs, List.drop_eq_getElem_cons hj9]
            rw [show gs[j] = z.2 from (List.getElem?_eq_some_iff.mp hgj).2]
          conv => lhs; rw [e]
          unfold grpsOf
          rw [List.filter_append, List.map_append, List.filter_cons, if_pos hq]
          rfl
        obtain ⟨w1, w2, w3, w4, w5, w6, w7⟩ := hwf _ _ _ esplit
        have w7' : z.2.members.length ≤ 9 := w7
        rw [← hrw, List.map_map] at w3 w4
        have en : (rws.map ((fun x : W × List W => x.1) ∘ fun r : Rw => (r.1, r.2.2))) = rws.map (·.1) := rfl
        rw [en] at w3 w4
        -- the rows lead nowhere out
        have clo : Closed (ns ++ rws.map (·.1)) rws := by
          intro r hr' _ m hm
          obtain ⟨i, hi⟩ := List.mem_iff_getElem?.mp hr'
          have hlt := (List.getElem?_eq_some_iff.mp hi).1
          have er : rws = rws.take i ++ r :: rws.drop (i + 1) := by
            conv => lhs; rw [← List.take_append_drop i rws, List.drop_eq_getElem_cons hlt]
            rw [show rws[i] = r from (List.getElem?_eq_some_iff.mp hi).2]
          have es : grpsOf gs fd.name = (rws.take i).map (fun r => (r.1, r.2.2)) ++ (r.1, r.2.2) :: ((rws.drop (i + 1)).map (fun r => (r.1, r.2.2)) ++ (z.2.name, z.2.members) :: grpsOf (gs.drop (j + 1)) fd.name) := by
            rw [esplit, ← hrw]
            conv => lhs; rw [er]
            simp
          obtain ⟨_, _, _, v4, _⟩ := hwf _ _ _ es
          have := v4 m hm
          rw [List.map_map] at this
          rcases List.mem_append.mp this with q | q
          · exact List.mem_append_left _ q
          · refine List.mem_append_right _ ?_
            obtain ⟨r', h1, h2⟩ := List.mem_map.mp q
            exact List.mem_map.mpr ⟨r', List.mem_of_mem_take h1, h2⟩
        have U50 : (ns ++ rws.map (·.1)).length ≤ 50 := by rw [List.length_append, List.length_map]; omega
        have uU : z.2.name ∉ ns ++ rws.map (·.1) := fun q => by
          rcases List.mem_append.mp q with q | q
          · exact w2 q
          · exact w3 q
        refine xb_forT 6 (xs := z.2.members.map fun a => V.str (S a)) po_cx (v_v 5) (.inl (ex_rd F4.ex hmt)) (fun i σ2 H5 => ∃ (o6 : Option V) (r2 : List Rw), σ2 = [some (.ref fa), some (.ref gt), some (.ref ad), some (.str (S z.2.field)), some (.str (S z.2.name)), some (.ref mt), o6] ∧ FkAt K H1 ad dx cl rd ns (rws ++ r2) H5 ∧ ((i = 0 ∧ r2 = []) ∨ ∃ l, r2 = [(z.2.name, l, z.2.members.take i)] ∧ 0 < i))
          (fun H5 e5 => ⟨_, [], rfl, by rw [List.append_nil]; exact F4.mono e5, .inl ⟨rfl, rfl⟩⟩) (fun i σ2 H5 _ ⟨_, _, _, F5, _⟩ => .inl (ex_rd F5.ex hmt)) ?_ ?_
        · rintro i x σ2 H5 hx ⟨o6, r2, hσ, F5, hr2⟩
          subst hσ
          rw [List.getElem?_map] at hx
          cases hmi : z.2.members[i]? with
          | none => rw [hmi] at hx; cases hx
          | some m =>
            rw [hmi] at hx
            cases hx
            have hmm : m ∈ z.2.members := List.mem_of_getElem? hmi
            have hilt := (List.getElem?_eq_some_iff.mp hmi).1
            have mU := w4 m hmm
            have tki : z.2.members.take (i + 1) = z.2.members.take i ++ [m] := by rw [List.take_add_one, hmi]; rfl
            have hr2n : ∀ r ∈ r2, r.1 = z.2.name := fun r hr' => by
              rcases hr2 with ⟨_, q⟩ | ⟨l, q, _⟩
              · rw [q] at hr'; cases hr'
              · rw [q] at hr'; simp at hr'; rw [hr']
            have r2l : r2.length ≤ 1 := by rcases hr2 with ⟨_, q⟩ | ⟨l, q, _⟩ <;> rw [q] <;> simp
            refine xb_expr (xe_mono (Q := fun v H6 => ∃ r3, FkAt K H1 ad dx cl rd ns (rws ++ r3) H6 ∧ ∃ l, r3 = [(z.2.name, l, z.2.members.take (i + 1))]) (xe_meth T.cb_Folk MP hr passL (v_v 2) F5.ins rfl fun H6 e6 => xa_cons (xe_v (v_v 4) fun H7 e7 => xa_cons (xe_v (v_v 6) fun H8 e8 => xa_nil ?_))) fun v H6 ⟨r3, F6, l, er3⟩ => ?_)
            · have F8 := ((F5.mono e6).mono e7).mono e8
              refine ⟨H1, ad, dx, cl, rd, ns, rws ++ r2, z.2.name, m, ns ++ rws.map (·.1), rfl, F8, w1, w2, fun q => uU (by rw [← q]; exact mU), there_of (by rw [List.map_append, ← List.append_assoc]; exact List.mem_append_left _ mU), mU, uU, U50, ?_, by rw [List.length_append]; omega, ?_⟩
              · intro r hr' hrU
                rcases List.mem_append.mp hr' with q | q
                · exact clo r q hrU
                · exact absurd (by rw [← hr2n r q]; exact hrU) uU
              · rcases hr2 with ⟨q0, q⟩ | ⟨l, q, q0⟩
                · subst q
                  refine .inl ⟨by rw [List.append_nil]; exact find_none_of w3, fun l H9 F9 => ⟨[(z.2.name, l, [m])], by rw [List.append_nil] at F9; exact F9, l, by rw [tki, q0]; rfl⟩⟩
                · subst q
                  refine .inr ⟨rws, l, z.2.members.take i, rfl, find_none_of w3, fun q => ?_, by rw [List.length_take]; omega, fun H9 F9 => ⟨_, F9, l, by rw [tki]⟩⟩
                  obtain ⟨i2, h2⟩ := List.mem_iff_getElem?.mp q
                  rw [List.getElem?_take] at h2
                  split at h2
                  · rename_i hlt
                    obtain ⟨a1, a2⟩ := List.getElem?_eq_some_iff.mp h2
                    obtain ⟨b1, b2⟩ := List.getElem?_eq_some_iff.mp hmi
                    exact absurd (a2.trans b2.symm) (List.pairwise_iff_getElem.mp w5 i2 i a1 b1 hlt)
                  · cases h2
            · exact xb_nil ⟨_, r3, rfl, F6, .inr ⟨l, er3, Nat.succ_pos _⟩⟩
        · rintro σ2 H5 ⟨o6, r2, hσ, F5, hr2⟩
          subst hσ
          rcases hr2 with ⟨q, _⟩ | ⟨l, q, _⟩
          · rw [List.length_map] at q
            exact absurd (List.eq_nil_of_length_eq_zero q) w6
          · refine xb_nil (xb_nil ⟨rws ++ r2, _, _, _, _, rfl, F5, ?_, by rw [q, List.length_append]; simp; omega⟩)
            rw [List.map_append, hrw, q, htk]
            unfold grpsOf
            rw [List.filter_append, List.map_append, List.filter_cons, if_pos hq, List.length_map, List.take_length]
            rfl
      · refine xb_nil ⟨rws, _, _, _, _, rfl, F'.mono e4, ?_, by omega⟩
        rw [hrw, htk]
        unfold grpsOf
        rw [List.filter_append, List.map_append, List.filter_cons, if_neg (by rw [hq]; decide)]
        simp
end
end Gw

set_option maxRecDepth 100000
set_option maxHeartbeats 4000000
/-! What is read is well told: groups name people and groups ahead of them. -/
namespace Gw
open PySem SX
structure WfHo (st : Ho) : Prop where
  nd : (st.fields.map (·.name)).Nodup
  g : ∀ f ∈ st.fields, ∀ ns, f.k = .names ns → WFG ns (grpsOf st.groups f.name)
theorem wfg_nil (ns : List W) : WFG ns [] := fun pre g post h => by cases pre <;> cases h
theorem wfg_snoc {ns : List W} {l : List (W × List W)} {g : W × List W} (h : WFG ns l) (h1 : isNameM g.1 = true) (h2 : g.1 ∉ ns) (h3 : g.1 ∉ l.map (·.1)) (h4 : ∀ m ∈ g.2, m ∈ ns ++ l.map (·.1)) (h5 : g.2.Nodup) (h6 : g.2 ≠ []) (h7 : g.2.length ≤ 9) : WFG ns (l ++ [g]) := by
  intro pre x post e
  rcases List.append_eq_append_iff.mp e with ⟨as, e1, e2⟩ | ⟨bs, e1, e2⟩
  · -- pre = l ++ as, [g] = as ++ x :: post
    cases as with
    | nil =>
      simp only [List.nil_append, List.cons.injEq] at e2
      obtain ⟨rfl, rfl⟩ := e2
      rw [List.append_nil] at e1
      subst e1
      exact ⟨h1, h2, h3, h4, h5, h6, h7⟩
    | cons a as =>
      simp only [List.cons_append, List.cons.injEq] at e2
      have := congrArg List.length e2.2
      simp at this
  · -- l = pre ++ bs, x :: post = bs ++ [g]
    cases bs with
    | nil =>
      simp only [List.nil_append, List.cons.injEq] at e2
      obtain ⟨rfl, rfl⟩ := e2
      rw [List.append_nil] at e1
      subst e1
      exact ⟨h1, h2, h3, h4, h5, h6, h7⟩
    | cons b bs =>
      simp only [List.cons_append, List.cons.injEq] at e2
      obtain ⟨rfl, _⟩ := e2
      exact h pre x bs e1
theorem nodup_find {fs : List Fd} {f f' : Fd} {p : Fd → Bool} (hn : (fs.map (·.name)).Nodup) (h1 : f ∈ fs) (h2 : f' ∈ fs) (e : f.name = f'.name) : f = f' := by
  induction fs with
  | nil => cases h1
  | cons a fs ih =>
    rw [List.map_cons, List.nodup_cons] at hn
    rcases List.mem_cons.mp h1 with q1 | q1
    · rcases List.mem_cons.mp h2 with q2 | q2
      · rw [q1, q2]
      · exact absurd (List.mem_map.mpr ⟨f', q2, by rw [← e, q1]⟩) hn.1
    · rcases List.mem_cons.mp h2 with q2 | q2
      · exact absurd (List.mem_map.mpr ⟨f, q1, by rw [e, q2]⟩) hn.1
      · exact ih hn.2 q1 q2
theorem known_eq {st : Ho} {f : Fd} {ns : List W} (h : f.k = .names ns) : knownM st f = ns ++ (grpsOf st.groups f.name).map (·.1) := by
  unfold knownM grpsOf
  rw [h, List.map_map]
  rfl
theorem wf_field {st st' : Ho} {ws : List W} (h : WfHo st) (e : fieldM st ws = some st') : WfHo st' := by
  unfold fieldM at e
  split at e
  · rename_i a kind rest
    split at e
    · rename_i c
      obtain ⟨c1, c2, c3, c4, c5⟩ := c
      cases ht : thingsM kind rest with
      | none => rw [ht] at e; cases e
      | some k =>
        rw [ht] at e
        cases e
        refine ⟨?_, fun f hf ns hk => ?_⟩
        · show ((st.fields ++ [_]).map fun f : Fd => f.name).Nodup
          rw [List.map_append, List.nodup_append]
          exact ⟨h.nd, by simp, fun x hx y hy q => c5 (by simp at hy; rw [← hy, ← q]; exact hx)⟩
        · show WFG ns (grpsOf st.groups f.name)
          rw [c1]
          exact wfg_nil ns
    · cases e
  · cases e
theorem wf_group {st st' : Ho} {ws : List W} (h : WfHo st) (e : groupM st ws = some st') : WfHo st' := by
  unfold groupM at e
  split at e
  · rename_i fn a m rest
    split at e
    · rename_i f hf
      split at e
      · rename_i c
        obtain ⟨c1, c2, c3, c4, c5, c6, c7⟩ := c
        cases e
        have fm := List.mem_of_find?_eq_some hf
        have fp := List.find?_some hf
        simp only [Bool.and_eq_true, beq_iff_eq] at fp
        refine ⟨h.nd, fun f' hf' ns hk => ?_⟩
        show WFG ns (grpsOf (st.groups ++ [⟨fn, a, m :: rest⟩]) f'.name)
        have old := h.g f' hf' ns hk
        by_cases q : fn = f'.name
        · have ef : f = f' := nodup_find (p := fun _ => true) h.nd fm hf' (fp.1.trans q)
          subst ef
          have ek := known_eq (st := st) hk
          rw [ek] at c4 c7
          have e : grpsOf (st.groups ++ [⟨fn, a, m :: rest⟩]) f.name = grpsOf st.groups f.name ++ [(a, m :: rest)] := by
            unfold grpsOf
            rw [List.filter_append, List.map_append, List.filter_cons, if_pos (by simpa using q)]
            rfl
          rw [e]
          exact wfg_snoc old c3 (fun z => c4 (List.mem_append_left _ z)) (fun z => c4 (List.mem_append_right _ z)) c7 c6 (by simp) c5
        · have e : grpsOf (st.groups ++ [⟨fn, a, m :: rest⟩]) f'.name = grpsOf st.groups f'.name := by
            unfold grpsOf
            rw [List.filter_append, List.map_append, List.filter_cons, if_neg (by simpa using q)]
            simp
          rw [e]
          exact old
      · cases e
    · cases e
  · cases e
theorem gate_same {st st' : Ho} {ws : List W} (e : gateM st ws = some st') : st'.fields = st.fields ∧ st'.groups = st.groups := by
  unfold gateM at e
  split at e
  · split at e
    · cases e; exact ⟨rfl, rfl⟩
    · cases e
  · cases e
theorem rule_same {st st' : Ho} {ws : List W} (e : ruleM st ws = some st') : st'.fields = st.fields ∧ st'.groups = st.groups := by
  unfold ruleM at e
  split at e
  · split at e
    · split at e
      · split at e
        · split at e
          · split at e
            · split at e
              · cases e; exact ⟨rfl, rfl⟩
              · cases e
            · cases e
          · cases e
        · cases e
      · split at e
        · split at e
          · cases e; exact ⟨rfl, rfl⟩
          · cases e
        · cases e
    · cases e
  · cases e
theorem wf_same {st st' : Ho} (h : WfHo st) (e : st'.fields = st.fields ∧ st'.groups = st.groups) : WfHo st' := ⟨by rw [e.1]; exact h.nd, fun f hf ns hk => by rw [e.1] at hf; rw [e.2]; exact h.g f hf ns hk⟩
theorem wf_line {st st' : Ho} {ws : List W} (h : WfHo st) (e : lineM st ws = some st') : WfHo st' := by
  cases ws with
  | nil => cases e; exact h
  | cons w0 r =>
    rw [lineM_cons] at e
    split at e
    · exact wf_field h e
    · split at e
      · exact wf_group h e
      · split at e
        · exact wf_same h (gate_same e)
        · split at e
          · exact wf_same h (rule_same e)
          · cases e
theorem wf_rows : ∀ {ls : List W} {st st' : Ho} {k : Nat}, WfHo st → rowsM st k ls = .ok st' → WfHo st'
  | [], st, st', k, h, e => by
    have e : (if st.gates = [] then (Except.error (k + 1) : Except Nat Ho) else .ok st) = .ok st' := e
    split at e
    · cases e
    · cases e; exact h
  | l :: ls, st, st', k, h, e => by
    rw [rowsM_cons] at e
    cases hr : rowM st l with
    | none => rw [hr] at e; cases e
    | some st2 =>
      rw [hr] at e
      refine wf_rows ?_ e
      unfold rowM at hr
      split at hr
      · cases hr
      · exact wf_line h hr
theorem wf_read {t : W} {st : Ho} (e : readM t = .ok st) : WfHo st := wf_rows ⟨by simp, fun f hf => by cases hf⟩ e
end Gw

set_option maxRecDepth 100000
set_option maxHeartbeats 4000000
namespace Gw
open PySem PySem.Spec PyProof.Rows L2 Evl SX
section
variable {X : Cx} {e a b : Expr} {rest : List Stmt} {σ : L2.St} {H : Hp} {D : Ends} {p' pos : Pos}
/-- d[k] = e, e any expression -/
theorem xb_dputE {k0 : Nat} (hr : Room k0 X.A) (h : XE X e σ H fun v H1 => ∃ (ad : Addr) (kvs : List (Key × V)) (q : Key), Vl X a σ H1 (.ref ad) ∧ Vl X b σ H1 (kV q) ∧ H1 ad = some (.dK kvs) ∧ kvs.length < 100000 ∧ ∀ H2, Ex H1 H2 → XB X rest D σ (upd H2 ad (.dK (putK kvs q v))))
    (hs : swapsWith e (some (.Subscript a b p')) pos.line X.env = pure false := by rfl) : XB X (.Assign [.Subscript a b p'] e pos :: rest) D σ H :=
  xb_cons (xs_of (ps_dput (hu_of hr) pe_xe pe_xe pe_xe hs) (xe_mono h fun v H1 ⟨ad, kvs, q, ha, hb, hd, hz, k⟩ => ha H1 (Ex.refl H1) _ fun H2 e2 => hb H2 e2 _ fun H3 e3 => ⟨ad, _, rfl, DPut.k ((e2.trans e3) _ _ hd) (sz_lt hz), k H3 (e2.trans e3)⟩))
end
def spFdInit (C : Addr) : Sp := fun vs H Q _ => ∃ (H0 : Hp) (ad dx : Addr) (x y : V), vs = [.ref ad, x, y] ∧ H ad = some (.ins C dx []) ∧ Ex H0 H ∧ H0 ad = none ∧ ∀ H', Ex H0 H' → Q .non H'
def spFieldOf : Sp := fun vs H Q _ => ∃ (fv : V) (f : Fd), vs = [fv] ∧ FdAt H fv f ∧ ∀ v H', Ex H H' → Q v H'
section
variable {P : Program} {w : World} {K : PySem.W.Frag} {mg : Str → Option Value} {base : Heap}
theorem ok_fdInit (T : Tx K mg) {c : Str} {fl : List Str} (B : CB K (He.ga K c) fl) (g0 : mg c = some (.ref (He.ga K c))) (g : Mk K (He.ga K c) (He.ma K (He.ga K c) "__init__")) (hI : He.ma K (He.ga K c) "__init__" = He.ma K (He.ga K "Field") "__init__") (h1 : ("label" : Str) ∈ fl) (h2 : ("things" : Str) ∈ fl) : Mc P w K mg base 1 c (He.ga K c) (spFdInit (He.ga K c)) := by
  refine mc_of T (cI := "Field") dFieldInit 7 g0 g hI scFieldInit (fun _ _ _ _ _ _ us hl => match us, hl with | [_, _, _], _ => rfl) (fun _ _ _ _ ⟨_, _, _, _, _, e, _⟩ => by subst e; rfl) fun f cdv A outer s H vs Q E hr ⟨H0, ad, dx, x, y, e, had, eH, h0, k⟩ => ?_
  subst e
  have nd := scFieldInit.nd
  refine xb_fld B (v_v 1) (v_v 0) had (fun H1 e1 => ?_) (by exact Nat.le_of_ble_eq_true rfl) h1
  refine xb_fld B (v_v 2) (v_v 0) upd_same (fun H2 e2 => ?_) (by exact Nat.le_of_ble_eq_true rfl) h2
  exact xb_nil (k _ ((((eH.trans e1).mut h0).trans e2).mut h0))
theorem allC (T : Tx K mg) {c : Str} (h : c ∈ (["NamesField", "TreeField", "NumberField", "BitsField", "MarksField", "ClockField"] : List Str)) : He.ma K (He.ga K c) "__init__" = He.ma K (He.ga K "Field") "__init__" := by
  have q : (["NamesField", "TreeField", "NumberField", "BitsField", "MarksField", "ClockField"] : List Str).all (fun c => decide (He.ma K (He.ga K c) "__init__" = He.ma K (He.ga K "Field") "__init__")) = true := T.c.exI 20
  exact of_decide_eq_true (List.all_eq_true.mp q c h)
theorem ok_fieldOf (T : Tx K mg) : Gd P w K mg base 3 "field_of" spFieldOf := by
  have C1 : Mc P w K mg base 1 "NamesField" _ (spFdInit _) := ok_fdInit T T.cb_NamesField T.g_NamesField T.mk_NamesField (allC T (by decide +kernel)) (by decide +kernel) (by decide +kernel)
  have C2 : Mc P w K mg base 1 "TreeField" _ (spFdInit _) := ok_fdInit T T.cb_TreeField T.g_TreeField T.mk_TreeField (allC T (by decide +kernel)) (by decide +kernel) (by decide +kernel)
  have C3 : Mc P w K mg base 1 "NumberField" _ (spFdInit _) := ok_fdInit T T.cb_NumberField T.g_NumberField T.mk_NumberField (allC T (by decide +kernel)) (by decide +kernel) (by decide +kernel)
  have C4 : Mc P w K mg base 1 "BitsField" _ (spFdInit _) := ok_fdInit T T.cb_BitsField T.g_BitsField T.mk_BitsField (allC T (by decide +kernel)) (by decide +kernel) (by decide +kernel)
  have C5 : Mc P w K mg base 1 "MarksField" _ (spFdInit _) := ok_fdInit T T.cb_MarksField T.g_MarksField T.mk_MarksField (allC T (by decide +kernel)) (by decide +kernel) (by decide +kernel)
  have C6 : Mc P w K mg base 1 "ClockField" _ (spFdInit _) := ok_fdInit T T.cb_ClockField T.g_ClockField T.mk_ClockField (allC T (by decide +kernel)) (by decide +kernel) (by decide +kernel)
  refine gd_of T dFieldOf 8 T.g_field_of scFieldOf (fun _ _ _ _ _ _ us hl => match us, hl with | [_], _ => rfl) (fun _ _ _ _ ⟨_, _, e, _⟩ => by subst e; rfl) fun f cdv A outer s H vs Q E hr ⟨fv, fd, e, hf, k⟩ => ?_
  subst e
  have nd := scFieldOf.nd
  obtain ⟨fa, tv, rfl, hfa, hth⟩ := hf
  refine xb_un3 1 2 3 (vl_tu (v_v 0) (.inl hfa)) fun H1 e1 => ?_
  have fin : ∀ (C : Addr) (H3 : Hp), Ex H H3 → ∀ x dx, H3 x = none → H3 dx = none → dx ≠ x → spFdInit C [.ref x, .str (S fd.name), tv] (upd (upd H3 dx (.own x)) x (.ins C dx [])) (fun v H2 => v = .non ∧ Q (.ref x) H2) E := fun C H3 e3 x dx hx hdx hne =>
    ⟨H3, x, dx, _, _, rfl, upd_same, (Ex.new hdx).trans (Ex.new (by rw [upd_ne (Ne.symm hne)]; exact hx)), hx, fun H' e' => ⟨rfl, k _ H' (e3.trans e')⟩⟩
  obtain ⟨fn, fk⟩ := fd
  cases fk with
  | names ws => exact xb_yes (b_kw true "names" (v_v 2)) fun H2 e2 => xb_retE (xe_make C1 hr passL (xa_cons (xe_v (v_v 1) fun H3 e3 => xa_cons (xe_v (v_v 3) fun H4 e4 => xa_nil (fin _ H4 (((e1.trans e2).trans e3).trans e4))))))
  | tree ws => exact xb_no (b_kw false "tree" (v_v 2)) fun H2 e2 => xb_yes (b_kw true "tree" (v_v 2)) fun H2' e2' => xb_retE (xe_make C2 hr passL (xa_cons (xe_v (v_v 1) fun H3 e3 => xa_cons (xe_v (v_v 3) fun H4 e4 => xa_nil (fin _ H4 ((((e1.trans e2).trans e2').trans e3).trans e4))))))
  | number n => exact xb_no (b_kw false "number" (v_v 2)) fun H2 e2 => xb_no (b_kw false "number" (v_v 2)) fun H2' e2' => xb_yes (b_kw true "number" (v_v 2)) fun H2'' e2'' => xb_retE (xe_make C3 hr passL (xa_cons (xe_v (v_v 1) fun H3 e3 => xa_cons (xe_v (v_v 3) fun H4 e4 => xa_nil (fin _ H4 (((((e1.trans e2).trans e2').trans e2'').trans e3).trans e4))))))
  | bits n => exact xb_no (b_kw false "bits" (v_v 2)) fun H2 e2 => xb_no (b_kw false "bits" (v_v 2)) fun H2' e2' => xb_no (b_kw false "bits" (v_v 2)) fun H5 e5 => xb_yes (b_kw true "bits" (v_v 2)) fun H2'' e2'' => xb_retE (xe_make C4 hr passL (xa_cons (xe_v (v_v 1) fun H3 e3 => xa_cons (xe_v (v_v 3) fun H4 e4 => xa_nil (fin _ H4 ((((((e1.trans e2).trans e2').trans e5).trans e2'').trans e3).trans e4))))))
  | marks ws => exact xb_no (b_kw false "marks" (v_v 2)) fun H2 e2 => xb_no (b_kw false "marks" (v_v 2)) fun H2' e2' => xb_no (b_kw false "marks" (v_v 2)) fun H5 e5 => xb_no (b_kw false "marks" (v_v 2)) fun H6 e6 => xb_yes (b_kw true "marks" (v_v 2)) fun H2'' e2'' => xb_retE (xe_make C5 hr passL (xa_cons (xe_v (v_v 1) fun H3 e3 => xa_cons (xe_v (v_v 3) fun H4 e4 => xa_nil (fin _ H4 (((((((e1.trans e2).trans e2').trans e5).trans e6).trans e2'').trans e3).trans e4))))))
  | clock => exact xb_no (b_kw false "clock" (v_v 2)) fun H2 e2 => xb_no (b_kw false "clock" (v_v 2)) fun H2' e2' => xb_no (b_kw false "clock" (v_v 2)) fun H5 e5 => xb_no (b_kw false "clock" (v_v 2)) fun H6 e6 => xb_no (b_kw false "clock" (v_v 2)) fun H2'' e2'' => xb_retE (xe_make C6 hr passL (xa_cons (xe_v (v_v 1) fun H3 e3 => xa_cons (xe_v (v_v 3) fun H4 e4 => xa_nil (fin _ H4 (((((((e1.trans e2).trans e2').trans e5).trans e6).trans e2'').trans e3).trans e4))))))
end
end Gw

set_option maxRecDepth 100000
set_option maxHeartbeats 4000000
namespace Gw
open PySem PySem.Spec PyProof.Rows L2 Evl SX
abbrev CH (K : PySem.W.Frag) : Addr := He.ga K "House"
/-- told: a house's tuples, over the heap -/
structure ToldAt (H : Hp) (tv : V) (st : Ho) : Prop where
  ex : ∃ (t ft gt : Addr) (rv : V) (fvs gvs : List V), tv = .ref t ∧ Rd H t (.tup [.ref ft, .ref gt, rv]) ∧ Rd H ft (.tup fvs) ∧ Paired (FdAt H) fvs st.fields ∧ Rd H gt (.tup gvs) ∧ TpA H gvs (st.groups.map Gp.d) ∧ Tp H rv (.tuple (st.gates.map Gt.d))
theorem ToldAt.mono {H H' : Hp} {tv : V} {st : Ho} (h : ToldAt H tv st) (e : Ex H H') : ToldAt H' tv st := by
  obtain ⟨t, ft, gt, rv, fvs, gvs, h1, h2, h3, h4, h5, h6, h7⟩ := h.ex
  exact ⟨t, ft, gt, rv, fvs, gvs, h1, ex_rd e h2, ex_rd e h3, Paired.mono (fun _ _ q => q.mono e) h4, ex_rd e h5, h6.mono e, h7.mono e⟩
theorem TpA.of_fd {H : Hp} : ∀ {vs : List V} {fs : List Fd}, Paired (FdAt H) vs fs → TpA H vs (fs.map Fd.d)
  | _, _, .nil => .nil
  | _, _, .cons h t => .cons h.tp (TpA.of_fd t)
theorem ToldAt.tp {H : Hp} {tv : V} {st : Ho} (h : ToldAt H tv st) : Tp H tv st.d := by
  obtain ⟨t, ft, gt, rv, fvs, gvs, h1, h2, h3, h4, h5, h6, h7⟩ := h.ex
  subst h1
  exact .tup h2 (.cons (.tup h3 (TpA.of_fd h4)) (.cons (.tup h5 h6) (.cons h7 .nil)))
def spHoInit (K : PySem.W.Frag) : Sp := fun vs H Q _ => ∃ (H0 : Hp) (ad dx : Addr) (tv : V) (st : Ho), vs = [.ref ad, tv] ∧ H ad = some (.ins (CH K) dx []) ∧ Ex H0 H ∧ H0 ad = none ∧ ToldAt H0 tv st ∧ HoOk st ∧ WfHo st ∧ ∀ fs H', Ex H0 H' → H' ad = some (.ins (CH K) dx fs) → fs.lookup ("told" : Str) = some tv → fs.lookup ("plain" : Str) = none → Q .non H'
def spHouseOf (K : PySem.W.Frag) : Sp := fun vs H Q _ => ∃ (tv : V) (st : Ho), vs = [tv] ∧ ToldAt H tv st ∧ HoOk st ∧ WfHo st ∧ ∀ ad dx fs H', Ex H H' → H' ad = some (.ins (CH K) dx fs) → fs.lookup ("told" : Str) = some tv → fs.lookup ("plain" : Str) = none → Q (.ref ad) H'
section
variable {P : Program} {w : World} {K : PySem.W.Frag} {mg : Str → Option Value} {base : Heap}
abbrev hoF (tv : V) (gl cd : Addr) : List (Str × V) := [("told", tv), ("ground", .ref gl), ("crews", .ref cd)]
theorem ok_hoInit (T : Tx K mg) : Mc P w K mg base 5 "House" (CH K) (spHoInit K) := by
  have GF : Gd P w K mg base 3 "field_of" spFieldOf := ok_fieldOf T
  have GK : Gd P w K mg base 4 "folk_of" (spFolkOf K) := ok_folkOf T
  refine mc_of T (cI := "House") dHouseInit 10 T.g_House T.mk_House rfl scHouseInit (fun _ _ _ _ _ _ us hl => match us, hl with | [_, _], _ => rfl) (fun _ _ _ _ ⟨_, _, _, _, _, e, _⟩ => by subst e; rfl) fun f cdv A outer s H vs Q E hr ⟨H0, ad, dx, tv, st, e, had, eH, h0, hT, hok, hwf, k⟩ => ?_
  subst e
  have nd := scHouseInit.nd
  have hr3 : Room 3 (Cxd dHouseInit P w K mg base nHouseInit f cdv A outer s H E).A := hr.mono (by decide)
  obtain ⟨t, ft, gt, rv, fvs, gvs, rfl, ht, hft, hfp, hgt, hgv, hrv⟩ := hT.ex
  obtain ⟨zs, z1, z2, z3⟩ := paired_zip hfp
  have zl : zs.length ≤ 4 := by have := hok.f4; rw [z2, List.length_map] at this; exact this
  refine xb_fld T.cb_House (v_v 1) (v_v 0) had fun H1 e1 => ?_
  have E1 : Ex H0 (upd H1 ad (.ins (CH K) dx (putF "told" (.ref t) []))) := (eH.trans e1).mut h0
  -- its fields
  have told0 : ∀ {X' : Cx} {e : Expr} {σ' : L2.St} {H' : Hp} {p pos : Pos} {j : Nat}, Ex H0 H' → Vl X' e σ' H' (.ref t) → Tu X' (.Subscript e (.Constant (.int 0) j p) pos) σ' H' fvs := fun e' h => vl_tu (v_ixT (v := .ref ft) (vl_tu h (.inl (ex_rd e' ht))) v_int rfl) (.inl (ex_rd e' hft))
  refine xb_fldE T.cb_House ((lc_gen (i := 2) (own := [("field", 2)]) (ws := zs) (enc := fun z => z.1) (fun _ => true) (fun _ _ _ _ => True) nd rfl (blkOk_by (N := nHouseInit) (sc := defScope sHouseInit) (by decide +kernel)) (il_T (tu_is (told0 E1 (v_v 1)) z1)) (by omega) (fun _ _ _ _ _ => ⟨by assumption, rfl, Or.inl rfl, Or.inr rfl⟩) (by intro _; rfl) (fun _ _ _ _ _ _ _ => q_nil)
    (fun _ _ _ _ _ z hz _ D acc H2 e2 _ _ Q' k' => xe_call GF hr3 passL (xa_cons (xe_v (v_v 2) fun H3 e3 => xa_nil ⟨z.1, z.2, rfl, (z3 z hz).mono ((E1.trans e2).trans e3), fun v H4 e4 => k' v H4 (e3.trans e4) trivial⟩))) (fun _ _ _ _ _ _ h => h) (fun _ _ _ _ _ _ h _ => h)).v _ (Ex.refl _) _ fun gl ys H2 hgl e2 h2 _ => ⟨ad, v_v 0, dx, _, e2 _ _ upd_same, by exact Nat.le_of_ble_eq_true rfl, fun H3 e3 => ?_⟩)
  have E3 : Ex H0 (upd H3 ad (.ins (CH K) dx (putF "ground" (.ref gl) (putF "told" (.ref t) [])))) := ((E1.trans e2).trans e3).mut h0
  refine xb_fldE T.cb_House (xe_dict0 fun cd hcd => ⟨ad, v_v 0, dx, putF "ground" (.ref gl) (putF "told" (.ref t) []), ?_, by exact Nat.le_of_ble_eq_true rfl, fun H4 e4 => ?_⟩)
  · have : cd ≠ ad := fun q => by rw [q, upd_same] at hcd; cases hcd
    rw [upd_ne (Ne.symm this), upd_same]
  · have ncd : cd ≠ ad := fun q => by rw [q, upd_same] at hcd; cases hcd
    have cd0 : H0 cd = none := fresh_back E3 hcd
    have hfs : putF "crews" (.ref cd) (putF "ground" (.ref gl) (putF "told" (.ref t) [])) = hoF (.ref t) gl cd := by
      unfold hoF
      repeat (first | rw [if_neg (by decide +kernel)] | simp only [putF])
    rw [hfs]
    have E4 : Ex H0 (upd H4 ad (.ins (CH K) dx (hoF (.ref t) gl cd))) := ((E3.mut cd0).trans e4).mut h0
    have c4 : upd H4 ad (.ins (CH K) dx (hoF (.ref t) gl cd)) cd = some (.dK []) := by rw [upd_ne ncd]; exact e4 _ _ upd_same
    have a4 : upd H4 ad (.ins (CH K) dx (hoF (.ref t) gl cd)) ad = some (.ins (CH K) dx (hoF (.ref t) gl cd)) := upd_same
    generalize upd H4 ad (.ins (CH K) dx (hoF (.ref t) gl cd)) = H5 at E4 c4 a4 ⊢
    refine xb_forT 2 (xs := fvs) po_cx (v_ixT (v := .ref ft) (vl_tu (v_v 1) (.inl (ex_rd E4 ht))) v_int rfl) (.inl (ex_rd E4 hft)) (fun j σ' H' => ∃ (o2 : Option V) (kvs : List (Key × V)), σ' = [some (.ref ad), some (.ref t), o2] ∧ Ex H0 H' ∧ H' ad = some (.ins (CH K) dx (hoF (.ref t) gl cd)) ∧ H' cd = some (.dK kvs) ∧ kvs.length ≤ j)
      (fun H6 e6 => ⟨none, [], rfl, E4.trans e6, e6 _ _ a4, e6 _ _ c4, Nat.le_refl _⟩) (fun j σ' H' _ ⟨_, _, _, eh, _⟩ => .inl (ex_rd eh hft)) ?_ (fun σ' H' ⟨o2, kvs, hσ, eh, ha, hc, hl⟩ => by subst hσ; exact xb_nil (k (hoF (.ref t) gl cd) H' eh ha rfl rfl))
    rintro j x σ' H' hx ⟨o2, kvs, hσ, eh, ha, hc, hl⟩
    subst hσ
    rw [z1, List.getElem?_map] at hx
    cases hzj : zs[j]? with
    | none => rw [hzj] at hx; cases hx
    | some z =>
      rw [hzj] at hx
      cases hx
      have hzm : z ∈ zs := List.mem_of_getElem? hzj
      have jl : j < 4 := by have := (List.getElem?_eq_some_iff.mp hzj).1; omega
      have zf0 := z3 z hzm
      have zfm : z.2 ∈ st.fields := by rw [z2]; exact List.mem_map_of_mem hzm
      obtain ⟨fa, fv, ea, ra, _⟩ := zf0.mono eh
      dsimp only
      rw [ea]
      refine xb_when (k := isNames z.2.k) (bl_is (bc (c_eq (v_ixT (vl_tu (v_v 2) (.inl ra)) v_int rfl) v_str)) (by rw [dec_V, word_names])) (fun q H6 e6 => ?_) fun q H6 e6 => ?_
      · obtain ⟨ns, en⟩ := isNames_of q
        have nsl : ns.length ≤ 9 := by have := (hok.f z.2 zfm).2.few; rw [en] at this; exact this
        have E6 := eh.trans e6
        refine xb_dputE hr (xe_call GK hr passL (xa_cons (xe_v (v_v 2) fun H7 e7 => xa_cons (xe_v (v_ixT (v := .ref gt) (vl_tu (v_v 1) (.inl (ex_rd (E6.trans e7) ht))) v_int rfl) fun H8 e8 => xa_nil ?_))))
        have E8 := (E6.trans e7).trans e8
        refine ⟨z.2, .ref fa, ns, gt, gvs, st.groups, rfl, by rw [← ea]; exact zf0.mono E8, en, nsl, ex_rd E8 hgt, hgv.mono E8, hok.g9, hwf.g z.2 zfm ns en, fun v H9 e9 => ?_⟩
        have e69 := ((e6.trans e7).trans e8).trans e9
        refine ⟨cd, kvs, .inr (S z.2.name), v_fld T.cb_House (v_v 0) (e69 _ _ ha) rfl, v_ixT (vl_tu (v_v 2) (.inl (ex_rd e69 ra))) v_int rfl, e69 _ _ hc, by omega, fun H10 e10 => ?_⟩
        refine xb_nil (xb_nil ⟨_, _, rfl, ((eh.trans e69).trans e10).mut cd0, by rw [upd_ne (Ne.symm ncd)]; exact (e69.trans e10) _ _ ha, upd_same, Nat.le_trans (length_putK _ _ _) (by omega)⟩)
      · exact xb_nil ⟨_, kvs, rfl, eh.trans e6, e6 _ _ ha, e6 _ _ hc, by omega⟩
theorem ok_houseOf (T : Tx K mg) : Gd P w K mg base 7 "house_of" (spHouseOf K) := by
  have MH : Mc P w K mg base 5 "House" (CH K) (spHoInit K) := ok_hoInit T
  refine gd_of T dHouseOf 12 T.g_house_of scHouseOf (fun _ _ _ _ _ _ us hl => match us, hl with | [_], _ => rfl) (fun _ _ _ _ ⟨_, _, e, _⟩ => by subst e; rfl) fun f cdv A outer s H vs Q E hr ⟨tv, st, e, hT, hok, hwf, k⟩ => ?_
  subst e
  have nd := scHouseOf.nd
  exact xb_retE (xe_make MH hr passL (xa_cons (xe_v (v_v 0) fun H1 e1 => xa_nil fun ad dx hx hdx hne => ⟨H1, ad, dx, tv, st, rfl, upd_same, (Ex.new hdx).trans (Ex.new (by rw [upd_ne (Ne.symm hne)]; exact hx)), hx, hT.mono e1, hok, hwf, fun fs H' e' ha hl hp => ⟨rfl, k ad dx fs H' (e1.trans e') ha hl hp⟩⟩)))
def spPlain (K : PySem.W.Frag) : Sp := fun vs H Q _ => ∃ (ad dx : Addr) (fs : List (Str × V)) (tv : V), vs = [.ref ad] ∧ H ad = some (.ins (CH K) dx fs) ∧ fs.lookup ("told" : Str) = some tv ∧ ∀ H', Ex H H' → Q tv H'
theorem ok_plain (T : Tx K mg) : Me P w K mg base 1 (CH K) "plain" (spPlain K) := by
  refine me_of T dHousePlain 11 T.m_House_plain scHousePlain (fun _ _ _ _ _ _ us hl => match us, hl with | [_], _ => rfl) (fun _ _ _ _ ⟨_, _, _, _, e, _⟩ => by subst e; rfl) fun f cdv A outer s H vs Q E hr ⟨ad, dx, fs, tv, e, ha, hl, k⟩ => ?_
  subst e
  have nd := scHousePlain.nd
  exact xb_ret (v_fld T.cb_House (v_v 0) ha hl) k
end
end Gw

set_option maxRecDepth 100000
set_option maxHeartbeats 4000000
namespace Gw
open PySem PySem.Spec PyProof.Rows L2 Evl SX
def spRead (K : PySem.W.Frag) : Sp := fun vs H Q E => ∃ t : W, vs = [.str (S t)] ∧ TextOk t ∧
  (∀ st, readM t = .ok st → ∀ ad dx fs tv H', Ex H H' → H' ad = some (.ins (CH K) dx fs) → fs.lookup ("told" : Str) = some tv → fs.lookup ("plain" : Str) = none → Tp H' tv st.d → Q (.ref ad) H') ∧ ∀ n : Nat, readM t = .error n → Bad K (n : Int) H E
section
variable {P : Program} {w : World} {K : PySem.W.Frag} {mg : Str → Option Value} {base : Heap}
theorem xe_u {X : Cx} {e : Expr} {σ : L2.St} {H : Hp} {Q : VK} {xs : List V} (h : Ul X e σ H xs) (k : ∀ p H1, H p = none → Ex H H1 → H1 p = some (.tup xs) → Q (.ref p) H1) : XE X e σ H Q := h H (Ex.refl H) Q k
theorem ok_read (T : Tx K mg) : Gd P w K mg base 9 "read" (spRead K) := by
  have G1 : Gd P w K mg base 1 "need_text" spNeedText := ok_needText T
  have M1 : Mc P w K mg base 1 "Reader" (CR K) (spRdInit K) := ok_rdInit T
  have M2 : Me P w K mg base 8 (CR K) "went_through" (spThrough K) := ok_wentThrough T
  have M3 : Me P w K mg base 1 (CR K) "gates_read" (spGates K) := ok_gatesRead T
  have G2 : Gd P w K mg base 7 "house_of" (spHouseOf K) := ok_houseOf T
  refine gd_of T dRead 36 T.g_read scRead (fun _ _ _ _ _ _ us hl => match us, hl with | [_], _ => rfl) (fun _ _ _ _ ⟨_, e, _⟩ => by subst e; rfl) fun f cdv A outer s H vs Q E hr ⟨t, e, ht, k1, k2⟩ => ?_
  subst e
  have nd := scRead.nd
  have hr1 : Room 1 (Cxd dRead P w K mg base nRead f cdv A outer s H E).A := hr.mono (by decide)
  have hr2 : Room 2 (Cxd dRead P w K mg base nRead f cdv A outer s H E).A := hr.mono (by decide)
  have hr7 : Room 7 (Cxd dRead P w K mg base nRead f cdv A outer s H E).A := hr.mono (by decide)
  refine xb_expr (xe_call G1 hr1 passL (xa_cons (xe_v (v_v 0) fun H1 e1 => xa_nil ⟨S t, rfl, fun H2 e2 => ?_⟩)))
  have E2 := e1.trans e2
  refine xb_setE 1 (xe_make M1 hr2 passL (xa_cons (xe_l (l_lst a_nil) fun a H3 ha e3 h3 => xa_cons (xe_l (l_lst a_nil) fun b H4 hb e4 h4 => xa_cons (xe_l (l_lst a_nil) fun c H5 hc e5 h5 => xa_cons (xe_v v_bl fun H6 e6 => xa_cons (xe_v (v_gi T.i_MOST_GATES) fun H7 e7 => xa_nil fun ad dx hx hdx hne => ?_)))))))
  have en : Ex H7 (upd (upd H7 dx (.own ad)) ad (.ins (CR K) dx [])) := (Ex.new hdx).trans (Ex.new (by rw [upd_ne (Ne.symm hne)]; exact hx))
  refine ⟨H7, ad, dx, a, b, c, rfl, upd_same, en _ _ (e7 _ _ (e6 _ _ (e5 _ _ (e4 _ _ h3)))), en _ _ (e7 _ _ (e6 _ _ (e5 _ _ h4))), en _ _ (e7 _ _ (e6 _ _ h5)), en, hx, fun g cr d am H8 R8 => ⟨rfl, ?_⟩⟩
  have E7 := ((((E2.trans e3).trans e4).trans e5).trans e6).trans e7
  refine xb_expr (xe_mono (Q := fun v H9 => ∃ st n g' c' d' ps', readM t = .ok st ∧ RdAt K H7 ad dx g' c' d' am n ps' st H9) (xe_meth T.cb_Reader M2 hr ps_cx (v_v 1) R8.ins rfl fun H9 e9 => xa_cons (xe_v (v_v 0) fun H10 e10 => xa_nil ⟨H7, ad, dx, g, cr, d, am, 0, [], t, rfl, (R8.mono e9).mono e10, ht, fun st hs n g' c' d' ps' H11 R11 => ⟨st, n, g', c', d', ps', hs, R11⟩, fun n hs => (k2 n hs).go E7⟩)) fun v H9 ⟨st, n, g', c', d', ps', hs, R9⟩ => ?_)
  have E9 := E7.trans R9.sta.ex
  obtain ⟨gs, hgs, hgp⟩ := R9.sta.gs
  obtain ⟨cs, hcs, hcp⟩ := R9.sta.cs
  refine xb_retE (xe_call G2 hr7 passL (xa_cons (xe_tup (xa_cons (xe_u (u_tuple T.f_tuple (vl_sl (v_fld T.cb_Reader (v_v 1) R9.ins rfl) (sq_of hgs))) fun ft H10 hft e10 h10 => xa_cons (xe_u (u_tuple T.f_tuple (vl_sl (v_fld T.cb_Reader (v_v 1) (R9.mono e10).ins rfl) (sq_of (e10 _ _ hcs)))) fun gt H11 hgt e11 h11 => xa_cons (xe_meth0 T.cb_Reader M3 hr1 passL (v_v 1) ((R9.mono e10).mono e11).ins rfl fun H12 e12 => ⟨H7, ad, dx, g', c', d', am, n, ps', st, rfl, ((R9.mono e10).mono e11).mono e12, fun H13 rv e13 tr => xa_nil ⟨by simp, fun p hp => xa_nil ?_⟩⟩)))))))
  have en2 : Ex H13 (upd H13 p (.tup [.ref ft, .ref gt, rv])) := Ex.new hp
  have e9e : Ex H9 (upd H13 p (.tup [.ref ft, .ref gt, rv])) := (((e10.trans e11).trans e12).trans e13).trans en2
  refine ⟨.ref p, st, rfl, ⟨p, ft, gt, rv, gs, cs, rfl, .inl upd_same, .inl (((e11.trans (e12.trans e13)).trans en2) _ _ h10), Paired.mono (fun _ _ q => q.mono e9e) hgp, .inl (((e12.trans e13).trans en2) _ _ h11), hcp.mono e9e, tr.mono en2⟩, R9.ok, wf_read hs, fun hd hx fs H14 e14 ha hl hpl => ?_⟩
  have told : ToldAt H14 (.ref p) st := ToldAt.mono (H := upd H13 p (.tup [.ref ft, .ref gt, rv])) ⟨p, ft, gt, rv, gs, cs, rfl, .inl upd_same, .inl (((e11.trans (e12.trans e13)).trans en2) _ _ h10), Paired.mono (fun _ _ q => q.mono e9e) hgp, .inl (((e12.trans e13).trans en2) _ _ h11), hcp.mono e9e, tr.mono en2⟩ e14
  exact k1 st hs hd hx fs (.ref p) H14 ((E9.trans e9e).trans e14) ha hl hpl told.tp
end
end Gw

set_option maxRecDepth 100000
set_option maxHeartbeats 4000000
/-! The law's reading: names, numbers, times. -/
namespace Gw
open PySem PySem.Spec PyProof.Rows L2 Evl SX
/-- a number, -1 for none -/
def oI : Option Nat → Int
  | none => -1
  | some n => (n : Int)
def spLIsName : Sp := spS1 fun a => .bl (isNameM a)
def spLWhole : Sp := spS1 fun a => .int (oI (wholeM a))
def spLMinutes : Sp := spS1 fun a => .int (oI (minutesM a))
theorem among_filter (a : W) (u : Str) : (a.filter fun c => !decide (c ∈ u.cps.toList)).isEmpty = amongL a u := by
  unfold amongL
  induction a with
  | nil => rfl
  | cons c a ih =>
    rw [List.filter_cons, List.all_cons, ← ih]
    by_cases h : c ∈ u.cps.toList
    · rw [if_neg (by simp [h]), decide_eq_true h]; rfl
    · rw [if_pos (by simp [h]), decide_eq_false h]; rfl
section
variable {P : Program} {w : World} {K : PySem.W.Frag} {mg : Str → Option Value} {base : Heap}
theorem ok_lIsName (T : Tx K mg) : Gd P w K mg base 1 "_law_is_name" spLIsName := by
  refine gd_of T dLawIsName 50 T.g__law_is_name scLawIsName (fun _ _ _ _ _ _ us hl => match us, hl with | [_], _ => rfl) (fun _ _ _ _ => spS1_len) fun f cdv A outer s H vs Q E hr ⟨z, e, hz, k⟩ => ?_
  subst e
  have nd := scLawIsName.nd
  refine xb_ret (v := .bl (isNameM z)) (vl_is (v_and (vc2 (c_ltLt v_int (v_lenW T.f_len (v_v 0) hz) v_int)) fun _ => v_one (v_all (bs := z.map fun c => decide (c ∈ lettersS.cps.toList)) rfl T.f_all (ll_sl (ll_is (cp_ll (lc_map (i := 1) (own := [("_law_sign", 1)]) (ws := z) (fun c => V.bl (decide (c ∈ lettersS.cps.toList))) (il_S (z := S z) (v_v 0)) hz
      (blkOk_by (N := nLawIsName) (sc := defScope sLawIsName) (by decide +kernel)) (fun _ _ _ _ _ c _ => vc (c_inC (v_v 1) v_str)))) (by rw [List.map_map]; rfl))))) ?_) k
  rw [all_map_id]
  unfold isNameM
  congr 1
  congr 1
  congr 1
  · exact decide_eq_decide.mpr (by omega)
  · exact decide_eq_decide.mpr (by omega)
theorem ok_lWhole (T : Tx K mg) : Gd P w K mg base 1 "_law_whole" spLWhole := by
  refine gd_of T dLawWhole 51 T.g__law_whole scLawWhole (fun _ _ _ _ _ _ us hl => match us, hl with | [_], _ => rfl) (fun _ _ _ _ => spS1_len) fun f cdv A outer s H vs Q E hr ⟨z, e, hz, k⟩ => ?_
  subst e
  have nd := scLawWhole.nd
  refine xb_when (k := !(decide ((0 : Int) < z.length) && decide ((z.length : Int) < 14)) || !amongL z figuresS) (b_w (w_or (b_not (bc2 (c_ltLt v_int (v_lenW T.f_len (v_v 0) hz) v_int))) fun _ => w_or1 (bl_is (bc (c_neNil hr (ll_sl (cp_ll (lc_fil (i := 1) (own := [("_law_sign", 1)]) (ws := z) (enc := fun c => V.str ⟨#[c]⟩) (fun c => !decide (c ∈ figuresS.cps.toList)) (fun c => V.str ⟨#[c]⟩) (il_S (z := S z) (v_v 0)) hz
    (blkOk_by (N := nLawWhole) (sc := defScope sLawWhole) (by decide +kernel)) (fun _ _ _ _ _ c _ => bc (c_ninC (v_v 1) v_str)) (fun _ _ _ _ _ c _ _ => v_v 1)))))) (by rw [isEmpty_map, among_filter])))) (fun hk H1 e1 => ?_) fun hk H1 e1 => ?_
  · refine xb_ret (v_neg v_int) fun H2 e2 => ?_
    have : wholeM z = none := by
      unfold wholeM
      rw [if_neg]
      simp only [Bool.or_eq_true, Bool.not_eq_true', Bool.and_eq_false_iff, decide_eq_false_iff_not, Bool.and_eq_true, decide_eq_true_eq] at hk ⊢
      rintro ⟨⟨⟨a1, a2⟩, a3⟩, a4⟩
      rcases hk with hk | hk
      · omega
      · rw [a3] at hk; cases hk
    have q : Q (.int (oI (wholeM z))) H2 := k H2 (e1.trans e2)
    rw [this] at q
    exact q
  · simp only [Bool.or_eq_false_iff, Bool.not_eq_false', Bool.and_eq_true, decide_eq_true_eq] at hk
    obtain ⟨⟨k1, k2⟩, k3⟩ := hk
    match z, hz, k, k1, k2, k3 with
    | c :: r, hz, k, k1, k2, k3 =>
      have e0 : wholeM (c :: r) = if !(decide (c :: r ≠ [48]) && (c :: r).head? == some 48) then some (NumText.digitsVal (c :: r)) else none := by
        unfold wholeM
        have h1 : decide (1 ≤ (c :: r).length) = true := decide_eq_true (by simp)
        have h2 : decide ((c :: r).length ≤ 13) = true := decide_eq_true (by omega)
        rw [h1, h2, k3]
        simp
      refine xb_ret (v := .int (oI (wholeM (c :: r)))) (v_if (k := (c == 48) && decide (c :: r ≠ [48])) (b_w (w_and (bl_is (bc (c_eq (v_ixW 0 (v_v 0) v_int hz (c := c) rfl) v_str)) (by rw [lit0, dec_V, dec_S]; by_cases q : c = 48 <;> simp [q])) fun _ => w_and1 (bl_is (bc (c_ne (v_v 0) v_str)) (by rw [lit0, dec_V, dec_S]; by_cases q : c :: r = [48] <;> simp [q])))) (fun q => vl_is (v_neg v_int) ?_) fun q => vl_is (v_intS T.f_int (v_v 0) (int_of k3 (by simp) (by omega)) (by rw [S_len]; omega)) ?_) fun H2 e2 => k H2 (e1.trans e2)
      · simp only [Bool.and_eq_true, beq_iff_eq, decide_eq_true_eq] at q
        have hr0 : r ≠ [] := fun z => q.2 (by rw [q.1, z])
        rw [e0, if_neg (by simp [q.1, hr0])]
        rfl
      · rw [e0, if_pos]
        · rfl
        · by_cases hc : c = 48
          · subst hc
            simp at q
            simp [q]
          · simp [hc]
    | [], _, _, k1, _, _ => simp at k1
end
end Gw

set_option maxRecDepth 100000
set_option maxHeartbeats 4000000
namespace Gw
open PySem PySem.Spec PyProof.Rows L2 Evl SX
theorem dec_one {c d : Nat} : decide ([c] = [d]) = (c == d) := by by_cases h : c = d <;> simp [h]
theorem fig_two {a b : Nat} (h : amongL [a, b] figuresS = true) : ∃ x y, x < 10 ∧ y < 10 ∧ a = 48 + x ∧ b = 48 + y := by
  have h1 := fig_all h
  simp only [List.all_cons, List.all_nil, Bool.and_true, Bool.and_eq_true, decide_eq_true_eq] at h1
  exact ⟨a - 48, b - 48, by omega, by omega, by omega, by omega⟩
theorem lit24 : ("24" : Str).cps.toList = [50, 52] := by decide +kernel
theorem lit60 : ("60" : Str).cps.toList = [54, 48] := by decide +kernel
theorem two24 : ∀ x ∈ List.range 10, ∀ y ∈ List.range 10, decide ([48 + x, 48 + y] < [50, 52]) = decide (NumText.digitsVal [48 + x, 48 + y] ≤ 23) := by decide +kernel
theorem two60 : ∀ x ∈ List.range 10, ∀ y ∈ List.range 10, decide ([48 + x, 48 + y] < [54, 48]) = decide (NumText.digitsVal [48 + x, 48 + y] ≤ 59) := by decide +kernel
theorem lt24 {a b : Nat} (h : amongL [a, b] figuresS = true) : decide ([a, b] < [50, 52]) = decide (NumText.digitsVal [a, b] ≤ 23) := by
  obtain ⟨x, y, hx, hy, rfl, rfl⟩ := fig_two h
  exact two24 x (List.mem_range.mpr hx) y (List.mem_range.mpr hy)
theorem lt60 {a b : Nat} (h : amongL [a, b] figuresS = true) : decide ([a, b] < [54, 48]) = decide (NumText.digitsVal [a, b] ≤ 59) := by
  obtain ⟨x, y, hx, hy, rfl, rfl⟩ := fig_two h
  exact two60 x (List.mem_range.mpr hx) y (List.mem_range.mpr hy)
section
variable {P : Program} {w : World} {K : PySem.W.Frag} {mg : Str → Option Value} {base : Heap}
theorem minutes_not5 {z : W} (h : z.length ≠ 5) : minutesM z = none := by
  unfold minutesM
  split
  · exact absurd rfl h
  · rfl
theorem ok_lMinutes (T : Tx K mg) : Gd P w K mg base 1 "_law_minutes" spLMinutes := by
  refine gd_of T dLawMinutes 52 T.g__law_minutes scLawMinutes (fun _ _ _ _ _ _ us hl => match us, hl with | [_], _ => rfl) (fun _ _ _ _ => spS1_len) fun f cdv A outer s H vs Q E hr ⟨z, e, hz, k⟩ => ?_
  subst e
  have nd := scLawMinutes.nd
  have k' : ∀ H', Ex H H' → Q (.int (oI (minutesM z))) H' := k
  by_cases h5 : z.length = 5
  · match z, h5, hz, k' with
    | [a, b, c, d, e], h5, hz, k' =>
      have em : minutesM [a, b, c, d, e] = if c == 58 && (digC a && (digC b && (digC d && digC e))) && (decide (NumText.digitsVal [a, b] ≤ 23) && decide (NumText.digitsVal [d, e] ≤ 59)) then some (60 * NumText.digitsVal [a, b] + NumText.digitsVal [d, e]) else none := rfl
      refine xb_when (k := !(c == 58)) (bl_is (b_w (w_or (j := false) (k := !(c == 58)) (bl_is (bc (c_ne (v_lenW T.f_len (v_v 0) hz) v_int)) rfl) fun _ => w_or1 (bl_is (bc (c_ne (v_ixW 2 (v_v 0) v_int hz (c := c) rfl) v_str)) (by rw [litColon, dec_V, dec_S, dec_one])))) rfl) (fun hk H1 e1 => ?_) fun hk H1 e1 => ?_
      · refine xb_ret (v_neg v_int) fun H2 e2 => ?_
        have q := k' H2 (e1.trans e2)
        rw [em, if_neg (by intro h; simp at hk h; exact hk h.1.1)] at q
        exact q
      · have hc : c = 58 := by simpa using hk
        subst hc
        have v1 : ∀ {X' : Cx} {e0 : Expr} {σ' : L2.St} {H' : Hp} {p2 pos p3 : Pos} {j : Nat}, Vl X' e0 σ' H' (.str (S [a, b, 58, d, e])) → Vl X' (.Subscript e0 (.Slice none (some (.Constant (.int 2) j p3)) none p2) pos) σ' H' (.str (S [a, b])) := fun h => v_slW h o_n (o_s v_int) hz (by rw [show (2 : Int) = ((2 : Nat) : Int) from rfl, cut_to]; rfl)
        have v2 : ∀ {X' : Cx} {e0 : Expr} {σ' : L2.St} {H' : Hp} {p2 pos p3 : Pos} {j : Nat}, Vl X' e0 σ' H' (.str (S [a, b, 58, d, e])) → Vl X' (.Subscript e0 (.Slice (some (.Constant (.int 3) j p3)) none none p2) pos) σ' H' (.str (S [d, e])) := fun h => v_slW h (o_s v_int) o_n hz (by rw [show (3 : Int) = ((3 : Nat) : Int) from rfl, cut_from]; rfl)
        refine xb_when (k := !amongL [a, b, d, e] figuresS) (bl_is (bc (c_neNil hr (ll_sl (cp_ll (lc_fil (i := 1) (own := [("_law_sign", 1)]) (ws := [a, b, d, e]) (enc := fun c => V.str ⟨#[c]⟩) (fun c => !decide (c ∈ figuresS.cps.toList)) (fun c => V.str ⟨#[c]⟩) (il_S (z := S [a, b, d, e]) (vl_is (v_addS (v1 (v_v 0)) (v2 (v_v 0)) (by exact Nat.le_of_ble_eq_true rfl)) (by rw [S_cat]; rfl))) (by simp)
          (blkOk_by (N := nLawMinutes) (sc := defScope sLawMinutes) (by decide +kernel)) (fun _ _ _ _ _ c _ => bc (c_ninC (v_v 1) v_str)) (fun _ _ _ _ _ c _ _ => v_v 1)))))) (by rw [isEmpty_map, among_filter])) (fun hk H2 e2 => ?_) fun hk H2 e2 => ?_
        · refine xb_ret (v_neg v_int) fun H3 e3 => ?_
          have q := k' H3 ((e1.trans e2).trans e3)
          rw [em, if_neg] at q
          · exact q
          · intro h
            simp only [Bool.and_eq_true, beq_self_eq_true, true_and] at h
            have : amongL [a, b, d, e] figuresS = true := by
              unfold amongL digC at *
              simp only [List.all_cons, List.all_nil, Bool.and_true, Bool.and_eq_true]
              exact ⟨h.1.1, h.1.2.1, h.1.2.2.1, h.1.2.2.2⟩
            rw [this] at hk
            cases hk
        · have hk' : amongL [a, b, d, e] figuresS = true := by simpa using hk
          have s1 : amongL [a, b] figuresS = true := amongL_sub hk' (by simp)
          have s2 : amongL [d, e] figuresS = true := amongL_sub hk' (by simp)
          have hd : (digC a && (digC b && (digC d && digC e))) = true := by
            have := hk'
            unfold amongL at this
            simpa [digC] using this
          have em2 : minutesM [a, b, 58, d, e] = if decide (NumText.digitsVal [a, b] ≤ 23) && decide (NumText.digitsVal [d, e] ≤ 59) then some (60 * NumText.digitsVal [a, b] + NumText.digitsVal [d, e]) else none := by rw [em, hd]; rfl
          refine xb_ret (v := .int (oI (minutesM [a, b, 58, d, e]))) (v_if (k := decide (NumText.digitsVal [a, b] ≤ 23) && decide (NumText.digitsVal [d, e] ≤ 59)) (b_w (w_and (bl_is (bc (c_ltS (v1 (v_v 0)) v_str)) (by rw [lit24]; exact lt24 s1)) fun _ => w_and1 (bl_is (bc (c_ltS (v2 (v_v 0)) v_str)) (by rw [lit60]; exact lt60 s2)))) (fun q => vl_is (v_add (v_mulR (v_intS T.f_int (v1 (v_v 0)) (int_of s1 (by simp) (by simp)) (by rw [S_len]; simp)) v_int (by decide)) (v_intS T.f_int (v2 (v_v 0)) (int_of s2 (by simp) (by simp)) (by rw [S_len]; simp))) ?_) fun q => vl_is (v_neg v_int) ?_) fun H3 e3 => k' H3 ((e1.trans e2).trans e3)
          · rw [em2, if_pos q]
            show V.int _ = V.int (((60 * NumText.digitsVal [a, b] + NumText.digitsVal [d, e] : Nat)) : Int)
            congr 1
            push_cast
            omega
          · rw [em2, if_neg (by rw [q]; decide)]
            rfl
  · refine xb_yes (bl_is (b_w (w_or (j := true) (k := false) (bl_is (bc ((c_ne (v_lenW T.f_len (v_v 0) hz) v_int).is (by rw [show (5 : Int) = ((5 : Nat) : Int) from rfl, dec_lenNe]))) (by rw [decide_eq_false h5]; rfl)) fun q => by cases q)) rfl) fun H1 e1 => xb_ret (v_neg v_int) fun H2 e2 => ?_
    have q := k' H2 (e1.trans e2)
    rw [minutes_not5 h5] at q
    exact q
end
end Gw

set_option maxRecDepth 100000
set_option maxHeartbeats 4000000
namespace Gw
open PySem PySem.Spec PyProof.Rows L2 Evl SX
section
variable {X : Cx} {e : Expr} {rest : List Stmt} {σ : L2.St} {H : Hp} {D : Ends} {n m : Str} {p1 p2 p3 pos : Pos} {k1 : Nat}
/-- n, m = e, e any expression that gives a pair -/
theorem xb_un2E (i j : Nat) (h : XE X e σ H fun v H1 => ∃ q x y, v = .ref q ∧ SqT X.K H1 q [x, y] ∧ XB X rest D ((σ.set i (some x)).set j (some y)) H1) (hc : X.calm = true := by rfl) (h1 : Nm X i n := by exact ⟨by assumption, rfl, by first | exact Or.inl rfl | exact Or.inr rfl, by first | exact .inl rfl | exact .inr rfl⟩) (h2 : Nm X j m := by exact ⟨by assumption, rfl, by first | exact Or.inl rfl | exact Or.inr rfl, by first | exact .inl rfl | exact .inr rfl⟩)
    (hs : swapsWithSole [.Tuple [.Name n p1, .Name m p2] k1 p3] e pos.line X.env = pure false := by rfl) (hw : swappedStores [.Tuple [.Name n p1, .Name m p2] k1 p3] e X.env = pure none := by rfl)
    (hn : (assignEach [.Name n p1, .Name m p2] X.env).length = 2 := by rfl) (hst : (assignEach [.Name n p1, .Name m p2] X.env).findIdx? (·.1) = none := by rfl) :
    XB X (.Assign [.Tuple [.Name n p1, .Name m p2] k1 p3] e pos :: rest) D σ H :=
  xb_cons (xs_of (ps_asg pe_xe (pg_tup hc (pgs_cons h1.pg (pgs_cons h2.pg pgs_nil)) hn hst) hs hw) (xe_mono h fun v H1 ⟨q, x, y, ev, g1, k⟩ => ⟨q, [x, y], ev, g1, rfl, x, [y], rfl, y, [], rfl, rfl, k⟩))
end
theorem merge2 {a b : Str} {x y : V} (h : a ≠ b) : mergeK [] [((.inr a : Key), x), (.inr b, y)] = [(.inr a, x), (.inr b, y)] := by
  show putK (putK [] (.inr a : Key) x) (.inr b) y = _
  have h1 : valV [((Sum.inr a : Key), x)] (Sum.inr b : Key) = none := by
    unfold valV
    rw [List.find?_cons_of_neg (by simpa using h)]
    rfl
  rw [putK_new (kvs := []) x valV_nil, List.nil_append, putK_new y h1]
  rfl
theorem merge3 {a b c : Str} {x y z : V} (h : a ≠ b) (h2 : a ≠ c) (h3 : b ≠ c) : mergeK [] [((.inr a : Key), x), (.inr b, y), (.inr c, z)] = [(.inr a, x), (.inr b, y), (.inr c, z)] := by
  show putK (mergeK [] [((.inr a : Key), x), (.inr b, y)]) (.inr c) z = _
  have h1 : valV [((Sum.inr a : Key), x), (Sum.inr b, y)] (Sum.inr c : Key) = none := by
    unfold valV
    rw [List.find?_cons_of_neg (by simpa using h2), List.find?_cons_of_neg (by simpa using h3)]
    rfl
  rw [merge2 h, putK_new z h1]
  rfl
/-- none or one thing, in a new list -/
def RetO (H : Hp) (Q : VK) (R : Hp → List V → Prop) : Prop := ∀ p xs H', H p = none → Ex H H' → H' p = some (.lst xs) → R H' xs → Q (.ref p) H'
def ThO (o : Option FK) (H : Hp) (xs : List V) : Prop := match o with
  | some k => ∃ v, xs = [v] ∧ ThAt H v k
  | none => xs = []
def spLThings : Sp := fun vs H Q _ => ∃ (kind : W) (wl : Addr) (ws : List W), vs = [.str (S kind), .ref wl] ∧ H wl = some (.lst (ws.map fun a => V.str (S a))) ∧ TxOk ws ∧ RetO H Q (ThO (thingsM kind ws))
theorem spl_isPath {a : W} : isPathM a = (!(decide (3 < (TL.spl [47] 0 [] a).length)) && (TL.spl [47] 0 [] a).all isNameM) := by
  unfold isPathM
  congr 1
  by_cases h : (TL.spl [47] 0 [] a).length ≤ 3
  · rw [decide_eq_true h, decide_eq_false (by omega)]; rfl
  · rw [decide_eq_false h, decide_eq_true (by omega)]; rfl
/-- xs * int(b), xs a new list of any making -/
theorem xe_rep1 {X : Cx} {a b : Expr} {σ : L2.St} {H : Hp} {Q : VK} {pos : Pos} (h : XE X a σ H fun v H1 => ∃ (l : Addr) (xs : List V), v = .ref l ∧ H1 l = some (.lst xs) ∧ xs.length ≤ 100000 ∧ ∃ k : Bool, Vl X b σ H1 (.int (if k then 1 else 0)) ∧ ∀ H2 p, Ex H1 H2 → H2 p = none → Q (.ref p) (upd H2 p (.lst (if k then xs else [])))) : XE X (.BinOp a .Mult b pos) σ H Q := xe_of (pe_op op_rep pe_xe pe_xe)
  (xe_mono h fun v H1 ⟨l, xs, ev, hl, hz, k, hb, q⟩ => hb H1 (Ex.refl H1) _ fun H2 e2 => ⟨l, _, xs, ev, rfl, e2 _ _ hl, by cases k <;> decide, by cases k <;> decide, sz_of (by cases k <;> simp <;> omega), fun r hr => by
    have := q H2 r e2 hr
    cases k with
    | true => simpa using this
    | false => simpa using this⟩)
def okW (kind a : W) : Bool := if S kind = "tree" then isPathM a else isNameM a
def stepsW (kind a : W) : List W := if S kind = "tree" then TL.spl [47] 0 [] a else [a]
def mostN (kind : W) : Nat := if S kind = "names" then 9 else if S kind = "tree" then 9 else if S kind = "marks" then 5 else 0
theorem okW_steps (kind a : W) : (decide (3 < (stepsW kind a).length) || !(stepsW kind a).all isNameM) = !okW kind a := by
  unfold okW stepsW
  split
  · rw [spl_isPath]; simp
  · simp
theorem things_rest {kind : W} {ws : List W} (nk : ¬ S kind = "clock") (nk2 : ¬ (S kind = "number" ∨ S kind = "bits")) : thingsM kind ws = if (1 ≤ ws.length ∧ ws.length ≤ mostN kind) ∧ ws.all (okW kind) = true ∧ ws.Nodup then some (if S kind = "names" then .names ws else if S kind = "tree" then .tree ws else .marks ws) else none := by
  unfold thingsM
  rw [if_neg nk, if_neg nk2]
  have h12 : ("names" : Str) ≠ "marks" := by decide +kernel
  have h23 : ("tree" : Str) ≠ "marks" := by decide +kernel
  by_cases h : S kind = "names" ∨ S kind = "tree" ∨ S kind = "marks"
  · rw [if_pos h]
    have e : (if S kind = "marks" then 5 else 9) = mostN kind := by
      unfold mostN
      rcases h with q | q | q
      · rw [if_neg (by rw [q]; exact h12), if_pos q]
      · rw [if_neg (by rw [q]; exact h23), if_neg (by rw [q]; decide +kernel), if_pos q]
      · rw [if_pos q, if_neg (by rw [q]; decide +kernel), if_neg (by rw [q]; decide +kernel), if_pos q]
    rw [e]
    rfl
  · rw [if_neg h, if_neg]
    rintro ⟨⟨y1, y2⟩, _⟩
    have : mostN kind = 0 := by
      unfold mostN
      rw [if_neg fun q => h (.inl q), if_neg fun q => h (.inr (.inl q)), if_neg fun q => h (.inr (.inr q))]
    omega
theorem things_bad {kind a : W} {ws : List W} (ha : a ∈ ws) (h : okW kind a = false) {x : FK} : (if (1 ≤ ws.length ∧ ws.length ≤ mostN kind) ∧ ws.all (okW kind) = true ∧ ws.Nodup then some x else none) = none := by
  rw [if_neg]
  rintro ⟨_, y, _⟩
  have := List.all_eq_true.mp y a ha
  rw [h] at this
  cases this
abbrev mostK : List (Key × V) := [(.inr "names", .int 9), (.inr "tree", .int 9), (.inr "marks", .int 5)]
theorem most_val (kind : W) : (valV mostK (.inr (S kind))).getD (.int 0) = .int (mostN kind : Nat) := by
  unfold mostN
  by_cases h1 : S kind = "names"
  · rw [if_pos h1, h1, show valV mostK (Sum.inr ("names" : Str)) = some (.int 9) from valV_pos rfl]; rfl
  · rw [if_neg h1, valV_neg (by simpa using Ne.symm h1)]
    by_cases h2 : S kind = "tree"
    · rw [if_pos h2, h2, show valV [((Sum.inr "tree" : Key), V.int 9), (.inr "marks", .int 5)] (Sum.inr ("tree" : Str)) = some (.int 9) from valV_pos rfl]; rfl
    · rw [if_neg h2, valV_neg (by simpa using Ne.symm h2)]
      by_cases h3 : S kind = "marks"
      · rw [if_pos h3, h3, show valV [((Sum.inr "marks" : Key), V.int 5)] (Sum.inr ("marks" : Str)) = some (.int 5) from valV_pos rfl]; rfl
      · rw [if_neg h3, valV_neg (by simpa using Ne.symm h3)]; rfl
theorem du_most {X : Cx} {σ : L2.St} {H : Hp} {p1 p2 p3 q1 q2 q3 pos : Pos} {j1 j2 j3 i1 i2 i3 : Nat} : Du X (.Dict [some (.Constant (.str "names") j1 p1), some (.Constant (.str "tree") j2 p2), some (.Constant (.str "marks") j3 p3)] [.Constant (.int 9) i1 q1, .Constant (.int 9) i2 q2, .Constant (.int 5) i3 q3] pos) σ H mostK := fun H1 e1 Q k =>
  xe_disp3 (q1 := .inr "names") (q2 := .inr "tree") (q3 := .inr "marks") v_str v_str v_str fun p H2 hp e2 hp2 => xe_v v_int fun H3 e3 => ⟨e3, fun H4 e4 => xe_v v_int fun H5 e5 => ⟨e5, fun H6 e6 => xe_v v_int fun H7 e7 => ⟨e7, by
    rw [merge3 (by decide +kernel) (by decide +kernel) (by decide +kernel)]
    exact k p _ (((((e2.trans e3).trans e4).trans e5).trans (e6.trans e7)).mut hp) upd_same⟩⟩⟩
section
variable {P : Program} {w : World} {K : PySem.W.Frag} {mg : Str → Option Value} {base : Heap}
theorem ok_lThings (T : Tx K mg) : Gd P w K mg base 2 "_law_things" spLThings := by
  have GW : Gd P w K mg base 1 "_law_whole" spLWhole := ok_lWhole T
  have GN : Gd P w K mg base 1 "_law_is_name" spLIsName := ok_lIsName T
  refine gd_of T dLawThings 53 T.g__law_things scLawThings (fun _ _ _ _ _ _ us hl => match us, hl with | [_, _], _ => rfl) (fun _ _ _ _ ⟨_, _, _, e, _⟩ => by subst e; rfl) fun f cdv A outer s H vs Q E hr ⟨kind, wl, ws, e, hw, hz, k⟩ => ?_
  subst e
  have nd := scLawThings.nd
  have hr1 : Room 1 (Cxd dLawThings P w K mg base nLawThings f cdv A outer s H E).A := hr
  refine xb_when (k := decide (S kind = "clock")) (bl_is (bc (c_eq (v_v 0) v_str)) dec_V) (fun hk H1 e1 => ?_) fun hk H1 e1 => ?_
  · have hk' := of_decide_eq_true hk
    have et : thingsM kind ws = if ws = [] then some .clock else none := by unfold thingsM; rw [if_pos hk']
    refine xb_retE (xe_l (l_rep1 (xs := [.non]) (k := ws.isEmpty) (ll_hl (l_lst (a_1 v_non))) (v_intB T.f_int (vl_is (vc (c_eqNil hr (vl_sl (v_v 1) (sq_of (e1 _ _ hw))))) (by rw [isEmpty_map]))) (by simp)) fun p H2 hp e2 h2 => k p _ H2 (fresh_back e1 hp) (e1.trans e2) h2 ?_)
    rw [et]
    cases ws with
    | nil => exact ⟨.non, rfl, rfl⟩
    | cons a r => rfl
  · have nk := of_decide_eq_false hk
    refine xb_when (k := decide (S kind = "number") || decide (S kind = "bits")) (b_w (w_or (bl_is (bc (c_eq (v_v 0) v_str)) dec_V) fun _ => w_or1 (bl_is (bc (c_eq (v_v 0) v_str)) dec_V))) (fun hk2 H2 e2 => ?_) fun hk2 H2 e2 => ?_
    · have hk2' : S kind = "number" ∨ S kind = "bits" := by simpa using hk2
      have ee := e1.trans e2
      obtain ⟨o, ho, et⟩ : ∃ o : Option Nat, ((∃ a, ws = [a] ∧ o = wholeM a) ∨ ((¬ ∃ a, ws = [a]) ∧ o = none)) ∧ thingsM kind ws = match o with
          | some n => if S kind = "number" then (if n ≤ 10 ^ 12 then some (.number n) else none) else if 1 ≤ n ∧ n ≤ 32 then some (.bits n) else none
          | none => none := by
        by_cases one : ∃ a, ws = [a]
        · obtain ⟨a, rfl⟩ := one
          exact ⟨wholeM a, .inl ⟨a, rfl, rfl⟩, things_one nk hk2'⟩
        · exact ⟨none, .inr ⟨one, rfl⟩, things_not nk hk2' one⟩
      refine xb_set 2 (v := .int (oI o)) (v_if (k := decide (ws.length = 1)) (bl_is (bc (c_eq (v_lenL T.f_len (vl_sl (v_v 1) (sq_of (ee _ _ hw)))) v_int)) (by rw [List.length_map, show (1 : Int) = ((1 : Nat) : Int) from rfl, dec_lenEq])) (fun q => ?_) fun q => ?_) fun H3 e3 => ?_
      · rcases ho with ⟨a, rfl, rfl⟩ | ⟨h, _⟩
        · exact v_call GW hr passL (a_1 (v_ixW0 0 (vl_sl (v_v 1) (sq_of (ee _ _ hw))) v_int (w := a) rfl)) (spS1_v (hz.2 a (by simp)))
        · exfalso
          match ws, of_decide_eq_true q, h with
          | [a], _, h => exact h ⟨a, rfl⟩
      · rcases ho with ⟨a, rfl, rfl⟩ | ⟨h, rfl⟩
        · simp at q
        · exact v_neg v_int
      · have E3 := ee.trans e3
        refine xb_un2E 3 4 (xe_of (pe_dget (hu_of hr) pe_xe pe_xe (fun _ _ => rfl)) (xe_disp2 (q1 := .inr "number") (q2 := .inr "bits") v_str v_str fun p H4 hp e4 hp4 => xe_tup (xa_cons (xe_v v_int fun H5 e5 => xa_cons (xe_v (v_pow v_int v_int ⟨by decide, by decide, by decide⟩) fun H6 e6 => xa_nil ⟨by simp, fun t1 ht1 => ⟨(e5.trans e6).trans (Ex.new ht1), fun H7 e7 => xe_tup (xa_cons (xe_v v_int fun H8 e8 => xa_cons (xe_v v_int fun H9 e9 => xa_nil ⟨by simp, fun t2 ht2 => ⟨(e8.trans e9).trans (Ex.new ht2), ?_⟩⟩)))⟩⟩)))))
        have hn : ("number" : Str) ≠ "bits" := by decide +kernel
        rw [merge2 hn]
        -- the pair that is taken
        have dh : upd (upd H9 t2 (.tup [.int 1, .int 32])) p (.dK [((.inr "number" : Key), V.ref t1), (.inr "bits", .ref t2)]) p = some (.dK [(.inr "number", .ref t1), (.inr "bits", .ref t2)]) := upd_same
        have hp9 : H9 p = some (.dK []) := (e8.trans e9) _ _ (e7 _ _ (Ex.new ht1 _ _ ((e5.trans e6) _ _ hp4)))
        have t1n : t1 ≠ p := fun q => by rw [q, (e5.trans e6) _ _ hp4] at ht1; cases ht1
        have t2n : t2 ≠ p := fun q => by rw [q, hp9] at ht2; cases ht2
        have g1 : upd (upd H9 t2 (.tup [.int 1, .int 32])) p (.dK [((.inr "number" : Key), V.ref t1), (.inr "bits", .ref t2)]) t1 = some (.tup [.int 0, .int (10 ^ 12)]) := by
          rw [upd_ne t1n]
          exact Ex.new ht2 _ _ ((e8.trans e9) _ _ (e7 _ _ upd_same))
        have g2 : upd (upd H9 t2 (.tup [.int 1, .int 32])) p (.dK [((.inr "number" : Key), V.ref t1), (.inr "bits", .ref t2)]) t2 = some (.tup [.int 1, .int 32]) := by rw [upd_ne t2n, upd_same]
        have eD : Ex H3 (upd (upd H9 t2 (.tup [.int 1, .int 32])) p (.dK [((.inr "number" : Key), V.ref t1), (.inr "bits", .ref t2)])) := by
          have z : Ex H3 (upd H9 t2 (.tup [.int 1, .int 32])) := ((((((e4.trans e5).trans e6).trans (Ex.new ht1)).trans e7).trans e8).trans e9).trans (Ex.new ht2)
          exact z.mut hp
        generalize upd (upd H9 t2 (.tup [.int 1, .int 32])) p (.dK [((.inr "number" : Key), V.ref t1), (.inr "bits", .ref t2)]) = H10 at dh g1 g2 eD ⊢
        refine (v_v (v := .str (S kind)) 0) H10 (Ex.refl _) _ fun H11 e11 => ?_
        by_cases hkn : S kind = "number"
        · have hv : valV [((Sum.inr "number" : Key), V.ref t1), (Sum.inr "bits", V.ref t2)] (Sum.inr (S kind)) = some (.ref t1) := by rw [hkn]; exact valV_pos rfl
          refine ⟨p, .ref t1, rfl, by rw [← hv]; exact (DGet.k (e11 _ _ dh) : DGet H11 p (kV (.inr (S kind))) _), t1, .int 0, .int (10 ^ 12), rfl, st_of (e11 _ _ g1), ?_⟩
          refine xb_retE (xe_l (l_rep1 (xs := [.int (oI o)]) (k := decide ((0 : Int) ≤ oI o) && decide (oI o ≤ 10 ^ 12)) (ll_hl (l_lst (a_1 (v_v 2)))) (v_intB T.f_int (vc2 (c_leLe (v_v 3) (v_v 2) (v_v 4)))) (by simp)) fun q H12 hq e12 h12 => k q _ H12 (fresh_back ((E3.trans eD).trans e11) hq) (((E3.trans eD).trans e11).trans e12) h12 ?_)
          rw [et]
          cases o with
          | none => rfl
          | some n =>
            dsimp only
            rw [if_pos hkn]
            by_cases hn12 : n ≤ 10 ^ 12
            · rw [if_pos hn12, show (decide ((0 : Int) ≤ oI (some n)) && decide (oI (some n) ≤ 10 ^ 12)) = true from by rw [decide_eq_true (show (0 : Int) ≤ oI (some n) from Int.natCast_nonneg n), decide_eq_true (show oI (some n) ≤ 10 ^ 12 from by show (n : Int) ≤ 10 ^ 12; omega)]; rfl]
              exact ⟨_, rfl, rfl⟩
            · rw [if_neg hn12, show (decide ((0 : Int) ≤ oI (some n)) && decide (oI (some n) ≤ 10 ^ 12)) = false from by rw [decide_eq_false (show ¬ oI (some n) ≤ 10 ^ 12 from by show ¬ (n : Int) ≤ 10 ^ 12; omega), Bool.and_false]]
              rfl
        · have hkb : S kind = "bits" := by rcases hk2' with q | q; exact absurd q hkn; exact q
          have hv : valV [((Sum.inr "number" : Key), V.ref t1), (Sum.inr "bits", V.ref t2)] (Sum.inr (S kind)) = some (.ref t2) := by rw [hkb, valV_neg (by simpa using hn)]; exact valV_pos rfl
          refine ⟨p, .ref t2, rfl, by rw [← hv]; exact (DGet.k (e11 _ _ dh) : DGet H11 p (kV (.inr (S kind))) _), t2, .int 1, .int 32, rfl, st_of (e11 _ _ g2), ?_⟩
          refine xb_retE (xe_l (l_rep1 (xs := [.int (oI o)]) (k := decide ((1 : Int) ≤ oI o) && decide (oI o ≤ 32)) (ll_hl (l_lst (a_1 (v_v 2)))) (v_intB T.f_int (vc2 (c_leLe (v_v 3) (v_v 2) (v_v 4)))) (by simp)) fun q H12 hq e12 h12 => k q _ H12 (fresh_back ((E3.trans eD).trans e11) hq) (((E3.trans eD).trans e11).trans e12) h12 ?_)
          rw [et]
          cases o with
          | none => rfl
          | some n =>
            dsimp only
            rw [if_neg hkn]
            by_cases hn12 : 1 ≤ n ∧ n ≤ 32
            · rw [if_pos hn12, show (decide ((1 : Int) ≤ oI (some n)) && decide (oI (some n) ≤ 32)) = true from by rw [decide_eq_true (show (1 : Int) ≤ oI (some n) from by show (1 : Int) ≤ (n : Int); omega), decide_eq_true (show oI (some n) ≤ 32 from by show (n : Int) ≤ 32; omega)]; rfl]
              exact ⟨_, rfl, rfl⟩
            · rw [if_neg hn12, show (decide ((1 : Int) ≤ oI (some n)) && decide (oI (some n) ≤ 32)) = false from by
                by_cases q1 : 1 ≤ n
                · rw [decide_eq_false (show ¬ oI (some n) ≤ 32 from by show ¬ (n : Int) ≤ 32; omega), Bool.and_false]
                · rw [decide_eq_false (show ¬ (1 : Int) ≤ oI (some n) from by show ¬ (1 : Int) ≤ (n : Int); omega), Bool.false_and]]
              rfl
    · have nk2 : ¬ (S kind = "number" ∨ S kind = "bits") := by simpa using hk2
      have et := things_rest (ws := ws) nk nk2
      have ee := e1.trans e2
      refine xb_set 5 (v := .int (mostN kind : Nat)) (vl_is (v_dget2 (q := .inr (S kind)) hr du_most (v_v 0) v_int ⟨rfl, rfl, rfl, rfl⟩) (most_val kind)) fun H3 e3 => ?_
      have E3 := ee.trans e3
      have wl3 := E3 _ _ hw
      refine xb_forL 6 (xs := ws.map fun a => V.str (S a)) po_cx (v_v 1) (sq_of wl3) (fun j σ' H' => ∃ (o6 o7 : Option V), σ' = [some (.str (S kind)), some (.ref wl), none, none, none, some (.int (mostN kind : Nat)), o6, o7, none] ∧ Ex H H' ∧ ∀ a ∈ ws.take j, okW kind a = true)
        (fun H4 e4 => ⟨none, none, rfl, E3.trans e4, fun a h => by simp at h⟩) (fun j σ' H' _ ⟨_, _, _, eh, _⟩ => sq_of (eh _ _ hw)) ?_ ?_
      · rintro j x σ' H' hx ⟨o6, o7, hσ, eh, hall⟩
        subst hσ
        rw [List.getElem?_map] at hx
        cases hj : ws[j]? with
        | none => rw [hj] at hx; cases hx
        | some a =>
          rw [hj] at hx
          cases hx
          have ham : a ∈ ws := List.mem_of_getElem? hj
          have la := hz.2 a ham
          refine xb_setL 7 (xs := (stepsW kind a).map fun p => V.str (S p)) (ll_if (k := decide (S kind = "tree")) (bl_is (bc (c_eq (v_v 0) v_str)) dec_V) (fun q => ll_is (l_splitW litSlash (v_v 6) v_str la ⟨by decide, by decide⟩) (by unfold stepsW; rw [if_pos (of_decide_eq_true q)])) fun q => ll_is (l_lst (a_1 (v_v 6))) (by unfold stepsW; rw [if_neg (of_decide_eq_false q)]; rfl)) fun sl H4 hsl e4 h4 => ?_
          have lst : (stepsW kind a).length ≤ 40001 ∧ ∀ p ∈ stepsW kind a, p.length ≤ 40000 := by
            unfold stepsW
            split
            · exact ⟨Nat.le_trans (spl_many (by decide)) (by omega), all_spl (by decide) la⟩
            · exact ⟨by simp, fun p hp => by simp at hp; rw [hp]; exact la⟩
          refine xb_when (k := !okW kind a) (bl_is (b_w (w_or (j := decide (3 < (stepsW kind a).length)) (k := !(stepsW kind a).all isNameM) (bl_is (bc (c_gt (v_lenL T.f_len (vl_sl (v_v 7) (sq_of h4))) v_int)) (by rw [List.length_map]; exact decide_eq_decide.mpr (by omega))) fun q => w_or1 (b_not (b_v (vl_is (v_all (bs := (stepsW kind a).map isNameM) rfl T.f_all (ll_sl (ll_is (cp_ll (lc_map (i := 8) (own := [("_law_one", 8)]) (ws := stepsW kind a) (enc := fun p => V.str (S p)) (fun p => V.bl (isNameM p)) (il_L (vl_sl (v_v 7) (sq_of h4))) (by have := of_decide_eq_false q; omega)
            (blkOk_by (N := nLawThings) (sc := defScope sLawThings) (by decide +kernel)) (fun _ _ _ _ _ p hp => v_call GN hr1 passL (a_1 (v_v 8)) (spS1_v (lst.2 p hp))))) (by rw [List.map_map]; rfl)))) (by rw [all_map_id])))))) (okW_steps kind a)) (fun q H5 e5 => ?_) fun q H5 e5 => ?_
          · refine xb_retE (xe_l (l_lst a_nil) fun p H6 hp e6 h6 => k p [] H6 (fresh_back ((eh.trans e4).trans e5) hp) (((eh.trans e4).trans e5).trans e6) h6 ?_)
            rw [et, things_bad ham (by simpa using q)]
            rfl
          · refine xb_nil ⟨_, _, rfl, (eh.trans e4).trans e5, fun b hb => ?_⟩
            rw [List.take_add_one, hj] at hb
            rcases List.mem_append.mp hb with h | h
            · exact hall b h
            · simp at h; rw [h]; simpa using q
      · rintro σ' H' ⟨o6, o7, hσ, eh, hall⟩
        subst hσ
        rw [List.length_map, List.take_length] at hall
        have wl9 := eh _ _ hw
        have hall' : ws.all (okW kind) = true := List.all_eq_true.mpr hall
        refine xb_retE (xe_rep1 (a := .List _ _) (xe_lst (xa_cons (xe_tupleF T.f_tuple (vl_sl (v_v 1) (sq_of wl9)) fun l H4 hl e4 ft => xa_nil ⟨by simp, fun p hp => ?_⟩))))
        have E5 : Ex H' (upd H4 p (.lst [.ref l])) := e4.trans (Ex.new hp)
        refine ⟨p, [.ref l], rfl, upd_same, by simp, decide ((1 ≤ ws.length ∧ ws.length ≤ mostN kind) ∧ ws.Nodup), v_intB T.f_int (vl_is (v_and (j := decide ((0 : Int) < ws.length) && decide ((ws.length : Int) ≤ (mostN kind : Nat))) (k := decide ws.Nodup) (vl_is (vc2 (c_ltLe v_int (v_lenL T.f_len (vl_sl (v_v 1) (sq_of (E5 _ _ wl9)))) (v_v 5))) (by rw [List.length_map])) fun _ => v_one (vl_is (vc ((c_eq (v_lenSet T.f_len T.f_set (vl_sl (v_v 1) (sq_of (E5 _ _ wl9))) hz.1) (v_lenL T.f_len (vl_sl (v_v 1) (sq_of (E5 _ _ wl9))))).is (by rw [List.length_map, dec_lenEq]))) (by congr 1; exact decide_eq_decide.mpr setLen_nd))) ?_), fun H6 q e6 hq => k q _ _ (fresh_back ((eh.trans E5).trans e6) hq) (((eh.trans E5).trans e6).trans (Ex.new hq)) upd_same ?_⟩
        · congr 1
          rw [Bool.eq_iff_iff]
          simp only [Bool.and_eq_true, decide_eq_true_eq]
          constructor
          · rintro ⟨⟨a, b⟩, c⟩
            exact ⟨⟨by omega, by omega⟩, c⟩
          · rintro ⟨⟨a, b⟩, c⟩
            exact ⟨⟨by omega, by omega⟩, c⟩
        · rw [et]
          have ft6 : Ft (upd H6 q (.lst (if decide ((1 ≤ ws.length ∧ ws.length ≤ mostN kind) ∧ ws.Nodup) = true then [.ref l] else []))) l (ws.map fun a => V.str (S a)) := ft.mono (((Ex.new hp).trans e6).trans (Ex.new hq))
          by_cases c : (1 ≤ ws.length ∧ ws.length ≤ mostN kind) ∧ ws.Nodup
          · rw [decide_eq_true c] at ft6 ⊢
            rw [if_pos rfl] at ft6 ⊢
            rw [if_pos ⟨c.1, hall', c.2⟩]
            refine ⟨_, rfl, ?_⟩
            by_cases h1 : S kind = "names"
            · rw [if_pos h1]; exact ⟨l, rfl, ft6⟩
            · rw [if_neg h1]
              by_cases h2 : S kind = "tree"
              · rw [if_pos h2]; exact ⟨l, rfl, ft6⟩
              · rw [if_neg h2]; exact ⟨l, rfl, ft6⟩
          · rw [decide_eq_false c, if_neg fun z => c ⟨z.1, z.2.2⟩, if_neg (by decide)]
            rfl
end
end Gw

set_option maxRecDepth 100000
set_option maxHeartbeats 4000000
/-! split("..") against partition("..") -/
namespace Gw
open PySem SX
theorem spl2_none {a : W} (h : TL.par [46, 46] [] a = none) : TL.spl [46, 46] 0 [] a = [a] := by rw [spl_par (by decide), h]
theorem spl2_some {a p q : W} (h : TL.par [46, 46] [] a = some (p, q)) : TL.spl [46, 46] 0 [] a = p :: TL.spl [46, 46] 0 [] q := by rw [spl_par (by decide), h]
theorem dots_no_fig {q : W} (h : 46 ∈ q) : amongL q figuresS = false := by
  cases e : amongL q figuresS with
  | false => rfl
  | true =>
    have := List.all_eq_true.mp (fig_all e) 46 h
    simp at this
theorem par2_mem {q p r : W} (h : TL.par [46, 46] [] q = some (p, r)) : 46 ∈ q := by rw [par_some_eq h]; simp
theorem whole_dots {q : W} (h : 46 ∈ q) : wholeM q = none := by
  unfold wholeM
  rw [dots_no_fig h]
  simp
theorem minutes_dots {q : W} (h : 46 ∈ q) : minutesM q = none := by
  unfold minutesM
  split
  · rename_i a b c d e
    rw [if_neg]
    intro hc
    simp only [Bool.and_eq_true, beq_iff_eq] at hc
    obtain ⟨⟨h1, h2, h3, h4, h5⟩, _⟩ := hc
    have nd : digC 46 = false := by decide +kernel
    simp only [List.mem_cons, List.not_mem_nil, or_false] at h
    rcases h with q | q | q | q | q
    · rw [← q, nd] at h2; cases h2
    · rw [← q, nd] at h3; cases h3
    · omega
    · rw [← q, nd] at h4; cases h4
    · rw [← q, nd] at h5; cases h5
  · rfl
end Gw

set_option maxRecDepth 100000
set_option maxHeartbeats 4000000
/-! Ends of stretches: what the law's _law_ends comes to. -/
namespace Gw
open PySem SX L2
/-- the ends by the parts between dots: none, or both (none as an end: open) -/
def endsN (a : W) (most : Nat) : Option (Option Nat × Option Nat) := match TL.par [46, 46] [] a with
  | none => (match wholeM a with
    | none => none
    | some n => if most < n then none else some (some n, some n))
  | some (p, q) => if ((decide (p ≠ []) && (wholeM p).isNone) || (decide (q ≠ []) && (wholeM q).isNone)) || ((wholeM p).any (fun n => decide (most < n)) || (wholeM q).any fun n => decide (most < n)) then none else match wholeM p, wholeM q with
    | some l, some h => if h ≤ l then none else some (some l, some h)
    | l, h => some (l, h)
theorem from_ends (a : W) (most : Nat) : fromM a most = match endsN a most with
    | none => .none
    | some (l, h) => .tuple [.str "from", numD l, numD h] := by
  unfold fromM endsN
  cases TL.par [46, 46] [] a with
  | none =>
    dsimp only
    cases wholeM a with
    | none => rfl
    | some n =>
      dsimp only
      by_cases h : most < n
      · rw [if_pos h, if_pos h]
      · rw [if_neg h, if_neg h]; rfl
  | some pq =>
    obtain ⟨p, q⟩ := pq
    dsimp only
    split
    · rfl
    · cases wholeM p with
      | none => cases wholeM q <;> rfl
      | some l =>
        cases wholeM q with
        | none => rfl
        | some h =>
          dsimp only
          by_cases c : h ≤ l
          · rw [if_pos c, if_pos c]
          · rw [if_neg c, if_neg c]; rfl
def endsC (a : W) : Option (Nat × Nat) := match TL.par [46, 46] [] a with
  | none => (minutesM a).map fun n => (n, n)
  | some (p, q) => match minutesM p, minutesM q with
    | some b, some e => if b = e then none else some (b, e)
    | _, _ => none
theorem clock_ends (a : W) : clockM a = match endsC a with
    | none => .none
    | some (b, e) => .tuple [.str "clock", .int b, .int e] := by
  unfold clockM endsC
  cases TL.par [46, 46] [] a with
  | none =>
    dsimp only
    cases minutesM a <;> rfl
  | some pq =>
    obtain ⟨p, q⟩ := pq
    dsimp only
    cases minutesM p with
    | none => rfl
    | some b =>
      cases minutesM q with
      | none => rfl
      | some e =>
        dsimp only
        by_cases c : b = e
        · rw [if_pos c, if_pos c]
        · rw [if_neg c, if_neg c]
end Gw

set_option maxRecDepth 100000
set_option maxHeartbeats 4000000
/-! What the law's _law_ends computes, plain. -/
namespace Gw
open PySem SX L2
def oIV : Option Int → V
  | none => .non
  | some i => .int i
def eoN (z : W) : List (Option Int) := (TL.spl [46, 46] 0 [] z).map fun e => if decide (e = []) && decide ((TL.spl [46, 46] 0 [] z).length = 2) then none else some (oI (wholeM e))
def eoC (z : W) : List (Option Int) := (TL.spl [46, 46] 0 [] z).map fun e => some (oI (minutesM e))
def knownI (fo : List (Option Int)) : List Int := fo.filterMap id
def condB (num : Option Nat) (fo : List (Option Int)) : Bool := decide (2 < fo.length) || (decide (some (-1) ∈ fo) || (match num with | some most => (0 :: knownI fo).any (fun n => decide ((most : Int) < n)) | none => false))
def endsG (num : Option Nat) (fo : List (Option Int)) : Option (Option Int × Option Int) := match fo with
  | [a] => some (a, a)
  | [some a, some b] => if a = b then none else if num.isSome && decide (b < a) then none else some (some a, some b)
  | [a, b] => some (a, b)
  | _ => none
def endsF (num : Option Nat) (fo : List (Option Int)) : Option (Option Int × Option Int) := if condB num fo then none else endsG num fo
def toI (o : Option Nat) : Option Int := o.map fun n => (n : Int)
theorem oIV_toI (o : Option Nat) : oIV (toI o) = oV o := by cases o <;> rfl
theorem spl_ne (s a : W) (hs : s ≠ []) : TL.spl s 0 [] a ≠ [] := by
  rw [spl_par hs a]
  cases TL.par s [] a with
  | none => simp
  | some pq => simp
theorem oI_neg (o : Option Nat) : oI o = -1 ↔ o = none := by
  cases o with
  | none => simp [oI]
  | some n => simp [oI]
theorem whole_nil : wholeM [] = none := by decide +kernel
theorem minutes_nil : minutesM [] = none := rfl
/-- two dots further on -/
theorem spl2_two {z p q : W} (h : TL.par [46, 46] [] z = some (p, q)) : (TL.par [46, 46] [] q = none ∧ TL.spl [46, 46] 0 [] z = [p, q]) ∨ (46 ∈ q ∧ 2 < (TL.spl [46, 46] 0 [] z).length) := by
  rw [spl2_some h]
  cases h2 : TL.par [46, 46] [] q with
  | none => left; exact ⟨rfl, by rw [spl2_none h2]⟩
  | some rs =>
    obtain ⟨r, s⟩ := rs
    right
    refine ⟨par2_mem h2, ?_⟩
    rw [spl2_some h2]
    have := spl_ne [46, 46] s (by decide)
    cases e : TL.spl [46, 46] 0 [] s with
    | nil => exact absurd e this
    | cons _ _ => simp
theorem endsC_F (z : W) : endsF none (eoC z) = (endsC z).map fun p => (toI (some p.1), toI (some p.2)) := by
  unfold endsC
  cases h : TL.par [46, 46] [] z with
  | none =>
    have e : eoC z = [some (oI (minutesM z))] := by unfold eoC; rw [spl2_none h]; rfl
    rw [e]
    dsimp only
    cases hm : minutesM z with
    | none => rfl
    | some n =>
      unfold endsF condB
      rw [if_neg]
      · rfl
      · simp [oI]
  | some pq =>
    obtain ⟨p, q⟩ := pq
    dsimp only
    rcases spl2_two h with ⟨h2, e2⟩ | ⟨hd, hl⟩
    · have e : eoC z = [some (oI (minutesM p)), some (oI (minutesM q))] := by unfold eoC; rw [e2]; rfl
      rw [e]
      cases hp : minutesM p with
      | none => rfl
      | some b =>
        cases hq : minutesM q with
        | none =>
          unfold endsF condB
          rw [if_pos]
          · rfl
          · simp [oI]
        | some c =>
          unfold endsF condB
          rw [if_neg]
          · show (if (b : Int) = (c : Int) then none else if (none : Option Nat).isSome && decide ((c : Int) < (b : Int)) then none else some (some ((b : Int)), some ((c : Int)))) = _
            dsimp only
            by_cases hbc : b = c
            · rw [if_pos (by omega), if_pos hbc]; rfl
            · rw [if_neg (by omega), if_neg hbc]; rfl
          · simp [oI]
    · have e3 : endsF none (eoC z) = none := by
        unfold endsF condB
        rw [if_pos]
        unfold eoC
        rw [List.length_map, decide_eq_true hl]
        rfl
      rw [e3, minutes_dots hd]
      cases minutesM p <;> rfl
theorem endsN_F (z : W) (most : Nat) : endsF (some most) (eoN z) = (endsN z most).map fun p => (toI p.1, toI p.2) := by
  unfold endsN
  cases h : TL.par [46, 46] [] z with
  | none =>
    have e : eoN z = [some (oI (wholeM z))] := by unfold eoN; rw [spl2_none h]; simp
    rw [e]
    dsimp only
    cases hm : wholeM z with
    | none => rfl
    | some n =>
      dsimp only
      by_cases hn : most < n
      · rw [if_pos hn]
        unfold endsF condB
        rw [if_pos]
        · rfl
        · simp [oI, knownI, hn]
      · rw [if_neg hn]
        unfold endsF condB
        rw [if_neg]
        · rfl
        · simp [oI, knownI]; omega
  | some pq =>
    obtain ⟨p, q⟩ := pq
    dsimp only
    rcases spl2_two h with ⟨h2, e2⟩ | ⟨hd, hl⟩
    · have e : eoN z = [if p = [] then none else some (oI (wholeM p)), if q = [] then none else some (oI (wholeM q))] := by
        unfold eoN
        rw [e2]
        simp
      rw [e]
      have hE : ∀ r : W, (if r = [] then (none : Option Int) else some (oI (wholeM r))) = if (decide (r ≠ []) && (wholeM r).isNone) then some (-1) else toI (wholeM r) := fun r => by
        by_cases hr : r = []
        · subst hr; rw [if_pos rfl, if_neg (by simp), whole_nil]; rfl
        · rw [if_neg hr]
          cases hw : wholeM r with
          | none => rw [if_pos (by simp [hr])]; rfl
          | some n => rw [if_neg (by simp)]; rfl
      rw [hE p, hE q]
      generalize hP : (decide (p ≠ []) && (wholeM p).isNone) = bp
      generalize hQ : (decide (q ≠ []) && (wholeM q).isNone) = bq
      cases bp with
      | true =>
        rw [if_pos rfl, Bool.true_or, Bool.true_or, if_pos rfl]
        unfold endsF condB
        rw [if_pos (by simp)]
        rfl
      | false =>
        cases bq with
        | true =>
          rw [if_pos rfl, Bool.or_true, Bool.true_or, if_pos rfl]
          unfold endsF condB
          rw [if_pos (by simp)]
          rfl
        | false =>
          rw [if_neg (by decide), if_neg (by decide), Bool.false_or, Bool.false_or]
          have nm : ∀ o : Option Nat, toI o ≠ some (-1) := fun o => by cases o with | none => simp [toI] | some n => simp [toI]
          have ec : condB (some most) [toI (wholeM p), toI (wholeM q)] = ((wholeM p).any (fun n => decide (most < n)) || (wholeM q).any fun n => decide (most < n)) := by
            unfold condB knownI
            cases wholeM p <;> cases wholeM q <;> simp [toI] <;> (try omega)
          unfold endsF
          rw [ec]
          by_cases hc : ((wholeM p).any (fun n => decide (most < n)) || (wholeM q).any fun n => decide (most < n)) = true
          · rw [if_pos hc, if_pos hc]; rfl
          · rw [if_neg hc, if_neg hc]
            cases wholeM p with
            | none => cases wholeM q <;> rfl
            | some l =>
              cases wholeM q with
              | none => rfl
              | some h =>
                show (if ((l : Int)) = (h : Int) then none else if (some most).isSome && decide ((h : Int) < (l : Int)) then none else some (some ((l : Int)), some ((h : Int)))) = Option.map (fun p => (toI p.1, toI p.2)) (if h ≤ l then none else some (some l, some h))
                by_cases e1 : l = h
                · rw [if_pos (by omega), if_pos (by omega)]; rfl
                · rw [if_neg (by omega)]
                  by_cases e3 : h < l
                  · rw [if_pos (by simp [e3]), if_pos (by omega)]; rfl
                  · rw [if_neg (by simp; omega), if_neg (by omega)]; rfl
    · have e3 : endsF (some most) (eoN z) = none := by
        unfold endsF condB
        rw [if_pos]
        unfold eoN
        rw [List.length_map, decide_eq_true hl]
        rfl
      have hq : q ≠ [] := fun y => by rw [y] at hd; cases hd
      rw [e3, whole_dots hd, if_pos (by simp [hq])]
      rfl
end Gw

set_option maxRecDepth 100000
set_option maxHeartbeats 4000000
namespace Gw
open PySem PySem.Spec PyProof.Rows L2 Evl SX
section
variable {X : Cx} {e : Expr} {σ : L2.St} {H : Hp} {p pos : Pos}
/-- max(xs) -/
theorem v_max {ns : List Int} {m : Int} (hm : X.mg "max" = none) (h : Sl X e σ H (ns.map V.int)) (hmem : m ∈ ns) (hle : ∀ k ∈ ns, k ≤ m) (hc : X.calm = true := by rfl) (hg : Gl X "max" := by rfl) (hs : starEach [e] X.env = (false, eval e X.env) :: starEach [] X.env := by rfl) (hpl : (backTo pos (starEach [] X.env)).any (·.1) = false := by rfl) :
    Vl X (.Call (.Name "max" p) [e] [] pos) σ H (.int m) := vl_of (pe_callB (cr_max hc) hg hm (by decide +kernel) (pa_cons pe_xe pa_nil hs) (by decide) (by decide) hs hpl) fun H1 e1 Q q => h H1 e1 _ fun a H2 e2 h2 => ⟨a, ns, rfl, h2, List.length_pos_of_mem hmem, fun m' h1 h2' => by
  have : m' = m := Int.le_antisymm (hle m' h1) (h2' m hmem)
  subst this
  exact q H2 e2⟩
end
theorem max_of : ∀ (ns : List Int), ∃ m, m ∈ (0 :: ns) ∧ ∀ k ∈ (0 :: ns), k ≤ m
  | [] => ⟨0, by simp, by simp⟩
  | a :: ns => by
    obtain ⟨m, h1, h2⟩ := max_of ns
    by_cases h : m ≤ a
    · refine ⟨a, by simp, fun k hk => ?_⟩
      rcases List.mem_cons.mp hk with q | q
      · have := h2 0 (by simp); omega
      · rcases List.mem_cons.mp q with q | q
        · omega
        · have := h2 k (by simp [q]); omega
    · refine ⟨m, ?_, fun k hk => ?_⟩
      · rcases List.mem_cons.mp h1 with q | q
        · simp [q]
        · simp [q]
      · rcases List.mem_cons.mp hk with q | q
        · exact h2 k (by simp [q])
        · rcases List.mem_cons.mp q with q | q
          · omega
          · exact h2 k (by simp [q])
theorem max_any {ns : List Int} {m b : Int} (h1 : m ∈ ns) (h2 : ∀ k ∈ ns, k ≤ m) : decide (b < m) = ns.any fun n => decide (b < n) := by
  rw [Bool.eq_iff_iff, decide_eq_true_eq, List.any_eq_true]
  constructor
  · intro h; exact ⟨m, h1, decide_eq_true h⟩
  · rintro ⟨k, hk, hb⟩
    have := h2 k hk
    have := of_decide_eq_true hb
    omega
theorem inV_oIV (fo : List (Option Int)) : inV (.int (-1)) (fo.map oIV) = decide (some (-1) ∈ fo) := by
  unfold inV
  induction fo with
  | nil => rfl
  | cons o fo ih =>
    rw [List.map_cons, List.any_cons, ih]
    cases o with
    | none => simp [oIV, eqV]
    | some i =>
      by_cases h : i = -1
      · subst h; simp [oIV, eqV]
      · have h1 : eqV (oIV (some i)) (.int (-1)) = false := by simpa [oIV, eqV] using h
        rw [h1]
        simp [Ne.symm h]
theorem flat_oIV (fo : List (Option Int)) : (fo.map oIV).all flatV = true := by
  rw [List.all_map]
  exact List.all_eq_true.mpr fun o _ => by cases o <;> rfl
theorem known_oIV (fo : List (Option Int)) : (fo.filter (·.isSome)).map oIV = (knownI fo).map V.int := by
  unfold knownI
  induction fo with
  | nil => rfl
  | cons o fo ih =>
    cases o with
    | none => simpa using ih
    | some i => simpa [oIV] using ih
/-- none or one pair of ends, a list in a new list -/
def EnO (o : Option (Option Int × Option Int)) (H : Hp) (xs : List V) : Prop := match o with
  | some (l, h) => ∃ q, xs = [.ref q] ∧ H q = some (.lst [oIV l, oIV h])
  | none => xs = []
def numOf : FK → Option Nat
  | .number n => some n
  | _ => none
def foOf (k : FK) (z : W) : List (Option Int) := match k with
  | .clock => eoC z
  | _ => eoN z
def spLEnds : Sp := fun vs H Q _ => ∃ (a : W) (f : Fd) (fv : V), vs = [.str (S a), fv] ∧ FdAt H fv f ∧ (f.k = .clock ∨ ∃ n, f.k = .number n) ∧ a.length ≤ 8000 ∧ RetO H Q (EnO (endsF (numOf f.k) (foOf f.k a)))
theorem isSome_oIV (o : Option Int) : (!decide (oIV o = .non)) = o.isSome := by cases o <;> rfl
section
variable {P : Program} {w : World} {K : PySem.W.Frag} {mg : Str → Option Value} {base : Heap}
theorem ok_lEnds (T : Tx K mg) : Gd P w K mg base 2 "_law_ends" spLEnds := by
  have GW : Gd P w K mg base 1 "_law_whole" spLWhole := ok_lWhole T
  have GM : Gd P w K mg base 1 "_law_minutes" spLMinutes := ok_lMinutes T
  refine gd_of T dLawEnds 54 T.g__law_ends scLawEnds (fun _ _ _ _ _ _ us hl => match us, hl with | [_, _], _ => rfl) (fun _ _ _ _ ⟨_, _, _, e, _⟩ => by subst e; rfl) fun f cdv A outer s H vs Q E hr ⟨z, fd, fv, e, hf, hkind, hz, k⟩ => ?_
  subst e
  have nd := scLawEnds.nd
  have hr1 : Room 1 (Cxd dLawEnds P w K mg base nLawEnds f cdv A outer s H E).A := hr
  have hz4 : z.length ≤ 40000 := by omega
  obtain ⟨fa, tv, rfl, hfa, hth⟩ := hf
  have hlen : (TL.spl [46, 46] 0 [] z).length ≤ 40000 := Nat.le_trans (spl_many (by decide)) (by omega)
  have hall : ∀ p ∈ TL.spl [46, 46] 0 [] z, p.length ≤ 40000 := all_spl (by decide) hz4
  have hfl : (foOf fd.k z).length = (TL.spl [46, 46] 0 [] z).length := by
    unfold foOf
    split
    · unfold eoC; rw [List.length_map]
    · unfold eoN; rw [List.length_map]
  have hfn : 1 ≤ (foOf fd.k z).length := by
    rw [hfl]
    have := spl_ne [46, 46] z (by decide)
    cases h : TL.spl [46, 46] 0 [] z with
    | nil => exact absurd h this
    | cons _ _ => simp
  refine xb_setL 2 (l_splitW litDots (v_v 0) v_str hz4 ⟨by decide, by decide⟩) fun el H1 hel e1 h1 => ?_
  refine xb_ifM (k := decide (fd.k.word = "clock")) (fun σ' H' => ∃ fl, σ' = [some (.str (S z)), some (.ref fa), some (.ref el), some (.ref fl), none, none] ∧ Ex H1 H' ∧ H' fl = some (.lst ((foOf fd.k z).map oIV))) (bl_is (bc (c_eq (v_ixT (vl_tu (v_v 1) (.inl (ex_rd e1 hfa))) v_int rfl) v_str)) dec_V) (fun hk H2 e2 => ?_) (fun hk H2 e2 => ?_) ?_
  · have hc : fd.k = .clock := by
      rcases hkind with q | ⟨n, q⟩
      · exact q
      · rw [q] at hk; exact absurd (of_decide_eq_true hk) (show ¬ ("number" : Str) = "clock" by decide +kernel)
    refine xb_setCv (zs := (foOf fd.k z).map oIV) 3 ((lc_map (i := 5) (own := [("_law_end", 5)]) (ws := TL.spl [46, 46] 0 [] z) (enc := fun p => V.str (S p)) (fun p => V.int (oI (minutesM p))) (il_L (vl_sl (v_v 2) (sq_of (e2 _ _ h1)))) hlen
      (blkOk_by (N := nLawEnds) (sc := defScope sLawEnds) (by decide +kernel)) (fun _ _ _ _ _ p hp => v_call GM hr1 passL (a_1 (v_v 5)) (spS1_v (hall p hp)))).is fun _ _ _ _ q => by rw [q, hc]; unfold foOf eoC; rw [List.map_map]; rfl) fun fl H3 hfl3 e3 h3 => ?_
    exact xb_nil ⟨fl, rfl, e2.trans e3, h3⟩
  · have hc : foOf fd.k z = eoN z := by
      rcases hkind with q | ⟨n, q⟩
      · rw [q] at hk; exact absurd rfl (of_decide_eq_false hk)
      · rw [q]; rfl
    refine xb_setCv (zs := (foOf fd.k z).map oIV) 3 ((lc_map (i := 5) (own := [("_law_end", 5)]) (ws := TL.spl [46, 46] 0 [] z) (enc := fun p => V.str (S p)) (fun e => oIV (if decide (e = []) && decide ((TL.spl [46, 46] 0 [] z).length = 2) then none else some (oI (wholeM e)))) (il_L (vl_sl (v_v 2) (sq_of (e2 _ _ h1)))) hlen
      (blkOk_by (N := nLawEnds) (sc := defScope sLawEnds) (by decide +kernel)) (fun _ _ _ _ _ p hp => v_if (k := decide (p = []) && decide ((TL.spl [46, 46] 0 [] z).length = 2)) (b_w (w_and (bl_is (bc (c_eq (v_v (v := .str (S p)) 5) v_str)) dec_nil) fun _ => w_and1 (bl_is (bc (c_eq (v_lenL T.f_len (vl_sl (v_v 2) (sq_of (e2 _ _ h1)))) v_int)) (by rw [List.length_map, show (2 : Int) = ((2 : Nat) : Int) from rfl, dec_lenEq])))) (fun q => vl_is v_non (by rw [q]; rfl)) fun q => vl_is (v_call GW hr1 passL (a_1 (v_v 5)) (spS1_v (hall p hp))) (by rw [q]; rfl))).is fun _ _ _ _ q => by rw [q, hc]; unfold eoN; rw [List.map_map]; rfl) fun fl H3 hfl3 e3 h3 => ?_
    exact xb_nil ⟨fl, rfl, e2.trans e3, h3⟩
  · rintro σ' H2 ⟨fl, hσ, e2, h2⟩
    subst hσ
    generalize hfo : foOf fd.k z = fo at h2 hfl hfn k
    clear hfo
    have E2 := e1.trans e2
    refine xb_setCv (zs := (knownI fo).map V.int) 4 ((lc_fil (i := 5) (own := [("_law_end", 5)]) (ws := fo) (enc := oIV) (fun o => o.isSome) oIV (il_L (vl_sl (v_v 3) (sq_of h2))) (by omega) (blkOk_by (N := nLawEnds) (sc := defScope sLawEnds) (by decide +kernel))
      (fun _ _ _ _ _ o ho => bc ((c_notN (v_v 5)).is (isSome_oIV o))) (fun _ _ _ _ _ o ho _ => v_v 5)).is fun _ _ _ _ q => by rw [q, known_oIV]) fun kl H3 hkl e3 h3 => ?_
    have E3 := E2.trans e3
    have h33 := e3 _ _ h2
    obtain ⟨m, hm1, hm2⟩ := max_of (knownI fo)
    have lk : (knownI fo).length ≤ fo.length := List.length_filterMap_le _ _
    -- the kind is a number's
    have vnum : ∀ {H' : Hp} {σ' : L2.St} {e : Expr} {p pos p2 : Pos} {j j2 : Nat}, Ex H H' → Vl (Cxd dLawEnds P w K mg base nLawEnds f cdv A outer s H E) e σ' H' (.ref fa) → Bl (Cxd dLawEnds P w K mg base nLawEnds f cdv A outer s H E) (.Compare (.Subscript e (.Constant (.int 1) j p) p2) [.Eq] [.Constant (.str "number") j2 pos] pos) σ' H' (numOf fd.k).isSome := fun e' h => bl_is (bc (c_eq (v_ixT (vl_tu h (.inl (ex_rd e' hfa))) v_int rfl) v_str)) (by
      rw [dec_V]
      rcases hkind with q | ⟨n, q⟩ <;> rw [q]
      · decide +kernel
      · exact (show decide (("number" : Str) = "number") = true by decide +kernel))
    refine xb_when (k := condB (numOf fd.k) fo) ?_ (fun hk H4 e4 => ?_) fun hk H4 e4 => ?_
    · refine b_w (w_or (j := decide (2 < fo.length)) (bl_is (bc (c_gt (v_lenL T.f_len (vl_sl (v_v 2) (sq_of ((e2.trans e3) _ _ h1)))) v_int)) (by rw [List.length_map, ← hfl]; exact decide_eq_decide.mpr (by omega))) fun _ => w_or (j := decide (some (-1) ∈ fo)) (bl_is (bc (c_inL (v_neg v_int) (vl_sl (v_v 3) (sq_of h33)) rfl (flat_oIV fo))) (inV_oIV fo)) fun _ => w_or1 (b_w ?_))
      rcases hkind with q | ⟨n, q⟩
      · exact wl_is (w_and (j := false) (k := false) (bl_is (bc (c_eq (v_ixT (vl_tu (v_v 1) (.inl (ex_rd E3 hfa))) v_int rfl) v_str)) (by rw [dec_V, q]; decide +kernel)) fun y => by cases y) (by rw [q]; rfl)
      · have htv : tv = .int (n : Int) := by rw [q] at hth; exact hth
        rw [htv] at hfa
        exact wl_is (w_and (j := true) (k := decide ((n : Int) < m)) (bl_is (bc (c_eq (v_ixT (vl_tu (v_v 1) (.inl (ex_rd E3 hfa))) v_int rfl) v_str)) (by rw [dec_V, q]; exact (show decide (("number" : Str) = "number") = true by decide +kernel))) fun _ => w_and1 (bc (c_gt (v_max T.f_max (ll_sl (ll_is (l_cat (xs := [.int 0]) (ys := (knownI fo).map V.int) (ll_hl (l_lst (a_1 v_int))) (vl_hl (v_v 4) h3) (by rw [List.length_map]; simp; omega)) (show _ = (0 :: knownI fo).map V.int from rfl))) hm1 hm2) (v_ixT (vl_tu (v_v 1) (.inl (ex_rd E3 hfa))) v_int rfl)))) (by rw [q]; show (true && _) = (0 :: knownI fo).any _; rw [Bool.true_and, max_any hm1 hm2])
    · have e0 : endsF (numOf fd.k) fo = none := by unfold endsF; rw [if_pos hk]
      rw [e0] at k
      exact xb_retE (xe_l (l_lst a_nil) fun p H5 hp e5 h5 => k p [] H5 (fresh_back (E3.trans e4) hp) ((E3.trans e4).trans e5) h5 rfl)
    · have hk' := hk
      unfold condB at hk'
      rw [Bool.or_eq_false_iff] at hk'
      have l2 := of_decide_eq_false hk'.1
      have E4 := E3.trans e4
      have h44 := e4 _ _ h33
      have en : endsF (numOf fd.k) fo = endsG (numOf fd.k) fo := by unfold endsF; rw [if_neg (by rw [hk]; decide)]
      have lenE : ∀ {H' : Hp} {σ' : L2.St} {p : Pos}, Ex H4 H' → Vl (Cxd dLawEnds P w K mg base nLawEnds f cdv A outer s H E) (.Name "_law_ends_here" p) σ' H' (.ref el) → Sl (Cxd dLawEnds P w K mg base nLawEnds f cdv A outer s H E) (.Name "_law_ends_here" p) σ' H' ((TL.spl [46, 46] 0 [] z).map fun p => V.str (S p)) := fun e' h => vl_sl h (sq_of (((e2.trans e3).trans (e4.trans e')) _ _ h1))
      clear hk hk' hm1 hm2
      match fo, h2, h3, h33, h44, hfl, hfn, l2, en, k, lk with
      | [a], h2, h3, h33, h44, hfl, hfn, l2, en, k, lk =>
        rw [en, show endsG (numOf fd.k) [a] = some (a, a) from rfl] at k
        refine xb_yes (bl_is (bc (c_eq (v_lenL T.f_len (lenE (Ex.refl _) (v_v 2))) v_int)) (by rw [List.length_map, ← hfl]; rfl)) fun H5 e5 => ?_
        refine xb_retE (xe_lst (xa_cons (xe_l (l_cat (xs := [oIV a]) (ys := [oIV a]) (vl_hl (v_v 3) (e5 _ _ h44)) (vl_hl (v_v 3) (e5 _ _ h44)) (by simp)) fun q H6 hq e6 h6 => xa_nil ⟨by simp, fun p hp => ?_⟩)))
        have E6 := (E4.trans e5).trans e6
        exact k p _ _ (fresh_back E6 hp) (E6.trans (Ex.new hp)) upd_same ⟨q, rfl, Ex.new hp _ _ h6⟩
      | [a, b], h2, h3, h33, h44, hfl, hfn, l2, en, k, lk =>
        refine xb_no (bl_is (bc (c_eq (v_lenL T.f_len (lenE (Ex.refl _) (v_v 2))) v_int)) (by rw [List.length_map, ← hfl]; rfl)) fun H5 e5 => ?_
        have E5 := E4.trans e5
        have h55 := e5 _ _ h44
        have k5 := (e4.trans e5) _ _ h3
        have ret : ∀ H6, Ex H5 H6 → endsF (numOf fd.k) [a, b] = none → ∀ p H7, H7 p = some (.lst []) → H6 p = none → Ex H6 H7 → Q (.ref p) H7 := fun H6 e6 hn p H7 h7 hp e7 => by
          have k' := k
          rw [hn] at k'
          exact k' p [] H7 (fresh_back (E5.trans e6) hp) ((E5.trans e6).trans e7) h7 rfl
        have retS : ∀ H6, Ex H5 H6 → endsF (numOf fd.k) [a, b] = some (a, b) → ∀ p, H6 p = none → Q (.ref p) (upd H6 p (.lst [.ref fl])) := fun H6 e6 hn p hp => by
          have k' := k
          rw [hn] at k'
          exact k' p _ _ (fresh_back (E5.trans e6) hp) ((E5.trans e6).trans (Ex.new hp)) upd_same ⟨fl, rfl, (e6.trans (Ex.new hp)) _ _ h55⟩
        have lenK : ∀ {H' : Hp} {σ' : L2.St} {p : Pos}, Ex H5 H' → Vl (Cxd dLawEnds P w K mg base nLawEnds f cdv A outer s H E) (.Name "_law_known" p) σ' H' (.ref kl) → Sl (Cxd dLawEnds P w K mg base nLawEnds f cdv A outer s H E) (.Name "_law_known" p) σ' H' ((knownI [a, b]).map V.int) := fun e' h => vl_sl h (sq_of (e' _ _ k5))
        cases a with
        | none =>
          have en2 : endsF (numOf fd.k) [none, b] = some (none, b) := by rw [en]; cases b <;> rfl
          have kk : decide (V.int ((knownI [none, b]).length : Int) = V.int 2) = false := by cases b <;> rfl
          refine xb_no (bl_is (b_w (w_and (j := false) (k := false) (bl_is (bc (c_eq (v_lenL T.f_len (lenK (Ex.refl _) (v_v 4))) v_int)) (by rw [List.length_map]; exact kk)) fun q => by cases q)) rfl) fun H6 e6 => ?_
          refine xb_no (bl_is (b_w (w_and (j := false) (k := false) (bl_is (bc (c_eq (v_lenL T.f_len (lenK e6 (v_v 4))) v_int)) (by rw [List.length_map]; exact kk)) fun q => by cases q)) rfl) fun H7 e7 => ?_
          exact xb_retE (xe_lst (xa_cons (xe_v (v_v 3) fun H8 e8 => xa_nil ⟨by simp, fun p hp => retS H8 ((e6.trans e7).trans e8) en2 p hp⟩)))
        | some a =>
          cases b with
          | none =>
            have en2 : endsF (numOf fd.k) [some a, none] = some (some a, none) := by rw [en]; rfl
            have kk : decide (V.int ((knownI [some a, none]).length : Int) = V.int 2) = false := rfl
            refine xb_no (bl_is (b_w (w_and (j := false) (k := false) (bl_is (bc (c_eq (v_lenL T.f_len (lenK (Ex.refl _) (v_v 4))) v_int)) (by rw [List.length_map]; exact kk)) fun q => by cases q)) rfl) fun H6 e6 => ?_
            refine xb_no (bl_is (b_w (w_and (j := false) (k := false) (bl_is (bc (c_eq (v_lenL T.f_len (lenK e6 (v_v 4))) v_int)) (by rw [List.length_map]; exact kk)) fun q => by cases q)) rfl) fun H7 e7 => ?_
            exact xb_retE (xe_lst (xa_cons (xe_v (v_v 3) fun H8 e8 => xa_nil ⟨by simp, fun p hp => retS H8 ((e6.trans e7).trans e8) en2 p hp⟩)))
          | some b =>
            have en2 : endsF (numOf fd.k) [some a, some b] = if a = b then none else if (numOf fd.k).isSome && decide (b < a) then none else some (some a, some b) := by rw [en]; rfl
            have kk : decide (V.int ((knownI [some a, some b]).length : Int) = V.int 2) = true := rfl
            have it0 : ∀ {H' : Hp} {σ' : L2.St} {e : Expr} {p pos : Pos} {j : Nat}, Ex H5 H' → Vl (Cxd dLawEnds P w K mg base nLawEnds f cdv A outer s H E) e σ' H' (.ref fl) → Vl (Cxd dLawEnds P w K mg base nLawEnds f cdv A outer s H E) (.Subscript e (.Constant (.int 0) j p) pos) σ' H' (.int a) := fun e' h => v_ixL (vl_sl h (sq_of (e' _ _ h55))) v_int rfl
            have it1 : ∀ {H' : Hp} {σ' : L2.St} {e : Expr} {p pos : Pos} {j : Nat}, Ex H5 H' → Vl (Cxd dLawEnds P w K mg base nLawEnds f cdv A outer s H E) e σ' H' (.ref fl) → Vl (Cxd dLawEnds P w K mg base nLawEnds f cdv A outer s H E) (.Subscript e (.Constant (.int 1) j p) pos) σ' H' (.int b) := fun e' h => v_ixL (vl_sl h (sq_of (e' _ _ h55))) v_int rfl
            refine xb_when (k := decide (a = b)) (bl_is (b_w (w_and (j := true) (k := decide (a = b)) (bl_is (bc (c_eq (v_lenL T.f_len (lenK (Ex.refl _) (v_v 4))) v_int)) (by rw [List.length_map]; exact kk)) fun _ => w_and1 (bl_is (bc (c_eq (it0 (Ex.refl _) (v_v 3)) (it1 (Ex.refl _) (v_v 3)))) (by by_cases h : a = b <;> simp [h])))) rfl) (fun q H6 e6 => ?_) fun q H6 e6 => ?_
            · rw [if_pos (of_decide_eq_true q)] at en2
              exact xb_retE (xe_l (l_lst a_nil) fun p H7 hp e7 h7 => ret H6 e6 en2 p H7 h7 hp e7)
            · rw [if_neg (of_decide_eq_false q)] at en2
              refine xb_when (k := (numOf fd.k).isSome && decide (b < a)) (bl_is (b_w (w_and (j := true) (k := (numOf fd.k).isSome && decide (b < a)) (bl_is (bc (c_eq (v_lenL T.f_len (lenK e6 (v_v 4))) v_int)) (by rw [List.length_map]; exact kk)) fun _ => w_and (bl_is (bc (c_eq (v_ixT (vl_tu (v_v 1) (.inl (ex_rd (E5.trans e6) hfa))) v_int rfl) v_str)) (by
                rw [dec_V]
                rcases hkind with q | ⟨n, q⟩ <;> rw [q]
                · decide +kernel
                · exact (show decide (("number" : Str) = "number") = true by decide +kernel))) fun _ => w_and1 (bc (c_gt (it0 e6 (v_v 3)) (it1 e6 (v_v 3)))))) (by rw [Bool.true_and])) (fun q2 H7 e7 => ?_) fun q2 H7 e7 => ?_
              · rw [if_pos q2] at en2
                exact xb_retE (xe_l (l_lst a_nil) fun p H8 hp e8 h8 => ret H7 (e6.trans e7) en2 p H8 h8 hp e8)
              · rw [if_neg (by rw [q2]; decide)] at en2
                exact xb_retE (xe_lst (xa_cons (xe_v (v_v 3) fun H8 e8 => xa_nil ⟨by simp, fun p hp => retS H8 ((e6.trans e7).trans e8) en2 p hp⟩)))
      | [], h2, h3, h33, h44, hfl, hfn, l2, en, k, lk => simp at hfn
      | _ :: _ :: _ :: _, h2, h3, h33, h44, hfl, hfn, l2, en, k, lk => simp at l2
end
end Gw

set_option maxRecDepth 100000
set_option maxHeartbeats 4000000
/-! The marks' word by replace and split, plain. -/
namespace Gw
open PySem SX L2 StrLaws
theorem repl1 {c : Nat} {z : W} : ∀ a : W, replL [c] z a = a.flatMap fun d => if d = c then z else [d]
  | [] => replL_nil
  | d :: r => by
    by_cases h : d = c
    · subst h
      rw [replL_hit (by simp) (by simp)]
      rw [List.flatMap_cons, if_pos rfl, ← repl1 r]
      rfl
    · rw [replL_miss (by simpa using h), List.flatMap_cons, if_neg h, repl1 r]
      rfl
/-- a blank ahead of each sign -/
def sg (a : W) : W := a.flatMap fun c => if signC c then [32, c] else [c]
theorem sg_repl (a : W) : replL [43] [32, 43] (replL [45] [32, 45] a) = sg a := by
  rw [repl1, repl1, List.flatMap_assoc]
  unfold sg
  congr 1
  funext d
  unfold signC
  by_cases h1 : d = 45
  · subst h1; rfl
  · rw [if_neg h1]
    by_cases h2 : d = 43
    · subst h2; rfl
    · simp [h1, h2]
theorem replS_eq {x : W} {c d : Nat} (z : W) : Txt.replace (S x) (S [c]) (S z) = S (replL [c] z x) := by
  have h := replace_list (x := S x) (y := S [c]) (z := S z) (by rw [S_len]; simp)
  have : (Txt.replace (S x) (S [c]) (S z)) = S (Txt.replace (S x) (S [c]) (S z)).cps.toList := by
    generalize Txt.replace (S x) (S [c]) (S z) = t
    cases t; rfl
  rw [this, h]
/-- the pieces behind the first -/
def rowsOf : Nat → W → List W
  | 0, _ => []
  | _ + 1, [] => []
  | n + 1, c :: r => (c :: (markName r).1) :: rowsOf n (markName r).2
theorem name_free : ∀ a : W, ∀ c ∈ (markName a).1, signC c = false
  | [], c, h => by cases h
  | d :: r, c, h => by
    unfold markName at h
    by_cases hd : signC d = true
    · rw [if_pos hd] at h; cases h
    · rw [if_neg hd] at h
      rcases List.mem_cons.mp h with q | q
      · rw [q]; simpa using hd
      · exact name_free r c q
theorem name_rest : ∀ a : W, (markName a).2 = [] ∨ ∃ c r, (markName a).2 = c :: r ∧ signC c = true
  | [] => .inl rfl
  | d :: r => by
    unfold markName
    by_cases hd : signC d = true
    · rw [if_pos hd]; exact .inr ⟨d, r, rfl, hd⟩
    · rw [if_neg hd]; exact name_rest r
theorem sg_plain {a : W} (h : ∀ c ∈ a, signC c = false) : sg a = a := by
  induction a with
  | nil => rfl
  | cons c r ih =>
    unfold sg at ih ⊢
    rw [List.flatMap_cons, ih fun x hx => h x (List.mem_cons_of_mem _ hx), if_neg (by rw [h c (by simp)]; decide)]
    rfl
theorem sg_append (a b : W) : sg (a ++ b) = sg a ++ sg b := by unfold sg; rw [List.flatMap_append]
theorem spl_sg : ∀ (n : Nat) (a pre : W), 32 ∉ pre → 32 ∉ a → a.length < n → TL.spl [32] 0 [] (pre ++ sg a) = (pre ++ (markName a).1) :: rowsOf n (markName a).2
  | 0, a, _, _, _, h => absurd h (Nat.not_lt_zero _)
  | n + 1, a, pre, hp, ha, hn => by
    have hs := name_split a
    have h32 : 32 ∉ (markName a).1 := fun q => ha (by rw [hs]; exact List.mem_append_left _ q)
    have e1 : sg a = (markName a).1 ++ sg (markName a).2 := by
      conv => lhs; rw [hs]
      rw [sg_append, sg_plain (name_free a)]
    rw [e1, ← List.append_assoc]
    have hp2 : 32 ∉ pre ++ (markName a).1 := fun q => (List.mem_append.mp q).elim hp h32
    rcases name_rest a with q | ⟨c, r, q, hc⟩
    · rw [q]
      rw [show sg [] = [] from rfl, List.append_nil, spl_par (by decide), par1_none.mpr hp2]
      rfl
    · rw [q]
      have e2 : sg (c :: r) = 32 :: c :: sg r := by unfold sg; rw [List.flatMap_cons, if_pos hc]; rfl
      rw [e2, spl_par (by decide), par1_of hp2]
      have hcr : ∀ x ∈ c :: r, x ∈ a := fun x hx => by rw [hs, q]; exact List.mem_append_right _ hx
      have ih := spl_sg n r [c] (fun z => ha (by have := List.mem_singleton.mp z; rw [this]; exact hcr c (by simp))) (fun z => ha (hcr 32 (List.mem_cons_of_mem _ z))) (by
        have := congrArg List.length hs
        rw [q] at this
        simp at this
        omega)
      show _ :: TL.spl [32] 0 [] ([c] ++ sg r) = _
      rw [ih]
      rfl
theorem rows_more : ∀ (n m : Nat) (a : W), a.length ≤ n → a.length ≤ m → rowsOf n a = rowsOf m a
  | 0, m, a, h, _ => by
    rw [List.eq_nil_of_length_eq_zero (Nat.le_zero.mp h)]
    cases m <;> rfl
  | n + 1, 0, a, _, h => by
    rw [List.eq_nil_of_length_eq_zero (Nat.le_zero.mp h)]
    rfl
  | n + 1, m + 1, [], _, _ => rfl
  | n + 1, m + 1, c :: r, h1, h2 => by
    have := markName_len r
    simp only [List.length_cons] at h1 h2
    show _ :: _ = _ :: _
    rw [rows_more n m _ (by omega) (by omega)]
/-- the pieces: a sign and a name each -/
def mkR (a : W) : List W := rowsOf (a.length + 1) (markName a).2
theorem rows_sign : ∀ (n : Nat) (a : W), (a = [] ∨ ∃ c r, a = c :: r ∧ signC c = true) → ∀ w ∈ rowsOf n a, ∃ c r, w = c :: r ∧ signC c = true
  | 0, _, _, w, h => by cases h
  | n + 1, [], _, w, h => by cases h
  | n + 1, c :: r, hc, w, h => by
    rcases List.mem_cons.mp h with q | q
    · rcases hc with z | ⟨d, s, z, hd⟩
      · cases z
      · cases z; exact ⟨c, _, q, hd⟩
    · exact rows_sign n _ (name_rest r) w q
theorem mkR_sign (a : W) : ∀ w ∈ mkR a, ∃ c r, w = c :: r ∧ signC c = true := rows_sign _ _ (name_rest a)
/-- how long the pieces are together -/
theorem rows_len : ∀ (n : Nat) (a : W), ((rowsOf n a).map (·.length)).sum ≤ a.length
  | 0, _ => Nat.zero_le _
  | n + 1, [] => Nat.zero_le _
  | n + 1, c :: r => by
    have h1 := rows_len n (markName r).2
    have h2 := congrArg List.length (name_split r)
    rw [List.length_append] at h2
    show ((c :: (markName r).1).length + ((rowsOf n (markName r).2).map (·.length)).sum) ≤ _
    simp only [List.length_cons]
    omega
theorem mkR_len (a : W) : ((mkR a).map (·.length)).sum ≤ a.length := by
  have h1 := rows_len (a.length + 1) (markName a).2
  have h2 := markName_len a
  unfold mkR
  omega
/-- through the pieces -/
def goR (ms : List W) : Int → List W → List W → List W → Option (Int × List W × List W)
  | last, [], on, off => some (last, on, off)
  | last, w :: ws, on, off => match markAt ms w.tail with
    | some j => if (j : Int) ≤ last then none else if w.head? == some 43 then goR ms j ws (on ++ [w.tail]) off else goR ms j ws on (off ++ [w.tail])
    | none => none
theorem go_rows (ms : List W) : ∀ (n : Nat) (last : Int) (a : W) (on off : List W), a.length < n → (a = [] ∨ ∃ c r, a = c :: r ∧ signC c = true) → marksGo ms n last a on off = goR ms last (rowsOf n a) on off
  | 0, _, _, _, _, h, _ => absurd h (Nat.not_lt_zero _)
  | n + 1, last, [], on, off, _, _ => rfl
  | n + 1, last, c :: r, on, off, h, hc => by
    have hs : signC c = true := by
      rcases hc with z | ⟨d, s, z, hd⟩
      · cases z
      · cases z; exact hd
    have hl := markName_len r
    simp only [List.length_cons] at h
    show (if signC c then _ else none) = _
    rw [if_pos hs]
    show _ = match markAt ms (markName r).1 with
      | some j => if (j : Int) ≤ last then none else if ((c :: (markName r).1).head? == some 43) then goR ms j (rowsOf n (markName r).2) (on ++ [(markName r).1]) off else goR ms j (rowsOf n (markName r).2) on (off ++ [(markName r).1])
      | none => none
    cases markAt ms (markName r).1 with
    | none => rfl
    | some j =>
      dsimp only
      have e : ((c :: (markName r).1).head? == some 43) = (c == 43) := by simp
      rw [e, go_rows ms n j _ _ _ (by omega) (name_rest r), go_rows ms n j _ _ _ (by omega) (name_rest r)]
/-- the places of the pieces' names -/
def plI (ms : List W) (ws : List W) : List Int := ws.map fun w => ((ms.idxOf w.tail : Nat) : Int)
def onR (ws : List W) : List W := (ws.filter fun w => w.head? == some 43).map List.tail
def offR (ws : List W) : List W := (ws.filter fun w => !(w.head? == some 43)).map List.tail
theorem goR_eq (ms : List W) : ∀ (ws : List W) (last : Int) (on off : List W), goR ms last ws on off = if (∀ w ∈ ws, w.tail ∈ ms) ∧ (last :: plI ms ws).Pairwise (· < ·) then some ((last :: plI ms ws).getLast (List.cons_ne_nil _ _), on ++ onR ws, off ++ offR ws) else none
  | [], last, on, off => by
    rw [if_pos ⟨fun w h => by (cases h), by simp [plI]⟩]
    simp [goR, plI, onR, offR]
  | w :: ws, last, on, off => by
    have e0 : goR ms last (w :: ws) on off = match markAt ms w.tail with
      | some j => if (j : Int) ≤ last then none else if w.head? == some 43 then goR ms j ws (on ++ [w.tail]) off else goR ms j ws on (off ++ [w.tail])
      | none => none := rfl
    rw [e0]
    unfold markAt
    by_cases hm : w.tail ∈ ms
    · rw [decide_eq_true hm, if_pos rfl]
      dsimp only
      have ep : plI ms (w :: ws) = ((ms.idxOf w.tail : Nat) : Int) :: plI ms ws := rfl
      by_cases hj : ((ms.idxOf w.tail : Nat) : Int) ≤ last
      · rw [if_pos hj, if_neg]
        rintro ⟨_, h2⟩
        rw [ep] at h2
        have := (List.pairwise_cons.mp h2).1 ((ms.idxOf w.tail : Nat) : Int) (by simp)
        omega
      · rw [if_neg hj]
        have key : ((∀ x ∈ w :: ws, x.tail ∈ ms) ∧ (last :: plI ms (w :: ws)).Pairwise (· < ·)) ↔ ((∀ x ∈ ws, x.tail ∈ ms) ∧ (((ms.idxOf w.tail : Nat) : Int) :: plI ms ws).Pairwise (· < ·)) := by
          rw [ep]
          constructor
          · rintro ⟨h1, h2⟩
            exact ⟨fun x hx => h1 x (List.mem_cons_of_mem _ hx), (List.pairwise_cons.mp h2).2⟩
          · rintro ⟨h1, h2⟩
            refine ⟨fun x hx => ?_, List.pairwise_cons.mpr ⟨fun y hy => ?_, h2⟩⟩
            · rcases List.mem_cons.mp hx with q | q
              · rw [q]; exact hm
              · exact h1 x q
            · rcases List.mem_cons.mp hy with q | q
              · omega
              · have := (List.pairwise_cons.mp h2).1 y q; omega
        by_cases hs : (w.head? == some 43) = true
        · rw [if_pos hs, goR_eq ms ws]
          by_cases hk : (∀ x ∈ ws, x.tail ∈ ms) ∧ (((ms.idxOf w.tail : Nat) : Int) :: plI ms ws).Pairwise (· < ·)
          · rw [if_pos hk, if_pos (key.mpr hk)]
            simp [onR, offR, hs, ep]
          · rw [if_neg hk, if_neg fun z => hk (key.mp z)]
        · rw [if_neg hs, goR_eq ms ws]
          by_cases hk : (∀ x ∈ ws, x.tail ∈ ms) ∧ (((ms.idxOf w.tail : Nat) : Int) :: plI ms ws).Pairwise (· < ·)
          · rw [if_pos hk, if_pos (key.mpr hk)]
            simp [onR, offR, hs, ep]
          · rw [if_neg hk, if_neg fun z => hk (key.mp z)]
    · rw [decide_eq_false hm, if_neg (by decide), if_neg fun z => hm (z.1 w (by simp))]
theorem pl_nonneg (ms ws : List W) : ∀ i ∈ plI ms ws, 0 ≤ i := fun i hi => by
  obtain ⟨w, _, e⟩ := List.mem_map.mp hi
  omega
theorem marksM_law (ms : List W) (a : W) : marksM a ms = if ((markName a).1 = [] ∧ mkR a ≠ []) ∧ (∀ w ∈ mkR a, w.tail ∈ ms) ∧ (plI ms (mkR a)).Pairwise (· < ·) then .tuple [.str "marks", strsD (onR (mkR a)), strsD (offR (mkR a))] else .none := by
  unfold marksM
  cases a with
  | nil => rfl
  | cons c r =>
    by_cases hs : signC c = true
    · have en : markName (c :: r) = ([], c :: r) := by
        conv => lhs; unfold markName
        rw [if_pos hs]
      have er : mkR (c :: r) = rowsOf ((c :: r).length + 1) (c :: r) := by unfold mkR; rw [en]
      have hne : mkR (c :: r) ≠ [] := by rw [er]; intro q; cases q
      rw [go_rows ms _ _ _ _ _ (Nat.lt_succ_self _) (.inr ⟨c, r, rfl, hs⟩), ← er, goR_eq]
      have hp : ((-1 : Int) :: plI ms (mkR (c :: r))).Pairwise (· < ·) ↔ (plI ms (mkR (c :: r))).Pairwise (· < ·) := by
        rw [List.pairwise_cons]
        exact ⟨fun h => h.2, fun h => ⟨fun y hy => by have := pl_nonneg ms _ y hy; omega, h⟩⟩
      by_cases hk : (∀ w ∈ mkR (c :: r), w.tail ∈ ms) ∧ (plI ms (mkR (c :: r))).Pairwise (· < ·)
      · rw [if_pos ⟨hk.1, hp.mpr hk.2⟩, if_pos ⟨⟨by rw [en], hne⟩, hk⟩]
        dsimp only
        rw [if_neg]
        · rfl
        · have hne2 : plI ms (mkR (c :: r)) ≠ [] := by unfold plI; simpa using hne
          have h0 := pl_nonneg ms (mkR (c :: r)) _ (List.getLast_mem hne2)
          rw [List.getLast_cons hne2]
          omega
      · rw [if_neg fun z => hk ⟨z.1, hp.mp z.2⟩, if_neg fun z => hk z.2]
    · have e1 : marksGo ms ((c :: r).length + 1) (-1) (c :: r) [] [] = none := by
        show (if signC c then _ else none) = none
        rw [if_neg hs]
      rw [e1, if_neg]
      rintro ⟨⟨h1, _⟩, _⟩
      unfold markName at h1
      rw [if_neg hs] at h1
      cases h1
theorem nodup_at {α : Type} {l : List α} (h : l.Nodup) {i j : Nat} (hi : i < l.length) (e : l[i]? = l[j]?) : i = j := by
  have hj : j < l.length := by
    rcases Nat.lt_or_ge j l.length with q | q
    · exact q
    · rw [List.getElem?_eq_none q, List.getElem?_eq_getElem hi] at e; cases e
  rw [List.getElem?_eq_getElem hi, List.getElem?_eq_getElem hj] at e
  have e' := Option.some.inj e
  rcases Nat.lt_trichotomy i j with q | q | q
  · exact absurd e' (List.pairwise_iff_getElem.mp h i j hi hj q)
  · exact q
  · exact absurd e'.symm (List.pairwise_iff_getElem.mp h j i hj hi q)
/-- the names that are not among those with a plus -/
theorem off_by {ws : List W} (h : (ws.map List.tail).Nodup) : (ws.map List.tail).filter (fun a => !decide (a ∈ onR ws)) = offR ws := by
  unfold onR offR
  rw [List.filter_map]
  congr 1
  apply List.filter_congr
  intro w hw
  show (!decide (w.tail ∈ _)) = _
  congr 1
  by_cases hs : (w.head? == some 43) = true
  · rw [hs, decide_eq_true]
    exact List.mem_map.mpr ⟨w, List.mem_filter.mpr ⟨hw, hs⟩, rfl⟩
  · have hs' : (w.head? == some 43) = false := by simpa using hs
    rw [hs', decide_eq_false]
    intro q
    obtain ⟨v, hv, e⟩ := List.mem_map.mp q
    obtain ⟨hv1, hv2⟩ := List.mem_filter.mp hv
    obtain ⟨i, hi⟩ := List.mem_iff_getElem?.mp hw
    obtain ⟨j, hj⟩ := List.mem_iff_getElem?.mp hv1
    have e1 : (ws.map List.tail)[i]? = some w.tail := by rw [List.getElem?_map, hi]; rfl
    have e2 : (ws.map List.tail)[j]? = some w.tail := by rw [List.getElem?_map, hj, ← e]; rfl
    have hil : i < (ws.map List.tail).length := (List.getElem?_eq_some_iff.mp e1).1
    have : i = j := (nodup_at h hil (e1.trans e2.symm))
    subst this
    rw [hi] at hj
    cases hj
    rw [hv2] at hs'
    cases hs'
end Gw

set_option maxRecDepth 100000
set_option maxHeartbeats 4000000
/-! Where a token is out: word.replace(..).replace(..).split(..). -/
namespace Gw
open PySem PySem.Spec PyProof.Rows L2 Evl SX
section
variable {X : Cx} {e o c : Expr} {sa sb sts rest : List Stmt} {σ : L2.St} {H : Hp} {D : Ends} {pos : Pos}
/-- a block, a token being out -/
structure XBT (X : Cx) (sts : List Stmt) (D : Ends) (σ : L2.St) (H : Hp) : Prop where
  run : ∀ (pins : List (Addr × Obj)) (s : Shared), 1 ≤ s.toks → Inv X pins σ H s → wpAny (model X.prog X.w) X.A (execs sts X.env) (SP X pins D) X.xe s
theorem xbt_xb (h : XB X sts D σ H) : XBT X sts D σ H := ⟨fun pins s _ I => h.run pins s I⟩
theorem xbt_cons {st : Stmt} (h : XS X st { D with nx := fun σ' H' => XBT X rest D σ' H' } σ H) : XBT X (st :: rest) D σ H := ⟨fun pins s h0 I => by
  refine wpAny_execs_cons (wpAny_mono (PySem.wpAny_toks (h.run pins s I)) (fun f s1 q => ?_) fun _ _ x => x.2)
  obtain ⟨hk, q⟩ := q
  cases f with
  | next =>
    obtain ⟨σ', H', I', q⟩ := q
    exact q.run pins s1 (Nat.le_trans h0 hk) I'
  | ret v => exact q
  | brk => exact q
  | cont => exact q⟩
theorem xbt_no (hc : Bl X c σ H false) (h : ∀ H1, Ex H H1 → XBT X rest D σ H1) : XBT X (.If c sa [] pos :: rest) D σ H :=
  xbt_cons (xs_of (ps_if pt_xt pss_xb pss_xb) (hc H (Ex.refl H) _ fun H1 e1 => by
    rw [if_neg (by decide)]
    exact xb_nil (h H1 e1)))
theorem xbt_yes (hc : Bl X c σ H true) (h : ∀ H1, Ex H H1 → XBT X sa { D with nx := fun σ' H' => XB X rest D σ' H' } σ H1) : XBT X (.If c sa sb pos :: rest) D σ H := ⟨fun pins s h0 I => by
  refine wpAny_execs_cons (wpAny_If (wpAny_mono (PySem.wpAny_toks ((hc H (Ex.refl H) (fun b H1 => b = true ∧ Ex H H1) fun H1 e1 => ⟨rfl, e1⟩).run pins s I)) (fun d s1 q => ?_) fun _ _ x => x.2))
  obtain ⟨hk, H1, I1, rfl, e1⟩ := q
  rw [if_pos rfl]
  refine thn ((h H1 e1).run pins s1 (Nat.le_trans h0 hk) I1) fun f s2 q => ?_
  cases f with
  | next =>
    obtain ⟨σ', H', I', q⟩ := q
    exact q.run pins s2 I'
  | ret v => exact q
  | brk => exact q
  | cont => exact q⟩
/-- behind a comparison with a written text a token is out -/
theorem xb_noT {u k : Str} {j : Nat} {p p2 : Pos} (h : Vl X e σ H (.str u)) (hk : decide (V.str u = V.str k) = false) (kk : ∀ H1, Ex H H1 → XBT X rest D σ H1) : XB X (.If (.Compare e [.Eq] [.Constant (.str k) j p] p2) sa [] pos :: rest) D σ H := ⟨fun pins s I => by
  refine wpAny_execs_cons (wpAny_If (wpAny_isTrue_Compare1 (thn ((h H (Ex.refl H) (fun v H1 => v = .str u ∧ Ex H H1) fun H1 e1 => ⟨rfl, e1⟩).run pins s I) fun v s1 ⟨x, H1, I1, r1, ex, e1⟩ => Calls.Constant_str ?_) (nobehind _ (by decide) (by decide))))
  subst ex
  have I2 : Inv X pins σ H1 { s1 with toks := s1.toks + 1 } := I1.tok _
  refine wpAny_mono (PySem.wpAny_toks_of (n := 1) (by show 1 ≤ s1.toks + 1; omega) (op_eq pins _ σ H1 (.str u) (.str k) v (.str k s1.toks) (fun z H2 => z = .bl false ∧ Ex H1 H2) I2 r1 ⟨_, rfl⟩ ?_)) (fun z s2 q => ?_) fun _ _ x => x.2
  · have := rv_eq (H := H1) (x := .str u) (y := .str k) rfl H1 (Ex.refl _) (fun z H2 => z = .bl false ∧ Ex H1 H2) fun H2 e2 => ⟨by rw [hk], e2⟩
    exact this
  · obtain ⟨hk2, y, H2, I3, r3, ey, e2⟩ := q
    subst ey
    cases r3
    refine wpAny_truthy_bool ?_
    rw [if_neg (by decide)]
    exact wpAny_execs_nil ((kk H2 (e1.trans e2)).run pins _ hk2 I3)⟩
/-- name = text.replace(..).replace(..).split(sep): the list of the parts -/
theorem xbt_rep {x y z y2 z2 u : Str} {j1 j2 j3 j4 : Nat} {n : Str} {p a1 a2 a3 q1 q2 c1 c2 c3 c4 : Pos} {es : Expr} (i0 : Nat) (ho : Vl X o σ H (.str x)) (he : Vl X es σ H (.str u))
    (hb : x.length + (x.length + 1) * z.length ≤ 16777216) (hb2 : (Txt.replace x y z).length + ((Txt.replace x y z).length + 1) * z2.length ≤ 16777216) (hu : (u.length == 0) = false) (hl : (Txt.replace (Txt.replace x y z) y2 z2).length + 2 ≤ sizeLine)
    (k : ∀ q H1, H q = none → Ex H H1 → H1 q = some (.lst ((Txt.split (Txt.replace (Txt.replace x y z) y2 z2) u).map V.str)) → XB X rest D (σ.set i0 (some (.ref q))) H1)
    (hyz : (y == z) = false := by decide +kernel) (hyz2 : (y2 == z2) = false := by decide +kernel)
    (hn : Nm X i0 n := by exact ⟨by assumption, rfl, by first | exact Or.inl rfl | exact Or.inr rfl, by first | exact .inl rfl | exact .inr rfl⟩)
    (hst1 : starEach [.Constant (.str y) j1 c1, .Constant (.str z) j2 c2] X.env = [(false, eval (.Constant (.str y) j1 c1) X.env), (false, eval (.Constant (.str z) j2 c2) X.env)] := by rfl)
    (hst2 : starEach [.Constant (.str y2) j3 c3, .Constant (.str z2) j4 c4] X.env = [(false, eval (.Constant (.str y2) j3 c3) X.env), (false, eval (.Constant (.str z2) j4 c4) X.env)] := by rfl)
    (hbase1 : attributeBase o "replace" X.env (eval o X.env) = eval o X.env := by rfl)
    (hbase2 : attributeBase (.Call (.Attribute o "replace" a1) [.Constant (.str y) j1 c1, .Constant (.str z) j2 c2] [] q1) "replace" X.env (eval (.Call (.Attribute o "replace" a1) [.Constant (.str y) j1 c1, .Constant (.str z) j2 c2] [] q1) X.env) = eval (.Call (.Attribute o "replace" a1) [.Constant (.str y) j1 c1, .Constant (.str z) j2 c2] [] q1) X.env := by rfl)
    (hbase3 : attributeBase (.Call (.Attribute (.Call (.Attribute o "replace" a1) [.Constant (.str y) j1 c1, .Constant (.str z) j2 c2] [] q1) "replace" a2) [.Constant (.str y2) j3 c3, .Constant (.str z2) j4 c4] [] q2) "split" X.env (eval (.Call (.Attribute (.Call (.Attribute o "replace" a1) [.Constant (.str y) j1 c1, .Constant (.str z) j2 c2] [] q1) "replace" a2) [.Constant (.str y2) j3 c3, .Constant (.str z2) j4 c4] [] q2) X.env) = eval (.Call (.Attribute (.Call (.Attribute o "replace" a1) [.Constant (.str y) j1 c1, .Constant (.str z) j2 c2] [] q1) "replace" a2) [.Constant (.str y2) j3 c3, .Constant (.str z2) j4 c4] [] q2) X.env := by rfl)
    (hl1 : (a1.endLine == q1.line) = true := by rfl) (hl2 : (a2.endLine == q2.line) = true := by rfl) (hl3 : (a3.endLine == p.line) = true := by rfl) (hse : starEach [es] X.env = [(false, eval es X.env)] := by rfl) {pos' : Pos}
    (hs : swapsWith (.Call (.Attribute (.Call (.Attribute (.Call (.Attribute o "replace" a1) [.Constant (.str y) j1 c1, .Constant (.str z) j2 c2] [] q1) "replace" a2) [.Constant (.str y2) j3 c3, .Constant (.str z2) j4 c4] [] q2) "split" a3) [es] [] p) (some (.Name n pos')) pos.line X.env = pure false := by rfl) :
    XBT X (.Assign [.Name n pos'] (.Call (.Attribute (.Call (.Attribute (.Call (.Attribute o "replace" a1) [.Constant (.str y) j1 c1, .Constant (.str z) j2 c2] [] q1) "replace" a2) [.Constant (.str y2) j3 c3, .Constant (.str z2) j4 c4] [] q2) "split" a3) [es] [] p) pos :: rest) D σ H := ⟨fun pins s h0 I => by
  have P2 := CwR.pet_replT (CwR.pet_replC (pe_xe (X := X) (e := o)) hyz hst1 hbase1 hl1) hyz2 hst2 hbase2 hl2
  refine wpAny_execs_cons (wpAny_Assign_Name (PySem.Call_method1 hbase3 hse hl3 (thn (P2 pins s σ H (fun v H1 => v = .str (Txt.replace (Txt.replace x y z) y2 z2) ∧ Ex H H1) h0 I (ho H (Ex.refl H) _ fun H1 e1 => ⟨_, rfl, hb, _, rfl, hb2, rfl, e1⟩)) fun v s1 ⟨w, H1, I1, r1, ew, e1⟩ => ?_)) hs)
  subst ew
  obtain ⟨t, rfl⟩ := _root_.id r1
  refine ⟨"str", _, F.plainAttrs_str, F.slot_str_split, F.type_str_split, typeIs_str _ _ _, (fun _ e => nomatch e), Calls.callWith_builtin rfl (Calls.evalArgs_plain (Calls.spliced_cons ?_))⟩
  refine thn ((he H1 e1 (fun v H2 => v = .str u ∧ Ex H1 H2) fun H2 e2 => ⟨rfl, e2⟩).run pins s1 I1) fun us s2 ⟨y', H2, I2, r2, ey, e2⟩ => Calls.spliced_nil ?_
  subst ey
  refine thn (mt_split pins s2 σ H2 _ [.str u] _ [us] (fun v H3 => ∃ q, v = .ref q ∧ H q = none ∧ Ex H H3 ∧ H3 q = some (.lst ((Txt.split (Txt.replace (Txt.replace x y z) y2 z2) u).map V.str))) I2 r1 (.cons r2 .nil) ⟨_, u, rfl, rfl, hu, hl, fun q hq => ⟨q, rfl, fresh_back (e1.trans e2) hq, (e1.trans e2).trans (Ex.new hq), upd_same⟩⟩) fun v3 s3 ⟨w3, H3, I3, r3, q, ew3, hq, e3, h3⟩ => ?_
  subst ew3
  exact store_ok I3 hn.1 hn.2.1 hn.2.2.1 r3 (fun s4 I4 => (k q H3 hq e3 h3).run pins s4 I4) hn.2.2.2⟩
end
end Gw

set_option maxRecDepth 100000
set_option maxHeartbeats 4000000
namespace Gw
open PySem PySem.Spec PyProof.Rows L2 Evl SX
theorem cut_last1 {a : W} : cutS (S a) (some (-1)) none = S (a.drop (a.length - 1)) := by
  unfold cutS
  have e1 : HT.sIx (S a).length 0 (some (-1)) = a.length - 1 := by
    show (if (-1 : Int) < 0 then ((-1 : Int) + ((S a).length : Int)).toNat else min (-1 : Int).toNat (S a).length) = _
    rw [if_pos (by decide), S_len]
    omega
  rw [e1, HT.sIx_none, S_len]
  show S (List.take _ (List.drop _ a)) = _
  rw [List.take_of_length_le (by rw [List.length_drop]; omega)]
theorem drop_last1 {a : W} {c : Nat} : decide (a.drop (a.length - 1) = [c]) = (a.getLast? == some c) := by
  cases a with
  | nil => rfl
  | cons d r =>
    have h : (d :: r) ≠ [] := List.cons_ne_nil _ _
    have e : (d :: r).drop ((d :: r).length - 1) = [(d :: r).getLast h] := by
      conv => lhs; rw [← List.dropLast_concat_getLast h]
      rw [List.drop_append_of_le_length (by simp)]
      simp
    rw [e, List.getLast?_eq_getLast h]
    by_cases q : (d :: r).getLast h = c
    · simp [q]
    · simp [q]
theorem eqv_ints : ∀ ns ms : List Int, PyData.eqvAll (ns.map PyData.int) (ms.map PyData.int) = decide (ns = ms)
  | [], [] => by simp [PyData.eqvAll]
  | [], m :: ms => by simp [PyData.eqvAll]
  | n :: ns, [] => by simp [PyData.eqvAll]
  | n :: ns, m :: ms => by
    have ih := eqv_ints ns ms
    simp only [List.map_cons, PyData.eqvAll, PyData.eqv, ih]
    by_cases h1 : n = m <;> by_cases h2 : ns = ms <;> simp [h1, h2]
theorem dp_ints {K : PySem.W.Frag} {H : Hp} : ∀ ns : List Int, DpAll K H (ns.map V.int) (ns.map PyData.int)
  | [] => .nil
  | n :: ns => .cons (.int n) (dp_ints ns)
theorem lay_ints : ∀ ns : List Int, PyData.canLayAll0 (ns.map PyData.int) = true
  | [] => by simp [PyData.canLayAll0]
  | n :: ns => by simp [PyData.canLayAll0, PyData.canLay0, lay_ints ns]
theorem depth_ints : ∀ ns : List Int, PyData.depthAll (ns.map PyData.int) ≤ 1
  | [] => by simp [PyData.depthAll]
  | n :: ns => by
    have := depth_ints ns
    simp [PyData.depthAll, PyData.depth]
    omega
theorem shaped_ints (ns : List Int) : SeqAt.shaped (.list (ns.map PyData.int)) = true := by
  unfold SeqAt.shaped
  have h1 : PyData.canLay0 (.list (ns.map PyData.int)) = true := by simp [PyData.canLay0, lay_ints]
  have h2 : PyData.depth (.list (ns.map PyData.int)) ≤ 64 := by
    have := depth_ints ns
    simp [PyData.depth]
    omega
  rw [h1, decide_eq_true h2]
  rfl
section
variable {X : Cx} {e a b o elt iter : Expr} {es : List Expr} {rest : List Stmt} {σ : L2.St} {H H' : Hp} {Q : VK} {D : Ends} {v : V} {xs : List V} {p pos apos : Pos} {d : PyData} {n : Str}
theorem c_neI {k : Nat} {ns ms : List Int} (hr : Room k X.A) (ha : Sl X a σ H (ns.map V.int)) (hb : Sl X b σ H (ms.map V.int)) (hm : behindInMarks .NotEq b = false := by first | rfl | exact nobehind _ (by decide) (by decide)) : Cm X .NotEq a b σ H (!decide (ns = ms)) := cm_of (op_neD hr.units) hm
  fun H1 e1 Q q => ha H1 e1 _ fun l H2 e2 h2 => hb H2 (e1.trans e2) _ fun r H3 e3 h3 => ⟨_, _, .lst (ex_l e3 h2) (dp_ints ns), .lst h3 (dp_ints ms), shaped_ints ns, shaped_ints ms, by
    have ee : PyData.eqv (.list (ns.map PyData.int)) (.list (ms.map PyData.int)) = decide (ns = ms) := by rw [← eqv_ints]; simp [PyData.eqv]
    rw [ee]
    exact q H3 (e2.trans e3)⟩
/-- xs != [], xs any list of which it is known whether it is empty -/
theorem c_neNilE {k0 : Nat} {k : Bool} {p : Pos} (hr : Room k0 X.A) (ha : Er X a σ H fun y H' => ∃ l xs, y = .ref l ∧ SqL X.K H' l xs ∧ xs.isEmpty = k) : Cm X .NotEq a (.List [] p) σ H (!k) := cm_of (op_neNil (room_units hr)) (nobehind _ (by decide) (by decide))
  fun H1 e1 Q q => ha H1 e1 _ fun y H2 e2 ⟨l, xs, ey, h2, hk⟩ => (l_lst a_nil) H2 (e1.trans e2) _ fun t H3 _ e3 h3 => ⟨l, t, xs, ey, rfl, ex_l e3 h2, sq_of h3, by rw [hk]; exact q H3 (e2.trans e3)⟩
theorem c_eqNilE {k0 : Nat} {k : Bool} {p : Pos} (hr : Room k0 X.A) (ha : Er X a σ H fun y H' => ∃ l xs, y = .ref l ∧ SqL X.K H' l xs ∧ xs.isEmpty = k) : Cm X .Eq a (.List [] p) σ H k := cm_of (op_eqNil (room_units hr)) (nobehind _ (by decide) (by decide))
  fun H1 e1 Q q => ha H1 e1 _ fun y H2 e2 ⟨l, xs, ey, h2, hk⟩ => (l_lst a_nil) H2 (e1.trans e2) _ fun t H3 _ e3 h3 => ⟨l, t, xs, ey, rfl, ex_l e3 h2, sq_of h3, by rw [hk]; exact q H3 (e2.trans e3)⟩
/-- [e] * int(k), e data -/
theorem xe_repD {k : Bool} {p1 : Pos} (h : Dl X a σ H d) (hb : Vl X b σ H (.int (if k then 1 else 0))) (kk : ∀ l xs H1, H l = none → Ex H H1 → H1 l = some (.lst xs) → (if k then ∃ v, xs = [v] ∧ Tp H1 v d else xs = []) → Q (.ref l) H1)
    (hs : starEach [a] X.env = (false, eval a X.env) :: starEach [] X.env := by rfl) : XE X (.BinOp (.List [a] p1) .Mult b pos) σ H Q :=
  xe_rep1 (xe_lst (xa_cons (h H (Ex.refl H) _ fun y H1 e1 t => xa_nil ⟨by simp, fun l hl => ⟨l, [y], rfl, upd_same, by simp, k, hb.mono (e1.trans (Ex.new hl)), fun H2 q e2 hq => kk q _ _ (fresh_back ((e1.trans (Ex.new hl)).trans e2) hq) (((e1.trans (Ex.new hl)).trans e2).trans (Ex.new hq)) upd_same (by
    cases k with
    | true => exact ⟨y, rfl, t.mono (((Ex.new hl).trans e2).trans (Ex.new hq))⟩
    | false => rfl)⟩⟩) hs))
/-- xs.index(y), xs texts, y one of them -/
theorem v_lidx {ms : List W} {w : W} (ho : Sl X o σ H (ms.map fun a => V.str (S a))) (he : Vl X e σ H (.str (S w))) (hm : w ∈ ms) (hbase : attributeBase o "index" X.env (eval o X.env) = eval o X.env := by rfl)
    (hfew : ((backTo pos (starEach [e] X.env)).all (fun x => !x.1) && (backToKw pos (keywordEach [] X.env)).all (fun x => x.1.isSome)
      && decide (([e] : List Expr).length + ([] : List Keyword).length + (if ([] : List Keyword).isEmpty then 0 else 1) < 30)) = true := by rfl)
    (hline : (apos.endLine == pos.line) = true := by rfl) (hs : starEach [e] X.env = (false, eval e X.env) :: starEach [] X.env := by rfl) (hplain : (backTo pos (starEach [] X.env)).any (·.1) = false := by rfl) :
    Vl X (.Call (.Attribute o "index" apos) [e] [] pos) σ H (.int ((ms.idxOf w : Nat) : Int)) := vl_of (pe_bm PySem.F.plainAttrs_list PySem.F.slot_list_index PySem.F.type_list_index mt_index pe_xe (pa_cons pe_xe pa_nil hs) hbase hfew hline hs hplain)
  fun H1 e1 Q q => ho H1 e1 _ fun l H2 e2 h2 => ⟨.inl ⟨rfl, _, h2⟩, he H2 (e1.trans e2) _ fun H3 e3 => by
    obtain ⟨g1, g2⟩ := idx_mem hm
    refine ⟨l, _, _, ms.idxOf w, .str (S w), rfl, rfl, ex_l e3 h2, rfl, flat_strs ms, by rw [List.getElem?_map, g1]; rfl, by simp [eqV], fun m z' hm' hz => ?_, q H3 (e2.trans e3)⟩
    rw [List.getElem?_map] at hz
    cases hy : ms[m]? with
    | none => rw [hy] at hz; cases hz
    | some y =>
      rw [hy] at hz
      cases hz
      show (S y == S w) = false
      have : y ≠ w := fun q => g2 m hm' (by rw [hy, q])
      simpa using fun q => this (S_inj q)⟩
/-- a comprehension over a list of one item at most, of any making -/
theorem xe_lc1 {scope : Scope} {i : Nat} {own : List (Str × Nat)} (hN : X.N.Nodup) (hc : X.calm = true) (ok : BlkOk X.N X.env.scope scope own) (hg : ∀ s H0 C cl fp, Nm (Bk X scope s H0 C cl fp) i n) (hw : ∀ x, wipe ((wipe σ (own.map (·.2))).set i (some x)) (own.map (·.2)) = wipe σ (own.map (·.2)))
    (h : XE X iter σ H fun v H1 => ∃ l xs, v = .ref l ∧ SqL X.K H1 l xs ∧ ((xs = [] ∧ ∀ q, H1 q = none → Q (.ref q) (upd H1 q (.lst []))) ∨ ∃ x, xs = [x] ∧ ∀ q, H1 q = none → ∀ s H0 C cl fp, XE (Bk X scope s H0 C cl fp) elt ((wipe σ (own.map (·.2))).set i (some x)) (upd H1 q (.lst [])) fun y H3 => Ex (upd H1 q (.lst [])) H3 ∧ Q (.ref q) (upd H3 q (.lst [y]))))
    (hs : ∀ x, foldedSetIterable iter X.env x = pure x := by intro _; rfl) : XE X (.ListComp elt [⟨.Name n p, iter, [], 0⟩] scope pos) σ H Q := by
  have hgB : ∀ s H0 C cl fp, PG (Bk X scope s H0 C cl fp) (.Name n p) (gName i) := fun s H0 C cl fp => (hg s H0 C cl fp).pg
  have heB : ∀ s H0 C cl fp, PE (Bk X scope s H0 C cl fp) elt (XEb X scope elt) := fun s H0 C cl fp => ⟨fun pins s' σ' H' Q' I h => (h s H0 C cl fp).run pins s' I⟩
  refine xe_of (pe_lc hc hN (pi_list pe_xe) ok hgB (fun _ _ _ _ _ => pts_nil) heB hs) (xe_mono h fun v H2 ⟨a, xs, ev, h2, hh⟩ => ⟨a, ev, ⟨xs, h2⟩, fun D hD => ?_⟩)
  have eD : Ex H2 (upd H2 D (.lst [])) := Ex.new hD
  rcases hh with ⟨rfl, kk⟩ | ⟨x, rfl, kk⟩
  · exact lc_it (walk_list (xs := [])) (fun j H' => H' = upd H2 D (.lst [])) rfl (fun j H' _ q => by rw [q]; exact ex_l eD h2) (fun j x H' H'' hj => absurd hj (Nat.not_lt_zero _)) (fun H' q => by rw [q]; exact kk D hD)
  · let Pv : Nat → Hp → Prop := fun j H' => (j = 0 ∧ H' = upd H2 D (.lst [])) ∨ (j = 1 ∧ Ex H2 H' ∧ Q (.ref D) H')
    refine lc_it (walk_list (xs := [x])) Pv (.inl ⟨rfl, rfl⟩) (fun j H' _ q => ?_) (fun j y H' H'' hj q ⟨ey, hy⟩ => ?_) (fun H' q => ?_)
    · rcases q with ⟨_, q⟩ | ⟨_, q, _⟩
      · rw [q]; exact ex_l eD h2
      · exact ex_l q h2
    · rcases q with ⟨rfl, q⟩ | ⟨rfl, _⟩
      · subst ey
        subst q
        cases hy
        refine ⟨hw x, ?_⟩
        refine (show (if true = true then XEb X scope elt ((wipe σ (own.map (·.2))).set i (some x)) (upd H2 D (.lst [])) (fun y H4 => ∃ acc, H4 D = some (.lst acc) ∧ acc.length < sizeLine ∧ Pv (0 + 1) (upd H4 D (.lst (acc ++ [y])))) else Pv (0 + 1) (upd H2 D (.lst []))) from ?_)
        rw [if_pos rfl]
        intro s H0 C cl fp
        exact xe_mono (kk D hD s H0 C cl fp) fun y H3 ⟨e3, q3⟩ => ⟨[], e3 _ _ upd_same, sz_lt (by simp), .inr ⟨rfl, (eD.trans e3).mut hD, q3⟩⟩
      · simp at hj
    · rcases q with ⟨q, _⟩ | ⟨_, _, q⟩
      · cases q
      · exact q
end
/-- a list of nodup items of U is no longer -/
theorem nd_leI {α : Type} [DecidableEq α] : ∀ (l U : List α), l.Nodup → (∀ x ∈ l, x ∈ U) → l.length ≤ U.length
  | [], U, _, _ => Nat.zero_le _
  | a :: l, U, nd, h => by
    have nd' := List.nodup_cons.mp nd
    have ha := h a (by simp)
    have := nd_leI l (U.erase a) nd'.2 fun x hx => (List.mem_erase_of_ne fun q => nd'.1 (by rw [← q]; exact hx)).mpr (h x (List.mem_cons_of_mem _ hx))
    rw [List.length_erase_of_mem ha] at this
    have := List.length_pos_of_mem ha
    simp only [List.length_cons]
    omega
/-- few places -/
theorem few_places {m : Nat} {ns : List Int} (h : ∀ i ∈ ns, 0 ≤ i ∧ i < (m : Int)) : (GwSt.dis ns).length ≤ m := by
  have := nd_leI (GwSt.dis ns) ((List.range m).map fun i : Nat => (i : Int)) (GwSt.dis_nd _ ns rfl) fun x hx => by
    have hx' := h x ((GwSt.dis_mem ..).mp hx)
    exact List.mem_map.mpr ⟨x.toNat, List.mem_range.mpr (by omega), by omega⟩
  rwa [List.length_map, List.length_range] at this
theorem risen_iff {ns : List Int} : ns = risen ns ↔ ns.Pairwise (· < ·) :=
  ⟨fun h => by rw [h]; exact risen_lt ns, fun h => lt_uniq h (risen_lt ns) fun k => (risen_mem ns k).symm⟩
end Gw

set_option maxRecDepth 100000
set_option maxHeartbeats 4000000
namespace Gw
open PySem PySem.Spec PyProof.Rows L2 Evl SX StrLaws
def AtO (d : PyData) (H : Hp) (xs : List V) : Prop := if someD d then ∃ v, xs = [v] ∧ Tp H v d else xs = []
def spLAtom : Sp := fun vs H Q _ => ∃ (a : W) (f : Fd) (fv : V) (l : Addr) (known : List W), vs = [.str (S a), fv, .ref l] ∧ FdAt H fv f ∧ FkOk f.k ∧ H l = some (.lst (known.map fun p => V.str (S p))) ∧ a.length ≤ 8000 ∧ 32 ∉ a ∧ RetO H Q (AtO (atomM f.k known a))
theorem ato_if {k : Bool} {H : Hp} {xs : List V} {ds : List PyData} (h : if k then ∃ v, xs = [v] ∧ Tp H v (.tuple ds) else xs = []) : AtO (if k then .tuple ds else .none) H xs := by
  cases k with
  | true => exact h
  | false => exact h
abbrev treeW : W := [116, 114, 101, 101]
theorem litTree : ("tree" : Str) = S treeW := by decide +kernel
theorem things_tree (w : W) : thingsM treeW [w] = if isPathM w then some (.tree [w]) else none := by
  rw [things_rest (by rw [← litTree]; decide +kernel) (by rw [← litTree]; decide +kernel)]
  have e1 : okW treeW w = isPathM w := by unfold okW; rw [if_pos litTree.symm]
  have e2 : mostN treeW = 9 := by unfold mostN; rw [← litTree]; decide +kernel
  rw [if_neg (show ¬ S treeW = "names" by rw [← litTree]; decide +kernel), if_pos litTree.symm]
  by_cases h : isPathM w = true
  · rw [if_pos h, if_pos]
    rw [e2]
    simp [e1, h]
  · rw [if_neg h, if_neg]
    intro q
    have := q.2.1
    simp [e1, h] at this
theorem litBM : (" -" : Str) = S [32, 45] := by decide +kernel
theorem litBP : (" +" : Str) = S [32, 43] := by decide +kernel
theorem split_sg {z : W} (h : 32 ∉ z) : Txt.split (Txt.replace (Txt.replace (S z) "-" " -") "+" " +") " " = ((markName z).1 :: mkR z).map S := by
  rw [litMinus, litPlus, litBM, litBP, litBlank, replS_eq (d := 0), replS_eq (d := 0), sg_repl, split_S (by decide) (by decide)]
  congr 1
  exact spl_sg (z.length + 1) z [] (by simp) h (Nat.lt_succ_self _)
theorem inV_int (n : Int) (ns : List Int) : inV (.int n) (ns.map V.int) = decide (n ∈ ns) := by
  unfold inV
  induction ns with
  | nil => rfl
  | cons o ns ih =>
    rw [List.map_cons, List.any_cons, ih]
    show ((o == n) || decide (n ∈ ns)) = _
    by_cases h : o = n
    · subst h; simp
    · have : (o == n) = false := by simpa using h
      rw [this]
      simp [Ne.symm h]
theorem flat_ints (ns : List Int) : (ns.map V.int).all flatV = true := by
  rw [List.all_map]
  exact List.all_eq_true.mpr fun o _ => rfl
/-- the places as the law has them -/
def plL (ms : List W) (ws : List W) : List Int := ws.map fun w => if decide (w.tail ∈ ms) then ((ms.idxOf w.tail : Nat) : Int) else -1
theorem plL_neg {ms ws : List W} : (-1 : Int) ∈ plL ms ws ↔ ¬ ∀ w ∈ ws, w.tail ∈ ms := by
  unfold plL
  constructor
  · intro h q
    obtain ⟨w, hw, e⟩ := List.mem_map.mp h
    rw [if_pos (decide_eq_true (q w hw))] at e
    omega
  · intro h
    have : ∃ w ∈ ws, w.tail ∉ ms := by
      apply Classical.byContradiction
      intro q
      exact h fun w hw => Classical.byContradiction fun z => q ⟨w, hw, z⟩
    obtain ⟨w, hw, hn⟩ := this
    exact List.mem_map.mpr ⟨w, hw, by rw [if_neg (by simpa using hn)]⟩
theorem plL_eq {ms ws : List W} (h : ∀ w ∈ ws, w.tail ∈ ms) : plL ms ws = plI ms ws := by
  unfold plL plI
  exact List.map_congr_left fun w hw => by rw [if_pos (decide_eq_true (h w hw))]
def badB (ms : List W) (z : W) : Bool := !decide ((markName z).1 = []) || ((mkR z).isEmpty || (decide ((-1 : Int) ∈ plL ms (mkR z)) || !decide (plL ms (mkR z) = risen (plL ms (mkR z)))))
theorem marksM_bad (ms : List W) (z : W) : marksM z ms = if badB ms z then .none else .tuple [.str "marks", strsD (onR (mkR z)), strsD (offR (mkR z))] := by
  rw [marksM_law]
  by_cases h : ((markName z).1 = [] ∧ mkR z ≠ []) ∧ (∀ w ∈ mkR z, w.tail ∈ ms) ∧ (plI ms (mkR z)).Pairwise (· < ·)
  · rw [if_pos h, if_neg]
    obtain ⟨⟨h1, h2⟩, h3, h4⟩ := h
    unfold badB
    rw [decide_eq_true h1, decide_eq_false (fun q => plL_neg.mp q h3), plL_eq h3, decide_eq_true (risen_iff.mpr h4)]
    cases e : mkR z with
    | nil => exact absurd e h2
    | cons _ _ => simp
  · rw [if_neg h, if_pos]
    apply Classical.byContradiction
    intro hb
    unfold badB at hb
    simp only [Bool.or_eq_true, Bool.not_eq_true', decide_eq_false_iff_not, decide_eq_true_eq, not_or, Classical.not_not, List.isEmpty_iff] at hb
    obtain ⟨b1, b2, b3, b4⟩ := hb
    have h3 : ∀ w ∈ mkR z, w.tail ∈ ms := Classical.byContradiction fun q => b3 (plL_neg.mpr q)
    rw [plL_eq h3] at b4
    exact h ⟨⟨b1, b2⟩, h3, risen_iff.mp b4⟩
theorem le_sumN {n : Nat} : ∀ {l : List Nat}, n ∈ l → n ≤ l.sum
  | [], h => by cases h
  | a :: l, h => by
    rw [List.sum_cons]
    rcases List.mem_cons.mp h with q | q
    · omega
    · have := le_sumN q; omega
theorem tp_oIV {H : Hp} (o : Option Nat) : Tp H (oIV (toI o)) (numD o) := by rw [oIV_toI]; exact tp_oV o
section
variable {P : Program} {w : World} {K : PySem.W.Frag} {mg : Str → Option Value} {base : Heap}
theorem ok_lAtom (T : Tx K mg) : Gd P w K mg base 3 "_law_atom_read" spLAtom := by
  have GT : Gd P w K mg base 2 "_law_things" spLThings := ok_lThings T
  have GE : Gd P w K mg base 2 "_law_ends" spLEnds := ok_lEnds T
  refine gd_of T dLawAtomRead 55 T.g__law_atom_read scLawAtomRead (fun _ _ _ _ _ _ us hl => match us, hl with | [_, _, _], _ => rfl) (fun _ _ _ _ ⟨_, _, _, _, _, e, _⟩ => by subst e; rfl) fun f cdv A outer s H vs Q E hr ⟨z, fd, fv, kl, kn, e, hf, hok, hl, hz, h32, k⟩ => ?_
  subst e
  have nd := scLawAtomRead.nd
  have hz4 : z.length ≤ 40000 := by omega
  have hf0 := hf
  obtain ⟨fa, tv, rfl, hfa, hth⟩ := hf
  refine xb_un2 3 4 (tu_is (ul_tu (u_slT (vl_tu (v_v 1) (.inl hfa)) (o_s v_int) o_n slT1)) (show cutV _ (some ((1 : Nat) : Int)) none = [.str fd.k.word, tv] by rw [cutV_from]; rfl)) fun H1 e1 => ?_
  have kif : ∀ {H2 : Hp} {kb : Bool} {ds : List PyData}, Ex H H2 → atomM fd.k kn z = (if kb then .tuple ds else .none) → ∀ l xs H3, H2 l = none → Ex H2 H3 → H3 l = some (.lst xs) → (if kb then ∃ v, xs = [v] ∧ Tp H3 v (.tuple ds) else xs = []) → Q (.ref l) H3 := fun {H2} {kb} {ds} e2 ea l xs H3 hl' e3 h3 hh => k l xs H3 (fresh_back e2 hl') (e2.trans e3) h3 (by rw [ea]; exact ato_if hh)
  obtain ⟨fn, fk⟩ := fd
  have last1 : ∀ {H' : Hp} {σ' : L2.St} {e : Expr} {p p2 pos : Pos} {j : Nat}, Vl (Cxd dLawAtomRead P w K mg base nLawAtomRead f cdv A outer s H E) e σ' H' (.str (S z)) → Vl (Cxd dLawAtomRead P w K mg base nLawAtomRead f cdv A outer s H E) (.Subscript e (.Slice (some (.UnaryOp .USub (.Constant (.int 1) j p) p2)) none none pos) pos) σ' H' (.str (S (z.drop (z.length - 1)))) := fun h => v_slW h (o_s (v_neg v_int)) o_n hz4 cut_last1
  cases fk with
  | names ws =>
    refine xb_yes (b_kw true "names" (v_v 3)) fun H2 e2 => ?_
    have E2 := e1.trans e2
    exact xb_retE (xe_repD (k := decide (z ∈ kn)) (d_tup (da_cons (d_str v_str) (da_cons (d_str (v_v 0)) da_nil))) (v_intB T.f_int (vl_is (vc (c_inL (v_v 0) (vl_sl (v_v 2) (sq_of (E2 _ _ hl))) rfl (flat_strs kn))) (by rw [inV_strs]))) (kif E2 rfl))
  | tree ws =>
    obtain ⟨t, rfl, ht⟩ := hth
    refine xb_no (b_kw false "tree" (v_v 3)) fun H2 e2 => ?_
    refine xb_when (k := z.getLast? == some 47) (bl_is (b_w (w_and (j := true) (k := z.getLast? == some 47) (b_kw true "tree" (v_v 3)) fun _ => w_and1 (bl_is (bc (c_eq (v_slW (v_v 0) (o_s (v_neg v_int)) o_n hz4 cut_last1) v_str)) (by rw [litSlash, dec_V, dec_S, drop_last1])))) (Bool.true_and _)) (fun hk H3 e3 => ?_) fun hk H3 e3 => ?_
    · have E3 := (e1.trans e2).trans e3
      have hn : z ≠ [] := by intro q; rw [q] at hk; cases hk
      have ld : z.dropLast.length ≤ 40000 := by rw [List.length_dropLast]; omega
      have ea : atomM (.tree ws) kn z = if (decide (z.dropLast = []) || isPathM z.dropLast) then .tuple [.str "under", strD z.dropLast] else .none := by
        show pathM z ws = _
        unfold pathM
        rw [if_pos hk]
        have : (z.dropLast == []) = decide (z.dropLast = []) := by by_cases q : z.dropLast = [] <;> simp [q]
        rw [this]
      have hsl : z = [47] ↔ z.dropLast = [] := by
        have h1 := List.dropLast_concat_getLast hn
        have h2 : z.getLast hn = 47 := by rw [List.getLast?_eq_getLast hn] at hk; simpa using hk
        rw [h2] at h1
        constructor
        · intro q; rw [q]; rfl
        · intro q; rw [q] at h1; exact h1.symm
      refine xb_retE (xe_repD (k := decide (z.dropLast = []) || isPathM z.dropLast) (d_tup (da_cons (d_str v_str) (da_cons (d_str (vl_is (v_slS (v_v 0) o_n (o_s (v_neg v_int)) (szS hz4)) (by rw [cut_butlast hn]))) da_nil))) (v_intB T.f_int (v_or (j := decide (z.dropLast = [])) (k := isPathM z.dropLast) (vl_is (vc (c_eq (v_v 0) v_str)) (by rw [litSlash, dec_V, dec_S]; congr 1; exact decide_eq_decide.mpr hsl)) fun _ => v_one (vl_is (vc (c_neNilE (k := !isPathM z.dropLast) hr ?_)) (by rw [Bool.not_not])))) (kif E3 ea))
      intro H4 e4 Q' k'
      exact xe_call GT hr passL (xa_cons (xe_v v_str fun H5 e5 => xa_cons (xe_l (l_lst (a_1 (vl_is (v_slS (v_v 0) o_n (o_s (v_neg v_int)) (szS hz4)) (by rw [cut_butlast hn])))) fun wl H6 hwl e6 h6 => xa_nil ⟨treeW, wl, [z.dropLast], by rw [litTree], h6, ⟨by simp, fun a ha => by simp at ha; rw [ha]; exact ld⟩, fun p xs H7 hp e7 h7 th => k' _ H7 ((e5.trans e6).trans e7) ⟨p, xs, rfl, sq_of h7, by
        rw [things_tree] at th
        cases hp2 : isPathM z.dropLast with
        | true => rw [hp2] at th; obtain ⟨v, ev, _⟩ := th; rw [ev]; rfl
        | false => rw [hp2] at th; have q : xs = [] := th; rw [q]; rfl⟩⟩)))
    · have E3 := (e1.trans e2).trans e3
      refine xb_yes (b_kw true "tree" (v_v 3)) fun H4 e4 => ?_
      have E4 := E3.trans e4
      exact xb_retE (xe_repD (k := decide (z ∈ ws)) (d_tup (da_cons (d_str v_str) (da_cons (d_str (v_v 0)) da_nil))) (v_intB T.f_int (vl_is (vc (c_inT (v_v 0) (vl_tu (v_v 4) (.inl (ht.mono E4).rd)) rfl (flat_strs ws))) (by rw [inV_strs]))) (kif E4 (by
        show pathM z ws = _
        unfold pathM
        rw [if_neg (by rw [hk]; decide)]
        rfl)))
  | number n =>
    have q : tv = _ := hth
    subst q
    refine xb_no (b_kw false "number" (v_v 3)) fun H2 e2 => xb_no (bl_is (b_w (w_and (j := false) (k := false) (b_kw false "number" (v_v 3)) fun q => by cases q)) rfl) fun H3 e3 => xb_no (b_kw false "number" (v_v 3)) fun H4 e4 => xb_no (b_kw false "number" (v_v 3)) fun H5 e5 => xb_no (b_kw false "number" (v_v 3)) fun H6 e6 => ?_
    have E6 := ((((e1.trans e2).trans e3).trans e4).trans e5).trans e6
    have k2 : RetO H Q (AtO (fromM z n)) := k
    rw [from_ends] at k2
    refine xb_retE (xe_lc1 (i := 14) (own := [("_law_ends_here", 14)]) nd rfl (blkOk_by (N := nLawAtomRead) (sc := defScope sLawAtomRead) (by decide +kernel)) (fun _ _ _ _ _ => ⟨by assumption, rfl, Or.inl rfl, Or.inr rfl⟩) (by intro _; rfl) (xe_call GE hr passL (xa_cons (xe_v (v_v 0) fun H7 e7 => xa_cons (xe_v (v_v 1) fun H8 e8 => xa_nil ⟨z, ⟨fn, .number n⟩, .ref fa, rfl, hf0.mono ((E6.trans e7).trans e8), .inr ⟨n, rfl⟩, hz, fun p xs H9 hp e9 h9 en => ?_⟩)))))
    have E9 := ((E6.trans e7).trans e8).trans e9
    have en2 : EnO (endsF (some n) (eoN z)) H9 xs := en
    rw [endsN_F] at en2
    cases hE : endsN z n with
    | none =>
      rw [hE] at en2 k2
      have q : xs = [] := en2
      exact ⟨p, xs, rfl, sq_of h9, .inl ⟨q, fun r hr' => k2 r [] _ (fresh_back E9 hr') (E9.trans (Ex.new hr')) upd_same rfl⟩⟩
    | some lh =>
      obtain ⟨l, h⟩ := lh
      rw [hE] at en2 k2
      obtain ⟨q, ex, hq⟩ := en2
      refine ⟨p, xs, rfl, sq_of h9, .inr ⟨.ref q, ex, fun r hr' s' H0 C cl fp => ?_⟩⟩
      have er := Ex.new (o := .lst []) hr'
      refine xe_d (d_tup (da_cons (d_str (v_if (k := false) (b_kw false "number" (v_v 3)) (fun q => by cases q) fun _ => v_str)) (da_cons (d_v (v_ixL (vl_sl (v_v 14) (sq_of (er _ _ hq))) v_int rfl) (tp_oIV l)) (da_cons (d_v (v_ixL (vl_sl (v_v 14) (sq_of (er _ _ hq))) v_int rfl) (tp_oIV h)) da_nil)))) fun y H10 e10 t => ⟨e10, ?_⟩
      exact k2 r [y] _ (fresh_back E9 hr') (E9.trans ((er.trans e10).mut hr')) upd_same ⟨y, rfl, t.tex ((Fex.refl _).mut (noTup.lst (e10 _ _ upd_same))).tex⟩
  | bits n =>
    have q : tv = _ := hth
    subst q
    refine xb_no (b_kw false "bits" (v_v 3)) fun H2 e2 => xb_no (bl_is (b_w (w_and (j := false) (k := false) (b_kw false "bits" (v_v 3)) fun q => by cases q)) rfl) fun H3 e3 => xb_no (b_kw false "bits" (v_v 3)) fun H4 e4 => xb_yes (b_kw true "bits" (v_v 3)) fun H5 e5 => ?_
    have E5 := (((e1.trans e2).trans e3).trans e4).trans e5
    obtain ⟨bits, hbits⟩ : ∃ b : W, b = if z.getLast? == some 42 then z.dropLast else z := ⟨_, rfl⟩
    have lb : bits.length ≤ 40000 := by rw [hbits]; split; rw [List.length_dropLast]; omega; exact hz4
    refine xb_set 5 (v := .str (S bits)) (vl_is (v_slS (v_v 0) o_n (o_s (v_sub (v_lenW T.f_len (v_v 0) hz4) (v_intB (k := z.getLast? == some 42) T.f_int (vl_is (vc (c_eq (v_slW (v_v 0) (o_s (v_neg v_int)) o_n hz4 cut_last1) v_str)) (by rw [litStar, dec_V, dec_S, drop_last1]))))) (szS hz4)) ?_) fun H6 e6 => ?_
    · congr 1
      rw [hbits]
      cases hb : z.getLast? == some 42 with
      | true =>
        have hn : z ≠ [] := by intro q; rw [q] at hb; cases hb
        have hp : 0 < z.length := List.length_pos_iff.mpr hn
        rw [if_pos rfl, if_pos rfl, show (z.length : Int) - 1 = ((z.length - 1 : Nat) : Int) from by omega, cut_to, List.dropLast_eq_take]
      | false =>
        rw [if_neg (by decide), if_neg (by decide), show (z.length : Int) - 0 = ((z.length : Nat) : Int) from by omega, cut_to, List.take_length]
    · have E6 := E5.trans e6
      have hne : (!decide (bits = z)) = (z.getLast? == some 42) := by
        rw [hbits]
        cases hb : z.getLast? == some 42 with
        | true =>
          have hn : z ≠ [] := by intro q; rw [q] at hb; cases hb
          rw [if_pos rfl, decide_eq_false]
          · rfl
          · intro q
            have := congrArg List.length q
            rw [List.length_dropLast] at this
            have := List.length_pos_iff.mpr hn
            omega
        | false => rw [if_neg (by decide), decide_eq_true rfl]; rfl
      refine xb_set 6 (v := .bl (if z.getLast? == some 42 then decide (bits.length < n) else decide (bits.length = n))) (v_if (k := z.getLast? == some 42) (bl_is (bc (c_ne (v_v 5) (v_v 0))) (by rw [dec_V, dec_S, hne])) (fun q => vl_is (vc (c_lt (v_lenW T.f_len (v_v 5) lb) (v_v 4))) (by rw [if_pos q, dec_ltN])) fun q => vl_is (vc (c_eq (v_lenW T.f_len (v_v 5) lb) (v_v 4))) (by rw [if_neg (by rw [q]; decide), dec_lenEq])) fun H7 e7 => ?_
      have E7 := E6.trans e7
      refine xb_set 6 (v := .bl ((if z.getLast? == some 42 then decide (bits.length < n) else decide (bits.length = n)) && amongL bits "01")) (v_and (v_v 6) fun _ => v_one (vl_is (vc (c_eqNil hr (ll_sl (cp_ll (lc_fil (i := 11) (own := [("_law_sign", 11)]) (ws := bits) (enc := fun c => V.str ⟨#[c]⟩) (fun c => !decide (c ∈ ("01" : Str).cps.toList)) (fun c => V.str ⟨#[c]⟩) (il_S (z := S bits) (v_v 5)) lb
        (blkOk_by (N := nLawAtomRead) (sc := defScope sLawAtomRead) (by decide +kernel)) (fun _ _ _ _ _ c _ => bc (c_ninC (v_v 11) v_str)) (fun _ _ _ _ _ c _ _ => v_v 11)))))) (by rw [isEmpty_map, among_filter]))) fun H8 e8 => ?_
      have E8 := E7.trans e8
      refine xb_retE (xe_repD (d_tup (da_cons (d_str v_str) (da_cons (d_str (v_v (v := .str (S bits)) 5)) da_nil))) (v_intB T.f_int (v_v 6)) (kif E8 ?_))
      show firstM z n = _
      unfold firstM
      rw [hbits]
      cases hb : z.getLast? == some 42 with
      | true =>
        simp [Bool.and_comm, strD]
      | false =>
        simp [Bool.and_comm, strD]
  | marks ms =>
    obtain ⟨t, rfl, ht⟩ := hth
    have hms : ms.length ≤ 5 ∧ ∀ a ∈ ms, isNameM a = true := hok
    refine xb_noT (v_v (v := .str "marks") 3) (by decide +kernel) fun H2 e2 => xbt_no (bl_is (b_w (w_and (j := false) (k := false) (b_kw false "marks" (v_v 3)) fun q => by cases q)) rfl) fun H3 e3 => xbt_no (b_kw false "marks" (v_v 3)) fun H4 e4 => xbt_no (b_kw false "marks" (v_v 3)) fun H5 e5 => xbt_yes (b_kw true "marks" (v_v 3)) fun H6 e6 => ?_
    have E6 := ((((e1.trans e2).trans e3).trans e4).trans e5).trans e6
    have r1 := TK.replace_len (S z) "-" " -"
    have r2 := TK.replace_len (Txt.replace (S z) "-" " -") "+" " +"
    have lS : (S z).length = z.length := S_len _
    rw [lS] at r1
    have l2 : (" -" : Str).length = 2 := by decide +kernel
    have l3 : (" +" : Str).length = 2 := by decide +kernel
    rw [l2] at r1
    rw [l3] at r2
    refine xbt_rep (x := S z) (y := "-") (z := " -") (y2 := "+") (z2 := " +") (u := " ") 7 (v_v (v := .str (S z)) 0) v_str (by rw [lS, l2]; omega) (by rw [l3]; omega) (by decide +kernel) (Nat.le_trans (show (Txt.replace (Txt.replace (S z) "-" " -") "+" " +").length + 2 ≤ 100000 by omega) (by decide)) fun rl H7 hrl e7 h7 => ?_
    rw [split_sg h32, List.map_map] at h7
    have E7 := E6.trans e7
    have h7' : H7 rl = some (.lst (.str (S (markName z).1) :: (mkR z).map fun w => V.str (S w))) := h7
    have ml := mkR_len z
    have wl : ∀ w ∈ mkR z, w.length ≤ 8000 := fun w hw => by
      have : w.length ≤ ((mkR z).map (·.length)).sum := le_sumN (List.mem_map_of_mem hw)
      omega
    have rows_n : (mkR z).length ≤ 8000 := by
      have h1 : ∀ l : List W, (∀ w ∈ l, ∃ c r, w = c :: r ∧ signC c = true) → l.length ≤ (l.map (·.length)).sum := by
        intro l
        induction l with
        | nil => intro _; exact Nat.zero_le _
        | cons w l ih =>
          intro h
          obtain ⟨c, r, ew, _⟩ := h w (by simp)
          have := ih fun x hx => h x (List.mem_cons_of_mem _ hx)
          rw [ew]
          simp only [List.map_cons, List.sum_cons, List.length_cons]
          omega
      have := h1 _ (mkR_sign z)
      omega
    have behind : ∀ {H' : Hp} {σ' : L2.St} {e : Expr} {p p2 pos : Pos} {j : Nat} {X' : Cx}, X'.K = K → SqL K H' rl (.str (S (markName z).1) :: (mkR z).map fun w => V.str (S w)) → True := fun _ _ => trivial
    refine xb_setCv (zs := (mkR z).map fun w => V.str (S w.tail)) 8 (lc_map (i := 12) (own := [("_law_row", 12)]) (ws := mkR z) (enc := fun w => V.str (S w)) (fun w => V.str (S w.tail)) (il_L (ll_sl (ll_is (l_slL (vl_sl (v_v 7) (sq_of h7')) (o_s v_int) o_n) (show cutV _ (some ((1 : Nat) : Int)) none = (mkR z).map fun w => V.str (S w) by rw [cutV_from]; rfl)))) (by omega)
      (blkOk_by (N := nLawAtomRead) (sc := defScope sLawAtomRead) (by decide +kernel)) (fun _ _ _ _ _ w hw => v_slW (v_v 12) (o_s v_int) o_n (by have := wl w hw; omega) (by rw [show ((1 : Int)) = ((1 : Nat) : Int) from rfl, cut_from, List.drop_one]))) fun nl H8 hnl e8 h8 => ?_
    have E8 := E7.trans e8
    refine xb_setCv (zs := (plL ms (mkR z)).map V.int) 9 ((lc_map (i := 13) (own := [("_law_name", 13)]) (ws := mkR z) (enc := fun w => V.str (S w.tail)) (fun w => V.int (if decide (w.tail ∈ ms) then ((ms.idxOf w.tail : Nat) : Int) else -1)) (il_L (vl_sl (v_v 8) (sq_of h8))) (by omega)
      (blkOk_by (N := nLawAtomRead) (sc := defScope sLawAtomRead) (by decide +kernel)) (fun _ _ _ _ _ w hw => v_if (k := decide (w.tail ∈ ms)) (bl_is (bc (c_inT (v_v (v := .str (S w.tail)) 13) (vl_tu (v_v 4) (.inl (ht.mono E8).rd)) rfl (flat_strs ms))) (inV_strs ms)) (fun q => vl_is (v_lidx (ll_sl (l_listT T.f_list (vl_tu (v_v 4) (.inl (ht.mono E8).rd)))) (v_v 13) (of_decide_eq_true q)) (by rw [if_pos q])) fun q => vl_is (v_neg v_int) (by rw [if_neg (by rw [q]; decide)]))).is fun _ _ _ _ q => by rw [q]; unfold plL; rw [List.map_map]; rfl) fun pl H9 hpl e9 h9 => ?_
    have E9 := E8.trans e9
    have h79 := (e8.trans e9) _ _ h7'
    have ka : RetO H Q (AtO (marksM z ms)) := k
    rw [marksM_bad] at ka
    refine xb_when (k := badB ms z) (b_w (w_or (bl_is (bc (c_ne (v_ixLn 0 (v := .str (S (markName z).1)) (vl_sl (v_v 7) (sq_of h79)) v_int rfl) v_str)) (by rw [dec_nil])) fun _ => w_or (bl_is (bc (c_eqNil hr (vl_sl (v_v 9) (sq_of h9)))) (by rw [isEmpty_map]; unfold plL; rw [isEmpty_map])) fun _ => w_or (bl_is (bc (c_inL (v_neg v_int) (vl_sl (v_v 9) (sq_of h9)) rfl (flat_ints _))) (inV_int _ _)) fun q => w_or1 (bc (c_neI hr (vl_sl (v_v 9) (sq_of h9)) (ll_sl (l_sortedSet T.f_sorted T.f_set (vl_sl (v_v 9) (sq_of h9)) ?_ ?_)))))) (fun hb H10 e10 => ?_) fun hb H10 e10 => ?_
    · -- each piece is a sign and a name
      have hall : ∀ w ∈ mkR z, w.tail ∈ ms := Classical.byContradiction fun y => (of_decide_eq_false q) (plL_neg.mpr y)
      have h1 : ∀ l : List W, (∀ w ∈ l, 2 ≤ w.length) → 2 * l.length ≤ (l.map (·.length)).sum := by
        intro l
        induction l with
        | nil => intro _; exact Nat.zero_le _
        | cons w l ih =>
          intro h
          have h2 := h w (by simp)
          have := ih fun x hx => h x (List.mem_cons_of_mem _ hx)
          simp only [List.map_cons, List.sum_cons, List.length_cons]
          omega
      have := h1 (mkR z) fun w hw => by
        have hn := hms.2 _ (hall w hw)
        unfold isNameM at hn
        simp only [Bool.and_eq_true, decide_eq_true_eq] at hn
        have := hn.1.1
        rw [List.length_tail] at this
        omega
      unfold plL
      rw [List.length_map]
      omega
    · have hall : ∀ w ∈ mkR z, w.tail ∈ ms := Classical.byContradiction fun y => (of_decide_eq_false q) (plL_neg.mpr y)
      rw [plL_eq hall]
      have := few_places (m := ms.length) (ns := plI ms (mkR z)) fun i hi => by
        obtain ⟨w, hw, ew⟩ := List.mem_map.mp hi
        have := List.idxOf_lt_length_of_mem (hall w hw)
        omega
      omega
    · rw [if_pos hb] at ka
      exact xb_retE (xe_l (l_lst a_nil) fun p H11 hp e11 h11 => ka p [] H11 (fresh_back (E9.trans e10) hp) ((E9.trans e10).trans e11) h11 rfl)
    · rw [if_neg (by rw [hb]; decide)] at ka
      have E10 := E9.trans e10
      have hb' := hb
      unfold badB at hb'
      simp only [Bool.or_eq_false_iff, decide_eq_false_iff_not, Bool.not_eq_false', decide_eq_true_eq] at hb'
      obtain ⟨-, -, b3, b4⟩ := hb'
      have hall : ∀ w ∈ mkR z, w.tail ∈ ms := Classical.byContradiction fun y => b3 (plL_neg.mpr y)
      have hnd : ((mkR z).map List.tail).Nodup := by
        rw [plL_eq hall] at b4
        have hp := risen_iff.mp b4
        unfold plI at hp
        rw [List.pairwise_map] at hp
        unfold List.Nodup
        rw [List.pairwise_map]
        exact hp.imp fun {a b} h q => by rw [q] at h; omega
      refine xb_setU 10 (xs := (onR (mkR z)).map fun a => V.str (S a)) (fun H' e' Q' k' => (u_tuple T.f_tuple (ll_sl (ll_is (cp_ll (lc_fil (i := 12) (own := [("_law_row", 12)]) (ws := mkR z) (enc := fun w => V.str (S w)) (fun w => w.head? == some 43) (fun w => V.str (S w.tail)) (il_L (ll_sl (ll_is (l_slL (vl_sl (v_v 7) (sq_of (e10 _ _ h79))) (o_s v_int) o_n) (show cutV _ (some ((1 : Nat) : Int)) none = (mkR z).map fun w => V.str (S w) by rw [cutV_from]; rfl)))) (by omega)
        (blkOk_by (N := nLawAtomRead) (sc := defScope sLawAtomRead) (by decide +kernel)) (fun _ _ _ _ _ w hw => ?_) (fun _ _ _ _ _ w hw _ => v_slW (v_v 12) (o_s v_int) o_n (by have := wl w hw; omega) (by rw [show ((1 : Int)) = ((1 : Nat) : Int) from rfl, cut_from, List.drop_one])))) (by unfold onR; rw [List.map_map]; rfl)))) H' e' Q' k') fun ot H11 hot e11 h11 => ?_
      · obtain ⟨c, r, ew, _⟩ := mkR_sign z w hw
        subst ew
        refine bl_is (bc (c_eq (v_ixW 0 (v_v 12) v_int (by have := wl _ hw; omega) (c := c) rfl) v_str)) ?_
        rw [litPlus, dec_V, dec_S, dec_one]
        simp
      · have E11 := E10.trans e11
        have h8' := (e9.trans (e10.trans e11)) _ _ h8
        have oneD : (mkR z).map (fun w => V.str (S w.tail)) = ((mkR z).map List.tail).map fun a => V.str (S a) := by rw [List.map_map]; rfl
        rw [oneD] at h8'
        refine xb_retE (xe_lst (xa_cons (xe_d (d := .tuple [.str "marks", strsD (onR (mkR z)), strsD (offR (mkR z))]) (d_tup (da_cons (d_str v_str) (da_cons (d_v (v_v 10) (.tup (.inl h11) TpA.of_strs)) (da_cons (d_is (d_tupL (ds := (offR (mkR z)).map strD) T.f_tuple (ll_sl (ll_is (cp_ll (lc_fil (i := 13) (own := [("_law_name", 13)]) (ws := (mkR z).map List.tail) (enc := fun a => V.str (S a)) (fun a => !decide (a ∈ onR (mkR z))) (fun a => V.str (S a)) (il_L (vl_sl (v_v 8) (sq_of h8'))) (by rw [List.length_map]; omega)
          (blkOk_by (N := nLawAtomRead) (sc := defScope sLawAtomRead) (by decide +kernel)) (fun _ _ _ _ _ a ha => bl_is (bc (c_ninT (v_v 13) (vl_tu (v_v 10) (.inl (.inl h11))) rfl (flat_strs _))) (by rw [inV_strs])) (fun _ _ _ _ _ a ha _ => v_v 13))) (by rw [off_by hnd]))) TpA.of_strs) rfl) da_nil)))) fun y H12 e12 ty => xa_nil ⟨by simp, fun p hp => ?_⟩)))
        have E12 := E11.trans e12
        exact ka p [y] _ (fresh_back E12 hp) (E12.trans (Ex.new hp)) upd_same ⟨y, rfl, ty.mono (Ex.new hp)⟩
  | clock =>
    have q : tv = _ := hth
    subst q
    refine xb_no (b_kw false "clock" (v_v 3)) fun H2 e2 => xb_no (bl_is (b_w (w_and (j := false) (k := false) (b_kw false "clock" (v_v 3)) fun q => by cases q)) rfl) fun H3 e3 => xb_no (b_kw false "clock" (v_v 3)) fun H4 e4 => xb_no (b_kw false "clock" (v_v 3)) fun H5 e5 => xb_no (b_kw false "clock" (v_v 3)) fun H6 e6 => ?_
    have E6 := ((((e1.trans e2).trans e3).trans e4).trans e5).trans e6
    have k2 : RetO H Q (AtO (clockM z)) := k
    rw [clock_ends] at k2
    refine xb_retE (xe_lc1 (i := 14) (own := [("_law_ends_here", 14)]) nd rfl (blkOk_by (N := nLawAtomRead) (sc := defScope sLawAtomRead) (by decide +kernel)) (fun _ _ _ _ _ => ⟨by assumption, rfl, Or.inl rfl, Or.inr rfl⟩) (by intro _; rfl) (xe_call GE hr passL (xa_cons (xe_v (v_v 0) fun H7 e7 => xa_cons (xe_v (v_v 1) fun H8 e8 => xa_nil ⟨z, ⟨fn, .clock⟩, .ref fa, rfl, hf0.mono ((E6.trans e7).trans e8), .inl rfl, hz, fun p xs H9 hp e9 h9 en => ?_⟩)))))
    have E9 := ((E6.trans e7).trans e8).trans e9
    have en2 : EnO (endsF none (eoC z)) H9 xs := en
    rw [endsC_F] at en2
    cases hE : endsC z with
    | none =>
      rw [hE] at en2 k2
      have q : xs = [] := en2
      exact ⟨p, xs, rfl, sq_of h9, .inl ⟨q, fun r hr' => k2 r [] _ (fresh_back E9 hr') (E9.trans (Ex.new hr')) upd_same rfl⟩⟩
    | some lh =>
      obtain ⟨l, h⟩ := lh
      rw [hE] at en2 k2
      obtain ⟨q, ex, hq⟩ := en2
      refine ⟨p, xs, rfl, sq_of h9, .inr ⟨.ref q, ex, fun r hr' s' H0 C cl fp => ?_⟩⟩
      have er := Ex.new (o := .lst []) hr'
      refine xe_d (d_tup (da_cons (d_str (v_if (k := true) (b_kw true "clock" (v_v 3)) (fun _ => v_str) fun q => by cases q)) (da_cons (d_v (v_ixL (vl_sl (v_v 14) (sq_of (er _ _ hq))) v_int rfl) (tp_oIV (some l))) (da_cons (d_v (v_ixL (vl_sl (v_v 14) (sq_of (er _ _ hq))) v_int rfl) (tp_oIV (some h))) da_nil)))) fun y H10 e10 t => ⟨e10, ?_⟩
      exact k2 r [y] _ (fresh_back E9 hr') (E9.trans ((er.trans e10).mut hr')) upd_same ⟨y, rfl, t.tex ((Fex.refl _).mut (noTup.lst (e10 _ _ upd_same))).tex⟩
end
end Gw

set_option maxRecDepth 100000
set_option maxHeartbeats 4000000
namespace Gw
open PySem PySem.Spec PyProof.Rows L2 Evl SX
/-- the law's state: a dict of three lists -/
abbrev kvS (g c d : Addr) : List (Key × V) := [(.inr "field", .ref g), (.inr "group", .ref c), (.inr "gate", .ref d)]
theorem kvS_f (g c d : Addr) : valV (kvS g c d) (.inr "field") = some (.ref g) := valV_pos rfl
theorem kvS_g (g c d : Addr) : valV (kvS g c d) (.inr "group") = some (.ref c) := by
  rw [valV_neg (by simpa using (show ¬ ("field" : Str) = "group" by decide +kernel))]
  exact valV_pos rfl
theorem kvS_t (g c d : Addr) : valV (kvS g c d) (.inr "gate") = some (.ref d) := by
  rw [valV_neg (by simpa using (show ¬ ("field" : Str) = "gate" by decide +kernel)), valV_neg (by simpa using (show ¬ ("group" : Str) = "gate" by decide +kernel))]
  exact valV_pos rfl
structure LsAt (H0 : Hp) (sd g c d : Addr) (ps : List (Addr × Addr)) (st : Ho) (H : Hp) : Prop where
  dic : H sd = some (.dK (kvS g c d))
  sd0 : H0 sd = none
  sta : StAt true H0 g c d ps st H
  ok : HoOk st
theorem LsAt.mono {H0 H H' : Hp} {sd g c d : Addr} {ps : List (Addr × Addr)} {st : Ho} (e : Ex H H') (h : LsAt H0 sd g c d ps st H) : LsAt H0 sd g c d ps st H' := ⟨e _ _ h.dic, h.sd0, h.sta.mono e, h.ok⟩
def condD (st : Ho) (a : W) : PyData := match condM st a with
  | some p => p.2
  | none => .none
def spLCond : Sp := fun vs H Q _ => ∃ (H0 : Hp) (sd g c d : Addr) (ps : List (Addr × Addr)) (st : Ho) (a : W), vs = [.ref sd, .str (S a)] ∧ LsAt H0 sd g c d ps st H ∧ a.length ≤ 8000 ∧ 32 ∉ a ∧ RetO H Q (AtO (condD st a))
section
variable {X : Cx} {a b : Expr} {σ : L2.St} {H : Hp} {xs : List V} {pos : Pos}
/-- t or (), t a tuple -/
theorem tu_or (ha : Tu X a σ H xs) (hb : xs = [] → Tu X b σ H []) : Tu X (.BoolOp .Or [a, b] pos) σ H xs := fun H1 e1 Q k => xe_of (pe_orT pe_xe (pe_one pe_xe)) (ha H1 e1 _ fun p H2 e2 h2 => by
  refine ⟨!xs.isEmpty, .inr (.inl ⟨xs, h2, rfl⟩), ?_⟩
  cases xs with
  | nil => exact hb rfl H2 (e1.trans e2) Q fun q H3 e3 h3 => k q H3 (e2.trans e3) h3
  | cons x r => exact k p H2 e2 h2)
end
theorem AtO.mono {d : PyData} {H H' : Hp} {xs : List V} (e : Ex H H') (h : AtO d H xs) : AtO d H' xs := by
  unfold AtO at h ⊢
  split
  · rename_i q
    rw [if_pos q] at h
    obtain ⟨v, a, b⟩ := h
    exact ⟨v, a, b.mono e⟩
  · rename_i q
    rw [if_neg q] at h
    exact h
theorem AtO.tex {d : PyData} {H H' : Hp} {xs : List V} (e : Tex H H') (h : AtO d H xs) : AtO d H' xs := by
  unfold AtO at h ⊢
  split
  · rename_i q
    rw [if_pos q] at h
    obtain ⟨v, a, b⟩ := h
    exact ⟨v, a, b.tex e⟩
  · rename_i q
    rw [if_neg q] at h
    exact h
/-- a list of none or one thing, not at D -/
def AtR (dt : W → PyData) (D : Addr) (x : W) (y : V) (H : Hp) : Prop := ∃ l xs, y = .ref l ∧ l ≠ D ∧ H l = some (.lst xs) ∧ AtO (dt x) H xs
theorem AtR.mono {dt : W → PyData} {D : Addr} {x : W} {y : V} {H H' : Hp} (e : Ex H H') (h : AtR dt D x y H) : AtR dt D x y H' := let ⟨l, xs, a, b, c, d⟩ := h; ⟨l, xs, a, b, e _ _ c, d.mono e⟩
theorem AtR.upd {dt : W → PyData} {D : Addr} {x : W} {y : V} {H : Hp} {l l' : List V} (h : AtR dt D x y H) (hl : H D = some (.lst l)) : AtR dt D x y (L2.upd H D (.lst l')) := let ⟨r, xs, a, b, c, d⟩ := h; ⟨r, xs, a, b, by rw [upd_ne b]; exact c, d.tex ((Fex.refl _).mut (noTup.lst hl)).tex⟩
/-- which of them are empty -/
theorem atR_empty {K : PySem.W.Frag} {dt : W → PyData} {D : Addr} {H : Hp} : ∀ {ws : List W} {ys : List V}, Paired (fun w y => AtR dt D w y H) ws ys → ∃ zs : List (V × Bool), ys = zs.map (·.1) ∧ (∀ H', Ex H H' → ∀ z ∈ zs, LstOf K H' z.1 z.2) ∧ zs.any (·.2) = !(ws.map dt).all someD
  | _, _, .nil => ⟨[], rfl, fun _ _ _ h => (by cases h), rfl⟩
  | w :: ws, y :: ys, .cons h t => by
    obtain ⟨zs, a, b, c⟩ := atR_empty (K := K) t
    obtain ⟨l, xs, e1, e2, e3, e4⟩ := h
    refine ⟨(y, !someD (dt w)) :: zs, by rw [a]; rfl, fun H' e z hz => ?_, by rw [List.any_cons, c, List.map_cons, List.all_cons]; simp⟩
    rcases List.mem_cons.mp hz with q | q
    · subst q
      refine ⟨l, xs, e1, sq_of (e _ _ e3), ?_⟩
      unfold AtO at e4
      cases hs : someD (dt w) with
      | true =>
        rw [hs] at e4
        obtain ⟨v, ev, _⟩ := e4
        rw [ev]; rfl
      | false =>
        rw [hs] at e4
        have : xs = [] := e4
        rw [this]; rfl
    · exact b H' e z q
/-- the things in them, none being empty -/
theorem atR_items {dt : W → PyData} {D : Addr} {H : Hp} : ∀ {ws : List W} {ys : List V}, Paired (fun w y => AtR dt D w y H) ws ys → (ws.map dt).all someD = true → ∃ qs : List (Addr × V), ys = qs.map (fun q => V.ref q.1) ∧ (∀ q ∈ qs, H q.1 = some (.lst [q.2])) ∧ TpA H (qs.map (·.2)) (ws.map dt)
  | _, _, .nil, _ => ⟨[], rfl, fun _ h => (by cases h), .nil⟩
  | w :: ws, y :: ys, .cons h t, hs => by
    rw [List.map_cons, List.all_cons, Bool.and_eq_true] at hs
    obtain ⟨qs, a, b, c⟩ := atR_items t hs.2
    obtain ⟨l, xs, e1, e2, e3, e4⟩ := h
    unfold AtO at e4
    rw [if_pos hs.1] at e4
    obtain ⟨v, ev, tv⟩ := e4
    subst ev
    refine ⟨(l, v) :: qs, by rw [a, e1]; rfl, fun q hq => ?_, .cons tv c⟩
    rcases List.mem_cons.mp hq with z | z
    · rw [z]; exact e3
    · exact b q z
theorem atom_known {k : FK} {kn kn' : List W} {a : W} (h : isNames k = false) : atomM k kn a = atomM k kn' a := by
  cases k with
  | names ws => cases h
  | _ => rfl
theorem take_bang {r : W} : decide (r.take 1 = [33]) = (r.head? == some 33) := by
  cases r with
  | nil => rfl
  | cons c r =>
    by_cases h : c = 33 <;> simp [h]
section
variable {P : Program} {w : World} {K : PySem.W.Frag} {mg : Str → Option Value} {base : Heap}
theorem ok_lCond (T : Tx K mg) : Gd P w K mg base 4 "_law_condition_read" spLCond := by
  have GA : Gd P w K mg base 3 "_law_atom_read" spLAtom := ok_lAtom T
  refine gd_of T dLawConditionRead 56 T.g__law_condition_read scLawConditionRead (fun _ _ _ _ _ _ us hl => match us, hl with | [_, _], _ => rfl) (fun _ _ _ _ ⟨_, _, _, _, _, _, _, _, e, _⟩ => by subst e; rfl) fun f cdv A outer s H vs Q E hr ⟨H0, sd, g, c, d, ps, st, z, e, hR, hz, h32, k⟩ => ?_
  subst e
  have nd := scLawConditionRead.nd
  have hz4 : z.length ≤ 40000 := by omega
  obtain ⟨gs, hgs, hgp⟩ := hR.sta.gs
  obtain ⟨zs, z1, z2, z3⟩ := paired_zip hgp
  have zl : zs.length ≤ 4 := by have := hR.ok.f4; rw [z2, List.length_map] at this; exact this
  obtain ⟨cs, hcs, hcp⟩ := hR.sta.cs
  obtain ⟨zc, c1, c2, c3⟩ := hcp.zip
  have zcl : zc.length ≤ 9 := by have := hR.ok.g9; rw [c2, List.length_map] at this; exact this
  obtain ⟨n, m, r, hpar, hrl, hr32, hm0, hm1⟩ : ∃ n m r : W, parV [58] z = [.str (S n), .str (S m), .str (S r)] ∧ r.length ≤ 8000 ∧ (∀ x ∈ r, x ∈ z) ∧ (m = [] → condM st z = none) ∧ (m ≠ [] → TL.par [58] [] z = some (n, r)) := by
    cases h : TL.par [58] [] z with
    | none => exact ⟨z, [], [], parV_none h, by simp, fun _ h => (by cases h), fun _ => condM_none h, fun q => absurd rfl q⟩
    | some pq =>
      obtain ⟨p, q⟩ := pq
      obtain ⟨_, lq⟩ := par_lens h hz
      exact ⟨p, [58], q, parV_some h, lq, fun x hx => by rw [par_some_eq h]; simp [hx], fun y => (by cases y), fun _ => rfl⟩
  refine xb_un3 2 3 4 (tu_is (ul_tu (u_partW litColon (v_v 1) v_str hz4 (by decide))) hpar) fun H1 e1 => ?_
  have R1 := hR.mono e1
  refine xb_setL (xs := ((zs.filter fun y => y.2.name == n).map fun y => y.1)) 5 (cp_ll (lc_fil (i := 9) (own := [("_law_field_here", 9)]) (ws := zs) (enc := fun y => y.1) (fun y => y.2.name == n) (fun y => y.1) (il_L (vl_sl (v_dget hr (vl_du (v_v 0) R1.dic) v_str (kvS_f g c d)) (sq_of (by rw [← z1]; exact e1 _ _ hgs)))) (by omega)
    (blkOk_by (N := nLawConditionRead) (sc := defScope sLawConditionRead) (by decide +kernel)) (fun _ _ _ _ _ y hy => ?_) (fun _ _ _ _ _ y hy _ => v_v 9))) fun fl H2 hfl e2 h2 => ?_
  · obtain ⟨fa, tv, ea, ra, _⟩ := (z3 y hy).mono e1
    rw [ea]
    exact bl_is (bc (c_eq (v_ixT (vl_tu (v_v 9) (.inl ra)) v_int rfl) (v_v (v := .str (S n)) 2))) dec_str
  · have E2 := e1.trans e2
    have R2 := R1.mono e2
    have lt : (if r.head? == some 33 then r.tail else r).length ≤ 8000 := by split; rw [List.length_tail]; omega; exact hrl
    have bang : ∀ {H' : Hp} {σ' : L2.St} {e : Expr} {p p2 pos p3 : Pos} {j j2 : Nat}, Vl (Cxd dLawConditionRead P w K mg base nLawConditionRead f cdv A outer s H E) e σ' H' (.str (S r)) → Vl (Cxd dLawConditionRead P w K mg base nLawConditionRead f cdv A outer s H E) (.Compare (.Subscript e (.Slice none (some (.Constant (.int 1) j p)) none p2) pos) [.Eq] [.Constant (.str "!") j2 p3] pos) σ' H' (.bl (r.head? == some 33)) := fun h => vl_is (vc (c_eq (v_slW h o_n (o_s v_int) (by omega) (show cutS (S r) none (some ((1 : Nat) : Int)) = S (r.take 1) from cut_to 1)) v_str)) (by rw [litBang, dec_V, dec_S, take_bang])
    refine xb_setL 6 (l_splitW (a := if r.head? == some 33 then r.tail else r) litBar (v_slW (u := if r.head? == some 33 then r.tail else r) (v_v (v := .str (S r)) 4) (o_s (v_intB (k := r.head? == some 33) T.f_int (vl_is (vc (c_eq (v_slW (v_v (v := .str (S r)) 4) o_n (o_s v_int) (by omega) (show cutS (S r) none (some ((1 : Nat) : Int)) = S (r.take 1) from cut_to 1)) v_str)) (by rw [litBang, dec_V, dec_S, take_bang])))) o_n (by omega) (by
      cases hb : r.head? == some 33 with
      | true =>
        rw [if_pos rfl, if_pos rfl]
        exact (cut_from (a := r) 1).trans (by rw [List.drop_one])
      | false =>
        rw [if_neg (by decide), if_neg (by decide)]
        exact (cut_from (a := r) 0).trans (by rw [List.drop_zero]))) v_str (by omega) ⟨by decide, by decide⟩) fun tl H3 htl e3 h3 => ?_
    have E3 := E2.trans e3
    have R3 := R2.mono e3
    have h23 := e3 _ _ h2
    have tlen : ∀ x ∈ cTexts r, x.length ≤ 8000 ∧ 32 ∉ x := fun x hx => by
      refine ⟨Nat.le_trans (spl_le (by decide) hx) lt, fun q => h32 (hr32 32 ?_)⟩
      have := (spl1_free _ _ (Nat.le_refl _) x hx).2 32 q
      split at this
      · exact List.mem_of_mem_tail this
      · exact this
    have tmany : (cTexts r).length ≤ 40000 := Nat.le_trans (spl_many (by decide)) (by omega)
    refine xb_when (k := decide (m = []) || (((zs.filter fun y => y.2.name == n)).isEmpty || decide (5 < (cTexts r).length))) (b_w (w_or (bl_is (bc (c_eq (v_v (v := .str (S m)) 3) v_str)) dec_nil) fun _ => w_or (bl_is (bc (c_eqNil hr (vl_sl (v_v 5) (sq_of h23)))) (by rw [isEmpty_map])) fun _ => w_or1 (bl_is (bc (c_gt (v_lenL T.f_len (vl_sl (v_v 6) (sq_of h3))) v_int)) (by rw [List.length_map]; exact decide_eq_decide.mpr (by unfold cTexts; omega))))) (fun hk H4 e4 => ?_) fun hk H4 e4 => ?_
    · have hn : condM st z = none := by
        by_cases q1 : m = []
        · exact hm0 q1
        · have hp := hm1 q1
          cases hzf : zs.filter fun y => y.2.name == n with
          | nil =>
            refine condM_nof hp ?_
            rw [find_head, z2, List.filter_map, List.head?_map]
            show Option.map _ (zs.filter fun y => y.2.name == n).head? = none
            rw [hzf]; rfl
          | cons z0 zr =>
            have efind : st.fields.find? (fun f => f.name == n) = some z0.2 := by
              rw [find_head, z2, List.filter_map, List.head?_map]
              show Option.map _ (zs.filter fun y => y.2.name == n).head? = some z0.2
              rw [hzf]; rfl
            rw [condM_some hp efind, if_neg]
            rw [hzf, decide_eq_false q1] at hk
            have h5 := of_decide_eq_true (show decide (5 < (cTexts r).length) = true from hk)
            intro y
            omega
      have k' := k
      unfold condD at k'
      rw [hn] at k'
      exact xb_retE (xe_l (l_lst a_nil) fun p H5 hp e5 h5 => k' p [] H5 (fresh_back (E3.trans e4) hp) ((E3.trans e4).trans e5) h5 rfl)
    · simp only [Bool.or_eq_false_iff, decide_eq_false_iff_not] at hk
      obtain ⟨q1, q2, q3⟩ := hk
      have hp := hm1 q1
      have E4 := E3.trans e4
      have R4 := R3.mono e4
      cases hzf : zs.filter fun y => y.2.name == n with
      | nil => rw [hzf] at q2; cases q2
      | cons z0 zr =>
        have efind : st.fields.find? (fun f => f.name == n) = some z0.2 := by
          rw [find_head, z2, List.filter_map, List.head?_map]
          show Option.map _ (zs.filter fun y => y.2.name == n).head? = some z0.2
          rw [hzf]; rfl
        have m0 : z0 ∈ zs.filter fun y => y.2.name == n := by rw [hzf]; simp
        obtain ⟨m1, m2⟩ := List.mem_filter.mp m0
        have hname : z0.2.name = n := by simpa using m2
        rw [hzf] at h23
        have em := condM_some hp efind
        have h24 := e4 _ _ h23
        have z0m : z0.2 ∈ st.fields := by rw [z2]; exact List.mem_map_of_mem m1
        have fok := (hR.ok.f z0.2 z0m).2
        have zf := (z3 z0 m1).mono E4
        -- what is known ahead of the groups
        refine xb_setE 7 (xe_mono (Q := fun v H5 => ∃ wl, v = .ref wl ∧ Ex H4 H5 ∧ H5 wl = some (.lst ((if isNames z0.2.k then z0.2.k.ws else []).map fun a => V.str (S a)))) ?_ fun v H5 ⟨wl, ev, e5, h5⟩ => ?_)
        · obtain ⟨fa, tv, ea, ra, hth⟩ := zf
          refine xe_if (k := isNames z0.2.k) (bl_is (bc (c_eq (v_ixT (vl_tu (v_ixLn 0 (v := .ref fa) (vl_sl (v_v 5) (sq_of h24)) v_int (by rw [← ea]; rfl)) (.inl ra)) v_int rfl) v_str)) (by rw [dec_V, word_names])) (fun q H5 e5 => ?_) fun q H5 e5 => ?_
          · obtain ⟨ns, en⟩ := isNames_of q
            rw [en] at hth ⊢
            obtain ⟨t, rfl, ht⟩ := hth
            exact xe_l (l_listT T.f_list (tu_or (vl_tu (v_ixT (v := .ref t) (vl_tu (v_ixLn 0 (v := .ref fa) (vl_sl (v_v 5) (sq_of (e5 _ _ h24))) v_int (by rw [← ea]; rfl)) (.inl (ex_rd e5 ra))) v_int rfl) (.inl (ht.mono e5).rd)) fun _ => ul_tu (u_tup a_nil))) fun p H6 hp e6 h6 => ⟨p, rfl, e5.trans e6, h6⟩
          · exact xe_l (l_lst a_nil) fun p H6 hp e6 h6 => ⟨p, rfl, e5.trans e6, by rw [q]; exact h6⟩
        · subst ev
          have E5 := E4.trans e5
          have R5 := R4.mono e5
          have wsl : ((if isNames z0.2.k then z0.2.k.ws else [])).length ≤ 9 := by split; exact fok.few; simp
          obtain ⟨kn, hkn⟩ : ∃ kn : List W, kn = (if isNames z0.2.k then z0.2.k.ws else []) ++ ((zc.filter fun y => y.2.field == n).map fun y => y.2.name) := ⟨_, rfl⟩
          have hkn2 : ∀ x, atomM z0.2.k kn x = atomM z0.2.k (cKnown st z0.2) x := fun x => by
            by_cases q : isNames z0.2.k = true
            · congr 1
              rw [hkn, if_pos q]
              unfold cKnown knownM
              rw [if_pos q, c2, List.filter_map, List.map_map, hname]
              rfl
            · exact atom_known (by simpa using q)
          refine xb_setL 7 (ll_is (l_cat (ys := (zc.filter fun y => y.2.field == n).map fun y => V.str (S y.2.name)) (vl_hl (v_v 7) h5) (ll_hl (cp_ll (lc_fil (i := 10) (own := [("_law_group", 10)]) (ws := zc) (enc := fun y => y.1) (fun y => y.2.field == n) (fun y => V.str (S y.2.name)) (il_L (vl_sl (v_dget hr (vl_du (v_v 0) R5.dic) v_str (kvS_g g c d)) (sq_of (by rw [← c1]; exact E5 _ _ hcs)))) (by omega)
            (blkOk_by (N := nLawConditionRead) (sc := defScope sLawConditionRead) (by decide +kernel)) (fun _ _ _ _ _ y hy => ?_) (fun _ _ _ _ _ y hy _ => ?_)))) (by
              have := List.length_filter_le (fun y : V × Gp => y.2.field == n) zc
              rw [List.length_map, List.length_map]
              omega)) (show _ = kn.map (fun a => V.str (S a)) by rw [hkn, List.map_append, List.map_map]; rfl)) fun nl H6 hnl e6 h6 => ?_
          · obtain ⟨a, mm, ea, ra, _⟩ := ((c3 y hy).mono E5).gp
            rw [ea]
            exact bl_is (bc (c_eq (v_ixT (vl_tu (v_v 10) (.inl ra)) v_int rfl) (v_v (v := .str (S n)) 2))) dec_str
          · obtain ⟨a, mm, ea, ra, _⟩ := ((c3 y hy).mono E5).gp
            rw [ea]
            exact v_ixT (vl_tu (v_v 10) (.inl ra)) v_int rfl
          · have E6 := E5.trans e6
            have R6 := R5.mono e6
            have h36 := (e4.trans (e5.trans e6)) _ _ h3
            have h26 := (e5.trans e6) _ _ h24
            refine xb_setC 8 (lc_gen (i := 11) (own := [("_law_text", 11)]) (ws := cTexts r) (enc := fun a => V.str (S a)) (fun _ => true) (AtR (atomM z0.2.k kn)) nd rfl (blkOk_by (N := nLawConditionRead) (sc := defScope sLawConditionRead) (by decide +kernel)) (il_L (vl_sl (v_v 6) (sq_of h36))) tmany (fun _ _ _ _ _ => ⟨by assumption, rfl, Or.inl rfl, Or.inr rfl⟩) (by intro _; rfl) (fun _ _ _ _ _ _ _ => q_nil)
              (fun _ _ _ _ _ x hx _ D acc H7 e7 hD hD2 Q' k' => xe_call GA hr passL ((a_cons (v_v 11) (a_cons (v_ixLn 0 (v := z0.1) (vl_sl (v_v 5) (sq_of (e7 _ _ h26))) v_int rfl) (a_1 (v_v 7)))) H7 (Ex.refl _) _ fun H8 e8 => ⟨x, z0.2, z0.1, nl, kn, rfl, (z3 z0 m1).mono ((E6.trans e7).trans e8), fok, (e7.trans e8) _ _ h6, (tlen x hx).1, (tlen x hx).2, fun p xs H9 hp e9 h9 ao => k' _ H9 (e8.trans e9) ⟨p, xs, rfl, (fun q => by rw [q, e8 _ _ hD2] at hp; cases hp), h9, ao⟩⟩))
              (fun _ _ _ _ _ e t => t.mono e) (fun _ _ _ _ _ _ t hl => t.upd hl)) fun al ys H7 hal e7 h7 pr => ?_
            rw [filter_tt] at pr
            have E7 := E6.trans e7
            have R7 := R6.mono e7
            obtain ⟨ze, ye1, ye2, ye3⟩ := atR_empty (K := K) pr
            have edata : (cTexts r).map (atomM z0.2.k kn) = cData st z0.2 r := by unfold cData; exact List.map_congr_left fun x _ => hkn2 x
            rw [edata] at ye3
            refine xb_when (k := !(cData st z0.2 r).all someD) (bl_is (bc (c_nilIn hr (vl_sl (v_v 8) (sq_of (by rw [← ye1]; exact h7))) ye2)) ye3) (fun hq H8 e8 => ?_) fun hq H8 e8 => ?_
            · have hn : condM st z = none := by rw [em, if_neg fun y => by rw [y.2] at hq; cases hq]
              have k' := k
              unfold condD at k'
              rw [hn] at k'
              exact xb_retE (xe_l (l_lst a_nil) fun p H9 hp e9 h9 => k' p [] H9 (fresh_back (E7.trans e8) hp) ((E7.trans e8).trans e9) h9 rfl)
            · have hq' : (cData st z0.2 r).all someD = true := by simpa using hq
              obtain ⟨qs, qa, qb, qc⟩ := atR_items pr (by rw [edata]; exact hq')
              rw [edata] at qc
              have hs : condM st z = some (n, .tuple [strD n, .bool (r.head? == some 33), .tuple (cData st z0.2 r)]) := by rw [em, if_pos ⟨by omega, hq'⟩]
              have k' := k
              unfold condD at k'
              rw [hs] at k'
              have ql : qs.length ≤ 40000 := by
                have h1 := qc.length
                unfold cData at h1
                rw [List.length_map, List.length_map] at h1
                omega
              have E8 := E7.trans e8
              refine xb_retE (xe_lst (xa_cons (xe_d (d := .tuple [strD n, .bool (r.head? == some 33), .tuple (cData st z0.2 r)]) (d_tup (da_cons (d_str (v_v (v := .str (S n)) 2)) (da_cons (d_v (vl_is (vc (c_eq (v_slW (v_v (v := .str (S r)) 4) o_n (o_s v_int) (by omega) (show cutS (S r) none (some ((1 : Nat) : Int)) = S (r.take 1) from cut_to 1)) v_str)) (show _ = V.bl (r.head? == some 33) by rw [litBang, dec_V, dec_S, take_bang])) (.bl _)) (da_cons (d_tupL T.f_tuple (ll_sl (cp_ll (lc_map (i := 12) (own := [("_law_atom", 12)]) (ws := qs) (enc := fun q => V.ref q.1) (fun q => q.2) (il_L (vl_sl (v_v 8) (sq_of (by rw [← qa]; exact e8 _ _ h7)))) ql
                (blkOk_by (N := nLawConditionRead) (sc := defScope sLawConditionRead) (by decide +kernel)) (fun _ _ _ _ _ q hq2 => v_ixL (vl_sl (v_v 12) (sq_of (e8 _ _ (qb q hq2)))) v_int rfl)))) (qc.mono e8)) da_nil)))) fun y H9 e9 ty => xa_nil ⟨by simp, fun p hp => ?_⟩)))
              have E9 := E8.trans e9
              exact k' p [y] _ (fresh_back E9 hp) (E9.trans (Ex.new hp)) upd_same ⟨y, rfl, ty.mono (Ex.new hp)⟩
end
end Gw

set_option maxRecDepth 100000
set_option maxHeartbeats 4000000
namespace Gw
open PySem PySem.Spec PyProof.Rows L2 Evl SX
theorem countU {x : V} : ∀ {xs : List V} {us : List Value}, Vals xs us → xs.all flatV = true → us.countP (eqU x) = xs.countP fun y => eqV y x
  | _, _, .nil, _ => rfl
  | y :: xs, u :: us, .cons r t, f => by
    rw [List.all_cons, Bool.and_eq_true] at f
    rw [List.countP_cons, List.countP_cons, eqU_of r f.1, countU t f.2]
section
variable {X : Cx} {e o : Expr} {σ : L2.St} {H : Hp} {apos pos : Pos}
theorem mt_vcount : MtR X "list.count" (fun x xs H Q => ∃ (p : Addr) (ys : List V) (y : V), x = .ref p ∧ xs = [y] ∧ SqL X.K H p ys ∧ flatV y = true ∧ ys.all flatV = true ∧ Q (.int ((ys.countP fun z => eqV z y : Nat) : Int)) H) := by
  intro pins s σ H x xs v us Q I rx rxs h
  obtain ⟨p, ys, y, rfl, rfl, hs, fy, fys, q⟩ := h
  cases rx
  obtain ⟨u, rfl, ru⟩ := rxs.one
  obtain ⟨its, rv, ⟨⟨cls, dd, data, sl⟩, n, ho, hc, hdn, hd⟩, hlen⟩ := I.list hs
  simp only at hc hd
  subst hc hd
  refine call_meets PySem.F.slot_list_count ⟨_, ho, rfl⟩ PySem.F.entry_list_count (PySem.F.args_list_count_2 _ _)
    (SeqAt.list_countAt p its.toArray n dd sl u (eqU y)) ⟨ho, fun z hz => mem_eqAt ru fy rv fys z (by simpa using hz), ?_⟩
  have ec : its.toArray.toList.countP (eqU y) = ys.countP fun z => eqV z y := countU rv fys
  refine ⟨.int ((ys.countP fun z => eqV z y : Nat) : Int), H, I.tok _, ⟨s.toks, ?_⟩, q⟩
  show Value.int ((its.toArray.toList.countP (eqU y) : Nat) : Int) s.toks = _
  rw [ec]
/-- xs.count(y), texts -/
theorem v_scount {zs : List Str} {u : Str} (ho : Sl X o σ H (zs.map V.str)) (he : Vl X e σ H (.str u)) (hbase : attributeBase o "count" X.env (eval o X.env) = eval o X.env := by rfl)
    (hfew : ((backTo pos (starEach [e] X.env)).all (fun x => !x.1) && (backToKw pos (keywordEach [] X.env)).all (fun x => x.1.isSome)
      && decide (([e] : List Expr).length + ([] : List Keyword).length + (if ([] : List Keyword).isEmpty then 0 else 1) < 30)) = true := by rfl)
    (hline : (apos.endLine == pos.line) = true := by rfl) (hs : starEach [e] X.env = (false, eval e X.env) :: starEach [] X.env := by rfl) (hplain : (backTo pos (starEach [] X.env)).any (·.1) = false := by rfl) :
    Vl X (.Call (.Attribute o "count" apos) [e] [] pos) σ H (.int (((zs.filter fun z => decide (z = u)).length : Nat) : Int)) := vl_of (pe_bm PySem.F.plainAttrs_list PySem.F.slot_list_count PySem.F.type_list_count mt_vcount pe_xe (pa_cons pe_xe pa_nil hs) hbase hfew hline hs hplain)
  fun H1 e1 Q q => ho H1 e1 _ fun l H2 e2 h2 => ⟨.inl ⟨rfl, _, h2⟩, he H2 (e1.trans e2) _ fun H3 e3 => by
    refine ⟨l, _, _, rfl, rfl, ex_l e3 h2, rfl, by rw [List.all_map]; exact List.all_eq_true.mpr fun _ _ => rfl, ?_⟩
    have : (zs.map V.str).countP (fun z => eqV z (.str u)) = (zs.filter fun z => decide (z = u)).length := by
      rw [List.countP_map, List.countP_eq_length_filter]
      congr 1
    rw [this]
    exact q H3 (e2.trans e3)⟩
end
def goalBad (names : List W) : List W → Bool
  | [] => true
  | gw :: _ => !decide (gw ∈ names)
def LwOk (ws : List W) : Prop := ws.length ≤ 4090 ∧ ∀ a ∈ ws, a.length ≤ 8000 ∧ 32 ∉ a
def spLLine (M : Ho → List W → Option Ho) : Sp := fun vs H Q _ => ∃ (H0 : Hp) (sd g c d : Addr) (ps : List (Addr × Addr)) (st : Ho) (wl : Addr) (ws : List W), vs = [.ref sd, .ref wl] ∧ LsAt H0 sd g c d ps st H ∧ H wl = some (.lst (ws.map fun a => V.str (S a))) ∧ LwOk ws ∧ wl ∉ g :: c :: d :: ps.map (·.2) ∧ ws ≠ [] ∧
  (∀ st', M st ws = some st' → ∀ ps' H', LsAt H0 sd g c d ps' st' H' → Q (.bl true) H') ∧ (M st ws = none → ∀ H', Ex H0 H' → Q (.bl false) H')
theorem spLLine_len {M : Ho → List W → Option Ho} {vs : List V} {H : Hp} {Q : VK} {E : XK} (h : spLLine M vs H Q E) : vs.length = 2 := by obtain ⟨_, _, _, _, _, _, _, _, _, e, _⟩ := h; subst e; rfl
/-- conditions read one by one, as one -/
theorem conds_all {st : Ho} : ∀ {ws : List W}, (ws.map (condD st)).all someD = true → ∃ cs, condsM st ws = some cs ∧ cs.map (·.2) = ws.map (condD st) ∧ ∀ c ∈ cs, ∃ ds, c.2 = .tuple (strD c.1 :: ds)
  | [], _ => ⟨[], rfl, rfl, fun _ h => by cases h⟩
  | w :: ws, h => by
    rw [List.map_cons, List.all_cons, Bool.and_eq_true] at h
    obtain ⟨cs, a, b, c⟩ := conds_all h.2
    cases hc : condM st w with
    | none =>
      have : condD st w = .none := by unfold condD; rw [hc]
      rw [this] at h
      cases h.1
    | some p =>
      obtain ⟨n, dt⟩ := p
      have ed : condD st w = dt := by unfold condD; rw [hc]
      refine ⟨(n, dt) :: cs, ?_, by rw [List.map_cons, List.map_cons, b, ed], fun x hx => ?_⟩
      · show (match condM st w with | some c => (condsM st ws).map fun cs => c :: cs | none => none) = _
        rw [hc, a]; rfl
      · rcases List.mem_cons.mp hx with q | q
        · subst q; exact condM_name hc
        · exact c x q
theorem conds_none {st : Ho} {ws : List W} (h : ¬ (ws.map (condD st)).all someD = true) : condsM st ws = none := by
  have : ∃ w ∈ ws, condM st w = none := by
    apply Classical.byContradiction
    intro q
    apply h
    rw [List.all_map, List.all_eq_true]
    intro w hw
    show someD (condD st w) = true
    cases hc : condM st w with
    | none => exact absurd ⟨w, hw, hc⟩ q
    | some p =>
      obtain ⟨n, dt⟩ := p
      obtain ⟨ds, e⟩ := condM_name hc
      unfold condD
      rw [hc, e]
      rfl
  obtain ⟨w, hw, hc⟩ := this
  exact conds_bad hc hw
theorem trip {H : Hp} : ∀ {qs : List (Addr × V)} {cs : List (W × PyData)}, TpA H (qs.map (·.2)) (cs.map (·.2)) → ∃ ts : List ((Addr × V) × (W × PyData)), qs = ts.map (·.1) ∧ cs = ts.map (·.2) ∧ ∀ t ∈ ts, Tp H t.1.2 t.2.2
  | [], [], _ => ⟨[], rfl, rfl, fun _ h => by cases h⟩
  | [], _ :: _, h => by cases h
  | _ :: _, [], h => by cases h
  | q :: qs, c :: cs, .cons h t => by
    obtain ⟨ts, a, b, k⟩ := trip t
    exact ⟨(q, c) :: ts, by rw [a]; rfl, by rw [b]; rfl, fun x hx => by
      rcases List.mem_cons.mp hx with z | z
      · rw [z]; exact h
      · exact k x z⟩
theorem LsAt.rule {H0 H : Hp} {sd g c d : Addr} {ps : List (Addr × Addr)} {p : Addr × Addr} {st : Ho} {gts : List Gt} {gt : Gt} {rs : List V} {v : V} {r : Rl} (h : LsAt H0 sd g c d (ps ++ [p]) st H) (eg : st.gates = gts ++ [gt]) (hrs : H p.2 = some (.lst rs)) (hf : Tp H v r.d) (hl : gt.rules.length < 8) :
    LsAt H0 sd g c d (ps ++ [p]) { st with gates := gts ++ [{ gt with rules := gt.rules ++ [r] }] } (upd H p.2 (.lst (rs ++ [v]))) := by
  have hne : sd ≠ p.2 := fun q => by have := h.dic; rw [q, hrs] at this; cases this
  refine ⟨by rw [upd_ne hne]; exact h.dic, h.sd0, h.sta.rule eg hrs hf, ⟨h.ok.f4, h.ok.f, h.ok.g9, h.ok.g, ?_, ?_⟩⟩
  · have := h.ok.t5
    rw [eg] at this
    simpa using this
  · intro x hx
    rcases List.mem_append.mp hx with q' | q'
    · exact h.ok.t x (by rw [eg]; simp [q'])
    · simp only [List.mem_cons, List.not_mem_nil, or_false] at q'
      subst q'
      show (gt.rules ++ [_]).length ≤ 8
      rw [List.length_append, List.length_singleton]; omega
section
variable {P : Program} {w : World} {K : PySem.W.Frag} {mg : Str → Option Value} {base : Heap}
theorem ok_lRule (T : Tx K mg) : Gd P w K mg base 5 "_law_rule_read" (spLLine ruleM) := by
  have GC : Gd P w K mg base 4 "_law_condition_read" spLCond := ok_lCond T
  refine gd_of T dLawRuleRead 57 T.g__law_rule_read scLawRuleRead (fun _ _ _ _ _ _ us hl => match us, hl with | [_, _], _ => rfl) (fun _ _ _ _ => spLLine_len) fun f cdv A outer s H vs Q E hr ⟨H0, sd, g, c, d, ps, st, wl, ws, e, hR, hw, hz, hwn, hne, k1, k2⟩ => ?_
  subst e
  have nd := scLawRuleRead.nd
  have bad : ruleM st ws = none → ∀ H', Ex H H' → Q (.bl false) H' := fun q H' e' => k2 q H' (hR.sta.ex.trans e')
  have lenD := len_ds hR.sta
  refine xb_set 2 (v_dget hr (vl_du (v_v 0) hR.dic) v_str (kvS_t g c d)) fun H1 e1 => ?_
  have R1 := hR.mono e1
  cases hps : ps with
  | nil =>
    subst hps
    have hg : st.gates = [] := List.eq_nil_of_length_eq_zero (by rw [← lenD]; rfl)
    refine xb_yes (bl_is (b_w (w_or (j := true) (k := false) (bl_is (bc (c_eqNil hr (vl_sl (v_v 2) (sq_of R1.sta.ds)))) rfl) fun q => by cases q)) rfl) fun H2 e2 => xb_ret v_bl fun H3 e3 => bad ?_ H3 ((e1.trans e2).trans e3)
    unfold ruleM; rw [hg]; cases ws <;> rfl
  | cons p0 pr =>
    obtain ⟨ps', p, gts, gt, ep, eg⟩ := snoc_split lenD (by rw [hps]; simp)
    clear hps
    subst ep
    have hgt := hR.sta.gts
    rw [eg] at hgt
    obtain ⟨hgt1, hgt2⟩ := paired_last hgt
    obtain ⟨hp1, rs, hp2, hrs⟩ := hgt2
    rw [if_pos rfl] at hp1
    have hdl : H d = some (.lst ((ps'.map fun p => V.ref p.1) ++ [.ref p.1])) := by rw [hR.sta.ds, List.map_append]; rfl
    have lrs : rs.length = gt.rules.length := by rw [hrs.length, List.length_map]
    -- gates[-1][2]
    have vR : ∀ {H' : Hp} {σ' : L2.St} {e : Expr} {p1 p2 p3 p4 p5 : Pos} {j j2 : Nat}, Ex H H' → Vl (Cxd dLawRuleRead P w K mg base nLawRuleRead f cdv A outer s H E) e σ' H' (.ref d) → Vl (Cxd dLawRuleRead P w K mg base nLawRuleRead f cdv A outer s H E) (.Subscript (.Subscript e (.UnaryOp .USub (.Constant (.int 1) j p1) p2) p3) (.Constant (.int 2) j2 p4) p5) σ' H' (.ref p.2) := fun e' h => v_ixT (vl_tu (v_ixL (v := .ref p.1) (vl_sl h (sq_of (e' _ _ hdl))) (v_neg v_int) ((atI_last).trans (by simp))) (.inl (ex_rd e' hp1))) v_int rfl
    refine xb_when (k := decide (7 < gt.rules.length)) (bl_is (b_w (w_or (j := false) (k := decide (7 < gt.rules.length)) (bl_is (bc (c_eqNil hr (vl_sl (v_v 2) (sq_of (e1 _ _ hdl))))) (by simp)) fun _ => w_or1 (bl_is (bc (c_gt (v_lenL T.f_len (vl_sl (vR e1 (v_v 2)) (sq_of (e1 _ _ hp2)))) v_int)) (by rw [lrs]; exact decide_eq_decide.mpr (by omega))))) (Bool.false_or _)) (fun q H2 e2 => ?_) fun q1 H2 e2 => ?_
    · refine xb_ret v_bl fun H3 e3 => bad ?_ H3 ((e1.trans e2).trans e3)
      cases ws with
      | nil => exact absurd rfl hne
      | cons w0 r =>
        unfold ruleM
        rw [eg, List.getLast?_append]
        simp only [List.getLast?_singleton, Option.some_or]
        rw [if_neg (by have := of_decide_eq_true q; omega)]
    · have q1 : gt.rules.length < 8 := by have := of_decide_eq_false q1; omega
      have E2 := e1.trans e2
      match ws, hw, hz, k1, bad, hne with
      | w0 :: r, hw, hz, k1, bad, hne =>
        have em := ruleM_one (w0 := w0) (r := r) eg q1
        have hzr : ∀ x ∈ r, x.length ≤ 8000 ∧ 32 ∉ x := fun x hx => hz.2 x (by simp [hx])
        have hzl : r.length ≤ 4089 := by have := hz.1; simp only [List.length_cons] at this; omega
        refine xb_set 3 (v := .bl (decide (S w0 = "pass"))) (vl_is (vc (c_eq (v_ixW0 0 (vl_sl (v_v 1) (sq_of (E2 _ _ hw))) v_int (w := w0) rfl) v_str)) (by rw [dec_V])) fun H3 e3 => ?_
        have E3 := E2.trans e3
        obtain ⟨zs, z1, z2, z3⟩ := paired_zip hgt1
        have zl : zs.length ≤ 5 := by have := hR.ok.t5; rw [eg, z2, List.length_append, List.length_map] at this; omega
        refine xb_setCv (zs := (gts.map (·.name)).map fun a => V.str (S a)) 4 ((lc_map (i := 7) (own := [("_law_gate", 7)]) (ws := zs) (enc := fun z => V.ref z.1.1) (fun z => V.str (S z.2.name)) (il_L (ll_sl (ll_is (l_slL (vl_sl (v_v 2) (sq_of (E3 _ _ hdl))) o_n (o_s (v_neg v_int))) (cutV_but.trans (by rw [List.dropLast_concat, z1, List.map_map]; rfl))))) (by omega)
          (blkOk_by (N := nLawRuleRead) (sc := defScope sLawRuleRead) (by decide +kernel)) (fun _ _ _ _ _ z hz => v_ixT (vl_tu (v_v 7) (.inl (ex_rd E3 (by have := (z3 z hz).1; rw [if_pos rfl] at this; exact this)))) v_int rfl)).is fun _ _ _ _ q => by rw [q, z2, List.map_map, List.map_map]; rfl) fun gl H4 hgl e4 h4 => ?_
        have E4 := E3.trans e4
        -- the goal
        refine xb_when (k := decide (S w0 = "pass") && goalBad (gts.map (·.name)) r) (b_w (w_and (b_v (v_v 3)) fun _ => w_and1 (b_w ?_))) (fun hk H5 e5 => ?_) fun hk H5 e5 => ?_
        · match r, hw with
          | [], hw => exact wl_is (w_or (j := true) (k := false) (bl_is (bc (c_eqNil hr (ll_sl (l_slL (vl_sl (v_v 1) (sq_of (E4 _ _ hw))) (o_s v_int) (o_s v_int))))) (by rw [show (1 : Int) = ((1 : Nat) : Int) from rfl, show (2 : Int) = ((2 : Nat) : Int) from rfl, cutV_nn]; rfl)) fun q => by cases q) rfl
          | gw :: r2, hw => exact wl_is (w_or (j := false) (bl_is (bc (c_eqNil hr (ll_sl (l_slL (vl_sl (v_v 1) (sq_of (E4 _ _ hw))) (o_s v_int) (o_s v_int))))) (by rw [show (1 : Int) = ((1 : Nat) : Int) from rfl, show (2 : Int) = ((2 : Nat) : Int) from rfl, cutV_nn]; rfl)) fun _ => w_or1 (bl_is (bc (c_ninL (v_ixW0 1 (vl_sl (v_v 1) (sq_of (E4 _ _ hw))) v_int (w := gw) rfl) (vl_sl (v_v 4) (sq_of h4)) rfl (flat_strs _))) (by rw [inV_strs]; rfl))) (Bool.false_or _)
        · refine xb_ret v_bl fun H6 e6 => bad ?_ H6 ((E4.trans e5).trans e6)
          rw [Bool.and_eq_true] at hk
          rw [em, if_pos (of_decide_eq_true hk.1)]
          match r, hk with
          | [], _ => rfl
          | gw :: r2, hk =>
            dsimp only
            rw [if_neg]
            intro y
            have := hk.2
            unfold goalBad at this
            simp only [Bool.not_eq_true', decide_eq_false_iff_not] at this
            exact this y.1
        · have E5 := E4.trans e5
          have R5 := hR.mono E5
          obtain ⟨zr, y1, y2, y3⟩ := hrs.zip
          have yl : zr.length ≤ 8 := by rw [y2, List.length_map] at q1; omega
          have efl : (gt.rules.filter fun r => decide (S r.word = "pass")).length = ((zr.map fun z => S z.2.word).filter fun z => decide (z = ("pass" : Str))).length := by rw [y2, List.filter_map, List.filter_map, List.length_map, List.length_map]; rfl
          refine xb_when (k := decide (S w0 = "pass") && decide (1 < (gt.rules.filter fun r => decide (S r.word = "pass")).length)) (b_w (w_and (b_v (v_v 3)) fun _ => w_and1 (bl_is (bc (c_gt (v_scount (zs := zr.map fun z => S z.2.word) (ll_sl (ll_is (cp_ll (lc_map (i := 8) (own := [("_law_rule", 8)]) (ws := zr) (enc := fun z => z.1) (fun z => V.str (S z.2.word)) (il_L (vl_sl (vR E5 (v_v 2)) (sq_of (by rw [← y1]; exact E5 _ _ hp2)))) (by omega)
            (blkOk_by (N := nLawRuleRead) (sc := defScope sLawRuleRead) (by decide +kernel)) (fun _ _ _ _ _ z hz => ?_))) (by rw [List.map_map]; rfl))) v_str) v_int)) (by rw [efl]; exact decide_eq_decide.mpr (by omega))))) (fun hk2 H6 e6 => ?_) fun hk2 H6 e6 => ?_
          · obtain ⟨za, zb⟩ := z
            obtain ⟨rw0, rg, rc⟩ := zb
            have t := (y3 _ hz).mono E5
            cases t with
            | tup h1 h2 =>
              cases h2 with
              | cons p1 h2 =>
                cases p1
                exact v_ixLT h1 (v_v 8)
          · refine xb_ret v_bl fun H7 e7 => bad ?_ H7 ((E5.trans e6).trans e7)
            rw [Bool.and_eq_true] at hk2
            rw [em, if_pos (of_decide_eq_true hk2.1)]
            match r with
            | [] => rfl
            | gw :: r2 =>
              dsimp only
              rw [if_neg]
              intro y
              have := of_decide_eq_true hk2.2
              omega
          · have E6 := E5.trans e6
            have R6 := R5.mono e6
            -- the words of conditions, the goal
            obtain ⟨goal, r', hgoal, hr', hfin⟩ : ∃ (goal : Option W) (r' : List W), ((decide (S w0 = "pass") = true ∧ ∃ gw, r = gw :: r' ∧ goal = some gw) ∨ (decide (S w0 = "pass") = false ∧ r = r' ∧ goal = none)) ∧ (∀ x ∈ r', x ∈ r) ∧ ruleM st (w0 :: r) = ruleFin st gts gt w0 goal r' := by
              by_cases hp : S w0 = "pass"
              · rw [decide_eq_true hp, Bool.true_and] at hk hk2
                match r, hk, em with
                | [], hk, em => cases hk
                | gw :: r2, hk, em =>
                  refine ⟨some gw, r2, .inl ⟨decide_eq_true hp, gw, rfl, rfl⟩, fun x hx => by simp [hx], ?_⟩
                  rw [em, if_pos hp]
                  dsimp only
                  unfold goalBad at hk
                  rw [if_pos ⟨by simpa using hk, by have := of_decide_eq_false hk2; omega⟩]
              · exact ⟨none, r, .inr ⟨decide_eq_false hp, rfl, rfl⟩, fun x hx => hx, by rw [em, if_neg hp]⟩
            have lr' : r'.length ≤ 4089 := by
              rcases hgoal with ⟨_, gw, q, _⟩ | ⟨_, q, _⟩
              · rw [q] at hzl; simp only [List.length_cons] at hzl; omega
              · rw [← q]; exact hzl
            refine xb_setC 5 (lc_gen (i := 9) (own := [("_law_word", 9)]) (ws := r') (enc := fun a => V.str (S a)) (fun _ => true) (AtR (condD st)) nd rfl (blkOk_by (N := nLawRuleRead) (sc := defScope sLawRuleRead) (by decide +kernel)) (il_L (ll_sl (ll_is (l_slL (vl_sl (v_v 1) (sq_of (E6 _ _ hw))) (o_s (v_add v_int (v_intB (k := decide (S w0 = "pass")) T.f_int (v_v 3)))) o_n) (by
                rcases hgoal with ⟨q, gw, q2, _⟩ | ⟨q, q2, _⟩
                · rw [q, if_pos rfl, show (1 : Int) + 1 = ((2 : Nat) : Int) from rfl, cutV_from, q2]; rfl
                · rw [q, if_neg (by decide), show (1 : Int) + 0 = ((1 : Nat) : Int) from rfl, cutV_from, q2]; rfl)))) (by omega) (fun _ _ _ _ _ => ⟨by assumption, rfl, Or.inl rfl, Or.inr rfl⟩) (by intro _; rfl) (fun _ _ _ _ _ _ _ => q_nil)
              (fun _ _ _ _ _ x hx _ D acc H7 e7 hD hD2 Q' k' => xe_call GC hr passL ((a_cons (v_v 0) (a_1 (v_v 9))) H7 (Ex.refl _) _ fun H8 e8 => ⟨H0, sd, g, c, d, ps' ++ [p], st, x, rfl, (R6.mono e7).mono e8, (hzr x (hr' x hx)).1, (hzr x (hr' x hx)).2, fun q xs H9 hq e9 h9 ao => k' _ H9 (e8.trans e9) ⟨q, xs, rfl, (fun y => by rw [y, e8 _ _ hD2] at hq; cases hq), h9, ao⟩⟩))
              (fun _ _ _ _ _ e t => t.mono e) (fun _ _ _ _ _ _ t hl => t.upd hl)) fun al ys H7 hal e7 h7 pr => ?_
            rw [filter_tt] at pr
            have E7 := E6.trans e7
            have R7 := R6.mono e7
            obtain ⟨ze, ye1, ye2, ye3⟩ := atR_empty (K := K) pr
            by_cases hall : (r'.map (condD st)).all someD = true
            · obtain ⟨cs, hcs, hcd, hnm⟩ := conds_all hall
              obtain ⟨qs, qa, qb, qc⟩ := atR_items pr hall
              rw [← hcd] at qc
              obtain ⟨ts, t1, t2, t3⟩ := trip qc
              have emf : ruleM st (w0 :: r) = if (cs.map (·.1)).Nodup then some { st with gates := gts ++ [{ gt with rules := gt.rules ++ [⟨w0, goal, cs.map (·.2)⟩] }] } else none := by rw [hfin]; unfold ruleFin; rw [hcs]
              have lts : ts.length = r'.length := by
                have := congrArg List.length hcd
                rw [List.length_map, List.length_map, t2, List.length_map] at this
                exact this
              have lcs : cs.length = ts.length := by rw [t2, List.length_map]
              have hys : ys = ts.map fun t => V.ref t.1.1 := by rw [qa, t1, List.map_map]; rfl
              rw [hys] at h7
              have hcell : ∀ t ∈ ts, H7 t.1.1 = some (.lst [t.1.2]) := fun t ht => qb t.1 (by rw [t1]; exact List.mem_map_of_mem ht)
              have hsl := setLen_le (cs.map (·.1))
              have hsn := setLen_nd (ws := cs.map (·.1))
              refine xb_when (k := !decide (cs.map (·.1)).Nodup) (bl_is (b_w (w_or (j := false) (k := !decide (cs.map (·.1)).Nodup) (bl_is (bc (c_nilIn hr (vl_sl (v_v 5) (sq_of (by rw [← ye1, hys]; exact h7))) ye2)) (by rw [ye3, hall]; rfl)) fun _ => w_or1 (bl_is (bc (c_lt (v_lenSet (ws := cs.map (·.1)) T.f_len T.f_set (ll_sl (ll_is (cp_ll (lc_map (i := 10) (own := [("_law_one", 10)]) (ws := ts) (enc := fun t => V.ref t.1.1) (fun t => V.str (S t.2.1)) (il_L (vl_sl (v_v 5) (sq_of h7))) (by omega)
                (blkOk_by (N := nLawRuleRead) (sc := defScope sLawRuleRead) (by decide +kernel)) (fun _ _ _ _ _ t ht => ?_))) (by rw [t2, List.map_map, List.map_map]; rfl))) (by rw [List.length_map]; omega)) (v_lenL T.f_len (vl_sl (v_v 5) (sq_of h7))))) ?_))) (Bool.false_or _)) (fun hq H8 e8 => ?_) fun hq H8 e8 => ?_
              · obtain ⟨ds, hd⟩ := hnm t.2 (by rw [t2]; exact List.mem_map_of_mem ht)
                have tt := t3 t ht
                have hc := hcell t ht
                rw [hd] at tt
                generalize t.1.2 = zv at tt hc ⊢
                cases tt with
                | tup h1 h2 =>
                  cases h2 with
                  | cons p1 h2 =>
                    cases p1
                    exact v_ixLT h1 (v_ixL (vl_sl (v_v 10) (sq_of hc)) v_int rfl)
              · rw [List.length_map]
                rw [List.length_map, lcs] at hsl hsn
                by_cases hnd : (cs.map (·.1)).Nodup
                · rw [decide_eq_true hnd, decide_eq_false (by have := hsn.mpr hnd; omega)]; rfl
                · rw [decide_eq_false hnd, decide_eq_true (by have : setLen (cs.map (·.1)) ≠ ts.length := fun y => hnd (hsn.mp y); omega)]; rfl
              · exact xb_ret v_bl fun H9 e9 => bad (by rw [emf, if_neg (by simpa using hq)]) H9 ((E7.trans e8).trans e9)
              · rw [if_pos (by simpa using hq)] at emf
                have E8 := E7.trans e8
                have R8 := R7.mono e8
                refine xb_set 6 (v := goalV goal) ?_ fun H9 e9 => ?_
                · refine v_if (k := decide (S w0 = "pass")) (b_v (v_v 3)) (fun q => ?_) fun q => ?_
                  · rcases hgoal with ⟨_, gw, q2, q3⟩ | ⟨q2, _, _⟩
                    · rw [q3]
                      exact v_ixW0 1 (vl_sl (v_v 1) (sq_of (E8 _ _ hw))) v_int (w := gw) (by rw [q2]; rfl)
                    · rw [q2] at q; cases q
                  · rcases hgoal with ⟨q2, _⟩ | ⟨_, _, q3⟩
                    · rw [q2] at q; cases q
                    · rw [q3]; exact v_non
                · have E9 := E8.trans e9
                  refine xb_appE (l := p.2) (xs := rs) (vR E9 (v_v 2)) (E9 _ _ hp2) (fun H10 e10 => ?_) (by rw [lrs]; omega)
                  have E10 := E9.trans e10
                  have e710 := (e8.trans e9).trans e10
                  refine xe_d (d := Rl.d ⟨w0, goal, cs.map (·.2)⟩) (d_tup (da_cons (d_str (v_ixW0 0 (vl_sl (v_v 1) (sq_of (E10 _ _ hw))) v_int (w := w0) rfl)) (da_cons (d_v (v_v 6) (goal_tp goal)) (da_cons (d_tupL T.f_tuple (ll_sl (cp_ll (lc_map (i := 10) (own := [("_law_one", 10)]) (ws := ts) (enc := fun t => V.ref t.1.1) (fun t => t.1.2) (il_L (vl_sl (v_v 5) (sq_of (e710 _ _ h7)))) (by omega)
                    (blkOk_by (N := nLawRuleRead) (sc := defScope sLawRuleRead) (by decide +kernel)) (fun _ _ _ _ _ t ht => v_ixL (vl_sl (v_v 10) (sq_of (e710 _ _ (hcell t ht)))) v_int rfl)))) (by
                      have q := qc.mono e710
                      rw [t1, List.map_map] at q
                      exact q)) da_nil)))) fun y H11 e11 ty => ?_
                  have E11 := E10.trans e11
                  have R11 := ((R8.mono e9).mono e10).mono e11
                  exact ⟨E11 _ _ hp2, xb_ret v_bl fun H12 e12 => k1 _ emf _ H12 ((R11.rule eg (E11 _ _ hp2) ty q1).mono e12)⟩
            · refine xb_yes (bl_is (b_w (w_or (j := true) (k := false) (bl_is (bc (c_nilIn hr (vl_sl (v_v 5) (sq_of (by rw [← ye1]; exact h7))) ye2)) (by rw [ye3]; simpa using hall)) fun q => by cases q)) rfl) fun H8 e8 => xb_ret v_bl fun H9 e9 => bad (by rw [hfin]; unfold ruleFin; rw [conds_none hall]) H9 ((E7.trans e8).trans e9)
end
end Gw

set_option maxRecDepth 100000
set_option maxHeartbeats 4000000
namespace Gw
open PySem PySem.Spec PyProof.Rows L2 Evl SX
section
variable {X : Cx} {a b c : Expr} {rest : List Stmt} {σ : L2.St} {H : Hp} {D : Ends} {x y z : Str} {u v w : V} {px py pz pt pos : Pos}
/-- n, m, r = a, b, c: three names of the row -/
theorem xb_par3 {kt : Nat} {k2 : Nat} {pt2 : Pos} (i j l : Nat) (h : Al X [a, b, c] σ H [u, v, w]) (k : ∀ H1, Ex H H1 → XB X rest D (((σ.set i (some u)).set j (some v)).set l (some w)) H1) (hN : X.N.Nodup := by assumption) (hc : X.calm = true := by rfl) (hi : X.N[i]? = some x := by rfl) (hj : X.N[j]? = some y := by rfl) (hl : X.N[l]? = some z := by rfl) (hij : i ≠ j := by decide) (hil : i ≠ l := by decide) (hjl : j ≠ l := by decide)
    (hx : X.env.scope.names.lookup x = some .local := by rfl) (hy : X.env.scope.names.lookup y = some .local := by rfl) (hz : X.env.scope.names.lookup z = some .local := by rfl)
    (hw : swappedStores [.Tuple [.Name x px, .Name y py, .Name z pz] kt pt] (.Tuple [a, b, c] k2 pt2) X.env = pure (some [x, y, z]) := by rfl)
    (hs : swapsWithSole [.Tuple [.Name x px, .Name y py, .Name z pz] kt pt] (.Tuple [a, b, c] k2 pt2) pos.line X.env = pure false := by rfl) :
    XB X (.Assign [.Tuple [.Name x px, .Name y py, .Name z pz] kt pt] (.Tuple [a, b, c] k2 pt2) pos :: rest) D σ H :=
  xb_cons (xs_of (ps_par3 hc hN hi hj hl hij hil hjl hx hy hz pa_xa hw hs) (h H (Ex.refl H) _ fun H1 e1 => ⟨u, v, w, rfl, k H1 e1⟩))
end
theorem LsAt.field {H0 H : Hp} {sd g c d : Addr} {ps : List (Addr × Addr)} {st : Ho} {gs : List V} {v : V} {f : Fd} (h : LsAt H0 sd g c d ps st H) (hg : H g = some (.lst gs)) (hf : FdAt H v f) (h4 : st.fields.length < 4) (hn : isNameM f.name = true) (hk : FkOk f.k) :
    LsAt H0 sd g c d ps { st with fields := st.fields ++ [f] } (upd H g (.lst (gs ++ [v]))) := by
  have hne : sd ≠ g := fun q => by have := h.dic; rw [q, hg] at this; cases this
  refine ⟨by rw [upd_ne hne]; exact h.dic, h.sd0, h.sta.field hg hf, ⟨?_, ?_, h.ok.g9, h.ok.g, h.ok.t5, h.ok.t⟩⟩
  · show (st.fields ++ [_]).length ≤ 4
    rw [List.length_append, List.length_singleton]; omega
  · intro x hx
    rcases List.mem_append.mp hx with q | q
    · exact h.ok.f x q
    · simp only [List.mem_cons, List.not_mem_nil, or_false] at q
      subst q
      exact ⟨hn, hk⟩
theorem new_back {H0 H : Hp} (e : Ex H0 H) {x : Addr} (hx : H x = none) : H0 x = none := by
  cases hz0 : H0 x with
  | none => rfl
  | some u => have := e _ _ hz0; rw [hx] at this; cases this
/-- a gate more: its rows a new list, itself a new tuple -/
theorem LsAt.gate {H0 H : Hp} {sd g c d t r : Addr} {ps : List (Addr × Addr)} {st : Ho} {a o : W} (h : LsAt H0 sd g c d ps st H) (ht : H t = some (.tup [.str (S a), .str (S o), .ref r])) (hr : H r = some (.lst [])) (hr0 : H0 r = none) (hrn : r ∉ g :: c :: d :: ps.map (·.2)) (h5 : st.gates.length < 5) :
    LsAt H0 sd g c d (ps ++ [(t, r)]) { st with gates := st.gates ++ [⟨a, o, []⟩] } (upd H d (.lst ((ps.map fun p => V.ref p.1) ++ [.ref t]))) := by
  have hne : sd ≠ d := fun q => by have := h.dic; rw [q, h.sta.ds] at this; cases this
  refine ⟨by rw [upd_ne hne]; exact h.dic, h.sd0, h.sta.gate (p := (t, r)) (f := ⟨a, o, []⟩) ⟨by rw [if_pos rfl]; exact .inl ht, [], hr, .nil⟩ hr0 hrn (fun q => by cases q) (fun q => by cases q), ⟨h.ok.f4, h.ok.f, h.ok.g9, h.ok.g, ?_, ?_⟩⟩
  · show (st.gates ++ [_]).length ≤ 5
    rw [List.length_append, List.length_singleton]; omega
  · intro x hx
    rcases List.mem_append.mp hx with q | q
    · exact h.ok.t x q
    · simp only [List.mem_cons, List.not_mem_nil, or_false] at q
      subst q
      exact Nat.zero_le _
/-- what the lists of the state are: no new address -/
theorem LsAt.old {H0 H : Hp} {sd g c d : Addr} {ps : List (Addr × Addr)} {st : Ho} (h : LsAt H0 sd g c d ps st H) {x : Addr} (hx : H x = none) : x ∉ g :: c :: d :: ps.map (·.2) := by
  intro hm
  simp only [List.mem_cons] at hm
  rcases hm with q | q | q | q
  · obtain ⟨gs, hg, _⟩ := h.sta.gs; rw [q, hg] at hx; cases hx
  · obtain ⟨cs, hg, _⟩ := h.sta.cs; rw [q, hg] at hx; cases hx
  · rw [q, h.sta.ds] at hx; cases hx
  · obtain ⟨pr, hpr, ex⟩ := List.mem_map.mp q
    obtain ⟨zs, z1, z2, z3⟩ := paired_zip h.sta.gts
    rw [z1] at hpr
    obtain ⟨z, hz, ez⟩ := List.mem_map.mp hpr
    obtain ⟨_, rs, hrs, _⟩ := z3 z hz
    rw [← ex, ← ez, hrs] at hx
    cases hx
section
variable {P : Program} {w : World} {K : PySem.W.Frag} {mg : Str → Option Value} {base : Heap}
theorem ok_lLine (T : Tx K mg) : Gd P w K mg base 6 "_law_line_read" (spLLine lineM) := by
  have GR : Gd P w K mg base 5 "_law_rule_read" (spLLine ruleM) := ok_lRule T
  have GT : Gd P w K mg base 2 "_law_things" spLThings := ok_lThings T
  have GN : Gd P w K mg base 1 "_law_is_name" spLIsName := ok_lIsName T
  refine gd_of T dLawLineRead 58 T.g__law_line_read scLawLineRead (fun _ _ _ _ _ _ us hl => match us, hl with | [_, _], _ => rfl) (fun _ _ _ _ => spLLine_len) fun f cdv A outer s H vs Q E hr ⟨H0, sd, g, c, d, ps, st, wl, ws, e, hR, hw, hz, hwn, hne, k1, k2⟩ => ?_
  subst e
  have nd := scLawLineRead.nd
  have hr1 : Room 1 (Cxd dLawLineRead P w K mg base nLawLineRead f cdv A outer s H E).A := hr.mono (by decide)
  have hr2 : Room 2 (Cxd dLawLineRead P w K mg base nLawLineRead f cdv A outer s H E).A := hr.mono (by decide)
  have bad : lineM st ws = none → ∀ H', Ex H H' → Q (.bl false) H' := fun q H' e' => k2 q H' (hR.sta.ex.trans e')
  obtain ⟨gs, hgs, hgp⟩ := hR.sta.gs
  obtain ⟨cs, hcs, hcp⟩ := hR.sta.cs
  have hds := hR.sta.ds
  obtain ⟨zs, z1, z2, z3⟩ := paired_zip hgp
  have zl : zs.length ≤ 4 := by have := hR.ok.f4; rw [z2, List.length_map] at this; exact this
  have ld : (ps.map fun p => V.ref p.1).length = st.gates.length := by rw [List.length_map, len_ds hR.sta]
  refine xb_par3 2 3 4 (a_cons (v_dget hr (vl_du (v_v 0) hR.dic) v_str (kvS_f g c d)) (a_cons (v_dget hr (vl_du (v_v 0) hR.dic) v_str (kvS_g g c d)) (a_1 (v_dget hr (vl_du (v_v 0) hR.dic) v_str (kvS_t g c d))))) fun H1 e1 => ?_
  match ws, hw, hz, k1, k2, bad, hne with
  | w0 :: r, hw, hz, k1, k2, bad, hne =>
    have em := lineM_cons (st := st) (w0 := w0) (r := r)
    have vw : ∀ {H' : Hp} {σ' : L2.St} {e : Expr} {p pos : Pos} {j : Nat}, Ex H H' → Vl (Cxd dLawLineRead P w K mg base nLawLineRead f cdv A outer s H E) e σ' H' (.ref wl) → Vl (Cxd dLawLineRead P w K mg base nLawLineRead f cdv A outer s H E) (.Subscript e (.Constant (.int 0) j p) pos) σ' H' (.str (S w0)) := fun e' h => v_ixW0 0 (vl_sl h (sq_of (e' _ _ hw))) v_int rfl
    have kw : ∀ {H' : Hp} {σ' : L2.St} {e : Expr} {p pos p2 p3 : Pos} {j j2 : Nat} {u : Str}, Ex H H' → Vl (Cxd dLawLineRead P w K mg base nLawLineRead f cdv A outer s H E) e σ' H' (.ref wl) → Bl (Cxd dLawLineRead P w K mg base nLawLineRead f cdv A outer s H E) (.Compare (.Subscript e (.Constant (.int 0) j p) pos) [.Eq] [.Constant (.str u) j2 p2] p3) σ' H' (decide (S w0 = u)) := fun e' h => bl_is (bc (c_eq (vw e' h) v_str)) dec_V
    refine xb_when (k := decide (S w0 = "let") || (decide (S w0 = "refuse") || decide (S w0 = "pass"))) (bl_is (bc (c_inT (vw e1 (v_v 1)) (ul_tu (u_tup (a_cons v_str (a_cons v_str (a_1 v_str))))) rfl rfl)) inV3) (fun hk H2 e2 => ?_) fun hk H2 e2 => ?_
    · have hk' : S w0 = "let" ∨ S w0 = "refuse" ∨ S w0 = "pass" := by simpa using hk
      have n1 : ¬ S w0 = "field" := by rcases hk' with q | q | q <;> rw [q] <;> decide +kernel
      have n2 : ¬ S w0 = "group" := by rcases hk' with q | q | q <;> rw [q] <;> decide +kernel
      have n3 : ¬ S w0 = "gate" := by rcases hk' with q | q | q <;> rw [q] <;> decide +kernel
      rw [if_neg n1, if_neg n2, if_neg n3, if_pos hk'] at em
      have E2 := e1.trans e2
      exact xb_retE (xe_call GR hr passL (xa_cons (xe_v (v_v 0) fun H3 e3 => xa_cons (xe_v (v_v 1) fun H4 e4 => xa_nil ⟨H0, sd, g, c, d, ps, st, wl, w0 :: r, rfl, (hR.mono E2).mono (e3.trans e4), (E2.trans (e3.trans e4)) _ _ hw, hz, hwn, hne, fun st' hs => k1 st' (by rw [em]; exact hs), fun hs => k2 (by rw [em]; exact hs)⟩))))
    · have hk' : ¬ (S w0 = "let" ∨ S w0 = "refuse" ∨ S w0 = "pass") := by simpa using hk
      have E2 := e1.trans e2
      have R2 := hR.mono E2
      by_cases hF : S w0 = "field"
      · rw [if_pos hF] at em
        have n2 : ¬ S w0 = "group" := by rw [hF]; decide +kernel
        have n3 : ¬ S w0 = "gate" := by rw [hF]; decide +kernel
        refine xb_when (k := (decide (st.groups = []) && decide (st.gates = [])) && (decide (st.fields.length < 4) && decide (2 < (w0 :: r).length))) (bl_is (b_w (w_and (j := true) (bl_is (kw E2 (v_v 1)) (decide_eq_true hF)) fun _ => w_and (j := decide (st.groups = []) && decide (st.gates = [])) (bl_is (bc (c_eqNil hr (ll_sl (l_cat (vl_hl (v_v 3) (E2 _ _ hcs)) (vl_hl (v_v 4) (E2 _ _ hds)) (by rw [ld, len_cs hR.sta hcs]; have := hR.ok.g9; have := hR.ok.t5; omega))))) (by rw [← empty_iff (len_cs hR.sta hcs), ← empty_iff (len_ds hR.sta)]; cases cs <;> cases ps <;> rfl)) fun _ => w_and (j := decide (st.fields.length < 4)) (bl_is (bc (c_lt (v_lenL T.f_len (vl_sl (v_v 2) (sq_of (E2 _ _ hgs)))) v_int)) (by rw [len_gs hR.sta hgs]; exact decide_eq_decide.mpr (by omega))) fun _ => w_and1 (bl_is (bc (c_gt (v_lenL T.f_len (vl_sl (v_v 1) (sq_of (E2 _ _ hw)))) v_int)) (by rw [List.length_map]; exact decide_eq_decide.mpr (by omega))))) (Bool.true_and _)) (fun hc H3 e3 => ?_) fun hc H3 e3 => ?_
        · simp only [Bool.and_eq_true, decide_eq_true_eq] at hc
          obtain ⟨⟨q1, q2⟩, q3, q4⟩ := hc
          have E3 := E2.trans e3
          match r, hw, hz, k1, k2, bad, em, q4 with
          | a :: kind :: rest, hw, hz, k1, k2, bad, em, q4 =>
            have la := (hz.2 a (by simp)).1
            refine xb_setE 5 (xe_call GT hr2 passL (xa_cons (xe_v (v_ixW0 2 (vl_sl (v_v 1) (sq_of (E3 _ _ hw))) v_int (w := kind) rfl) fun H4 e4 => xa_cons (xe_l (ll_is (l_slL (vl_sl (v_v 1) (sq_of ((E3.trans e4) _ _ hw))) (o_s v_int) o_n) (show cutV _ (some ((3 : Nat) : Int)) none = rest.map fun a => V.str (S a) by rw [cutV_from]; rfl)) fun rl H5 hrl e5 h5 => xa_nil ⟨kind, rl, rest, rfl, h5, ⟨by have := hz.1; simp only [List.length_cons] at this; omega, fun x hx => by have := (hz.2 x (by simp [hx])).1; omega⟩, fun tl xs H6 htl e6 h6 th => ?_⟩))))
            have E6 := ((E3.trans e4).trans e5).trans e6
            have R6 := hR.mono E6
            refine xb_setCv (zs := (st.fields.map (·.name)).map fun p => V.str (S p)) 6 ((lc_map (i := 10) (own := [("_law_field_here", 10)]) (ws := zs) (enc := fun z => z.1) (fun z => V.str (S z.2.name)) (il_L (vl_sl (v_v 2) (sq_of (by rw [← z1]; exact E6 _ _ hgs)))) (by omega)
              (blkOk_by (N := nLawLineRead) (sc := defScope sLawLineRead) (by decide +kernel)) (fun _ _ _ _ _ z hz => ?_)).is fun _ _ _ _ q => by rw [q, z2, List.map_map, List.map_map]; rfl) fun kl H7 hkl e7 h7 => ?_
            · obtain ⟨fa, tv, ea, ra, _⟩ := (z3 z hz).mono E6
              rw [ea]
              exact v_ixT (vl_tu (v_v 10) (.inl ra)) v_int rfl
            · have E7 := E6.trans e7
              have R7 := R6.mono e7
              have et : fieldM st (w0 :: a :: kind :: rest) = if isNameM a = true ∧ a ∉ st.fields.map (·.name) then (thingsM kind rest).map fun k => { st with fields := st.fields ++ [⟨a, k⟩] } else none := by
                unfold fieldM
                dsimp only
                by_cases y : isNameM a = true ∧ a ∉ st.fields.map (·.name)
                · rw [if_pos y, if_pos ⟨q1, q2, q3, y⟩]
                · rw [if_neg y, if_neg fun z => y z.2.2.2]
              refine xb_when (k := (thingsM kind rest).isNone || (!isNameM a || decide (a ∈ st.fields.map (·.name)))) (b_w (w_or (bl_is (bc (c_eqNil hr (vl_sl (v_v 5) (sq_of (e7 _ _ h6))))) ?_) fun _ => w_or (b_not (b_v (v_call GN hr1 passL (a_1 (v_ixW0 1 (vl_sl (v_v 1) (sq_of (E7 _ _ hw))) v_int (w := a) rfl)) (spS1_v (by omega))))) fun _ => w_or1 (bl_is (bc (c_inL (v_ixW0 1 (vl_sl (v_v 1) (sq_of (E7 _ _ hw))) v_int (w := a) rfl) (vl_sl (v_v 6) (sq_of h7)) rfl (flat_strs _))) (inV_strs _)))) (fun hb H8 e8 => ?_) fun hb H8 e8 => ?_
              · cases ht : thingsM kind rest with
                | none => rw [ht] at th; have q : xs = [] := th; rw [q]; rfl
                | some k => rw [ht] at th; obtain ⟨v, ev, _⟩ := th; rw [ev]; rfl
              · refine xb_ret v_bl fun H9 e9 => bad ?_ H9 ((E7.trans e8).trans e9)
                rw [em, et]
                simp only [Bool.or_eq_true, Option.isNone_iff_eq_none, Bool.not_eq_true', decide_eq_true_eq] at hb
                split
                · rename_i y
                  rcases hb with q | q | q
                  · rw [q]; rfl
                  · rw [y.1] at q; cases q
                  · exact absurd q y.2
                · rfl
              · simp only [Bool.or_eq_false_iff, Bool.not_eq_false', decide_eq_false_iff_not] at hb
                obtain ⟨b1, b2, b3⟩ := hb
                cases ht : thingsM kind rest with
                | none => rw [ht] at b1; cases b1
                | some k =>
                  rw [ht] at th
                  obtain ⟨v, ev, tv⟩ := th
                  subst ev
                  rw [if_pos ⟨b2, b3⟩, ht] at et
                  have E8 := E7.trans e8
                  refine xb_appE (l := g) (xs := gs) (v_v 2) (E8 _ _ hgs) (fun H9 e9 => ?_) (by rw [len_gs hR.sta hgs]; omega)
                  have E9 := E8.trans e9
                  refine xe_tup (xa_cons (xe_v (v_ixW0 1 (vl_sl (v_v 1) (sq_of (E9 _ _ hw))) v_int (w := a) rfl) fun H10 e10 => xa_cons (xe_v (v_ixW0 2 (vl_sl (v_v 1) (sq_of ((E9.trans e10) _ _ hw))) v_int (w := kind) rfl) fun H11 e11 => xa_cons (xe_v (v_ixL (vl_sl (v_v 5) (sq_of ((((e7.trans e8).trans e9).trans (e10.trans e11)) _ _ h6))) v_int rfl) fun H12 e12 => xa_nil ⟨by simp, fun p hp => ?_⟩))))
                  have en := Ex.new (o := .tup [.str (S a), .str (S kind), v]) hp
                  have E12 := ((E9.trans e10).trans e11).trans e12
                  have R12 := (hR.mono E12).mono en
                  have e612 := ((((e7.trans e8).trans e9).trans (e10.trans e11)).trans e12).trans en
                  have hgf := (E12.trans en) _ _ hgs
                  have fd : FdAt (upd H12 p (.tup [.str (S a), .str (S kind), v])) (.ref p) ⟨a, k⟩ := ⟨p, v, rfl, .inl (by rw [upd_same, things_word ht]), tv.fex (.of e612)⟩
                  exact ⟨hgf, xb_ret v_bl fun H13 e13 => k1 _ (by rw [em, et]; rfl) _ H13 ((R12.field hgf fd q3 b2 (things_ok ht)).mono e13)⟩
          | [], _, _, _, _, _, _, q4 => simp at q4
          | [_], _, _, _, _, _, _, q4 => simp at q4
        · have E3 := E2.trans e3
          have hnone : fieldM st (w0 :: r) = none := by
            unfold fieldM
            split
            · rename_i a kind rest heq
              rw [if_neg]
              rintro ⟨y1, y2, y3, _⟩
              cases heq
              rw [decide_eq_true y1, decide_eq_true y2, decide_eq_true y3] at hc
              simp at hc
            · rfl
          refine xb_no (bl_is (b_w (w_and (j := false) (k := false) (bl_is (kw E3 (v_v 1)) (decide_eq_false n2)) fun q => by cases q)) rfl) fun H4 e4 => ?_
          exact xb_yes (bl_is (b_w (w_or (j := true) (k := false) (bl_is (bc (c_ne (vw (E3.trans e4) (v_v 1)) v_str)) (by rw [dec_V, decide_eq_false n3]; rfl)) fun q => by cases q)) rfl) fun H5 e5 => xb_ret v_bl fun H6 e6 => bad (by rw [em, hnone]) H6 (((E3.trans e4).trans e5).trans e6)
      · rw [if_neg hF] at em
        refine xb_no (bl_is (b_w (w_and (j := false) (k := false) (bl_is (kw E2 (v_v 1)) (decide_eq_false hF)) fun q => by cases q)) rfl) fun H3 e3 => ?_
        have E3 := E2.trans e3
        by_cases hG : S w0 = "group"
        · rw [if_pos hG] at em
          have n3 : ¬ S w0 = "gate" := by rw [hG]; decide +kernel
          refine xb_when (k := decide (st.gates = []) && (decide (st.groups.length < 9) && (decide (3 < (w0 :: r).length) && decide ((w0 :: r).length < 13)))) (bl_is (b_w (w_and (j := true) (bl_is (kw E3 (v_v 1)) (decide_eq_true hG)) fun _ => w_and (j := decide (st.gates = [])) (bl_is (bc (c_eqNil hr (vl_sl (v_v 4) (sq_of (E3 _ _ hds))))) (by rw [isEmpty_map, empty_iff (len_ds hR.sta)])) fun _ => w_and (j := decide (st.groups.length < 9)) (bl_is (bc (c_lt (v_lenL T.f_len (vl_sl (v_v 3) (sq_of (E3 _ _ hcs)))) v_int)) (by rw [len_cs hR.sta hcs]; exact decide_eq_decide.mpr (by omega))) fun _ => w_and1 (bl_is (bc2 (c_ltLt v_int (v_lenL T.f_len (vl_sl (v_v 1) (sq_of (E3 _ _ hw)))) v_int)) (by
            rw [List.length_map]
            congr 1
            · exact decide_eq_decide.mpr (by omega)
            · exact decide_eq_decide.mpr (by omega))))) (Bool.true_and _)) (fun hc H4 e4 => ?_) fun hc H4 e4 => ?_
          · simp only [Bool.and_eq_true, decide_eq_true_eq] at hc
            obtain ⟨q1, q2, q3, q4⟩ := hc
            have E4 := E3.trans e4
            match r, hw, hz, k1, k2, bad, em, q3, q4 with
            | fn :: a :: m :: rest, hw, hz, k1, k2, bad, em, q3, q4 =>
              have la := (hz.2 a (by simp)).1
              have efind : st.fields.find? (fun f => f.name == fn && isNames f.k) = ((zs.filter fun z => z.2.name == fn && isNames z.2.k).head?).map (·.2) := by
                rw [find_head, z2, List.filter_map, List.head?_map]; rfl
              refine xb_setCv (zs := ((zs.filter fun z => z.2.name == fn && isNames z.2.k).map fun z => z.1)) 7 (lc_fil (i := 10) (own := [("_law_field_here", 10)]) (ws := zs) (enc := fun z => z.1) (fun z => z.2.name == fn && isNames z.2.k) (fun z => z.1) (il_L (vl_sl (v_v 2) (sq_of (by rw [← z1]; exact E4 _ _ hgs)))) (by omega)
                (blkOk_by (N := nLawLineRead) (sc := defScope sLawLineRead) (by decide +kernel)) (fun _ _ _ _ _ z hz => ?_) (fun _ _ _ _ _ z hz _ => v_v 10)) (fun fl H5 hfl e5 h5 => ?_)
              · obtain ⟨fa, tv, ea, ra, _⟩ := (z3 z hz).mono E4
                rw [ea]
                exact b_w (w_and (bl_is (bc (c_eq (v_ixT (vl_tu (v_v 10) (.inl ra)) v_int rfl) (v_ixW0 1 (vl_sl (v_v 1) (sq_of (E4 _ _ hw))) v_int rfl))) dec_str) fun _ => w_and1 (bl_is (bc (c_eq (v_ixT (vl_tu (v_v 10) (.inl ra)) v_int rfl) v_str)) (by rw [dec_V, word_names])))
              · have E5 := E4.trans e5
                have kz : (m :: rest).length ≤ 4090 := by have := hz.1; simp only [List.length_cons] at this ⊢; omega
                have sl3 : ∀ {H' : Hp} {σ' : L2.St} {e : Expr} {p p2 pos : Pos} {j : Nat}, Ex H5 H' → Vl (Cxd dLawLineRead P w K mg base nLawLineRead f cdv A outer s H E) e σ' H' (.ref wl) → Ll (Cxd dLawLineRead P w K mg base nLawLineRead f cdv A outer s H E) (.Subscript e (.Slice (some (.Constant (.int 3) j p)) none none p2) pos) σ' H' ((m :: rest).map fun a => V.str (S a)) := fun e' h => ll_is (l_slL (vl_sl h (sq_of ((E5.trans e') _ _ hw))) (o_s v_int) o_n) (show cutV _ (some ((3 : Nat) : Int)) none = (m :: rest).map fun a => V.str (S a) by rw [cutV_from]; rfl)
                have hsl := setLen_le (m :: rest)
                have hsn := setLen_nd (ws := m :: rest)
                refine xb_when (k := (zs.filter fun z => z.2.name == fn && isNames z.2.k).isEmpty || (!isNameM a || !decide (m :: rest).Nodup)) (b_w (w_or (bl_is (bc (c_eqNil hr (vl_sl (v_v 7) (sq_of h5)))) (by rw [isEmpty_map])) fun _ => w_or (b_not (b_v (v_call GN hr1 passL (a_1 (v_ixW0 2 (vl_sl (v_v 1) (sq_of (E5 _ _ hw))) v_int (w := a) rfl)) (spS1_v (by omega))))) fun _ => w_or1 (bl_is (bc (c_lt (v_lenSet (ws := m :: rest) T.f_len T.f_set (ll_sl (sl3 (Ex.refl _) (v_v 1))) kz) (v_sub (v_lenL T.f_len (vl_sl (v_v 1) (sq_of (E5 _ _ hw)))) v_int))) ?_))) (fun hb H6 e6 => ?_) fun hb H6 e6 => ?_
                · rw [List.length_map, show (((w0 :: fn :: a :: m :: rest).length : Int) - 3) = ((m :: rest).length : Int) from by simp only [List.length_cons]; omega]
                  by_cases hnd : (m :: rest).Nodup
                  · rw [decide_eq_true hnd, decide_eq_false (by have := hsn.mpr hnd; omega)]; rfl
                  · rw [decide_eq_false hnd, decide_eq_true (by have : setLen (m :: rest) ≠ (m :: rest).length := fun y => hnd (hsn.mp y); omega)]; rfl
                · refine xb_ret v_bl fun H7 e7 => bad ?_ H7 ((E5.trans e6).trans e7)
                  rw [em]
                  unfold groupM
                  dsimp only
                  rw [efind]
                  simp only [Bool.or_eq_true, Bool.not_eq_true', decide_eq_false_iff_not, List.isEmpty_iff] at hb
                  cases hzf : zs.filter fun z => z.2.name == fn && isNames z.2.k with
                  | nil => rfl
                  | cons z0 zr =>
                    show (if _ then _ else _) = none
                    rw [if_neg]
                    rintro ⟨_, _, y1, _, _, y2, _⟩
                    rcases hb with q | q | q
                    · rw [hzf] at q; cases q
                    · rw [y1] at q; cases q
                    · exact q y2
                · simp only [Bool.or_eq_false_iff, Bool.not_eq_false', decide_eq_true_eq] at hb
                  obtain ⟨b1, b2, b3⟩ := hb
                  have E6 := E5.trans e6
                  cases hzf : zs.filter fun z => z.2.name == fn && isNames z.2.k with
                  | nil => rw [hzf] at b1; cases b1
                  | cons z0 zr =>
                    rw [hzf] at h5 efind
                    have m0 : z0 ∈ zs.filter fun z => z.2.name == fn && isNames z.2.k := by rw [hzf]; simp
                    obtain ⟨m1, m2⟩ := List.mem_filter.mp m0
                    simp only [Bool.and_eq_true, beq_iff_eq] at m2
                    obtain ⟨ns, en⟩ := isNames_of m2.2
                    have fok := hR.ok.f z0.2 (by rw [z2]; exact List.mem_map_of_mem m1)
                    have nsl : ns.length ≤ 9 := by have := fok.2.few; rw [en] at this; exact this
                    have eg : groupM st (w0 :: fn :: a :: m :: rest) = if a ∉ knownM st z0.2 ∧ ∀ x ∈ m :: rest, x ∈ knownM st z0.2 then some { st with groups := st.groups ++ [⟨fn, a, m :: rest⟩] } else none := by
                      unfold groupM
                      dsimp only
                      rw [efind]
                      show (if _ then _ else _) = _
                      by_cases y : a ∉ knownM st z0.2 ∧ ∀ x ∈ m :: rest, x ∈ knownM st z0.2
                      · rw [if_pos y, if_pos ⟨q1, q2, b2, y.1, by simp only [List.length_cons] at q4 ⊢; omega, b3, y.2⟩]
                      · rw [if_neg y, if_neg fun z => y ⟨z.2.2.2.1, z.2.2.2.2.2.2⟩]
                    obtain ⟨zc, c1, c2, c3⟩ := hcp.zip
                    have zcl : zc.length ≤ 9 := by have := hR.ok.g9; rw [c2, List.length_map] at this; exact this
                    refine xb_setCv (zs := (zc.filter fun y => y.2.field == fn).map fun y => V.str (S y.2.name)) 8 (lc_fil (i := 11) (own := [("_law_group", 11)]) (ws := zc) (enc := fun y => y.1) (fun y => y.2.field == fn) (fun y => V.str (S y.2.name)) (il_L (vl_sl (v_v 3) (sq_of (by rw [← c1]; exact E6 _ _ hcs)))) (by omega)
                      (blkOk_by (N := nLawLineRead) (sc := defScope sLawLineRead) (by decide +kernel)) (fun _ _ _ _ _ y hy => ?_) (fun _ _ _ _ _ y hy _ => ?_)) (fun ol H7 hol e7 h7 => ?_)
                    · obtain ⟨ad, mm, ea, ra, _⟩ := ((c3 y hy).mono E6).gp
                      rw [ea]
                      exact bl_is (bc (c_eq (v_ixT (vl_tu (v_v 11) (.inl ra)) v_int rfl) (v_ixW0 1 (vl_sl (v_v 1) (sq_of (E6 _ _ hw))) v_int (w := fn) rfl))) dec_str
                    · obtain ⟨ad, mm, ea, ra, _⟩ := ((c3 y hy).mono E6).gp
                      rw [ea]
                      exact v_ixT (vl_tu (v_v 11) (.inl ra)) v_int rfl
                    · have E7 := E6.trans e7
                      obtain ⟨fa, tv, ea, ra, hth⟩ := (z3 z0 m1).mono E7
                      rw [en] at hth
                      obtain ⟨t, rfl, ht⟩ := hth
                      have ek : knownM st z0.2 = ns ++ (zc.filter fun y => y.2.field == fn).map fun y => y.2.name := by
                        unfold knownM
                        rw [en, c2, List.filter_map, List.map_map, m2.1]
                        rfl
                      refine xb_setL 9 (ll_is (l_cat (xs := ns.map fun p => V.str (S p)) (ll_hl (l_listT T.f_list (vl_tu (v_ixT (v := .ref t) (vl_tu (v_ixLn 0 (v := .ref fa) (vl_sl (v_v 7) (sq_of ((e6.trans e7) _ _ h5))) v_int (by rw [← ea]; rfl)) (.inl ra)) v_int rfl) (.inl ht.rd)))) (vl_hl (v_v 8) h7) (by
                        have := List.length_filter_le (fun y : V × Gp => y.2.field == fn) zc
                        rw [List.length_map, List.length_map]
                        omega)) (show _ = (knownM st z0.2).map (fun a => V.str (S a)) by rw [ek, List.map_append, List.map_map]; rfl)) fun sl H8 hsl8 e8 h8 => ?_
                      have E8 := E7.trans e8
                      have e58 := (e6.trans e7).trans e8
                      refine xb_appE (l := c) (xs := cs) (v_v 3) (E8 _ _ hcs) (fun H9 e9 => ?_) (by rw [len_cs hR.sta hcs]; omega)
                      have E9 := E8.trans e9
                      refine xe_d (d := Gp.d ⟨fn, a, m :: rest⟩) (d_tup (da_cons (d_str (v_ixW0 1 (vl_sl (v_v 1) (sq_of (E9 _ _ hw))) v_int (w := fn) rfl)) (da_cons (d_str (v_ixW0 2 (vl_sl (v_v 1) (sq_of (E9 _ _ hw))) v_int (w := a) rfl)) (da_cons (d_tupL T.f_tuple (ll_sl (sl3 (e58.trans e9) (v_v 1))) TpA.of_strs) da_nil)))) fun y H10 e10 ty => ?_
                      have E10 := E9.trans e10
                      have R10 := hR.mono E10
                      have hc10 := E10 _ _ hcs
                      refine ⟨hc10, ?_⟩
                      have wne : wl ≠ c := fun q => hwn (by rw [q]; simp)
                      have sne : sl ≠ c := fun q => by rw [q, E7 _ _ hcs] at hsl8; cases hsl8
                      have hw11 : upd H10 c (.lst (cs ++ [y])) wl = some (.lst ((w0 :: fn :: a :: m :: rest).map fun a => V.str (S a))) := by rw [upd_ne wne]; exact E10 _ _ hw
                      have hs11 : upd H10 c (.lst (cs ++ [y])) sl = some (.lst ((knownM st z0.2).map fun a => V.str (S a))) := by rw [upd_ne sne]; exact (e9.trans e10) _ _ h8
                      have S11 := R10.sta.group hc10 ty
                      have hdne : sd ≠ c := fun q => by have := R10.dic; rw [q, hc10] at this; cases this
                      refine xb_ret (v := .bl (!decide (a ∈ knownM st z0.2) && (m :: rest).all fun x => decide (x ∈ knownM st z0.2))) (v_and (vl_is (vc (c_ninL (v_ixW0 2 (vl_sl (v_v 1) (sq_of hw11)) v_int (w := a) rfl) (vl_sl (v_v 9) (sq_of hs11)) rfl (flat_strs _))) (by rw [inV_strs])) fun _ => v_one (vl_is (v_all (bs := (m :: rest).map fun x => decide (x ∈ knownM st z0.2)) rfl T.f_all (ll_sl (ll_is (cp_ll (lc_map (i := 12) (own := [("_law_word", 12)]) (ws := m :: rest) (enc := fun a => V.str (S a)) (fun x => V.bl (decide (x ∈ knownM st z0.2))) (il_L (ll_sl (ll_is (l_slL (vl_sl (v_v 1) (sq_of hw11)) (o_s v_int) o_n) (show cutV _ (some ((3 : Nat) : Int)) none = (m :: rest).map fun a => V.str (S a) by rw [cutV_from]; rfl)))) (by omega)
                        (blkOk_by (N := nLawLineRead) (sc := defScope sLawLineRead) (by decide +kernel)) (fun _ _ _ _ _ x hx => vl_is (vc (c_inL (v_v 12) (vl_sl (v_v 9) (sq_of hs11)) rfl (flat_strs _))) (by rw [inV_strs])))) (by rw [List.map_map]; rfl)))) (by rw [all_map_id]))) fun H11 e11 => ?_
                      cases hv : (!decide (a ∈ knownM st z0.2) && (m :: rest).all fun x => decide (x ∈ knownM st z0.2)) with
                      | true =>
                        simp only [Bool.and_eq_true, Bool.not_eq_true', decide_eq_false_iff_not] at hv
                        have hall : ∀ x ∈ m :: rest, x ∈ knownM st z0.2 := fun x hx => of_decide_eq_true (List.all_eq_true.mp hv.2 x hx)
                        rw [if_pos ⟨hv.1, hall⟩] at eg
                        refine k1 _ (by rw [em, eg]) ps H11 (LsAt.mono e11 ⟨by rw [upd_ne hdne]; exact R10.dic, R10.sd0, S11, ⟨R10.ok.f4, R10.ok.f, ?_, ?_, R10.ok.t5, R10.ok.t⟩⟩)
                        · show (st.groups ++ [_]).length ≤ 9
                          rw [List.length_append, List.length_singleton]; omega
                        · intro x hx
                          rcases List.mem_append.mp hx with q | q
                          · exact R10.ok.g x q
                          · simp only [List.mem_cons, List.not_mem_nil, or_false] at q
                            subst q
                            exact ⟨b2, by simp only [List.length_cons] at q4 ⊢; omega⟩
                      | false =>
                        refine k2 ?_ H11 (S11.ex.trans e11)
                        rw [em, eg, if_neg]
                        rintro ⟨y1, y2⟩
                        rw [decide_eq_false y1, List.all_eq_true.mpr fun x hx => decide_eq_true (y2 x hx)] at hv
                        cases hv
            | [], _, _, _, _, _, _, q3, _ => simp at q3
            | [_], _, _, _, _, _, _, q3, _ => simp at q3
            | [_, _], _, _, _, _, _, _, q3, _ => simp at q3
          · have E4 := E3.trans e4
            have hnone : groupM st (w0 :: r) = none := by
              match r, hc with
              | [], _ => rfl
              | [_], _ => rfl
              | [_, _], _ => rfl
              | fn :: a :: m :: rest, hc =>
                unfold groupM
                dsimp only
                cases st.fields.find? fun f => f.name == fn && isNames f.k with
                | none => rfl
                | some f =>
                  show (if _ then _ else _) = none
                  rw [if_neg]
                  rintro ⟨y1, y2, _, _, y3, _⟩
                  rw [decide_eq_true y1, decide_eq_true y2] at hc
                  simp only [Bool.true_and, Bool.and_eq_false_iff, decide_eq_false_iff_not, List.length_cons] at hc y3
                  omega
            exact xb_yes (bl_is (b_w (w_or (j := true) (k := false) (bl_is (bc (c_ne (vw E4 (v_v 1)) v_str)) (by rw [dec_V, decide_eq_false n3]; rfl)) fun q => by cases q)) rfl) fun H5 e5 => xb_ret v_bl fun H6 e6 => bad (by rw [em, hnone]) H6 ((E4.trans e5).trans e6)
        · rw [if_neg hG] at em
          refine xb_no (bl_is (b_w (w_and (j := false) (k := false) (bl_is (kw E3 (v_v 1)) (decide_eq_false hG)) fun q => by cases q)) rfl) fun H4 e4 => ?_
          have E4 := E3.trans e4
          by_cases hT : S w0 = "gate"
          · rw [if_pos hT] at em
            refine xb_when (k := !decide ((w0 :: r).length = 3) || (decide (st.fields = []) || decide (4 < st.gates.length))) (bl_is (b_w (w_or (j := false) (bl_is (bc (c_ne (vw E4 (v_v 1)) v_str)) (by rw [dec_V, decide_eq_true hT]; rfl)) fun _ => w_or (bl_is (bc (c_ne (v_lenL T.f_len (vl_sl (v_v 1) (sq_of (E4 _ _ hw)))) v_int)) (by rw [List.length_map, show (3 : Int) = ((3 : Nat) : Int) from rfl, dec_lenNe])) fun _ => w_or (bl_is (bc (c_eqNil hr (vl_sl (v_v 2) (sq_of (E4 _ _ hgs))))) (by rw [empty_iff (len_gs hR.sta hgs)])) fun _ => w_or1 (bl_is (bc (c_gt (v_lenL T.f_len (vl_sl (v_v 4) (sq_of (E4 _ _ hds)))) v_int)) (by rw [ld]; exact decide_eq_decide.mpr (by omega))))) (Bool.false_or _)) (fun hc H5 e5 => ?_) fun hc H5 e5 => ?_
            · refine xb_ret v_bl fun H6 e6 => bad ?_ H6 ((E4.trans e5).trans e6)
              rw [em]
              match r, hc with
              | [], _ => rfl
              | [_], _ => rfl
              | _ :: _ :: _ :: _, _ => rfl
              | [a, o], hc =>
                unfold gateM
                dsimp only
                rw [if_neg]
                rintro ⟨y1, y2, _⟩
                rw [decide_eq_false y1, decide_eq_false (show ¬ 4 < st.gates.length by omega)] at hc
                simp at hc
            · simp only [Bool.or_eq_false_iff, Bool.not_eq_false', decide_eq_true_eq, decide_eq_false_iff_not] at hc
              obtain ⟨q1, q2, q3⟩ := hc
              have E5 := E4.trans e5
              match r, hw, hz, k1, k2, bad, em, q1 with
              | [a, o], hw, hz, k1, k2, bad, em, q1 =>
                obtain ⟨zt, t1, t2, t3⟩ := paired_zip hR.sta.gts
                have la := (hz.2 a (by simp)).1
                have ztl : zt.length ≤ 5 := by have := hR.ok.t5; rw [t2, List.length_map] at this; exact this
                refine xb_setCv (zs := (st.gates.map (·.name)).map fun p => V.str (S p)) 6 ((lc_map (i := 13) (own := [("_law_gate", 13)]) (ws := zt) (enc := fun z => V.ref z.1.1) (fun z => V.str (S z.2.name)) (il_L (vl_sl (v_v 4) (sq_of (show H5 d = some (.lst (zt.map fun z => V.ref z.1.1)) by have := E5 _ _ hds; rw [t1, List.map_map] at this; exact this)))) (by omega)
                  (blkOk_by (N := nLawLineRead) (sc := defScope sLawLineRead) (by decide +kernel)) (fun _ _ _ _ _ z hz => v_ixT (vl_tu (v_v 13) (.inl (ex_rd E5 (by have := (t3 z hz).1; rw [if_pos rfl] at this; exact this)))) v_int rfl)).is fun _ _ _ _ q => by rw [q, t2, List.map_map, List.map_map]; rfl) fun tl H6 htl e6 h6 => ?_
                have E6 := E5.trans e6
                refine xb_appE (l := d) (v_v 4) (E6 _ _ hds) (fun H7 e7 => ?_) (by rw [ld]; omega)
                have E7 := E6.trans e7
                refine xe_tup (xa_cons (xe_v (v_ixW0 1 (vl_sl (v_v 1) (sq_of (E7 _ _ hw))) v_int (w := a) rfl) fun H8 e8 => xa_cons (xe_v (v_ixW0 2 (vl_sl (v_v 1) (sq_of ((E7.trans e8) _ _ hw))) v_int (w := o) rfl) fun H9 e9 => xa_cons (xe_l (l_lst a_nil) fun rl H10 hrl e10 h10 => xa_nil ⟨by simp, fun p hp => ?_⟩))))
                have E9 := (E7.trans e8).trans e9
                have E10 := E9.trans e10
                have en : Ex H10 (upd H10 p (.tup [.str (S a), .str (S o), .ref rl])) := Ex.new hp
                have R11 := (hR.mono E10).mono en
                have hrH : H rl = none := fresh_back E9 hrl
                have hd11 : upd H10 p (.tup [.str (S a), .str (S o), .ref rl]) d = some (.lst (ps.map fun p => V.ref p.1)) := R11.sta.ds
                refine ⟨hd11, ?_⟩
                have L12 := R11.gate upd_same (en _ _ h10) (new_back hR.sta.ex hrH) (hR.old hrH) (by omega)
                have wne : wl ≠ d := fun q => hwn (by rw [q]; simp)
                have tne : tl ≠ d := fun q => by rw [q, E5 _ _ hds] at htl; cases htl
                have hw12 : upd (upd H10 p (.tup [.str (S a), .str (S o), .ref rl])) d (.lst ((ps.map fun p => V.ref p.1) ++ [.ref p])) wl = some (.lst ([w0, a, o].map fun a => V.str (S a))) := by rw [upd_ne wne]; exact (E10.trans en) _ _ hw
                have ht12 : upd (upd H10 p (.tup [.str (S a), .str (S o), .ref rl])) d (.lst ((ps.map fun p => V.ref p.1) ++ [.ref p])) tl = some (.lst ((st.gates.map (·.name)).map fun p => V.str (S p))) := by rw [upd_ne tne]; exact ((((e7.trans e8).trans e9).trans e10).trans en) _ _ h6
                generalize upd (upd H10 p (.tup [.str (S a), .str (S o), .ref rl])) d (.lst ((ps.map fun p => V.ref p.1) ++ [.ref p])) = H12 at L12 hw12 ht12 ⊢
                have eg : gateM st [w0, a, o] = if (isNameM a = true ∧ a ∉ st.gates.map (·.name)) ∧ (S o = "first" ∨ S o = "refusals" ∨ S o = "narrow") then some { st with gates := st.gates ++ [⟨a, o, []⟩] } else none := by
                  unfold gateM
                  dsimp only
                  by_cases y : (isNameM a = true ∧ a ∉ st.gates.map (·.name)) ∧ (S o = "first" ∨ S o = "refusals" ∨ S o = "narrow")
                  · rw [if_pos y, if_pos ⟨q2, by omega, y.1.1, y.1.2, y.2⟩]
                  · rw [if_neg y, if_neg fun z => y ⟨⟨z.2.2.1, z.2.2.2.1⟩, z.2.2.2.2⟩]
                refine xb_when (k := !isNameM a || decide (a ∈ st.gates.map (·.name))) (b_w (w_or (b_not (b_v (v_call GN hr1 passL (a_1 (v_ixW0 1 (vl_sl (v_v 1) (sq_of hw12)) v_int (w := a) rfl)) (spS1_v (by omega))))) fun _ => w_or1 (bl_is (bc (c_inL (v_ixW0 1 (vl_sl (v_v 1) (sq_of hw12)) v_int (w := a) rfl) (vl_sl (v_v 6) (sq_of ht12)) rfl (flat_strs _))) (inV_strs _)))) (fun hb H13 e13 => ?_) fun hb H13 e13 => ?_
                · refine xb_ret v_bl fun H14 e14 => k2 ?_ H14 ((L12.sta.ex.trans e13).trans e14)
                  rw [em, eg, if_neg]
                  rintro ⟨⟨y1, y2⟩, _⟩
                  rw [y1, decide_eq_false y2] at hb
                  cases hb
                · simp only [Bool.or_eq_false_iff, Bool.not_eq_false', decide_eq_false_iff_not] at hb
                  refine xb_ret (v := .bl (decide (S o = "first") || (decide (S o = "refusals") || decide (S o = "narrow")))) (vl_is (vc (c_inT (v_ixW0 2 (vl_sl (v_v 1) (sq_of (e13 _ _ hw12))) v_int (w := o) rfl) (ul_tu (u_tup (a_cons v_str (a_cons v_str (a_1 v_str))))) rfl rfl)) (by rw [inV3])) fun H14 e14 => ?_
                  cases hv : (decide (S o = "first") || (decide (S o = "refusals") || decide (S o = "narrow"))) with
                  | true =>
                    have hv' : S o = "first" ∨ S o = "refusals" ∨ S o = "narrow" := by simpa using hv
                    rw [if_pos ⟨hb, hv'⟩] at eg
                    exact k1 _ (by rw [em, eg]) _ H14 (L12.mono (e13.trans e14))
                  | false =>
                    have hv' : ¬ (S o = "first" ∨ S o = "refusals" ∨ S o = "narrow") := by simpa using hv
                    exact k2 (by rw [em, eg, if_neg fun z => hv' z.2]) H14 ((L12.sta.ex.trans e13).trans e14)
              | [], _, _, _, _, _, _, q1 => simp at q1
              | [_], _, _, _, _, _, _, q1 => simp at q1
              | _ :: _ :: _ :: _, _, _, _, _, _, _, q1 => simp at q1
          · rw [if_neg hT, if_neg hk'] at em
            exact xb_yes (bl_is (b_w (w_or (j := true) (k := false) (bl_is (bc (c_ne (vw E4 (v_v 1)) v_str)) (by rw [dec_V, decide_eq_false hT]; rfl)) fun q => by cases q)) rfl) fun H5 e5 => xb_ret v_bl fun H6 e6 => bad em H6 ((E4.trans e5).trans e6)
end
end Gw

set_option maxRecDepth 100000
set_option maxHeartbeats 4000000
namespace Gw
open PySem PySem.Spec PyProof.Rows L2 Evl SX
section
variable {X : Cx} {a b c : Expr} {sa rest : List Stmt} {σ : L2.St} {H : Hp} {D : Ends} {p1 p2 p3 pos : Pos}
/-- if a or b and not c, a false, b true, c a call of any making -/
theorem xb_orAnd (hA : Bl X a σ H false) (hB : ∀ H1, Ex H H1 → Bl X b σ H1 true) (hC : ∀ H1, Ex H H1 → XE X c σ H1 fun v H2 => ∃ r, v = .bl r ∧ (r = false → XB X sa { D with nx := fun σ' H' => XB X rest D σ' H' } σ H2) ∧ (r = true → XB X rest D σ H2))
    (he : ∀ whole, isTrue c X.env whole = (do let v ← whole; standAt c.pos; holding [v] (truthy v)) := by intro _; rfl) :
    XB X (.If (.BoolOp .Or [a, .BoolOp .And [b, .UnaryOp .Not c p1] p2] p3) sa [] pos :: rest) D σ H :=
  xb_cons (xs_of (ps_if (PW.pt (pw_or (pt_xt (e := a)) (pw_or1 (PW.pt (pw_and (pt_xt (e := b)) (pw_and1 (pt_not (pt_val (pe_xe (e := c)) he)))))))) pss_xb pss_xb) (hA H (Ex.refl H) _ fun H1 e1 => by
    rw [if_neg (by decide)]
    refine hB H1 e1 H1 (Ex.refl H1) _ fun H2 e2 => ?_
    rw [if_pos rfl]
    exact xe_mono (hC H2 (e1.trans e2)) fun v H3 ⟨r, ev, k1, k2⟩ => ⟨r, ev, by
      cases r with
      | false =>
        show if true = true then _ else _
        rw [if_pos rfl]
        exact k1 rfl
      | true =>
        show if false = true then _ else _
        rw [if_neg (by decide)]
        exact xb_nil (k2 rfl)⟩))
end
theorem LsAt.keep {H0 H1 H : Hp} {sd g c d l : Addr} {ps : List (Addr × Addr)} {st : Ho} {o : HO} (h : LsAt H0 sd g c d ps st H1) (e : Ex H1 H) (hl : H1 l = none) (hl2 : H l = some o) : LsAt (L2.upd H0 l o) sd g c d ps st H := by
  have h' := h.mono e
  have ne : ∀ {b : Addr} {u : HO}, H1 b = some u → b ≠ l := fun {b u} z q => by rw [q, hl] at z; cases z
  refine ⟨h'.dic, by rw [upd_ne (ne h.dic)]; exact h.sd0, ⟨fun b u z => ?_, fun a ha => ?_, h'.sta.nd, h'.sta.sep, h'.sta.gs, h'.sta.cs, h'.sta.ds, h'.sta.gts⟩, h'.ok⟩
  · by_cases q : b = l
    · subst q; rw [upd_same] at z; cases z; exact hl2
    · rw [upd_ne q] at z; exact h'.sta.ex _ _ z
  · by_cases q : a = l
    · subst q
      exact absurd ha (h.old hl)
    · rw [upd_ne q]
      exact h.sta.new a ha
def spLDue : Sp := fun vs H Q _ => ∃ t : W, vs = [.str (S t)] ∧ TextOk t ∧ (∀ st, readM t = .ok st → GiveD st.d H Q) ∧ ∀ n : Nat, readM t = .error n → ∀ H', Ex H H' → Q (.int (n : Int)) H'
theorem spl_head (l : W) : ∃ r, TL.spl [35] 0 [] l = headL l :: r := by
  rw [spl_par (by decide)]
  unfold headL
  cases TL.par [35] [] l with
  | none => exact ⟨[], rfl⟩
  | some pq => obtain ⟨p, q⟩ := pq; exact ⟨_, rfl⟩
theorem words_lw {l : W} (h : l.length ≤ 8000) : LwOk (wordsM l) := by
  refine ⟨(words_ok h).1, fun a ha => ?_⟩
  have h1 := headL_len l
  rw [wordsM_eq] at ha
  have hm := (List.mem_filter.mp ha).1
  exact ⟨by have := spl_le (by decide) hm; omega, (spl1_free _ _ (Nat.le_refl _) a hm).1⟩
section
variable {P : Program} {w : World} {K : PySem.W.Frag} {mg : Str → Option Value} {base : Heap}
theorem ok_lDue (T : Tx K mg) : Gd P w K mg base 7 "_law_due" spLDue := by
  have GL : Gd P w K mg base 6 "_law_line_read" (spLLine lineM) := ok_lLine T
  refine gd_of T dLawDue 59 T.g__law_due scLawDue (fun _ _ _ _ _ _ us hl => match us, hl with | [_], _ => rfl) (fun _ _ _ _ ⟨_, e, _⟩ => by subst e; rfl) fun f cdv A outer s H vs Q E hr ⟨t, e, ht, k1, k2⟩ => ?_
  subst e
  have nd := scLawDue.nd
  refine xb_setE 1 (xe_disp3 (q1 := .inr "field") (q2 := .inr "group") (q3 := .inr "gate") v_str v_str v_str fun sd H1 hp e1 hp1 => (l_lst a_nil) H1 (Ex.refl _) _ fun g H2 hl1 e2 h2 => ⟨e2, fun H3 e3 => (l_lst a_nil) H3 (Ex.refl _) _ fun c H4 hl2 e4 h4 => ⟨e4, fun H5 e5 => (l_lst a_nil) H5 (Ex.refl _) _ fun d H6 hl3 e6 h6 => ⟨e6, ?_⟩⟩⟩)
  rw [merge3 (by decide +kernel) (by decide +kernel) (by decide +kernel)]
  have e26 : Ex H2 H6 := ((e3.trans e4).trans e5).trans e6
  have e46 : Ex H4 H6 := e5.trans e6
  have n1 : g ≠ sd := fun q => by subst q; rw [hp1] at hl1; cases hl1
  have n2 : c ≠ sd := fun q => by subst q; rw [(e2.trans e3) _ _ hp1] at hl2; cases hl2
  have n3 : d ≠ sd := fun q => by subst q; rw [(((e2.trans e3).trans e4).trans e5) _ _ hp1] at hl3; cases hl3
  have n4 : g ≠ c := fun q => by subst q; rw [e3 _ _ h2] at hl2; cases hl2
  have n5 : g ≠ d := fun q => by subst q; rw [((e3.trans e4).trans e5) _ _ h2] at hl3; cases hl3
  have n6 : c ≠ d := fun q => by subst q; rw [e5 _ _ h4] at hl3; cases hl3
  have g0 : H g = none := fresh_back e1 hl1
  have c0 : H c = none := fresh_back ((e1.trans e2).trans e3) hl2
  have d0 : H d = none := fresh_back ((((e1.trans e2).trans e3).trans e4).trans e5) hl3
  have L7 : LsAt H sd g c d [] ⟨[], [], []⟩ (upd H6 sd (.dK (kvS g c d))) := by
    refine ⟨upd_same, hp, ⟨(((e1.trans e2).trans e26)).mut hp, fun a ha => ?_, ?_, fun q => (by cases q), ⟨[], by rw [upd_ne n1]; exact e26 _ _ h2, .nil⟩, ⟨[], by rw [upd_ne n2]; exact e46 _ _ h4, .nil⟩, by rw [upd_ne n3]; exact h6, .nil⟩, ⟨by simp, fun f hf => (by cases hf), by simp, fun f hf => (by cases hf), by simp, fun f hf => (by cases hf)⟩⟩
    · simp only [List.map_nil, List.mem_cons, List.not_mem_nil, or_false] at ha
      rcases ha with q | q | q <;> rw [q] <;> assumption
    · simp [n4, n5, n6]
  generalize upd H6 sd (.dK (kvS g c d)) = H7 at L7 ⊢
  generalize hL : TL.spl [10] 0 [] t = lines at *
  have hlines : ∀ l ∈ lines, l.length ≤ 8000 := by rw [← hL]; exact ht.2
  refine xb_setL 2 (l_splitBig litNl (v_v 0) v_str ht.1 ⟨by decide, by decide⟩) fun ll H8 hll e8 h8 => ?_
  rw [hL] at h8
  have L8 := L7.keep e8 hll h8
  have exA : Ex H (upd H ll (.lst (lines.map fun p => V.str (S p)))) := Ex.new (fresh_back L7.sta.ex hll)
  refine xb_forE 3 4 (xs := lines.map fun p => V.str (S p)) po_cx T.f_enumerate (v_v 2) (sq_of h8) (fun j σ' H' => ∃ ps' st' o3 o4 o5, σ' = [some (.str (S t)), some (.ref sd), some (.ref ll), o3, o4, o5, none, none, none] ∧ LsAt (upd H ll (.lst (lines.map fun p => V.str (S p)))) sd g c d ps' st' H' ∧ readM t = rowsM st' j (lines.drop j))
    (fun H9 e9 => ⟨[], ⟨[], [], []⟩, none, none, none, rfl, L8.mono e9, by unfold readM; rw [hL]; rfl⟩) (fun j σ' H' _ ⟨_, _, _, _, _, _, R, _⟩ => sq_of (R.sta.ex _ _ upd_same)) ?_ ?_
  · rintro j x σ' H' hx ⟨ps', st', o3, o4, o5, hσ, R, em⟩ H9 e9
    subst hσ
    rw [List.getElem?_map] at hx
    cases hlj : lines[j]? with
    | none => rw [hlj] at hx; cases hx
    | some l =>
      rw [hlj] at hx
      cases hx
      have hlm : l ∈ lines := List.mem_of_getElem? hlj
      have hl8 := hlines l hlm
      have hlt : j < lines.length := (List.getElem?_eq_some_iff.mp hlj).1
      have hdr : lines.drop j = l :: lines.drop (j + 1) := by rw [List.drop_eq_getElem_cons hlt]; congr 1; exact (List.getElem?_eq_some_iff.mp hlj).2
      rw [hdr, rowsM_cons] at em
      have bad : rowM st' l = none → ∀ H3, Ex (upd H ll (.lst (lines.map fun p => V.str (S p)))) H3 → Q (.int ((j : Int) + 1)) H3 := fun q H3 e3 => by
        rw [q] at em
        exact k2 _ em H3 (exA.trans e3)
      have R9 := R.mono e9
      obtain ⟨pr, epr⟩ := spl_head l
      have hh := headL_len l
      refine xb_setCv (zs := (wordsM l).map fun a => V.str (S a)) 5 ((lc_fil (i := 7) (own := [("_law_word", 7)]) (ws := TL.spl [32] 0 [] (headL l)) (enc := fun a => V.str (S a)) (fun a => decide (a ≠ [])) (fun a => V.str (S a)) (il_L (ll_sl (l_splitW litBlank (v_ixLn 0 (v := .str (S (headL l))) (ll_sl (l_splitW litHash (v_v 4) v_str (by omega) ⟨by decide, by decide⟩)) v_int (by rw [epr]; rfl)) v_str (by omega) ⟨by decide, by decide⟩))) (by have := spl_many (s := [32]) (a := headL l) (by decide); omega) (blkOk_by (N := nLawDue) (sc := defScope sLawDue) (by decide +kernel))
        (fun _ _ _ _ _ a _ => bl_is (bc (c_ne (v_v 7) v_str)) (by rw [dec_nil]; by_cases z : a = [] <;> simp [z])) (fun _ _ _ _ _ a _ _ => v_v 7)).is fun _ _ _ _ q => q) fun wl H10 hwl e10 h10 => ?_
      have R10 := R9.mono e10
      by_cases nt : 9 ∈ l
      · refine xb_yes (bl_is (b_w (w_or (j := true) (k := false) (bl_is (bc (c_inC (c := 9) (z := S l) (vl_is v_str (by rw [litTab])) (v_v 4))) (decide_eq_true nt)) fun q => by cases q)) rfl) fun H11 e11 => ?_
        exact xb_ret (v_add (v_v 3) v_int) fun H12 e12 => bad (by unfold rowM; rw [if_pos nt]) H12 (R10.sta.ex.trans (e11.trans e12))
      · have er : rowM st' l = lineM st' (wordsM l) := by unfold rowM; rw [if_neg nt]
        by_cases hne : wordsM l = []
        · refine xb_no (bl_is (b_w (w_or (j := false) (k := false) (bl_is (bc (c_inC (c := 9) (z := S l) (vl_is v_str (by rw [litTab])) (v_v 4))) (decide_eq_false nt)) fun _ => w_or1 (b_w (wl_is (w_and (j := false) (k := false) (bl_is (bc (c_neNil hr (vl_sl (v_v 5) (sq_of h10)))) (by rw [isEmpty_map, hne]; rfl)) fun q => by cases q) rfl)))) rfl) fun H11 e11 => ?_
          exact xb_nil ⟨ps', st', _, _, _, rfl, R10.mono e11, by rw [em, er, hne]; rfl⟩
        · refine xb_orAnd (bl_is (bc (c_inC (c := 9) (z := S l) (vl_is v_str (by rw [litTab])) (v_v 4))) (decide_eq_false nt)) (fun H11 e11 => bl_is (bc (c_neNil hr (vl_sl (v_v 5) (sq_of (e11 _ _ h10))))) (by rw [isEmpty_map]; simpa using hne)) fun H11 e11 => ?_
          have R11 := R10.mono e11
          refine xe_call GL hr passL (xa_cons (xe_v (v_v 1) fun H12 e12 => xa_cons (xe_v (v_v 5) fun H13 e13 => xa_nil ⟨_, sd, g, c, d, ps', st', wl, wordsM l, rfl, (R11.mono e12).mono e13, ((e11.trans e12).trans e13) _ _ h10, words_lw hl8, R9.old hwl, hne, fun st2 hs ps2 H14 R14 => ⟨true, rfl, fun q => (by cases q), fun _ => xb_nil ⟨ps2, st2, _, _, _, rfl, R14, by rw [em, er, hs]⟩⟩, fun hs H14 e14 => ⟨false, rfl, fun _ => ?_, fun q => by cases q⟩⟩)))
          exact xb_ret (v_add (v_v 3) v_int) fun H15 e15 => bad (by rw [er]; exact hs) H15 (e14.trans e15)
  · rintro σ' H' ⟨ps', st', o3, o4, o5, hσ, R, em⟩
    subst hσ
    rw [List.length_map, List.drop_length] at em
    have em2 : readM t = if st'.gates = [] then .error (lines.length + 1) else .ok st' := em
    have hlst := R.sta.ex _ _ (upd_same (H := H) (a := ll) (o := .lst (lines.map fun p => V.str (S p))))
    refine xb_when (k := decide (st'.gates = [])) (bl_is (bc (c_eqNil hr (vl_sl (v_dget hr (vl_du (v_v 1) R.dic) v_str (kvS_t g c d)) (sq_of R.sta.ds)))) (by rw [isEmpty_map, empty_iff (len_ds R.sta)])) (fun q H9 e9 => ?_) fun q H9 e9 => ?_
    · rw [if_pos (of_decide_eq_true q)] at em2
      exact xb_ret (vl_is (v_add (v_lenL T.f_len (vl_sl (v_v 2) (sq_of (e9 _ _ hlst)))) v_int) (show _ = V.int ((lines.length + 1 : Nat) : Int) by rw [List.length_map]; rfl)) fun H10 e10 => k2 _ em2 H10 (exA.trans (R.sta.ex.trans (e9.trans e10)))
    · rw [if_neg (of_decide_eq_false q)] at em2
      have R9 := R.mono e9
      obtain ⟨zt, t1, t2, t3⟩ := paired_zip R9.sta.gts
      have ztl : zt.length ≤ 5 := by have := R.ok.t5; rw [t2, List.length_map] at this; exact this
      refine xb_setC 6 (lc_gen (i := 8) (own := [("_law_gate", 8)]) (ws := zt) (enc := fun z => V.ref z.1.1) (fun _ => true) (fun D z y H => Tp H y (Gt.d z.2)) nd rfl (blkOk_by (N := nLawDue) (sc := defScope sLawDue) (by decide +kernel)) (il_L (vl_sl (v_dget hr (vl_du (v_v 1) R9.dic) v_str (kvS_t g c d)) (sq_of (show H9 d = some (.lst (zt.map fun z => V.ref z.1.1)) by have := R9.sta.ds; rw [t1, List.map_map] at this; exact this)))) (by omega) (fun _ _ _ _ _ => ⟨by assumption, rfl, Or.inl rfl, Or.inr rfl⟩) (by intro _; rfl) (fun _ _ _ _ _ _ _ => q_nil)
        (fun _ _ _ _ _ z hz _ D acc H10 e10 hD hD2 Q' k' => ?_) (fun _ _ _ _ _ e t => t.mono e) (fun _ _ _ _ _ _ t hl => t.tex ((Fex.refl _).mut (noTup.lst hl)).tex)) fun gl ys H10 hgl e10 h10 pr => ?_
      · obtain ⟨h1, rs, h2, h3⟩ := t3 z hz
        rw [if_pos rfl] at h1
        exact xe_d (d := Gt.d z.2) (d_tup (da_cons (d_str (v_ixT (vl_tu (v_v 8) (.inl (ex_rd e10 h1))) v_int rfl)) (da_cons (d_str (v_ixT (vl_tu (v_v 8) (.inl (ex_rd e10 h1))) v_int rfl)) (da_cons (d_tupL T.f_tuple (vl_sl (v_ixT (v := .ref z.1.2) (vl_tu (v_v 8) (.inl (ex_rd e10 h1))) v_int rfl) (sq_of (e10 _ _ h2))) (h3.mono e10)) da_nil)))) fun y H11 e11 ty => k' y H11 e11 ty
      · rw [filter_tt] at pr
        have tg : TpA H10 ys (st'.gates.map Gt.d) := by
          have := TpA.of_paired (g := fun z : (Addr × Addr) × Gt => Gt.d z.2) pr
          rw [t2, List.map_map]
          exact this
        have R10 := R9.mono e10
        obtain ⟨gs, hgs, hgp⟩ := R10.sta.gs
        obtain ⟨cs, hcs, hcp⟩ := R10.sta.cs
        refine xb_retD (d := st'.d) (d_tup (da_cons (d_tupL T.f_tuple (vl_sl (v_dget hr (vl_du (v_v 1) R10.dic) v_str (kvS_f g c d)) (sq_of hgs)) (TpA.of_fd hgp)) (da_cons (d_tupL T.f_tuple (vl_sl (v_dget hr (vl_du (v_v 1) R10.dic) v_str (kvS_g g c d)) (sq_of hcs)) hcp) (da_cons (d_tupL T.f_tuple (vl_sl (v_v 6) (sq_of h10)) tg) da_nil)))) fun H11 v e11 tv => ?_
        exact k1 _ em2 H11 v (exA.trans (R10.sta.ex.trans e11)) tv
end
end Gw

set_option maxRecDepth 100000
set_option maxHeartbeats 4000000
/-! An exception that is kept behind its except suite: except E as n: m = n. -/
namespace Gw
open PySem PySem.Spec PyProof.Rows L2 Evl SX
/-- an exception's object, of such a class and such a dict of its own -/
def heldP (a : Addr) (cls : Value) (d : Option Addr) (h : Heap) : Prop := ∃ oe : Obj, h.get? a = some oe ∧ Zc cls d oe ∧ ∃ vs, oe.data = .fields vs
def exH (a : Addr) (cls : Value) (d : Option Addr) : HO := .ext (heldP a cls d)
section
variable {X : Cx} {pins : List (Addr × Obj)} {σ : L2.St} {H : Hp} {s : Shared}
/-- an object that stands, ours and not told of so far, is told of from now on -/
theorem inv_track {a : Addr} {oe : Obj} {vs : Array Value} {φ : Heap → Prop} (I : Inv X pins σ H s) (he : s.heap.get? a = some oe) (hd : oe.data = .fields vs) (na : H a = none) (n0 : X.s_0.heap.get? a = none) (nL : a ≠ X.env.locals) (np : ∀ p ∈ X.pn ++ pins, p.1 ≠ a) (new : ObjOk X.prog X.w (upd H a (.ext φ)) s.heap a (.ext φ)) :
    Inv X pins σ (upd H a (.ext φ)) s where
  ok := I.ok
  os := I.os
  bare := I.bare
  base := ⟨I.base.keep, I.base.slot, fun b o e n hx => by rw [upd_ne (fun z => by rw [z, n0] at e; cases e)]; exact I.base.free b o e n hx, I.base.there, fun b xs e => by
      have q := I.base.tups b xs e
      rw [upd_ne (ne_of_none q na)]; exact q, fun b o u e => by
      have q := I.base.frzs b o u e
      rw [upd_ne (ne_of_none q na)]; exact q, fun b ps e => by
      obtain ⟨m, q⟩ := I.base.tbls b ps e
      exact ⟨m, by rw [upd_ne (ne_of_none q na)]; exact q⟩⟩
  loc := I.loc
  cell := I.cell
  free := by rw [upd_ne (Ne.symm nL)]; exact I.free
  freeC := fun x c e => by
    have hne : c ≠ a := fun z => by
      obtain ⟨v, o, ho, hv⟩ := I.cell x c e
      rw [z, he] at ho
      cases ho
      rw [hd] at hv
      cases hv
    rw [upd_ne hne]; exact I.freeC x c e
  pin := fun p hp => by
    obtain ⟨h1, h2, h3, h4, h5⟩ := I.pin p hp
    exact ⟨h1, by rw [upd_ne (np p hp)]; exact h2, h3, h4, h5⟩
  hok := fun b u e => by
    by_cases hb : b = a
    · subst hb
      rw [upd_same] at e
      cases e
      exact new
    · rw [upd_ne hb] at e
      exact (I.hok b u e).stay (fun c v _ q => q) (fun c q => by rw [upd_ne (ne_of_none q na)]; exact q) fun c xs q => by rw [upd_ne (ne_of_none q na)]; exact q
  len := I.len
end
/-- what such a clause wishes of an exception: slot i is its name's, n's; it catches it -/
def wHold (K : PySem.W.Frag) (c : Value) (i : Nat) (ts : Addr → Value → Option Addr → TS) (D : Ends) : WX := fun cls d σ H =>
  PySem.W.exmOne K cls c = some true ∧ ∀ a, H a = none → ts a cls d { nx := fun σ' H' => H' a = none → D.nx (σ'.set i none) (upd H' a (exH a cls d)), rt := fun _ _ => False, bk := fun _ _ => False, ct := fun _ _ => False } (σ.set i (some (.ref a))) H
section
variable {X : Cx} {x n : Str} {c : Value} {i : Nat} {body suite : List Stmt} {b0 : Stmt} {np pos pos' : Pos} {tb : WX → TS} {ts : Addr → Value → Option Addr → TS}
theorem ps_try_hold (hs : X.stack = X.env :: X.outer) (hf : X.env.frame = some X.env.locals) (hx0 : X.ex = []) (hN : X.N.Nodup) (hi : X.N[i]? = some n) (hln : X.env.kindOf n = some .local) (hc : Names X x c)
    (hb : ∀ (W : WX) (pn : List (Addr × Obj)) (xe : Value → Shared → Prop), Takes (X.tr pn xe) W → PassesOwn (model X.prog X.w) X.A X.env xe → PSs (X.tr pn xe) body (tb W))
    (hsu : ∀ (a : Addr) (oe : Obj) (cls : Value) (d : Option Addr) (pn : List (Addr × Obj)), Zc cls d oe → (∃ vs, oe.data = .fields vs) → PSs (X.suite a ((a, oe) :: pn)) (b0 :: suite) (ts a cls d)) :
    PS X (.Try body [.ExceptHandler (some (.Name x np)) (some n) (b0 :: suite) pos'] [] [] pos) (fun D σ H => tb (wHold X.K c i ts D) D σ H) := by
  refine ⟨fun pins s σ H D I h => ?_⟩
  have ok := I.ok
  have frames_eq : X.A.frames = some (X.env :: X.outer) := ok.frames.trans (congrArg some hs)
  refine wpAny_Try_except (wpAny_mono ((hb (wHold X.K c i ts D) (X.pn ++ pins) _ ?_ PassesOwn.looking).run [] s σ H D (I.toTry _) h) (fun fl t hsp => ?_) fun _ _ q => q)
  · intro u t ⟨a, B, sI, pinsI, σI, HI, cls, d, eu, JI, nb, up, sky, na, os, ag, hcatch, hgo⟩
    subst eu
    have J : Inv X pins σI HI sI := JI.ofTry ok
    rw [show (X.tr (X.pn ++ pins) _).stack = X.env :: X.outer from hs] at sky
    refine Sky.land Zc.steady frames_eq hf sky fun g fly upg => ?_
    obtain ⟨stay, noB, funs, _⟩ := id fly
    have Jg : Inv X pins σI HI { t with heap := g } := J.landed nb stay (up.trans upg) os ag
    obtain ⟨o1, v1, at1, z1, d1⟩ := fly.there
    have off : a ∉ frs (X.env :: X.outer) := fun hm => by
      obtain ⟨_, o2, at2, nf2⟩ := funs.mem hm
      rw [at1] at at2
      cases at2
      exact nf2 _ d1
    have offS : a ∉ frs X.stack := by rw [hs]; exact off
    have offL : a ≠ X.env.locals := fun z => off (List.mem_filterMap.mpr ⟨X.env, List.mem_cons_self, by rw [hf, z]⟩)
    have offF : a ∉ X.fs := fun hm => by
      obtain ⟨en, hen, q⟩ := List.mem_filterMap.mp hm
      exact off (List.mem_filterMap.mpr ⟨en, List.mem_cons_of_mem _ hen, q⟩)
    have noI : ∀ o, sI.heap.get? a ≠ some o := fun o e => by
      have := nb a o e offS
      rw [noB] at this
      cases this
    have no0 : X.s_0.heap.get? a = none := by
      cases e : X.s_0.heap.get? a with
      | none => rfl
      | some o =>
        obtain ⟨o', q⟩ := J.base.there a o e (by rw [hx0]; simp)
        exact absurd q (noI o')
    have noP : ∀ p ∈ X.pn ++ pins, p.1 ≠ a := fun p hp z => noI p.2 (by rw [← z]; exact (J.pin p hp).1)
    have S1 := Jg.suite at1 d1 na offL offF
    refine wpAny_handleBy_cons (codeAny_handlers_test ?_) (by intro q; cases q)
    have typ : PySem.W.Looks (model X.prog X.w) g (typeOf (.ref a)) cls := fun A' Q' E' s' k q => wpAny_typeOf_ref (k _ _ at1) (by rw [z1.1]; exact q)
    have catches := PySem.W.exm_one (M := model X.prog X.w) Jg.kIn typ hcatch
    obtain ⟨hg, hdbg, hm | ⟨hm, hv, hnn⟩⟩ := hc
    all_goals
      first
      | refine ld_glob (X := X.suite a ((a, o1) :: (X.pn ++ pins))) S1 hg hm (catches.here ?_) hdbg
      | refine ld_blt (X := X.suite a ((a, o1) :: (X.pn ++ pins))) S1 hg hm hv (catches.here ?_) hnn hdbg
      refine codeAny_handlers_suite_as (HandSPX.lands_againZ fly fun g2 fly2 up2 => ?_)
      have J2 : Inv X pins σI HI { t with heap := g2 } := J.landed nb fly2.1 ((up.trans upg).trans up2) os ag
      obtain ⟨o2, v2, at2, z2, d2⟩ := fly2.there
      have S2 := J2.suite at2 d2 na offL offF
      refine store_ok (X := X.suite a ((a, o2) :: (X.pn ++ pins))) (v := .ref a) S2 hN hi (.inl hln) rfl (fun s5 S5 => ?_) (.inr hln)
      refine wpAny_mono ((hsu a o2 cls d (X.pn ++ pins) z2 ⟨_, d2⟩).run [] s5 _ HI _ S5 (hgo a na)) (fun fl6 s6 hsp => ?_) (fun _ _ z => False.elim z)
      cases fl6 with
      | next =>
        obtain ⟨σ6, H6, S6, q6⟩ := hsp
        obtain ⟨at6, na6, _, _, _⟩ := S6.pin (a, o2) (List.mem_append_left _ List.mem_cons_self)
        have J6 : Inv X pins σ6 H6 s6 := S6.unsuite ok
        have J7 : Inv X pins σ6 (upd H6 a (exH a cls d)) s6 := inv_track J6 at6 d2 na6 no0 offL noP ⟨⟨o2, at6, z2, _, d2⟩, ⟨o2, at6⟩, fun _ _ ⟨o, q, r⟩ k => ⟨o, k o q, r⟩⟩
        exact gone_ok J7 hN hi hln fun s7 J8 => ⟨_, _, J8, q6 na6⟩
      | brk => obtain ⟨_, _, _, q6⟩ := hsp; exact q6.elim
      | cont => obtain ⟨_, _, _, q6⟩ := hsp; exact q6.elim
      | ret u => obtain ⟨_, _, _, _, _, q6⟩ := hsp; exact q6.elim
  · cases fl with
    | next => obtain ⟨σ', H', J', q⟩ := hsp; exact wpAny_execs_nil ⟨σ', H', J'.ofTry ok, q⟩
    | brk => obtain ⟨σ', H', J', q⟩ := hsp; exact ⟨σ', H', J'.ofTry ok, q⟩
    | cont => obtain ⟨σ', H', J', q⟩ := hsp; exact ⟨σ', H', J'.ofTry ok, q⟩
    | ret u => obtain ⟨v, σ', H', J', r, q⟩ := hsp; exact ⟨v, σ', H', J'.ofTry ok, r, q⟩
end
end Gw

set_option maxRecDepth 100000
set_option maxHeartbeats 4000000
/-! A held BadText: isinstance, its line; _law_told. -/
namespace Gw
open PySem PySem.Spec PyProof.Rows L2 Evl SX
/-- a held exception of the class C, its line n -/
def HeldAt (C : Addr) (n : Int) (H : Hp) (a : Addr) : Prop := ∃ dd : Addr, H a = some (exH a (.ref C) (some dd)) ∧ H dd = some (.xd [("line", .int n)])
theorem HeldAt.mono {C a : Addr} {n : Int} {H H' : Hp} (e : Ex H H') (h : HeldAt C n H a) : HeldAt C n H' a := let ⟨d, h1, h2⟩ := h; ⟨d, e _ _ h1, e _ _ h2⟩
section
variable {X : Cx} {pins : List (Addr × Obj)} {σ : L2.St} {H : Hp} {s : Shared}
theorem held_inst {C a : Addr} {n : Int} (I : Inv X pins σ H s) (h : HeldAt C n H a) : ∃ (oe od : Obj), PySem.W.InstAt s.heap a oe C (some od) ∧ ∀ f o, [(("line" : Str), V.int n)].lookup f = o → ∃ u, RelO o u ∧ PySem.W.lookIn f od = some u := by
  obtain ⟨dd, h1, h2⟩ := h
  have hx : heldP a (.ref C) (some dd) s.heap ∧ _ := I.hok a _ h1
  obtain ⟨⟨oe, at1, z1, vs, hv⟩, _⟩ := hx
  have hd : ObjOk X.prog X.w H s.heap dd (.xd [("line", .int n)]) := I.hok dd _ h2
  obtain ⟨mA, hns, hr⟩ := hd
  obtain ⟨od, ho, hl⟩ := lookIn_ns hns
  refine ⟨oe, od, ⟨at1, z1.1, by unfold PySem.W.notCls; rw [hv] <;> rfl, by rw [z1.2]; exact ho⟩, fun f o e => ⟨mA f, by rw [← e]; exact hr f, hl ..⟩⟩
end

/-- what the class of the one error says -/
structure ErrC (K : PySem.W.Frag) : Prop where
  tx : ∀ {a : Addr} {oe od : Obj}, PySem.W.KitX K (.ref a) (.ref (CB0 K)) (fun h => PySem.W.InstAt h a oe (CB0 K) (some od))
  ga : PySem.W.findIn K (.ref (CB0 K)) "__getattribute__" = some (some (.builtin "BaseException.__getattribute__"))
  gg : PySem.W.findIn K (.ref (CB0 K)) "__getattr__" = some none
  exC : PySem.W.subIn K (.ref (CB0 K)) (.type "BaseException") = some true
  hdC : PySem.W.hasDictIn K (CB0 K) = true
  no : PySem.W.findIn K (.ref (CB0 K)) "line" = some none
theorem Tx.err {K : PySem.W.Frag} {mg : Str → Option Value} (T : Tx K mg) : ErrC K := by
  have hd : PySem.W.hasDictIn K (CB0 K) = true := T.c.exI 10
  have hcl : (PySem.W.clsIn K (CB0 K)).isSome = true := by obtain ⟨cd, hc, _⟩ := PySem.W.any_some hd; rw [hc]; rfl
  exact ⟨PySem.W.kitx_exc hcl (He.eqO_ok (T.c.exI 8)) (He.eqO_ok (T.c.exI 9)) (of_decide_eq_true (T.c.exI 2)) (He.eqO_ok (T.c.exI 21)) (He.eqO_ok (T.c.exI 25)) (of_decide_eq_true (T.c.exI 26)) (of_decide_eq_true (T.c.exI 22)),
    He.eqO_ok (T.c.exI 8), He.eqO_ok (T.c.exI 9), of_decide_eq_true (T.c.exI 2), hd, He.eqO_ok (T.c.exI 7)⟩
section
variable {X : Cx} {e t : Expr} {es : List Expr} {σ : L2.St} {H : Hp} {p pos p2 : Pos} {n : Int} {a : Addr} {c : V} {u : Value} {k : Bool}
theorem call_isH (Er : ErrC X.K) : CallR X (.builtin "isinstance") (fun xs H Q => ∃ (a : Addr) (n : Int) (c : V) (u : Value) (b : Bool), xs = [.ref a, c] ∧ HeldAt (CB0 X.K) n H a ∧ ClsV c u ∧ PySem.W.kitOne X.K (.ref (CB0 X.K)) u = some b ∧ Q (.bl b) H) := by
  intro pins s σ H xs us Q I r h
  obtain ⟨a, n, c, u, b, rfl, ha, hc, hk, q⟩ := h
  obtain ⟨u1, u2, rfl, r1, r2⟩ := vals2 r
  obtain rfl : u1 = Value.ref a := r1
  have e2 := hc.eq r2
  subst e2
  obtain ⟨oe, od, J, _⟩ := held_inst I ha
  exact PySem.W.kia_one Er.tx I.kIn J hk (fun z => nomatch z) fun tk => ⟨.bl b, H, I.tok tk, rfl, q⟩
theorem call_isHT (Er : ErrC X.K) : CallR X (.builtin "isinstance") (fun xs H Q => ∃ (a : Addr) (n : Int) (tp : Addr) (cs : List V) (us : List Value) (b : Bool), xs = [.ref a, .ref tp] ∧ HeldAt (CB0 X.K) n H a ∧ H tp = some (.tup cs) ∧ Paired ClsV cs us ∧ PySem.W.kitAny X.K (.ref (CB0 X.K)) us = some b ∧ Q (.bl b) H) := by
  intro pins s σ H xs us Q I r h
  obtain ⟨a, n, tp, cs, ws, b, rfl, ha, hT, hc, hk, q⟩ := h
  obtain ⟨u1, u2, rfl, r1, r2⟩ := vals2 r
  obtain rfl : u1 = Value.ref a := r1
  cases (show u2 = Value.ref tp from r2)
  obtain ⟨oe, od, J, _⟩ := held_inst I ha
  obtain ⟨_, its, rv, o, h1, h2, m, h3⟩ := (show ObjOk X.prog X.w H s.heap tp (.tup cs) from I.hok tp _ hT)
  have e3 := ClsV.all hc rv
  subst e3
  obtain ⟨oc, od', dt, sl⟩ := o
  simp only at h2 h3
  subst h2 h3
  exact PySem.W.kia_tup Er.tx I.kIn J h1 hk (fun z => nomatch z) fun tk => ⟨.bl b, H, I.tok tk, rfl, q⟩
/-- isinstance(e, C), e the held error -/
theorem v_isH (Er : ErrC X.K) (hm : X.mg "isinstance" = none) (he : Vl X e σ H (.ref a)) (ha : HeldAt (CB0 X.K) n H a) (ht : Vl X t σ H c) (hc : ClsV c u) (hk : PySem.W.kitOne X.K (.ref (CB0 X.K)) u = some k) (hg : Gl X "isinstance" := by rfl)
    (hs : starEach [e, t] X.env = (false, eval e X.env) :: starEach [t] X.env := by rfl) (hs2 : starEach [t] X.env = (false, eval t X.env) :: starEach [] X.env := by rfl) (hpl : (backTo pos (starEach [t] X.env)).any (·.1) = false := by rfl) :
    Vl X (.Call (.Name "isinstance" p) [e, t] [] pos) σ H (.bl k) := vl_of (pe_callB (call_isH Er) hg hm (by decide +kernel) (pa_cons pe_xe (pa_cons pe_xe pa_nil hs2) hs) (by decide) (by decide) hs hpl)
  fun H1 e1 Q q => he H1 e1 _ fun H2 e2 => ht H2 (e1.trans e2) _ fun H3 e3 => ⟨a, n, c, u, k, rfl, ha.mono ((e1.trans e2).trans e3), hc, hk, q H3 (e2.trans e3)⟩
theorem v_isHT {cs : List V} {us : List Value} (Er : ErrC X.K) (hm : X.mg "isinstance" = none) (he : Vl X e σ H (.ref a)) (ha : HeldAt (CB0 X.K) n H a) (ht : Ul X t σ H cs) (hc : Paired ClsV cs us) (hk : PySem.W.kitAny X.K (.ref (CB0 X.K)) us = some k) (hg : Gl X "isinstance" := by rfl)
    (hs : starEach [e, t] X.env = (false, eval e X.env) :: starEach [t] X.env := by rfl) (hs2 : starEach [t] X.env = (false, eval t X.env) :: starEach [] X.env := by rfl) (hpl : (backTo pos (starEach [t] X.env)).any (·.1) = false := by rfl) :
    Vl X (.Call (.Name "isinstance" p) [e, t] [] pos) σ H (.bl k) := vl_of (pe_callB (call_isHT Er) hg hm (by decide +kernel) (pa_cons pe_xe (pa_cons pe_xe pa_nil hs2) hs) (by decide) (by decide) hs hpl)
  fun H1 e1 Q q => he H1 e1 _ fun H2 e2 => ht H2 (e1.trans e2) _ fun tp H3 _ e3 h3 => ⟨a, n, tp, cs, us, k, rfl, ha.mono ((e1.trans e2).trans e3), h3, hc, hk, q H3 (e2.trans e3)⟩
/-- its line -/
theorem v_line (Er : ErrC X.K) (he : Vl X e σ H (.ref a)) (ha : HeldAt (CB0 X.K) n H a) (hb : attributeBase e "line" X.env (eval e X.env) = eval e X.env := by rfl) : Vl X (.Attribute e "line" pos) σ H (.int n) := fun H0 e0 Q kk => by
  refine ⟨fun pins s I => ?_⟩
  refine attr_of hb (thn ((he H0 e0 (fun v H1 => v = .ref a ∧ Ex H0 H1) fun H1 e1 => ⟨rfl, e1⟩).run pins s I) fun v s1 ⟨x, H1, I1, r1, ex, e1⟩ => ?_)
  subst ex
  obtain rfl : v = Value.ref a := r1
  obtain ⟨oe, od, J, hl⟩ := held_inst I1 (ha.mono (e0.trans e1))
  obtain ⟨u, ru, hu⟩ := hl "line" _ rfl
  obtain ⟨u', hu', ru'⟩ := RelO.some_of (v := .int n) (o := u) ru
  exact HandSPX.exc_get I1.kIn J Er.ga Er.gg Er.exC (PySem.W.findObj_own Er.hdC Er.no rfl (by rw [hu, hu'])) (handed_of ru') ⟨.int n, H1, I1.tok _, ru', kk H1 e1⟩
/-- isinstance(x, C), x an instance of the class C of the text -/
theorem v_isO {C ad dx : Addr} {fs : List (Str × V)} (hm : X.mg "isinstance" = none) (he : Vl X e σ H (.ref ad)) (hd : H ad = some (.ins C dx fs)) (cl : Cls X.K C) (ha : PySem.W.findIn X.K (.ref C) "__class__" = some (some (.builtin "object.__class__")))
    (hn : PySem.W.specialIn X.K (.builtin "object.__class__") "__get__" = some (some (.builtin "getset_descriptor.__get__"))) (htk : PySem.W.takesIn X.K (.builtin "object.__class__") = some true) (hmr : PySem.W.mroIn X.K C (.type "object") = some true)
    (ht : Vl X t σ H c) (hc : ClsV c u) (hk : PySem.W.kitOne X.K (.ref C) u = some k) (hg : Gl X "isinstance" := by rfl)
    (hs : starEach [e, t] X.env = (false, eval e X.env) :: starEach [t] X.env := by rfl) (hs2 : starEach [t] X.env = (false, eval t X.env) :: starEach [] X.env := by rfl) (hpl : (backTo pos (starEach [t] X.env)).any (·.1) = false := by rfl) :
    Vl X (.Call (.Name "isinstance" p) [e, t] [] pos) σ H (.bl k) := vl_of (pe_callB call_isi hg hm (by decide +kernel) (pa_cons pe_xe (pa_cons pe_xe pa_nil hs2) hs) (by decide) (by decide) hs hpl)
  fun H1 e1 Q q => he H1 e1 _ fun H2 e2 => ht H2 (e1.trans e2) _ fun H3 e3 => ⟨_, c, .ref C, u, k, rfl, hc, .base (.ins ((((e1.trans e2).trans e3)) _ _ hd) cl ha hn htk hmr), hk, q H3 (e2.trans e3)⟩
theorem v_gr {n : Str} {b : Addr} (hm : X.mg n = some (.ref b)) (hg : Gl X n := by rfl) (hd : (n == ("__debug__" : Str)) = false := by decide) : Vl X (.Name n pos) σ H (.ref b) := v_g hm rfl hg hd
/-- a call in a try -/
theorem xe_callS {k : Nat} {n : Str} {sp : Sp} {Q : VK} {W' : WX} (G : GdX X k n sp) (hr : Room k X.A) (tk : Takes X W') (h : XA X (e :: es) σ H fun vs H1 => sp vs H1 Q (WE W' σ)) (hg : Gl X n := by rfl) (hdb : (n == ("__debug__" : Str)) = false := by decide)
    (hs : starEach (e :: es) X.env = (false, eval e X.env) :: starEach es X.env := by rfl) (hpl : (backTo pos (starEach es X.env)).any (·.1) = false := by rfl) : XE X (.Call (.Name n p) (e :: es) [] pos) σ H Q := by
  obtain ⟨f, fd, ps, hm, hk, hb, F⟩ := G
  exact xe_of (pe_callS F hr hg hm hk hb (fun σ => passAt tk σ) pa_xa hdb hs hpl) h
end
section
variable {X : Cx} {x n m : Str} {body rest : List Stmt} {σ : L2.St} {H : Hp} {D : Ends} {np p1 p2 p3 pos pos' : Pos} {c : Value}
/-- try: body except x as n: m = n, m used behind it -/
theorem xb_tryHold (i j : Nat) (hs : X.stack = X.env :: X.outer) (hf : X.env.frame = some X.env.locals) (hx0 : X.ex = []) (hc : Names X x c)
    (hb : ∀ (W : WX) (pn : List (Addr × Obj)) (xe : Value → Shared → Prop), Takes (X.tr pn xe) W → (∀ cls d σ' H', PySem.W.exmOne X.K cls c = some true → i < σ'.length → (∀ a, H' a = none → XB X rest D (((σ'.set i (some (.ref a))).set j (some (.ref a))).set i none) (upd H' a (exH a cls d))) → W cls d σ' H') →
      XB (X.tr pn xe) body { D with nx := fun σ' H' => XB X rest D σ' H' } σ H)
    (hN : X.N.Nodup := by assumption) (hi : X.N[i]? = some n := by rfl) (hln : X.env.kindOf n = some .local := by rfl) (hj : X.N[j]? = some m := by rfl) (hlm : Loc X.env.scope m := by exact Or.inl rfl) (hsw : ∀ a q, swapsWith (.Name n p2) (some (.Name m p1)) p3.line (X.suite a q).env = pure false := by intro _ _; rfl)
    (hfn : ∀ a q, (X.suite a q).fn m = true ∨ (X.suite a q).env.scope.names.lookup m = some .local := by intro _ _; first | exact .inl rfl | exact .inr rfl) (hd : (n == ("__debug__" : Str)) = false := by decide) (hcd : (n == ("__classdict__" : Str)) = false := by decide) :
    XB X (.Try body [.ExceptHandler (some (.Name x np)) (some n) [.Assign [.Name m p1] (.Name n p2) p3] pos'] [] [] pos :: rest) D σ H :=
  xb_cons (xs_of (ps_try_hold (tb := fun W D σ H => ∀ pn xe, Takes (X.tr pn xe) W → XB (X.tr pn xe) body D σ H) hs hf hx0 hN hi hln hc (fun W pn xe tk _ => ⟨fun pins s σ H D I h => (h pn xe tk).run pins s I⟩)
    (fun a oe cls d pn _ _ => pss_one (ps_set (i := j) hN hj hlm (pv i hi (.inl hln) hd hcd) (hsw _ _) (hfn _ _))))
    fun pn xe tk => hb _ pn xe tk fun cls d σ' H' he hl k => ⟨he, fun a ha => ⟨.ref a, by rw [List.getElem?_set_self hl], fun _ => k a ha⟩⟩)
end
theorem kitAny_no {K : PySem.W.Frag} {t : Value} : ∀ {us : List Value}, (∀ u ∈ us, PySem.W.kitOne K t u = some false) → PySem.W.kitAny K t us = some false
  | [], _ => rfl
  | u :: us, h => kitAny_cons (h u (by simp)) (fun _ => kitAny_no fun x hx => h x (List.mem_cons_of_mem _ hx)) fun z => by cases z
/-- a list of one thing -/
def OneAt (H : Hp) (v : V) (d : PyData) : Prop := ∃ l y, v = .ref l ∧ H l = some (.lst [y]) ∧ Tp H y d
def spLTold : Sp := fun vs H Q _ => ∃ t : W, vs = [.str (S t)] ∧ TextOk t ∧ (∀ st, readM t = .ok st → ∀ v H', Ex H H' → OneAt H' v st.d → Q v H') ∧ ∀ n : Nat, readM t = .error n → GiveD (.tuple [.int (n : Int), .bool false]) H Q
section
variable {P : Program} {w : World} {K : PySem.W.Frag} {mg : Str → Option Value} {base : Heap}
theorem ok_lTold (T : Tx K mg) : Gd P w K mg base 10 "_law_told" spLTold := by
  have GR : Gd P w K mg base 9 "read" (spRead K) := ok_read T
  have MP : Me P w K mg base 1 (CH K) "plain" (spPlain K) := ok_plain T
  have Er : ErrC K := T.err
  refine gd_of T dLawTold 61 T.g__law_told scLawTold (fun _ _ _ _ _ _ us hl => match us, hl with | [_], _ => rfl) (fun _ _ _ _ ⟨_, e, _⟩ => by subst e; rfl) fun f cdv A outer s H vs Q E hr ⟨t, e, ht, k1, k2⟩ => ?_
  subst e
  have nd := scLawTold.nd
  have hr1 : Room 1 (Cxd dLawTold P w K mg base nLawTold f cdv A outer s H E).A := hr.mono (by decide)
  refine xb_set 1 v_non fun H1 e1 => ?_
  refine xb_setL 2 (l_lst a_nil) fun fl H2 hfl e2 h2 => ?_
  have E2 := e1.trans e2
  refine xb_tryHold 3 1 rfl rfl rfl ⟨rfl, by decide, .inl T.g_GateError⟩ fun W pn xe tk hW => ?_
  have hE : PySem.W.exmOne K (.ref (CB0 K)) (.ref (He.ga K "GateError")) = some true := of_decide_eq_true (T.c.exI 14)
  have case1 : ∀ (n : Nat), readM t = .error n → ∀ a H3, Ex H H3 → HeldAt (CB0 K) (n : Int) H3 a → XB (Cxd dLawTold P w K mg base nLawTold f cdv A outer s H E) ((defBody sLawTold).drop 3) { nx := fun _ H' => Q .non H', rt := Q } [some (.str (S t)), some (.ref a), some (.ref fl), none, none] H3 := by
    intro n hn a H3 E3 hh
    have kit : ∀ x ∈ others, PySem.W.kitOne K (.ref (CB0 K)) (.ref (He.ga K x)) = some false := fun x hx => of_decide_eq_true (List.all_eq_true.mp (T.c.exI 15) x hx)
    refine xb_no (bc ((c_isN (v_v 1)).is rfl)) fun H4 e4 => ?_
    refine xb_set 4 (v := .bl false) (v_isHT Er T.f_isinstance (v_v 1) (hh.mono e4) (u_tup (a_cons (v_gr T.g_BadSet) (a_cons (v_gr T.g_BadValue) (a_cons (v_gr T.g_BadAsking) (a_cons (v_gr T.g_NoGate) (a_cons (v_gr T.g_NoRule) (a_1 (v_gr T.g_TooMuch)))))))) (.cons (.own _) (.cons (.own _) (.cons (.own _) (.cons (.own _) (.cons (.own _) (.cons (.own _) .nil)))))) (kitAny_no fun u hu => ?_)) fun H5 e5 => ?_
    · simp only [List.mem_cons, List.not_mem_nil, or_false] at hu
      rcases hu with q | q | q | q | q | q <;> rw [q] <;> exact kit _ (by decide +kernel)
    · have e45 := e4.trans e5
      refine xb_set 4 (v := .bl false) (vl_is (v_or (j := false) (k := false) (v_v 4) fun _ => v_one (v_isHT Er T.f_isinstance (v_v 1) (hh.mono e45) (u_tup (a_cons (v_gr T.g_BadWish) (a_cons (v_gr T.g_NoName) (a_cons (v_gr T.g_Ring) (a_cons (v_gr T.g_NoVersion) (a_1 (v_gr T.g_InUse))))))) (.cons (.own _) (.cons (.own _) (.cons (.own _) (.cons (.own _) (.cons (.own _) .nil))))) (kitAny_no fun u hu => ?_))) rfl) fun H6 e6 => ?_
      · simp only [List.mem_cons, List.not_mem_nil, or_false] at hu
        rcases hu with q | q | q | q | q <;> rw [q] <;> exact kit _ (by decide +kernel)
      · have e46 := e45.trans e6
        refine xb_no (bl_is (b_w (w_or (j := false) (k := false) (b_v (v_v 4)) fun _ => wl_is (w_or (j := false) (k := false) (bl_is (b_not (b_v (v_isH (k := true) Er T.f_isinstance (v_v 1) (hh.mono e46) (v_gr T.g_BadText) (.own _) (of_decide_eq_true (T.c.exI 16))))) rfl) fun _ => w_or1 (bl_is (b_not (b_v (v_isH (k := true) Er T.f_isinstance (v_v 1) (hh.mono e46) (vl_of (pe_bltn (v := .ty "ValueError") rfl T.f_ValueError (by decide +kernel) rfl (by decide) (by decide)) ev_c) (.ty _) (of_decide_eq_true (T.c.exI 17))))) rfl)) rfl)) rfl) fun H7 e7 => ?_
        exact xb_retD (d_tup (da_cons (d_int (v_line Er (v_v 1) (hh.mono (e46.trans e7)))) (da_cons (d_v v_bl (.bl _)) da_nil))) fun H8 v e8 tv => k2 n hn H8 v ((E3.trans (e46.trans e7)).trans e8) tv
  have case0 : ∀ st, readM t = .ok st → ∀ H3 ad dx fs tv, Ex H H3 → H3 fl = some (.lst [.ref ad]) → H3 ad = some (.ins (CH K) dx fs) → fs.lookup ("told" : Str) = some tv → fs.lookup ("plain" : Str) = none → Tp H3 tv st.d → XB (Cxd dLawTold P w K mg base nLawTold f cdv A outer s H E) ((defBody sLawTold).drop 3) { nx := fun _ H' => Q .non H', rt := Q } [some (.str (S t)), some .non, some (.ref fl), none, none] H3 := by
    intro st hst H3 ad dx fs tv E3 hfl3 had hlook hpl htp
    refine xb_yes (bc ((c_isN (v_v 1)).is rfl)) fun H4 e4 => ?_
    have fst : ∀ {H' : Hp} {σ' : L2.St} {e : Expr} {p pos : Pos} {j : Nat}, Ex H3 H' → Vl (Cxd dLawTold P w K mg base nLawTold f cdv A outer s H E) e σ' H' (.ref fl) → Vl (Cxd dLawTold P w K mg base nLawTold f cdv A outer s H E) (.Subscript e (.Constant (.int 0) j p) pos) σ' H' (.ref ad) := fun e' h => v_ixL (vl_sl h (sq_of (e' _ _ hfl3))) v_int rfl
    refine xb_retE (xe_if (k := true) (b_v (v_isO T.f_isinstance (fst e4 (v_v 2)) (e4 _ _ had) T.cb_House.cls (He.eqO_ok (T.c.exI 23)) (He.eqO_ok (T.c.exI 25)) (of_decide_eq_true (T.c.exI 26)) (of_decide_eq_true (T.c.exI 24)) (v_gr T.g_House) (.own _) (of_decide_eq_true (T.c.exI 18)))) (fun _ H5 e5 => ?_) fun q => by cases q)
    refine xe_lst (xa_cons (xe_meth0 T.cb_House MP hr1 passL (fst (e4.trans e5) (v_v 2)) ((e4.trans e5) _ _ had) hpl fun H6 e6 => ⟨ad, dx, fs, tv, rfl, ((e4.trans e5).trans e6) _ _ had, hlook, fun H7 e7 => xa_nil ⟨by simp, fun p hp => ?_⟩⟩))
    have e37 := ((e4.trans e5).trans e6).trans e7
    exact k1 st hst _ _ ((E3.trans e37).trans (Ex.new hp)) ⟨p, tv, rfl, upd_same, htp.mono (e37.trans (Ex.new hp))⟩
  refine xb_appE (l := fl) (xs := []) (v_v 2) h2 (fun H3 e3 => ?_) (by simp)
  refine xe_callS GR hr tk (xa_cons (xe_v (v_v 0) fun H4 e4 => xa_nil ⟨t, rfl, ht, fun st hs ad dx fs tv H5 e5 had hl hpl htp => ⟨(e3.trans (e4.trans e5)) _ _ h2, xb_nil ?_⟩, fun n hn d H5 e5 hd => ?_⟩))
  · have E5 := ((E2.trans e3).trans e4).trans e5
    have h5 := (e3.trans (e4.trans e5)) _ _ h2
    have hne : ad ≠ fl := fun q => by rw [q, h5] at had; cases had
    exact case0 st hs _ ad dx fs tv (E5.mut (fresh_back e1 hfl)) upd_same (by rw [upd_ne hne]; exact had) hl hpl (htp.tex ((Fex.refl _).mut (noTup.lst h5)).tex)
  · refine hW _ _ _ _ hE (by show 3 < 5; decide) fun a ha => ?_
    have E5 := ((E2.trans e3).trans e4).trans e5
    have hne : d ≠ a := fun q => by rw [q, ha] at hd; cases hd
    exact case1 n hn a _ (E5.trans (Ex.new ha)) ⟨d, upd_same, by rw [upd_ne hne]; exact hd⟩
end
end Gw

set_option maxRecDepth 100000
set_option maxHeartbeats 4000000
/-! repr of data; the law's own call, known to be the outermost one (repr asks that no repr is under way). -/
namespace Gw
open PySem PySem.Spec PyProof.Rows L2 Evl SX
section
variable {X : Cx} {e : Expr} {σ : L2.St} {H : Hp} {p pos : Pos}
theorem call_reprD (hg : X.A.guards = some []) (hu : X.A.units + 70 < cLine) : CallR X (.builtin "repr") (fun xs H Q => ∃ (a : Addr) (d : PyData), xs = [.ref a] ∧ Dp X.K H (.ref a) d ∧ d.showable = true ∧ d.hasDict = false ∧ d.depth ≤ 64 ∧ d.shown.length ≤ sizeLine ∧ Q (.str d.shown) H) := by
  intro pins s σ H xs us Q I r h
  obtain ⟨a, d, rfl, hd, hs, hn, hdp, hz, q⟩ := h
  rw [Vals.ref1 r]
  obtain ⟨as, rd⟩ := Dp.reads I d (.ref a) (.ref a) hd rfl
  exact repr_of_reads' rd hs (PyData.noDict_hsm hn) hg (by omega) (fun _ _ e => e) (fun h' u tk hk => ⟨.str d.shown, H, I.kept hk, ⟨u, rfl⟩, q⟩) hz
/-- repr(e), e a list or a tuple of data -/
theorem v_repr {d : PyData} (hg : X.A.guards = some []) (hu : X.A.units + 70 < cLine) (hm : X.mg "repr" = none) (h : Er X e σ H fun y H' => ∃ a, y = .ref a ∧ Dp X.K H' (.ref a) d) (hs : d.showable = true) (hn : d.hasDict = false) (hdp : d.depth ≤ 64) (hz : d.shown.length ≤ sizeLine) (hgl : Gl X "repr" := by rfl)
    (hst : starEach [e] X.env = (false, eval e X.env) :: starEach [] X.env := by rfl) (hpl : (backTo pos (starEach [] X.env)).any (·.1) = false := by rfl) : Vl X (.Call (.Name "repr" p) [e] [] pos) σ H (.str d.shown) :=
  vl_of (pe_callB (call_reprD hg hu) hgl hm (by decide +kernel) (pa_cons pe_xe pa_nil hst) (by decide) (by decide) hst hpl) fun H1 e1 Q q => h H1 e1 _ fun y H2 e2 ⟨a, ey, hd⟩ => ⟨a, d, by rw [ey], hd, hs, hn, hdp, hz, q H2 e2⟩
end
section
variable {P : Program} {w : World} {K : PySem.W.Frag} {mg mb : Str → Option Value} {base : Heap} {d : He.DefD} {f a : Addr} {fd : FuncData} {x : Str} {N : List Str} {s : Shared} {H : Hp} {k : Nat}
/-- the outermost call of such a def, by its body -/
theorem run_top (F : FunD K d.name d.qual d.params d.body d.scope [] [] f fd) (S : FnScope N [x] d.scope) (hr : Room (k + 1) callerA) (e0 : Env0 P w K mg base callerA [] s H) (hb : BindsTo s fd ⟨[.ref a], []⟩ [(x, .ref a)])
    (body : ∀ cdv, Room k (cxOf (L2.CX P w) P w K mg base N d.qual d.scope f cdv callerA [] s H (fun _ _ _ => False)).A → XB (cxOf (L2.CX P w) P w K mg base N d.qual d.scope f cdv callerA [] s H (fun _ _ _ => False)) d.body { nx := fun _ _ => False, rt := fun v _ => v = .bl true } (start N [.ref a]) H) :
    codeAny (model P w) callerA (.call (.ref f) ⟨[.ref a], []⟩) (L2.CR (L2.CX P w) [] P w H s (fun v _ => v = .bl true) fun _ _ _ => False) s := by
  obtain ⟨oc, od, dV, kV, doc, pm, an, cdv, ct, osl, efd, lk, hcd, _, _⟩ := F.ex
  subst efd
  have here : K.In s.heap := e0.mod.kin.keeps fun b o e => (e0.bs b o e).1
  have lim : s.heap.NoLimit := e0.mod.nolimit.keeps fun b o e => (e0.bs b o e).1
  refine codeAny_call_function hr.depth (here _ _ lk) rfl S.co S.gen rfl (PySem.W.codeRec_of here hcd) (hb _ _ _ _ ?_)
  refine wpAny_newFunctionEnv_cells S.kind (fun ⟨n, v⟩ hy => ?_) fun env he s1 ic => ?_
  · have hm : n ∈ [x] := by
      rcases List.mem_cons.mp hy with q | q
      · cases q; simp
      · cases q
    rcases S.par n hm with q | q
    · exact .inl q
    · exact .inr ⟨q, PySem.W.cellsFrom_some _ _ _ (.inl q)⟩
  · subst he
    refine ⟨lim.keeps ic.toInCall.keep, codeAny_func ?_⟩
    have I := inv_start (CX := L2.CX P w) (P := P) (w := w) (K := K) (mg := mg) (base := base) (E := fun _ _ _ => False) S hr.hd e0 (us := [.ref a]) (vs := [.ref a]) rfl (.cons rfl .nil) ic
    refine wpAny_mono ((body cdv (hr.deeper _)).run [] s1 I) (fun fl s' hs => ?_) fun e s' hs => hs
    cases fl with
    | ret u => obtain ⟨v, σ', H', J, rv, q⟩ := hs; exact ⟨v, H', J.os, J.bare, J.base, J.hok, rv, q⟩
    | next => obtain ⟨_, _, _, q⟩ := hs; exact q.elim
    | brk => obtain ⟨_, _, _, q⟩ := hs; exact q.elim
    | cont => obtain ⟨_, _, _, q⟩ := hs; exact q.elim
/-- the law's call from the claim: the script is a list of whole numbers, nothing else is told of the heap -/
theorem call_top {s₁ : Shared} {vs : List Value} {ns : List Int} (KX : K.In s₁.heap) (hns : s₁.heap.Ns mainGlobals mg) (hb : s₁.heap.Ns builtinsNs mb) (hbb : ∀ x : Str, x ≠ "__name__" → mb x = bootBuiltins x) (hlim : s₁.heap.NoLimit) (hg : s₁.gens = #[])
    (ha : s₁.heap.get? a = some { cls := .type "list", data := .seq vs.toArray }) (hi : IntsAre vs ns) (hl : ns.length ≤ sizeLine)
    (F : ∀ (base : Heap) (H : Hp), K.In base → base.Ns mainGlobals mg → Env0 P w K mg base callerA [] s₁ H → SqL K H a (ns.map V.int) → codeAny (model P w) callerA (.call (.ref f) ⟨[.ref a], []⟩) (L2.CR (L2.CX P w) [] P w H s₁ (fun v _ => v = .bl true) fun _ _ _ => False) s₁)
    (hCX : ∀ H e s', L2.CX P w [] H s₁ (fun _ _ _ => False) e s' → False) :
    codeAny (model P w) callerA (.call (.ref f) ⟨[.ref a], []⟩) (fun r s' => r = .ok (.ret (.bool true)) ∧ OldK s₁.heap s'.heap ∧ s'.os = s₁.os ∧ AllBare s'.gens) s₁ := by
  have rv := vals_ints hi
  have lenV := hi.length
  -- one heap of what is told: nothing but perhaps the script
  suffices core : ∀ H : Hp, Only H → SqL K H a (ns.map V.int) → HOk P w H s₁.heap → (∀ b, H b ≠ none → b = a) → (H a ≠ none → K.lookup a = none) → codeAny (model P w) callerA (.call (.ref f) ⟨[.ref a], []⟩) (fun r s' => r = .ok (.ret (.bool true)) ∧ OldK s₁.heap s'.heap ∧ s'.os = s₁.os ∧ AllBare s'.gens) s₁ by
    cases hk : K.lookup a with
    | some o =>
      have here := KX a o hk
      rw [ha] at here
      cases here
      refine core (fun _ => none) (fun _ => .inl rfl) (.inr ⟨_, vs.toArray, _, hk, rfl, rfl, rfl, ?_, by simpa using rv⟩) (fun b u z => ?_) (fun b z => absurd rfl z) fun z => absurd rfl z
      · rw [List.size_toArray, lenV]; exact hl
      · have z' : (none : Option HO) = some u := z
        cases z'
    | none =>
      let Hs : Hp := fun b => if b = a then some (HO.frz { cls := .type "list", data := .seq vs.toArray } (.lst (ns.map V.int))) else none
      have at1 : ∀ {b : Addr}, b = a → Hs b = some (.frz { cls := .type "list", data := .seq vs.toArray } (.lst (ns.map V.int))) := fun e => if_pos e
      have at0 : ∀ {b : Addr}, b ≠ a → Hs b = none := fun e => if_neg e
      refine core Hs (fun b => ?_) (.inl (.inr ⟨{ cls := .type "list", data := .seq vs.toArray }, at1 rfl⟩)) (fun b u z => ?_) (fun b z => ?_) fun _ => hk
      · by_cases q : b = a
        · exact .inr ⟨_, _, at1 q⟩
        · exact .inl (at0 q)
      · by_cases q : b = a
        · have z' := (at1 q).symm.trans z
          cases z'
          subst q
          exact ⟨ha, by rw [List.length_map]; exact hl, vs, _, rv, ha⟩
        · have z' := (at0 q).symm.trans z
          cases z'
      · by_cases q : b = a
        · exact q
        · exact absurd (at0 q) z
  intro H hO hS hok hA hK
  have keepO : ∀ {b : Addr} {o : Obj}, s₁.heap.get? b = some o → H b = none → (hidT s₁.heap H).get? b = some o := fun e n => hidT_get e n
  have dictN : ∀ {b : Addr} {o : Obj} {es : Array DictEntry} {ep : Nat}, s₁.heap.get? b = some o → o.data = .dict es ep → H b = none := fun {b o es ep} e dd => by
    cases q : H b with
    | none => rfl
    | some u =>
      have eb : b = a := hA b (by rw [q]; simp)
      subst eb
      rw [ha] at e; cases e
      have dd' : Data.seq vs.toArray _ = Data.dict es ep := dd
      cases dd'
  have nsB : ∀ {b : Addr} {m : Str → Option Value}, s₁.heap.Ns b m → (hidT s₁.heap H).Ns b m := fun {b m} ⟨o, es, ep, e, dd, r⟩ => ⟨o, es, ep, keepO e (dictN e dd), dd, r⟩
  have hKb : K.In (hidT s₁.heap H) := fun b o e => keepO (KX b o e) (by
    cases q : H b with
    | none => rfl
    | some u =>
      have eb : b = a := hA b (by rw [q]; simp)
      subst eb
      rw [hK (by rw [q]; simp)] at e; cases e)
  have hM : Mod K mg (hidT s₁.heap H) := ⟨hKb, nsB hns, ⟨mb, nsB hb, hbb⟩, let ⟨mc, h1, h2⟩ := hlim; ⟨mc, nsB h1, h2⟩⟩
  have e0 : Env0 P w K mg (hidT s₁.heap H) callerA [] s₁ H := ⟨rfl, hM, fun b o e => of_hidT e, Nat.le_of_eq (hidT_size _ _), trivial, fun b z => absurd (show b ∈ ([] : List Addr) from z) (by simp), hok, .of_eq hg⟩
  refine codeAny_mono (F _ H hKb (nsB hns) e0 hS) fun r s' h => ?_
  cases r with
  | error e => exact (hCX H e s' h).elim
  | ok fl =>
    cases fl with
    | next => exact h.elim
    | brk => exact h.elim
    | cont => exact h.elim
    | ret u =>
      obtain ⟨v, H', os, bare, un, hok', r', q⟩ := h
      have q' : v = .bl true := q
      subst q'
      obtain rfl : u = Value.bool true := r'
      refine ⟨rfl, OldK.of_keep fun b o e => ?_, os, bare⟩
      cases q : H b with
      | none => exact un.keep b o e q (fun z => absurd (show b ∈ ([] : List Addr) from z) (by simp)) (by simp)
      | some u =>
        rcases hO b with z | ⟨ob, xs, z⟩
        · rw [q] at z; cases z
        · obtain ⟨e1, _⟩ := hok b _ z
          obtain ⟨e2, _⟩ := hok' b _ (un.frzs b ob _ z)
          rw [e] at e1; cases e1
          exact e2
end
end Gw

set_option maxRecDepth 100000
set_option maxHeartbeats 4000000
/-! How much is told of a house: its repr has room. -/
namespace Gw
open PySem SX L2
/-- signs that repr writes short -/
def Cok (a : W) : Prop := ∀ c ∈ a, c < 16 ^ 8
theorem Cok.sub {a b : W} (h : Cok a) (s : ∀ c ∈ b, c ∈ a) : Cok b := fun c hc => h c (s c hc)
structure Gd1 (n D : Nat) (d : PyData) : Prop where
  lf : d.leavesShort 13 = true
  sh : d.showable = true
  nd : d.hasDict = false
  dp : d.depth ≤ D
  bk : d.bulk ≤ n
structure GdA (n D : Nat) (ds : List PyData) : Prop where
  lf : PyData.leavesShortAll 13 ds = true
  sh : PyData.showableAll ds = true
  nd : PyData.hasDictAll ds = false
  dp : PyData.depthAll ds ≤ D
  bk : PyData.bulkAll ds ≤ n
theorem Gd1.mono {n m D E : Nat} {d : PyData} (h : Gd1 n D d) (h1 : n ≤ m) (h2 : D ≤ E) : Gd1 m E d := ⟨h.lf, h.sh, h.nd, Nat.le_trans h.dp h2, Nat.le_trans h.bk h1⟩
theorem GdA.mono {n m D E : Nat} {ds : List PyData} (h : GdA n D ds) (h1 : n ≤ m) (h2 : D ≤ E) : GdA m E ds := ⟨h.lf, h.sh, h.nd, Nat.le_trans h.dp h2, Nat.le_trans h.bk h1⟩
theorem gd_tup {n D : Nat} {ds : List PyData} (h : GdA n D ds) : Gd1 n (D + 1) (.tuple ds) := ⟨by simpa [PyData.leavesShort] using h.lf, by simpa [PyData.showable] using h.sh, by simpa [PyData.hasDict] using h.nd, by simpa [PyData.depth] using h.dp, by simpa [PyData.bulk] using h.bk⟩
theorem gd_lst {n D : Nat} {ds : List PyData} (h : GdA n D ds) : Gd1 n (D + 1) (.list ds) := ⟨by simpa [PyData.leavesShort] using h.lf, by simpa [PyData.showable] using h.sh, by simpa [PyData.hasDict] using h.nd, by simpa [PyData.depth] using h.dp, by simpa [PyData.bulk] using h.bk⟩
theorem ga_nil {D : Nat} : GdA 0 D [] := ⟨by simp [PyData.leavesShortAll], by simp [PyData.showableAll], by simp [PyData.hasDictAll], by simp [PyData.depthAll], by simp [PyData.bulkAll]⟩
theorem ga_cons {n m D : Nat} {d : PyData} {ds : List PyData} (h : Gd1 n D d) (t : GdA m D ds) : GdA (n + 1 + m) D (d :: ds) :=
  ⟨by simp [PyData.leavesShortAll, h.lf, t.lf], by simp [PyData.showableAll, h.sh, t.sh], by simp [PyData.hasDictAll, h.nd, t.nd], by have := h.dp; have := t.dp; simp [PyData.depthAll]; omega, by have := h.bk; have := t.bk; simp [PyData.bulkAll]; omega⟩
theorem ga_append {n m D : Nat} : ∀ {ds es : List PyData}, GdA n D ds → GdA m D es → GdA (n + m) D (ds ++ es)
  | [], es, h, t => t.mono (by omega) (Nat.le_refl _)
  | d :: ds, es, h, t => by
    have h1 : d.leavesShort 13 = true ∧ PyData.leavesShortAll 13 ds = true := by simpa [PyData.leavesShortAll] using h.lf
    have h2 : d.showable = true ∧ PyData.showableAll ds = true := by simpa [PyData.showableAll] using h.sh
    have h3 : d.hasDict = false ∧ PyData.hasDictAll ds = false := by simpa [PyData.hasDictAll] using h.nd
    have h4 : d.depth ≤ D ∧ PyData.depthAll ds ≤ D := by have := h.dp; simp [PyData.depthAll] at this; omega
    have h5 : d.bulk + 1 + PyData.bulkAll ds ≤ n := by simpa [PyData.bulkAll] using h.bk
    have := ga_cons (n := d.bulk) ⟨h1.1, h2.1, h3.1, h4.1, Nat.le_refl _⟩ (ga_append (n := PyData.bulkAll ds) ⟨h1.2, h2.2, h3.2, h4.2, Nat.le_refl _⟩ t)
    exact this.mono (by omega) (Nat.le_refl _)
/-- one by one, each its own size -/
theorem ga_sum {α : Type} {D : Nat} {f : α → PyData} {g : α → Nat} : ∀ {xs : List α}, (∀ x ∈ xs, Gd1 (g x) D (f x)) → GdA ((xs.map fun x => g x + 1).sum) D (xs.map f)
  | [], _ => ga_nil
  | x :: xs, h => by
    rw [List.map_cons, List.map_cons, List.sum_cons]
    exact ga_cons (h x (by simp)) (ga_sum fun y hy => h y (List.mem_cons_of_mem _ hy))
theorem ga_map {α : Type} {n D : Nat} {f : α → PyData} {xs : List α} (h : ∀ x ∈ xs, Gd1 n D (f x)) : GdA ((n + 1) * xs.length) D (xs.map f) := by
  have := ga_sum (g := fun _ => n) h
  have e : (xs.map fun _ => n + 1).sum = (n + 1) * xs.length := by
    clear h this
    induction xs with
    | nil => rfl
    | cons x xs ih => rw [List.map_cons, List.sum_cons, ih, List.length_cons, Nat.mul_add]; omega
  rw [e] at this
  exact this
theorem gd_none {n D : Nat} : Gd1 n D .none := ⟨by simp [PyData.leavesShort], by simp [PyData.showable], by simp [PyData.hasDict], by simp [PyData.depth], by simp [PyData.bulk]⟩
theorem gd_bool {n D : Nat} {b : Bool} : Gd1 n D (.bool b) := ⟨by simp [PyData.leavesShort], by simp [PyData.showable], by simp [PyData.hasDict], by simp [PyData.depth], by simp [PyData.bulk]⟩
theorem gd_int {n D k : Nat} (h : k ≤ 10 ^ 12) : Gd1 n D (.int (k : Int)) := by
  refine ⟨?_, ?_, by simp [PyData.hasDict], by simp [PyData.depth], by simp [PyData.bulk]⟩
  · rw [PyData.leavesShort, decide_eq_true_eq, PyData.shown]
    exact PyProof.Rows.toString_length_le (k := 13) (by omega) (by decide) (by omega)
  · rw [PyData.showable, decide_eq_true_eq]
    have h2 : (k : Int).natAbs = k := by omega
    rw [h2]
    refine Nat.lt_of_le_of_lt (Nat.log2_le_self k |> fun _ => (show k.log2 ≤ 40 from ?_)) (by decide)
    by_cases hk : k = 0
    · subst hk; decide
    · have : k.log2 < 41 := (Nat.log2_lt hk).mpr (by omega)
      omega
theorem gd_lit {n D : Nat} {z : Str} (h1 : z.cps.toList.all (fun c => decide (c < 16 ^ 8)) = true := by decide +kernel) (h2 : z.cps.size ≤ n := by decide +kernel) : Gd1 n D (.str z) :=
  ⟨by rw [PyData.leavesShort]; exact h1, by simp [PyData.showable], by simp [PyData.hasDict], by simp [PyData.depth], by simpa [PyData.bulk] using h2⟩
theorem gd_str {n D : Nat} {a : W} (h : Cok a) (hl : a.length ≤ n) : Gd1 n D (strD a) :=
  ⟨by unfold strD; rw [PyData.leavesShort]; exact List.all_eq_true.mpr fun c hc => decide_eq_true (h c hc), by simp [strD, PyData.showable], by simp [strD, PyData.hasDict], by simp [strD, PyData.depth], by
    have : (S a).cps.size = a.length := S_len a
    simp [strD, PyData.bulk, this]; exact hl⟩
theorem gd_strs {n : Nat} {ws : List W} (h : ∀ a ∈ ws, Cok a) (hl : (ws.map fun a => a.length + 1).sum ≤ n) : Gd1 n 1 (strsD ws) := gd_tup ((ga_sum (D := 0) (g := fun a => a.length) fun a ha => gd_str (h a ha) (Nat.le_refl _)).mono hl (Nat.le_refl _))
/-! ### pieces of a text -/
theorem spl_sum {s : W} (hs : s ≠ []) : ∀ (n : Nat) (a : W), a.length ≤ n → ((TL.spl s 0 [] a).map (·.length)).sum ≤ a.length ∧ ∀ p ∈ TL.spl s 0 [] a, ∀ c ∈ p, c ∈ a
  | 0, a, h => by
    have : a = [] := List.length_eq_zero_iff.mp (Nat.le_zero.mp h)
    subst this
    rw [TL.spl_nil]
    simp
  | n + 1, a, h => by
    rw [spl_par hs a]
    cases z : TL.par s [] a with
    | none => simp
    | some pq =>
      obtain ⟨p, q⟩ := pq
      have e := par_some_eq z
      have hl : a.length = p.length + (s.length + q.length) := by rw [e, List.length_append, List.length_append]
      have s1 : 1 ≤ s.length := by cases s with | nil => exact absurd rfl hs | cons _ _ => simp
      obtain ⟨h1, h2⟩ := spl_sum hs n q (by omega)
      dsimp only
      refine ⟨by simp only [List.map_cons, List.sum_cons]; omega, fun r hr c hc => ?_⟩
      rcases List.mem_cons.mp hr with q' | q'
      · rw [e]; subst q'; exact List.mem_append_left _ hc
      · rw [e]; exact List.mem_append_right _ (List.mem_append_right _ (h2 r q' c hc))
theorem sum_filter {ws : List W} {f : W → Bool} : ((ws.filter f).map (·.length)).sum ≤ (ws.map (·.length)).sum := by
  induction ws with
  | nil => exact Nat.le_refl _
  | cons a ws ih =>
    rw [List.filter_cons]
    split
    · rw [List.map_cons, List.map_cons, List.sum_cons, List.sum_cons]; omega
    · rw [List.map_cons, List.sum_cons]; omega
theorem headL_sub (l : W) : ∀ c ∈ headL l, c ∈ l := by
  unfold headL
  cases e : TL.par [35] [] l with
  | none => exact fun c h => h
  | some pq =>
    obtain ⟨p, q⟩ := pq
    intro c hc
    rw [par_some_eq e]
    exact List.mem_append_left _ hc
theorem words_sum (l : W) : ((wordsM l).map (·.length)).sum ≤ l.length ∧ ∀ a ∈ wordsM l, ∀ c ∈ a, c ∈ l := by
  rw [wordsM_eq]
  obtain ⟨h1, h2⟩ := spl_sum (s := [32]) (by decide) (headL l).length (headL l) (Nat.le_refl _)
  have h3 := headL_len l
  have h4 := sum_filter (ws := TL.spl [32] 0 [] (headL l)) (f := fun w => decide (w ≠ []))
  exact ⟨Nat.le_trans h4 (Nat.le_trans h1 h3), fun a ha c hc => headL_sub l c (h2 a (List.mem_filter.mp ha).1 c hc)⟩
/-! ### atoms, conditions -/
theorem rows_sub : ∀ (n : Nat) (a : W), ∀ w ∈ rowsOf n a, ∀ c ∈ w, c ∈ a
  | 0, _, w, h => by cases h
  | n + 1, [], w, h => by cases h
  | n + 1, d :: r, w, h => by
    intro c hc
    have hs := name_split r
    rcases List.mem_cons.mp h with q | q
    · subst q
      rcases List.mem_cons.mp hc with q | q
      · simp [q]
      · refine List.mem_cons_of_mem _ ?_
        rw [hs]
        exact List.mem_append_left _ q
    · have := rows_sub n _ w q c hc
      refine List.mem_cons_of_mem _ ?_
      rw [hs]
      exact List.mem_append_right _ this
theorem mkR_sub (a : W) : ∀ w ∈ mkR a, ∀ c ∈ w, c ∈ a := fun w hw c hc => by
  have := rows_sub _ _ w hw c hc
  rw [name_split a]
  exact List.mem_append_right _ this
theorem onoff_sum : ∀ {ws : List W}, (∀ w ∈ ws, ∃ c r, w = c :: r ∧ signC c = true) → ((onR ws).map fun a => a.length + 1).sum + ((offR ws).map fun a => a.length + 1).sum ≤ (ws.map (·.length)).sum
  | [], _ => Nat.zero_le _
  | w :: ws, h => by
    obtain ⟨c, r, ew, _⟩ := h w (by simp)
    have ih := onoff_sum fun x hx => h x (List.mem_cons_of_mem _ hx)
    unfold onR offR at ih ⊢
    subst ew
    rw [List.filter_cons, List.filter_cons]
    by_cases q : ((c :: r).head? == some 43) = true
    · rw [if_pos q, if_neg (by rw [q]; decide)]
      simp only [List.map_cons, List.sum_cons, List.tail_cons, List.length_cons]
      omega
    · have q' : ((c :: r).head? == some 43) = false := by simpa using q
      rw [if_neg q, if_pos (by rw [q']; rfl)]
      simp only [List.map_cons, List.sum_cons, List.tail_cons, List.length_cons]
      omega
theorem Cok.dropLast {a : W} (h : Cok a) : Cok a.dropLast := h.sub fun c hc => List.dropLast_subset a hc
theorem gd_num {n D : Nat} {o : Option Nat} (h : ∀ k, o = some k → k ≤ 10 ^ 12) : Gd1 n D (numD o) := by
  cases o with
  | none => exact gd_none
  | some k => exact gd_int (h k rfl)
theorem endsN_le {a : W} {most : Nat} {l h : Option Nat} (e : endsN a most = some (l, h)) : (∀ k, l = some k → k ≤ most) ∧ ∀ k, h = some k → k ≤ most := by
  unfold endsN at e
  cases hp : TL.par [46, 46] [] a with
  | none =>
    rw [hp] at e
    dsimp only at e
    cases hw : wholeM a with
    | none => rw [hw] at e; cases e
    | some n =>
      rw [hw] at e
      dsimp only at e
      split at e
      · cases e
      · cases e
        exact ⟨fun k q => by cases q; omega, fun k q => by cases q; omega⟩
  | some pq =>
    obtain ⟨p, q⟩ := pq
    rw [hp] at e
    dsimp only at e
    split at e
    · cases e
    · rename_i hb
      simp only [Bool.not_eq_true, Bool.or_eq_false_iff] at hb
      obtain ⟨_, h1, h2⟩ := hb
      have b1 : ∀ k, wholeM p = some k → k ≤ most := fun k hk => by
        rw [hk] at h1
        have := of_decide_eq_false (show decide (most < k) = false from h1)
        omega
      have b2 : ∀ k, wholeM q = some k → k ≤ most := fun k hk => by
        rw [hk] at h2
        have := of_decide_eq_false (show decide (most < k) = false from h2)
        omega
      cases hw : wholeM p with
      | none =>
        rw [hw] at e
        cases e
        exact ⟨fun k z => (by cases z), b2⟩
      | some l' =>
        rw [hw] at e
        cases hw2 : wholeM q with
        | none =>
          rw [hw2] at e
          cases e
          exact ⟨fun k z => by cases z; exact b1 _ hw, fun k z => by cases z⟩
        | some h' =>
          rw [hw2] at e
          dsimp only at e
          split at e
          · cases e
          · cases e
            exact ⟨fun k z => by cases z; exact b1 _ hw, fun k z => by cases z; exact b2 _ hw2⟩
theorem minutes_le {a : W} {k : Nat} (h : minutesM a = some k) : k ≤ 10 ^ 12 := by
  rw [minutes_par] at h
  cases e : TL.par [58] [] a with
  | none => rw [e] at h; cases h
  | some pq =>
    obtain ⟨p, q⟩ := pq
    rw [e] at h
    dsimp only at h
    split at h
    · rename_i hc
      simp only [Bool.and_eq_true, decide_eq_true_eq] at hc
      cases h
      omega
    · cases h
theorem endsC_le {a : W} {b e : Nat} (h : endsC a = some (b, e)) : b ≤ 10 ^ 12 ∧ e ≤ 10 ^ 12 := by
  unfold endsC at h
  cases hp : TL.par [46, 46] [] a with
  | none =>
    rw [hp] at h
    dsimp only at h
    cases hm : minutesM a with
    | none => rw [hm] at h; cases h
    | some n => rw [hm] at h; cases h; exact ⟨minutes_le hm, minutes_le hm⟩
  | some pq =>
    obtain ⟨p, q⟩ := pq
    rw [hp] at h
    dsimp only at h
    cases hm : minutesM p with
    | none => rw [hm] at h; cases h
    | some n =>
      cases hm2 : minutesM q with
      | none => rw [hm, hm2] at h; cases h
      | some m =>
        rw [hm, hm2] at h
        dsimp only at h
        split at h
        · cases h
        · cases h; exact ⟨minutes_le hm, minutes_le hm2⟩
theorem gd_ite {n D : Nat} {c : Prop} [Decidable c] {a b : PyData} (h1 : c → Gd1 n D a) (h2 : ¬ c → Gd1 n D b) : Gd1 n D (if c then a else b) := by
  by_cases h : c
  · rw [if_pos h]; exact h1 h
  · rw [if_neg h]; exact h2 h
theorem atom_good {k : FK} {kn : List W} {a : W} (hk : FkOk k) (h : Cok a) : Gd1 (a.length + 8) 2 (atomM k kn a) := by
  have one : ∀ (z : Str) (b : W), Cok b → b.length ≤ a.length → z.cps.toList.all (fun c => decide (c < 16 ^ 8)) = true → z.cps.size ≤ 5 → Gd1 (a.length + 8) 2 (.tuple [.str z, strD b]) := fun z b hb hl h1 h2 =>
    ((gd_tup (ga_cons (D := 0) (gd_lit (n := 5) h1 h2) (ga_cons (gd_str hb (Nat.le_refl _)) ga_nil))).mono (by omega) (by omega))
  cases k with
  | names ws => exact gd_ite (fun _ => one _ a h (Nat.le_refl _) (by decide +kernel) (by decide +kernel)) fun _ => gd_none
  | tree ws =>
    show Gd1 _ _ (pathM a ws)
    unfold pathM
    exact gd_ite (fun _ => gd_ite (fun _ => one _ _ h.dropLast (by rw [List.length_dropLast]; omega) (by decide +kernel) (by decide +kernel)) fun _ => gd_none) fun _ => gd_ite (fun _ => one _ a h (Nat.le_refl _) (by decide +kernel) (by decide +kernel)) fun _ => gd_none
  | number m =>
    show Gd1 _ _ (fromM a m)
    rw [from_ends]
    have hm : m ≤ 10 ^ 12 := hk
    cases e : endsN a m with
    | none => exact gd_none
    | some lh =>
      obtain ⟨l, hh⟩ := lh
      obtain ⟨b1, b2⟩ := endsN_le e
      exact (gd_tup (ga_cons (D := 0) (gd_lit (n := 4)) (ga_cons (gd_num (n := 0) fun k hk => Nat.le_trans (b1 k hk) hm) (ga_cons (gd_num (n := 0) fun k hk => Nat.le_trans (b2 k hk) hm) ga_nil)))).mono (by omega) (by omega)
  | bits m =>
    show Gd1 _ _ (firstM a m)
    unfold firstM
    exact gd_ite (fun _ => gd_ite (fun _ => one _ _ h.dropLast (by rw [List.length_dropLast]; omega) (by decide +kernel) (by decide +kernel)) fun _ => gd_none) fun _ => gd_ite (fun _ => one _ a h (Nat.le_refl _) (by decide +kernel) (by decide +kernel)) fun _ => gd_none
  | marks ms =>
    show Gd1 _ _ (marksM a ms)
    rw [marksM_law]
    have hsub : ∀ w ∈ mkR a, ∀ x ∈ w.tail, x ∈ a := fun w hw x hx => mkR_sub a w hw x (List.mem_of_mem_tail hx)
    have c1 : ∀ b ∈ onR (mkR a), Cok b := fun b hb => by
      obtain ⟨w, hw, e⟩ := List.mem_map.mp hb
      subst e
      exact h.sub (hsub w (List.mem_filter.mp hw).1)
    have c2 : ∀ b ∈ offR (mkR a), Cok b := fun b hb => by
      obtain ⟨w, hw, e⟩ := List.mem_map.mp hb
      subst e
      exact h.sub (hsub w (List.mem_filter.mp hw).1)
    have s1 := onoff_sum (mkR_sign a)
    have s2 := mkR_len a
    exact gd_ite (fun _ => (gd_tup (ga_cons (D := 1) (gd_lit (n := 5)) (ga_cons (gd_strs c1 (Nat.le_refl _)) (ga_cons (gd_strs c2 (Nat.le_refl _)) ga_nil)))).mono (by omega) (by omega)) fun _ => gd_none
  | clock =>
    show Gd1 _ _ (clockM a)
    rw [clock_ends]
    cases e : endsC a with
    | none => exact gd_none
    | some lh =>
      obtain ⟨b, c⟩ := lh
      obtain ⟨b1, b2⟩ := endsC_le e
      exact (gd_tup (ga_cons (D := 0) (gd_lit (n := 5)) (ga_cons (gd_int (n := 0) b1) (ga_cons (gd_int (n := 0) b2) ga_nil)))).mono (by omega) (by omega)
end Gw

set_option maxRecDepth 100000
set_option maxHeartbeats 4000000
namespace Gw
open PySem SX L2
theorem sum_add {ws : List W} {k : Nat} : (ws.map fun a => a.length + k).sum = (ws.map (·.length)).sum + k * ws.length := by
  induction ws with
  | nil => rfl
  | cons a ws ih => simp only [List.map_cons, List.sum_cons, List.length_cons, Nat.mul_add] at ih ⊢; omega
theorem cond_good {st : Ho} {a n : W} {dt : PyData} (h : condM st a = some (n, dt)) (ok : HoOk st) (hc : Cok a) : Gd1 (a.length + 47) 4 dt ∧ n ∈ st.fields.map (·.name) := by
  cases e : TL.par [58] [] a with
  | none => rw [condM_none e] at h; cases h
  | some pq =>
    obtain ⟨p, q⟩ := pq
    have ea := par_some_eq e
    cases ef : st.fields.find? (fun f => f.name == p) with
    | none => rw [condM_nof e ef] at h; cases h
    | some f =>
      rw [condM_some e ef] at h
      split at h
      · rename_i hg
        cases h
        have fm := List.mem_of_find?_eq_some ef
        have fn := List.find?_some ef
        have hname : f.name = n := by simpa using fn
        have cp : Cok n := hc.sub fun c hc => by rw [ea]; exact List.mem_append_left _ hc
        have cq : Cok q := hc.sub fun c hc => by rw [ea]; exact List.mem_append_right _ (List.mem_append_right _ hc)
        have cb : Cok (if q.head? == some 33 then q.tail else q) := by split; exact cq.sub fun c hc => List.mem_of_mem_tail hc; exact cq
        have lb : (if q.head? == some 33 then q.tail else q).length ≤ q.length := by split; rw [List.length_tail]; omega; exact Nat.le_refl _
        obtain ⟨s1, s2⟩ := spl_sum (s := [124]) (by decide) _ (if q.head? == some 33 then q.tail else q) (Nat.le_refl _)
        have s1' : ((cTexts q).map (·.length)).sum ≤ q.length := Nat.le_trans s1 lb
        have ga : GdA (((cTexts q).map fun x => x.length + 8 + 1).sum) 2 (cData st f q) := ga_sum (g := fun x => x.length + 8) fun x hx => atom_good (ok.f f fm).2 (cb.sub (s2 x hx))
        have e9 := sum_add (ws := cTexts q) (k := 9)
        have la : a.length = n.length + (1 + q.length) := by rw [ea, List.length_append, List.length_append]; rfl
        refine ⟨(gd_tup (ga_cons (D := 3) (gd_str cp (Nat.le_refl _)) (ga_cons (gd_bool (n := 0)) (ga_cons (gd_tup ga) ga_nil)))).mono ?_ (Nat.le_refl _), ?_⟩
        · have : ((cTexts q).map fun x => x.length + 8 + 1).sum = ((cTexts q).map fun x => x.length + 9).sum := rfl
          rw [this, e9]
          have := hg.1
          omega
        · exact List.mem_map.mpr ⟨f, fm, hname⟩
      · cases h
theorem conds_good {st : Ho} (ok : HoOk st) : ∀ {ws : List W} {cs : List (W × PyData)}, condsM st ws = some cs → (∀ w ∈ ws, Cok w) → GdA ((ws.map fun w => w.length + 48).sum) 4 (cs.map (·.2)) ∧ cs.length = ws.length ∧ ∀ c ∈ cs, c.1 ∈ st.fields.map (·.name)
  | [], cs, h, _ => by cases h; exact ⟨ga_nil, rfl, fun _ h => by cases h⟩
  | w :: ws, cs, h, hc => by
    have h' : (match condM st w with | some c => (condsM st ws).map fun cs => c :: cs | none => none) = some cs := h
    cases e : condM st w with
    | none => rw [e] at h'; cases h'
    | some c =>
      rw [e] at h'
      cases e2 : condsM st ws with
      | none => rw [e2] at h'; cases h'
      | some cs2 =>
        rw [e2] at h'
        cases h'
        obtain ⟨n, dt⟩ := c
        obtain ⟨g1, m1⟩ := cond_good e ok (hc w (by simp))
        obtain ⟨g2, l2, m2⟩ := conds_good ok e2 fun x hx => hc x (List.mem_cons_of_mem _ hx)
        refine ⟨?_, by simp [l2], fun x hx => ?_⟩
        · rw [List.map_cons, List.map_cons, List.sum_cons]
          exact (ga_cons g1 g2).mono (by omega) (Nat.le_refl _)
        · rcases List.mem_cons.mp hx with q | q
          · rw [q]; exact m1
          · exact m2 x q
structure HoB (st : Ho) : Prop where
  ok : HoOk st
  f : ∀ f ∈ st.fields, Gd1 8300 2 f.d
  g : ∀ g ∈ st.groups, Gd1 8300 2 g.d
  t : ∀ g ∈ st.gates, (Cok g.name ∧ g.name.length ≤ 8000) ∧ (Cok g.order ∧ g.order.length ≤ 8000) ∧ ∀ r ∈ g.rules, Gd1 8300 6 r.d
theorem things_ws {kind : W} {ws : List W} {k : FK} (h : thingsM kind ws = some k) : k.ws = ws ∨ k.ws = [] := by
  unfold thingsM at h
  split at h
  · split at h
    · cases h; exact .inr rfl
    · cases h
  · split at h
    · split at h
      · split at h
        · split at h
          · split at h
            · cases h; exact .inr rfl
            · cases h
          · split at h
            · cases h; exact .inr rfl
            · cases h
        · cases h
      · cases h
    · split at h
      · by_cases cc : (1 ≤ ws.length ∧ ws.length ≤ (if S kind = "marks" then 5 else 9)) ∧ ws.all (fun a => if S kind = "tree" then isPathM a else isNameM a) = true ∧ ws.Nodup
        · rw [if_pos cc] at h
          by_cases h1 : S kind = "names"
          · rw [if_pos h1] at h; cases h; exact .inl rfl
          · rw [if_neg h1] at h
            by_cases h2 : S kind = "tree"
            · rw [if_pos h2] at h; cases h; exact .inl rfl
            · rw [if_neg h2] at h; cases h; exact .inl rfl
        · rw [if_neg cc] at h; cases h
      · cases h
theorem fd_good {f : Fd} {n : Nat} (hn : isNameM f.name = true) (hc : Cok f.name) (hk : FkOk f.k) (hw : ∀ w ∈ f.k.ws, Cok w) (hl : (f.k.ws.map fun a => a.length + 1).sum ≤ n) : Gd1 (n + 20) 2 f.d := by
  have ln := name_len hn
  obtain ⟨nm, k⟩ := f
  have fin : ∀ (z : Str) (d : PyData), z.cps.toList.all (fun c => decide (c < 16 ^ 8)) = true → z.cps.size ≤ 6 → Gd1 n 1 d → Gd1 (n + 20) 2 (.tuple [strD nm, .str z, d]) := fun z d h1 h2 h3 =>
    (gd_tup (ga_cons (D := 1) (gd_str hc ln) (ga_cons (gd_lit (n := 6) h1 h2) (ga_cons h3 ga_nil)))).mono (by omega) (Nat.le_refl _)
  cases k with
  | names ws => exact fin "names" _ (by decide +kernel) (by decide +kernel) (gd_strs hw hl)
  | tree ws => exact fin "tree" _ (by decide +kernel) (by decide +kernel) (gd_strs hw hl)
  | marks ws => exact fin "marks" _ (by decide +kernel) (by decide +kernel) (gd_strs hw hl)
  | number m => exact fin "number" _ (by decide +kernel) (by decide +kernel) (gd_int hk)
  | bits m => exact fin "bits" _ (by decide +kernel) (by decide +kernel) (gd_int (by have h : 1 ≤ m ∧ m ≤ 32 := hk; omega))
  | clock => exact fin "clock" _ (by decide +kernel) (by decide +kernel) gd_none
theorem few_sum {ws : List W} {n : Nat} (h : ws.length ≤ n) {k : Nat} : (ws.map fun a => a.length + k).sum ≤ (ws.map (·.length)).sum + k * n := by
  rw [sum_add]
  have := Nat.mul_le_mul_left k h
  omega
theorem hb_line {st st' : Ho} {ws : List W} (h : HoB st) (e : lineM st ws = some st') (hs : (ws.map (·.length)).sum ≤ 8000) (hc : ∀ w ∈ ws, Cok w) : HoB st' := by
  cases ws with
  | nil => cases e; exact h
  | cons w0 r =>
    rw [lineM_cons] at e
    simp only [List.map_cons, List.sum_cons] at hs
    have hcr : ∀ w ∈ r, Cok w := fun w hw => hc w (List.mem_cons_of_mem _ hw)
    split at e
    · -- a field
      unfold fieldM at e
      split at e
      · rename_i x a kind rest heq
        cases heq
        split at e
        · rename_i c
          obtain ⟨c1, c2, c3, c4, c5⟩ := c
          cases ht : thingsM kind rest with
          | none => rw [ht] at e; cases e
          | some k =>
            rw [ht] at e
            cases e
            have kok := things_ok ht
            simp only [List.map_cons, List.sum_cons] at hs
            have good : Gd1 8300 2 (Fd.d ⟨a, k⟩) := by
              refine (fd_good (f := ⟨a, k⟩) (n := 8009) c4 (hcr a (by simp)) kok (fun w hw => ?_) ?_).mono (by omega) (Nat.le_refl _)
              · rcases things_ws ht with q | q
                · exact hcr w (by rw [show (Fd.k ⟨a, k⟩).ws = rest from q] at hw; simp [hw])
                · rw [show (Fd.k ⟨a, k⟩).ws = [] from q] at hw; cases hw
              · have hf := few_sum (ws := k.ws) kok.few (k := 1)
                have : (k.ws.map (·.length)).sum ≤ 8000 := by
                  rcases things_ws ht with q | q
                  · rw [q]; omega
                  · rw [q]; exact Nat.zero_le _
                show (k.ws.map fun a => a.length + 1).sum ≤ 8009
                omega
            refine ⟨⟨?_, fun f hf => ?_, h.ok.g9, h.ok.g, h.ok.t5, h.ok.t⟩, fun f hf => ?_, h.g, h.t⟩
            · show (st.fields ++ [_]).length ≤ 4
              rw [List.length_append, List.length_singleton]; omega
            · rcases List.mem_append.mp hf with q | q
              · exact h.ok.f f q
              · rw [List.mem_singleton.mp q]; exact ⟨c4, kok⟩
            · rcases List.mem_append.mp hf with q | q
              · exact h.f f q
              · rw [List.mem_singleton.mp q]; exact good
        · cases e
      · cases e
    · split at e
      · -- a group
        unfold groupM at e
        split at e
        · rename_i x fn a m rest heq
          cases heq
          split at e
          · rename_i f hf
            split at e
            · rename_i c
              obtain ⟨c1, c2, c3, c4, c5, c6, c7⟩ := c
              cases e
              simp only [List.map_cons, List.sum_cons] at hs
              have hf9 := few_sum (ws := m :: rest) c5 (k := 1)
              have good : Gd1 8300 2 (Gp.d ⟨fn, a, m :: rest⟩) := by
                refine (gd_tup (ga_cons (D := 1) (gd_str (hcr fn (by simp)) (Nat.le_refl _)) (ga_cons (gd_str (hcr a (by simp)) (Nat.le_refl _)) (ga_cons (gd_strs (ws := m :: rest) (fun w hw => hcr w (by simp at hw ⊢; exact .inr (.inr hw))) hf9) ga_nil)))).mono ?_ (Nat.le_refl _)
                simp only [List.map_cons, List.sum_cons]
                omega
              refine ⟨⟨h.ok.f4, h.ok.f, ?_, fun g hg => ?_, h.ok.t5, h.ok.t⟩, h.f, fun g hg => ?_, h.t⟩
              · show (st.groups ++ [_]).length ≤ 9
                rw [List.length_append, List.length_singleton]; omega
              · rcases List.mem_append.mp hg with q | q
                · exact h.ok.g g q
                · rw [List.mem_singleton.mp q]; exact ⟨c3, c5⟩
              · rcases List.mem_append.mp hg with q | q
                · exact h.g g q
                · rw [List.mem_singleton.mp q]; exact good
            · cases e
          · cases e
        · cases e
      · split at e
        · -- a gate
          unfold gateM at e
          split at e
          · rename_i x a o heq
            cases heq
            split at e
            · rename_i c
              obtain ⟨c1, c2, c3, c4, c5⟩ := c
              cases e
              simp only [List.map_cons, List.sum_cons, List.map_nil, List.sum_nil] at hs
              refine ⟨⟨h.ok.f4, h.ok.f, h.ok.g9, h.ok.g, ?_, fun g hg => ?_⟩, h.f, h.g, fun g hg => ?_⟩
              · show (st.gates ++ [_]).length ≤ 5
                rw [List.length_append, List.length_singleton]; omega
              · rcases List.mem_append.mp hg with q | q
                · exact h.ok.t g q
                · rw [List.mem_singleton.mp q]; exact Nat.zero_le _
              · rcases List.mem_append.mp hg with q | q
                · exact h.t g q
                · rw [List.mem_singleton.mp q]
                  exact ⟨⟨hcr a (by simp), by show a.length ≤ 8000; omega⟩, ⟨hcr o (by simp), by show o.length ≤ 8000; omega⟩, fun r hr => by cases hr⟩
            · cases e
          · cases e
        · split at e
          · -- a rule
            rcases List.eq_nil_or_concat st.gates with hg | ⟨gts, gt, eg⟩
            · unfold ruleM at e
              rw [hg] at e
              cases e
            · have eg' : st.gates = gts ++ [gt] := by simpa using eg
              by_cases hl : gt.rules.length < 8
              · rw [ruleM_one eg' hl] at e
                have gtm : gt ∈ st.gates := by rw [eg']; simp
                have fin : ∀ (goal : Option W) (r' : List W), (∀ w ∈ r', Cok w) → (∀ g, goal = some g → Cok g) → (goal.map (·.length)).getD 0 + (r'.map (·.length)).sum ≤ 8000 - w0.length → ruleFin st gts gt w0 goal r' = some st' → HoB st' := by
                  intro goal r' hcr' hgo hsum hf
                  unfold ruleFin at hf
                  cases hcs : condsM st r' with
                  | none => rw [hcs] at hf; cases hf
                  | some cs =>
                    rw [hcs] at hf
                    dsimp only at hf
                    split at hf
                    · rename_i hnd
                      cases hf
                      obtain ⟨g1, l1, m1⟩ := conds_good h.ok hcs hcr'
                      have few : r'.length ≤ 4 := by
                        have := nd_leI (cs.map (·.1)) (st.fields.map (·.name)) hnd fun x hx => by
                          obtain ⟨c, hc, ex⟩ := List.mem_map.mp hx
                          rw [← ex]; exact m1 c hc
                        rw [List.length_map, List.length_map, l1] at this
                        exact Nat.le_trans this h.ok.f4
                      have hfs := few_sum few (k := 48)
                      have gg : Gd1 ((goal.map (·.length)).getD 0) 5 (goalD goal) := by
                        cases goal with
                        | none => exact gd_none
                        | some g => exact gd_str (hgo g rfl) (Nat.le_refl _)
                      have good : Gd1 8300 6 (Rl.d ⟨w0, goal, cs.map (·.2)⟩) := by
                        refine (gd_tup (ga_cons (D := 5) (gd_str (hc w0 (by simp)) (Nat.le_refl _)) (ga_cons gg (ga_cons (gd_tup g1) ga_nil)))).mono ?_ (Nat.le_refl _)
                        omega
                      refine ⟨⟨h.ok.f4, h.ok.f, h.ok.g9, h.ok.g, ?_, fun g hg => ?_⟩, h.f, h.g, fun g hg => ?_⟩
                      · have := h.ok.t5
                        rw [eg'] at this
                        simpa using this
                      · rcases List.mem_append.mp hg with q | q
                        · exact h.ok.t g (by rw [eg']; simp [q])
                        · rw [List.mem_singleton.mp q]
                          show (gt.rules ++ [_]).length ≤ 8
                          rw [List.length_append, List.length_singleton]; omega
                      · rcases List.mem_append.mp hg with q | q
                        · exact h.t g (by rw [eg']; simp [q])
                        · rw [List.mem_singleton.mp q]
                          obtain ⟨a1, a2, a3⟩ := h.t gt gtm
                          refine ⟨a1, a2, fun x hx => ?_⟩
                          rcases List.mem_append.mp hx with z | z
                          · exact a3 x z
                          · rw [List.mem_singleton.mp z]; exact good
                    · cases hf
                split at e
                · split at e
                  · rename_i goal rest
                    split at e
                    · simp only [List.map_cons, List.sum_cons] at hs
                      exact fin (some goal) rest (fun w hw => hcr w (by simp [hw])) (fun g hg => by cases hg; exact hcr goal (by simp)) (by simp only [Option.map_some, Option.getD_some]; omega) e
                    · cases e
                  · cases e
                · exact fin none r hcr (fun g hg => by cases hg) (by simp only [Option.map_none, Option.getD_none]; omega) e
              · unfold ruleM at e
                rw [eg', List.getLast?_append] at e
                simp only [List.getLast?_singleton, Option.some_or] at e
                rw [if_neg hl] at e
                cases e
          · cases e
theorem hb_rows : ∀ {ls : List W} {st st' : Ho} {k : Nat}, HoB st → (∀ l ∈ ls, l.length ≤ 8000 ∧ Cok l) → rowsM st k ls = .ok st' → HoB st'
  | [], st, st', k, h, _, e => by
    have e : (if st.gates = [] then (Except.error (k + 1) : Except Nat Ho) else .ok st) = .ok st' := e
    split at e
    · cases e
    · cases e; exact h
  | l :: ls, st, st', k, h, hl, e => by
    rw [rowsM_cons] at e
    cases hr : rowM st l with
    | none => rw [hr] at e; cases e
    | some st2 =>
      rw [hr] at e
      obtain ⟨l1, l2⟩ := hl l (by simp)
      refine hb_rows ?_ (fun x hx => hl x (List.mem_cons_of_mem _ hx)) e
      unfold rowM at hr
      split at hr
      · cases hr
      · obtain ⟨s1, s2⟩ := words_sum l
        exact hb_line h hr (Nat.le_trans s1 l1) fun w hw => l2.sub (s2 w hw)
theorem err_rows : ∀ {ls : List W} {st : Ho} {k n : Nat}, rowsM st k ls = .error n → n ≤ k + ls.length + 1
  | [], st, k, n, e => by
    have e : (if st.gates = [] then (Except.error (k + 1) : Except Nat Ho) else .ok st) = .error n := e
    split at e
    · cases e; simp
    · cases e
  | l :: ls, st, k, n, e => by
    rw [rowsM_cons] at e
    cases hr : rowM st l with
    | none => rw [hr] at e; cases e; simp only [List.length_cons]; omega
    | some st2 =>
      rw [hr] at e
      have := err_rows e
      simp only [List.length_cons]
      omega
theorem good_read {t : W} {st : Ho} (ht : TextOk t) (hc : Cok t) (e : readM t = .ok st) : Gd1 600000 10 st.d := by
  obtain ⟨_, s2⟩ := spl_sum (s := [10]) (by decide) _ t (Nat.le_refl _)
  have h : HoB st := hb_rows ⟨⟨(by simp), fun f hf => (by cases hf), (by simp), fun f hf => (by cases hf), (by simp), fun f hf => (by cases hf)⟩, fun f hf => (by cases hf), fun f hf => (by cases hf), fun f hf => (by cases hf)⟩ (fun l hl => ⟨ht.2 l hl, hc.sub (s2 l hl)⟩) e
  have g1 := gd_tup (ga_map (f := Fd.d) h.f)
  have g2 := gd_tup (ga_map (f := Gp.d) h.g)
  have g3 := gd_tup (ga_map (n := 90000) (D := 8) (f := Gt.d) fun g hg => by
    obtain ⟨⟨a1, a2⟩, ⟨b1, b2⟩, r1⟩ := h.t g hg
    have r8 := h.ok.t g hg
    have := Nat.mul_le_mul_left (8300 + 1) r8
    exact (gd_tup (ga_cons (D := 7) (gd_str a1 a2) (ga_cons (gd_str b1 b2) (ga_cons (gd_tup (ga_map (f := Rl.d) r1)) ga_nil)))).mono (by omega) (by omega))
  have l1 := Nat.mul_le_mul_left (8300 + 1) h.ok.f4
  have l2 := Nat.mul_le_mul_left (8300 + 1) h.ok.g9
  have l3 := Nat.mul_le_mul_left (90000 + 1) h.ok.t5
  exact (gd_tup (ga_cons (D := 9) (g1.mono (Nat.le_refl _) (by omega)) (ga_cons (g2.mono (Nat.le_refl _) (by omega)) (ga_cons (g3.mono (Nat.le_refl _) (by omega)) ga_nil)))).mono (by omega) (by omega)
theorem err_le {t : W} {n : Nat} (ht : TextOk t) (e : readM t = .error n) : n ≤ 10 ^ 12 := by
  have h1 := err_rows e
  have h2 := spl_many (s := [10]) (a := t) (by decide)
  have := ht.1
  omega
/-- what is shown of it -/
theorem fits {n D : Nat} {d : PyData} (h : Gd1 n D d) (hn : n ≤ 2 ^ 20) (hD : D ≤ 64) : d.showable = true ∧ d.hasDict = false ∧ d.depth ≤ 64 ∧ d.shown.length ≤ sizeLine :=
  ⟨h.sh, h.nd, Nat.le_trans h.dp hD, PyData.shown_fits_bulk (B := 13) (by decide) (by decide) h.lf (Nat.le_trans h.bk hn)⟩
end Gw

set_option maxRecDepth 100000
set_option maxHeartbeats 4000000
/-! enumerate of a tuple: its making, its turns, a for over it, a comprehension over it. -/
namespace Gw
open PySem PySem.Spec PyProof.Rows L2 Evl SX
theorem meets_enumT (l : Addr) (items : Array Value) (n : Nat) (dct : Option Addr) (sl : Array (Option Value)) :
    Meets (Builtin.«enumerate.__new__» ⟨[.type "enumerate", .ref l], []⟩) (fun _ R s => s.heap.get? l = some { cls := .type "tuple", dict := dct, data := .seq items n, slots := sl } ∧
      R (.ok (.ret (.ref (s.heap.push { cls := .type "tuple_iterator", data := .fields #[.ref l, .int 0 0] }).objs.size)))
        { s with heap := (s.heap.push { cls := .type "tuple_iterator", data := .fields #[.ref l, .int 0 0] }).push { cls := .type "enumerate", data := .fields #[.none, .bool false, .ref s.heap.objs.size, rawInt 0, .none, .none] } }) :=
  .of_wp fun prog w A R s h => by
    obtain ⟨hp, g, d, tk, os⟩ := s; obtain ⟨hl, h⟩ := h
    have hsub := sub_enumerate
    have hL : Heap.IsTuple (Shared.heap ⟨hp, g, d, tk, os⟩) l items := ⟨_, hl, rfl, n, rfl⟩
    wp_walk using AutoSeq1.wpAny_loadPart' hl
    refine wpAny_stack_any fun st => wpAny_pure ?_
    split
    · rename_i c _ _ _ _ _
      cases (c == Value.type "enumerate")
      · wp_walk using AutoSeq1.wpAny_loadPart' hl, wpAny_pyIter_tuple hL
        exact ⟨_, rfl, h⟩
      · wp_walk using AutoSeq1.wpAny_loadPart' hl, wpAny_pyIter_tuple hL
        exact ⟨_, rfl, h⟩
    · wp_walk using AutoSeq1.wpAny_loadPart' hl, wpAny_pyIter_tuple hL
      exact ⟨_, rfl, h⟩
section
variable {prog : Program} {w : World} {A : Around} {E : Value → Shared → Prop} {s : Shared}
theorem call_enumT {l : Addr} {items : Array Value} {Q : Value → Shared → Prop} (hL : s.heap.IsTuple l items)
    (h : ∀ h', IsEnum h' (s.heap.objs.size + 1) s.heap.objs.size 0 .none → h'.IsTupleIter s.heap.objs.size l 0 → h'.objs.size = s.heap.objs.size + 2 →
      (∀ b o, s.heap.get? b = some o → h'.get? b = some o) → Q (.ref (s.heap.objs.size + 1)) { s with heap := h' }) :
    wpAny (model prog w) A (call (.type "enumerate") [.ref l]) Q E s := by
  obtain ⟨⟨c, dct, dt, sl⟩, hl, hc, n, hd⟩ := hL
  replace hc : c = .type "tuple" := hc
  replace hd : dt = .seq items n := hd
  subst hc hd
  refine callType_new F.called_enumerate (by decide) (F.typeCall_enumerate_1 _) (F.newCall_enumerate_1 _) (fun obj => F.args_object_init_2 obj _) F.entry_enumerate_new
    (meets_enumT l items n dct sl) ⟨hl, ?_⟩
  have hz : (s.heap.push { cls := .type "tuple_iterator", data := .fields #[.ref l, .int 0 0] }).objs.size = s.heap.objs.size + 1 := Heap.size_push ..
  show _ ∧ _
  rw [hz]
  have he : IsEnum ((s.heap.push { cls := .type "tuple_iterator", data := .fields #[.ref l, .int 0 0] }).push
      { cls := .type "enumerate", data := .fields #[.none, .bool false, .ref s.heap.objs.size, rawInt 0, .none, .none] }) (s.heap.objs.size + 1) s.heap.objs.size 0 .none := by
    have := Heap.get?_push_size (s.heap.push { cls := .type "tuple_iterator", data := .fields #[.ref l, .int 0 0] })
      (o := { cls := .type "enumerate", data := .fields #[.none, .bool false, .ref s.heap.objs.size, rawInt 0, .none, .none] }) rfl
    rw [hz] at this; exact this
  refine ⟨⟨_, he, rfl⟩, h _ he ⟨_, Heap.get?_push_of_some _ (Heap.get?_push_size _ rfl), rfl, rfl⟩ (by rw [Heap.size_push, hz]) fun b o x => Heap.get?_push_of_some _ (Heap.get?_push_of_some _ x)⟩
end
/-- the tuple at a as it stands at each turn, each item in a new pair -/
def IteT (K : PySem.W.Frag) (a : Addr) : It :=
  ⟨fun i H => ∃ (xs : List V) (x : V), SqT K H a xs ∧ xs[i]? = some x, fun i H v H' => ∃ T x, v = .ref T ∧ H T = none ∧ H' = upd H T (.tup [.int (i : Nat), x]) ∧ ∀ xs, SqT K H a xs → xs[i]? = some x, fun i H => ∃ xs : List V, SqT K H a xs ∧ xs.length = i⟩
theorem turn_enumT {P : Program} {w : World} {K : PySem.W.Frag} {elts : List Expr} {kk : Nat} {tpos : Pos} (a e it : Addr) :
    Turn P w K (.Tuple elts kk tpos) (IteT K a) [e, it] e (fun i h => (∃ old, IsEnum h e it ((i : Nat) : Int) old) ∧ h.IsTupleIter it a i ∧ e ≠ it ∧ a ≠ it ∧ e ≠ a) where
  mem := by simp
  obj := fun i h st b hb => by
    obtain ⟨⟨old, he⟩, ⟨o, ho, hc, hd⟩, _⟩ := st
    have e' : b = e ∨ b = it := by simpa using hb
    rcases e' with z | z
    · rw [z]; exact ⟨_, he, fun v q => nomatch q⟩
    · rw [z]; exact ⟨o, ho, fun v q => by rw [hd] at q; cases q⟩
  keep := fun i h h' st k => let ⟨⟨old, he⟩, hi, hne⟩ := st; ⟨⟨old, k e (by simp) _ he⟩, hi.at fun o q => k it (by simp) o q, hne⟩
  item := by
    intro X hP hw hK hc i pins s σ H E I hf st hg
    subst hP hw hK
    obtain ⟨⟨old, he⟩, hit, hne, hna, hnb⟩ := st
    obtain ⟨xs, x, hq, hx⟩ := hg
    obtain ⟨its, rv, p, hz⟩ := I.tuple hq
    obtain ⟨u, hu, ru⟩ := rv.get hx
    have hel : e < s.heap.objs.size := Heap.lt_size he
    have hil : it < s.heap.objs.size := by obtain ⟨_, q, _⟩ := hit; exact Heap.lt_size q
    have hp : s.heap.IsTuple a its.toArray := p
    have hlt : i < its.toArray.size := by
      have := (List.getElem?_eq_some_iff.mp hu).1
      simpa using this
    refine wpAny_pyNext_enum_itemD (Draws.tuple (A := X.A.in1) (I.ok.hd hc) it a hna its.toArray) he ⟨hit, hp⟩ hlt hne (by simp [hne, hnb]) fun x' h' tk hPx ho hst hT hsz hk => ?_
    have ex : x' = u := by
      have h1 : its.toArray[i]? = some u := by simpa using hu
      rw [h1] at hPx
      exact (Option.some.inj hPx).symm
    subst ex
    refine ⟨_, rfl, wpAny_letOwnedTupleGo_enum (s := { s with heap := h', toks := tk + 1 }) ho fun h'' he' sb => ?_⟩
    have hT2 : h''.get? s.heap.objs.size = some { cls := .type "tuple", data := .seq #[.int i tk, x'] } := (sb.2 _ (Nat.ne_of_gt hel)).trans hT
    have new : ObjOk X.prog X.w (upd H s.heap.objs.size (.tup [.int (i : Nat), x])) h'' s.heap.objs.size (.tup [.int (i : Nat), x]) :=
      ⟨by show 2 ≤ sizeLine; decide, [.int i tk, x'], .cons ⟨_, rfl⟩ (.cons ru .nil), ⟨_, hT2, rfl, _, rfl⟩⟩
    have I1 : Inv X pins σ (upd H s.heap.objs.size (.tup [.int (i : Nat), x])) { s with heap := h'', toks := tk + 1 } :=
      I.turnedNew (ch := [e, it]) (fun b ob hb q => (sb.2 b (fun z => hb (by simp [z]))).trans (hk b ob (fun z => hb (by simp [z])) (fun z => hb (by simp [z])) q)) hf (Nat.le_refl _) new
    refine ⟨.ref s.heap.objs.size, _, I1, rfl, ⟨_, x, rfl, I.hok.fresh (Nat.le_refl _), rfl, fun ys hy => by rw [I.tuple_inj hy hq]; exact hx⟩, ⟨⟨x', ?_⟩, hst.1.at fun o q => (sb.2 it (Ne.symm hne)).trans q, hne, hna, hnb⟩, fun b hb => ?_⟩
    · have e1 : ((i + 1 : Nat) : Int) = (i : Int) + 1 := by omega
      rw [e1]; exact he'
    · have hb' : b < s.heap.objs.size := by
        have e' : b = e ∨ b = it := by simpa using hb
        rcases e' with z | z
        · rw [z]; exact hel
        · rw [z]; exact hil
      rw [upd_ne (Nat.ne_of_lt hb')]
      exact (hf b hb).1
  done := by
    intro X hP hw hK hc i pins s σ H E I hf st hg
    subst hP hw hK
    obtain ⟨⟨old, he⟩, hit, hne, hna, hnb⟩ := st
    obtain ⟨xs, hq, hx⟩ := hg
    obtain ⟨its, rv, p, hz⟩ := I.tuple hq
    obtain ⟨f0, f1, f2, f3, f4, f5⟩ := hf it (by simp)
    have hl := rv.length
    have hp : s.heap.IsTuple a its.toArray := p
    have hn : i = its.toArray.size := by rw [List.size_toArray, ← hl, hx]
    exact wpAny_pyNext_enum_endD (Draws.tuple (A := X.A.in1) (I.ok.hd hc) it a hna its.toArray) he ⟨hn ▸ hit, hp⟩ fun h' eb => ⟨rfl, I.turned (t' := s.toks) (fun b o hb q => eb b o hb q) f0 f1 f3 f4 f5⟩
  self := fun A i s Q E st h => let ⟨⟨_, he⟩, _⟩ := st; wpAny_pyIter_enum he h
theorem walk_enumT {K : PySem.W.Frag} {a : Addr} {xs : List V} : Walk (IteT K a) xs.length (fun H => SqT K H a xs) (YPair (fun i => some (.int (i : Nat))) (fun i => xs[i]?)) := by
  refine ⟨fun i _ hi q => ⟨xs, xs[i], q, by simp [hi]⟩, fun _ q => ⟨xs, q, rfl⟩, fun i H v H' _ q y => ?_⟩
  obtain ⟨T, x, h1, h2, h3, h4⟩ := y
  exact ⟨T, .int (i : Nat), x, h1, h2, h3, rfl, h4 xs q⟩
def iEnumT (K : PySem.W.Frag) (ta : TA) : TI := fun σ H R => ta σ H fun vs H1 => ∃ a xs, vs = [.ref a] ∧ SqT K H1 a xs ∧ R (IteT K a) H1
theorem pi_enumT {X : Cx} {e : Expr} {ta : TA} {p pos tpos : Pos} {elts : List Expr} {kk : Nat} (hg : Gl X "enumerate") (hm : X.mg "enumerate" = none) (ha : PA X [e] ta) (hs : starEach [e] X.env = [(false, eval e X.env)] := by rfl) :
    PI X (.Tuple elts kk tpos) (.Call (.Name "enumerate" p) [e] [] pos) (iEnumT X.K ta) := by
  refine ⟨fun pins s σ H R I h => ?_⟩
  refine Call_ (ld_blt I hg hm boot_enumerate (PyProof.Rows.callWith_type1 (thn (ha.run pos pins s σ H _ I h) fun us s1 ⟨vs, H1, I1, r1, q1⟩ => ?_) hs rfl))
  obtain ⟨a, xs, ex, hq, q⟩ := q1
  subst ex
  cases r1 with
  | cons r rr =>
    cases rr
    cases r
    obtain ⟨its, rv, p', hz⟩ := I1.tuple hq
    have hp : s1.heap.IsTuple a its.toArray := p'
    have hlt : a < s1.heap.objs.size := by obtain ⟨_, q, _⟩ := hp; exact Heap.lt_size q
    refine call_enumT hp fun h' he hit hsz hk => wpAny_pyIter_enum he ?_
    have I2 : Inv X pins σ H1 { s1 with heap := h' } := I1.kept (t' := s1.toks) hk
    refine ⟨s1.heap.objs.size + 1, [s1.heap.objs.size + 1, s1.heap.objs.size], _, _, H1, rfl, I2, turn_enumT a (s1.heap.objs.size + 1) s1.heap.objs.size, ⟨⟨.none, he⟩, hit, Nat.succ_ne_self _, Nat.ne_of_lt hlt, Nat.ne_of_gt (Nat.lt_succ_of_lt hlt)⟩, fun b hb => ?_, q⟩
    have e' : b = s1.heap.objs.size + 1 ∨ b = s1.heap.objs.size := by simpa using hb
    have hle : s1.heap.objs.size ≤ b := by
      rcases e' with z | z
      · rw [z]; exact Nat.le_add_right _ _
      · rw [z]; exact Nat.le_refl _
    exact I1.fpOk hle (I1.hok.fresh hle)
section
variable {X : Cx} {e : Expr} {rest sb : List Stmt} {σ : L2.St} {H : Hp} {D : Ends} {xs : List V} {n m : Str} {p p1 p2 p3 p4 pos pos2 : Pos} {k1 : Nat}
/-- for n, m in enumerate(e), e a tuple that stands at ad -/
theorem xb_forET {ad : Addr} (i l : Nat) (hp : PassesOwn (model X.prog X.w) X.A X.env X.xe) (hm : X.mg "enumerate" = none) (h : Vl X e σ H (.ref ad)) (hx : SqT X.K H ad xs) (Pv : Nat → L2.St → Hp → Prop) (h0 : ∀ H1, Ex H H1 → Pv 0 σ H1) (hl : ∀ j σ' H', j ≤ xs.length → Pv j σ' H' → SqT X.K H' ad xs)
    (hs : ∀ j x σ' H', xs[j]? = some x → Pv j σ' H' → ∀ H1, Ex H' H1 → XB X sb { D with nx := Pv (j + 1), ct := Pv (j + 1), bk := fun σ2 H2 => XB X rest D σ2 H2 } ((σ'.set i (some (.int (j : Nat)))).set l (some x)) H1) (hd : ∀ σ' H', Pv xs.length σ' H' → XB X rest D σ' H') (hc : X.calm = true := by rfl)
    (h1 : Nm X i n := by exact ⟨by assumption, rfl, by first | exact Or.inl rfl | exact Or.inr rfl, by first | exact .inl rfl | exact .inr rfl⟩) (h2 : Nm X l m := by exact ⟨by assumption, rfl, by first | exact Or.inl rfl | exact Or.inr rfl, by first | exact .inl rfl | exact .inr rfl⟩)
    (hg : Gl X "enumerate" := by rfl) (ha : starEach [e] X.env = [(false, eval e X.env)] := by rfl) (hfs : ∀ x, foldedSetIterable (.Call (.Name "enumerate" p) [e] [] pos) X.env x = pure x := by intro _; rfl)
    (hn : (assignEach [.Name n p1, .Name m p2] X.env).length = 2 := by rfl) (hst : (assignEach [.Name n p1, .Name m p2] X.env).findIdx? (·.1) = none := by rfl) :
    XB X (.For (.Tuple [.Name n p1, .Name m p2] k1 p3) (.Call (.Name "enumerate" p) [e] [] pos) sb [] pos2 :: rest) D σ H :=
  xb_cons (xs_of (ps_for hp hc (pi_enumT hg hm pa_xa ha) (pg_tup hc (pgs_cons h1.pg (pgs_cons h2.pg pgs_nil)) hn hst) pss_xb hfs)
    ((a_1 h ha) H (Ex.refl H) _ fun H1 e1 => ⟨ad, xs, rfl, ex_t e1 hx, for_it (D := { D with nx := fun σ2 H2 => XB X rest D σ2 H2 }) (walk_enumT (K := X.K) (a := ad) (xs := xs)) Pv (h0 H1 e1) (fun j σ' H' hj q => hl j σ' H' hj q)
      (fun j x σ' H' H'' hj q y => by
        obtain ⟨t, u, v, ev, ht, eh, eu, hv⟩ := y
        subst ev eh
        cases eu
        exact ⟨t, [.int (j : Nat), v], rfl, st_of upd_same, rfl, _, [v], rfl, v, [], rfl, rfl, hs j v σ' H' hv q _ (Ex.new ht)⟩)
      (fun σ' H' q => hd σ' H' q)⟩))
/-- for n, m in enumerate(e), e a new list -/
theorem xb_forEN (i l : Nat) (hp : PassesOwn (model X.prog X.w) X.A X.env X.xe) (hm : X.mg "enumerate" = none) (h : Ll X e σ H xs) (Pv : Addr → Nat → L2.St → Hp → Prop) (h0 : ∀ q H1, H q = none → Ex H H1 → H1 q = some (.lst xs) → Pv q 0 σ H1) (hl : ∀ q j σ' H', j ≤ xs.length → Pv q j σ' H' → SqL X.K H' q xs)
    (hs : ∀ q j x σ' H', xs[j]? = some x → Pv q j σ' H' → ∀ H1, Ex H' H1 → XB X sb { D with nx := Pv q (j + 1), ct := Pv q (j + 1), bk := fun σ2 H2 => XB X rest D σ2 H2 } ((σ'.set i (some (.int (j : Nat)))).set l (some x)) H1) (hd : ∀ q σ' H', Pv q xs.length σ' H' → XB X rest D σ' H') (hc : X.calm = true := by rfl)
    (h1 : Nm X i n := by exact ⟨by assumption, rfl, by first | exact Or.inl rfl | exact Or.inr rfl, by first | exact .inl rfl | exact .inr rfl⟩) (h2 : Nm X l m := by exact ⟨by assumption, rfl, by first | exact Or.inl rfl | exact Or.inr rfl, by first | exact .inl rfl | exact .inr rfl⟩)
    (hg : Gl X "enumerate" := by rfl) (ha : starEach [e] X.env = (false, eval e X.env) :: starEach [] X.env := by rfl) (ha2 : starEach [e] X.env = [(false, eval e X.env)] := by rfl) (hfs : ∀ x, foldedSetIterable (.Call (.Name "enumerate" p) [e] [] pos) X.env x = pure x := by intro _; rfl)
    (hn : (assignEach [.Name n p1, .Name m p2] X.env).length = 2 := by rfl) (hst : (assignEach [.Name n p1, .Name m p2] X.env).findIdx? (·.1) = none := by rfl) :
    XB X (.For (.Tuple [.Name n p1, .Name m p2] k1 p3) (.Call (.Name "enumerate" p) [e] [] pos) sb [] pos2 :: rest) D σ H :=
  xb_cons (xs_of (ps_for hp hc (pi_enum hg hm pa_xa ha2) (pg_tup hc (pgs_cons h1.pg (pgs_cons h2.pg pgs_nil)) hn hst) pss_xb hfs)
    (xa_of (pa_cons pe_xe pa_xa ha) (h H (Ex.refl H) _ fun ad H1 hq e1 hx => a_nil H1 (Ex.refl H1) _ fun H2 e2 => ⟨ad, xs, rfl, sq_of (e2 _ _ hx), for_it (D := { D with nx := fun σ2 H2 => XB X rest D σ2 H2 }) (walk_enum (K := X.K) (a := ad) (xs := xs)) (Pv ad) (h0 ad H2 hq (e1.trans e2) (e2 _ _ hx)) (fun j σ' H' hj q => hl ad j σ' H' hj q)
      (fun j x σ' H' H'' hj q y => by
        obtain ⟨t, u, v, ev, ht, eh, eu, hv⟩ := y
        subst ev eh
        cases eu
        exact ⟨t, [.int (j : Nat), v], rfl, st_of upd_same, rfl, _, [v], rfl, v, [], rfl, rfl, hs ad j v σ' H' hv q _ (Ex.new ht)⟩)
      (fun σ' H' q => hd ad σ' H' q)⟩)))
end
end Gw

set_option maxRecDepth 100000
set_option maxHeartbeats 4000000
namespace Gw
open PySem PySem.Spec PyProof.Rows L2 Evl SX
section
variable {X : Cx} {e elt : Expr} {scope : Scope} {σ : L2.St} {H : Hp} {pos p p1 p2 p3 cpos : Pos} {n m : Str} {i l k1 : Nat}
/-- [.. for i, x in enumerate(t)], t a tuple -/
theorem lc_genE {α : Type} {ws : List α} {enc : α → V} {own : List (Str × Nat)} (R : Addr → α → V → Hp → Prop) (hN : X.N.Nodup) (hc : X.calm = true) (ok : BlkOk X.N X.env.scope scope own) (hm : X.mg "enumerate" = none) (ht : Tu X e σ H (ws.map enc)) (hz : ws.length ≤ 40000)
    (hg1 : ∀ s H0 C cl fp, Nm (Bk X scope s H0 C cl fp) i n) (hg2 : ∀ s H0 C cl fp, Nm (Bk X scope s H0 C cl fp) l m) (hw : ∀ x y, wipe (((wipe σ (own.map (·.2))).set i (some x)).set l (some y)) (own.map (·.2)) = wipe σ (own.map (·.2)))
    (he : ∀ s H0 C cl fp, ∀ w ∈ ws, ∀ j : Nat, j < ws.length → ∀ D acc H1, Ex H H1 → H D = none → H1 D = some (.lst acc) → ∀ Q : VK, (∀ y H2, Ex H1 H2 → R D w y H2 → Q y H2) → XE (Bk X scope s H0 C cl fp) elt (((wipe σ (own.map (·.2))).set i (some (.int (j : Int)))).set l (some (enc w))) H1 Q)
    (hR : ∀ D w y H1 H2, Ex H1 H2 → R D w y H1 → R D w y H2) (hU : ∀ D w y H1 l l', R D w y H1 → H1 D = some (.lst l) → R D w y (upd H1 D (.lst l')))
    (hg : Gl X "enumerate" := by rfl) (ha : starEach [e] X.env = (false, eval e X.env) :: starEach [] X.env := by rfl) (ha2 : starEach [e] X.env = [(false, eval e X.env)] := by rfl)
    (hs : ∀ x, foldedSetIterable (.Call (.Name "enumerate" p) [e] [] cpos) X.env x = pure x := by intro _; rfl)
    (hn : ∀ s H0 C cl fp, (assignEach [.Name n p1, .Name m p2] (Bk X scope s H0 C cl fp).env).length = 2 := by intros; rfl) (hst : ∀ s H0 C cl fp, (assignEach [.Name n p1, .Name m p2] (Bk X scope s H0 C cl fp).env).findIdx? (·.1) = none := by intros; rfl) :
    Cp X (.ListComp elt [⟨.Tuple [.Name n p1, .Name m p2] k1 p3, .Call (.Name "enumerate" p) [e] [] cpos, [], 0⟩] scope pos) σ H fun q ys _ H2 => Paired (fun w y => R q w y H2) ws ys := by
  have key : ∀ H1, Ex H H1 → ∀ Q : VK, (∀ q ys H2, H1 q = none → Ex H1 H2 → H2 q = some (.lst ys) → Paired (fun w y => R q w y H2) ws ys → Q (.ref q) H2) →
      tLc (iEnumT X.K (XA X [e])) (gTup X.K 2 (gCons (gName i) (gCons (gName l) gNil))) (XQb X scope []) (XEb X scope elt) (own.map (·.2)) σ H1 Q := by
    intro H1 e1 Q k
    refine xa_of (pa_cons pe_xe pa_xa ha) (ht H1 e1 _ fun a H2 e2 hx => a_nil H2 (Ex.refl H2) _ fun H2' e2' => ⟨a, ws.map enc, rfl, ex_t e2' hx, fun D hD => ?_⟩)
    have ee := e2.trans e2'
    have wk := walk_enumT (K := X.K) (a := a) (xs := ws.map enc)
    rw [List.length_map] at wk
    refine lc_it wk (fun j H' => H2' D = none ∧ Ex H2' H' ∧ ∃ acc, H' D = some (.lst acc) ∧ acc.length ≤ j ∧ Paired (fun w y => R D w y H') (ws.take j) acc) ⟨hD, Ex.new hD, [], upd_same, Nat.le_refl _, by simp; exact .nil⟩ (fun j H' _ q => ex_t (e2'.trans q.2.1) hx) ?_ ?_
    · rintro j x H' H'' hj ⟨q1, q2, acc, q3, q4, q5⟩ y
      obtain ⟨t, u, v, ev, hf, eh, eu, hv⟩ := y
      subst ev eh
      cases eu
      have hw' : ws[j]? = some ws[j] := by simp [hj]
      have hm : ws[j] ∈ ws := List.getElem_mem hj
      have ex : v = enc ws[j] := by
        have hv : (ws.map enc)[j]? = some v := hv
        rw [List.getElem?_map, hw'] at hv
        exact (Option.some.inj hv).symm
      subst ex
      have en : Ex H' (upd H' t (.tup [.int (j : Nat), enc ws[j]])) := Ex.new hf
      have htk : ws.take (j + 1) = ws.take j ++ [ws[j]] := by rw [List.take_succ, hw']; rfl
      refine ⟨t, [.int (j : Nat), enc ws[j]], rfl, st_of upd_same, rfl, _, [enc ws[j]], rfl, enc ws[j], [], rfl, rfl, hw _ _, ?_⟩
      refine fun s H0 C cl fp => q_nil _ (Ex.refl _) _ fun H3 e3 => ?_
      rw [if_pos rfl]
      intro s' H0' C' cl' fp'
      have e13 := en.trans e3
      refine he s' H0' C' cl' fp' _ hm j hj D acc H3 (((e1.trans ee).trans q2).trans e13) (fresh_back (e1.trans ee) q1) (e13 _ _ q3) _ fun y H4 e4 r => ⟨acc, e4 _ _ (e13 _ _ q3), sz_lt (by omega), q1, Ex.mut ((q2.trans e13).trans e4) q1, acc ++ [y], upd_same, by rw [List.length_append]; simp; omega, ?_⟩
      rw [htk]
      refine Paired.snoc (Paired.mono (fun w y h => hU _ _ _ _ _ _ (hR _ _ _ _ _ (e13.trans e4) h) (e4 _ _ (e13 _ _ q3))) q5) ?_
      exact hU _ _ _ _ _ _ r (e4 _ _ (e13 _ _ q3))
    · rintro H' ⟨q1, q2, acc, q3, q4, q5⟩
      rw [List.take_length] at q5
      exact k D acc H' (fresh_back ee q1) (ee.trans q2) q3 q5
  have hgB : ∀ s H0 C cl fp, PG (Bk X scope s H0 C cl fp) (.Tuple [.Name n p1, .Name m p2] k1 p3) (gTup X.K 2 (gCons (gName i) (gCons (gName l) gNil))) := fun s H0 C cl fp => pg_tup (X := Bk X scope s H0 C cl fp) hc (pgs_cons (hg1 s H0 C cl fp).pg (pgs_cons (hg2 s H0 C cl fp).pg pgs_nil)) (hn s H0 C cl fp) (hst s H0 C cl fp)
  have htB : ∀ s H0 C cl fp, PTs (Bk X scope s H0 C cl fp) [] (XQb X scope []) := fun s H0 C cl fp => ⟨fun pins s' σ' H' Q' I h => h s H0 C cl fp pins s' I⟩
  have heB : ∀ s H0 C cl fp, PE (Bk X scope s H0 C cl fp) elt (XEb X scope elt) := fun s H0 C cl fp => ⟨fun pins s' σ' H' Q' I h => (h s H0 C cl fp).run pins s' I⟩
  exact ⟨fun H1 e1 Q k => xe_of (pe_lc hc hN (pi_enumT hg hm pa_xa ha2) ok hgB htB heB hs) (key H1 e1 Q k),
    fun i' n' p' spos D hy hyl hsw k => xs_of (ps_setLc hc hN hy hyl hsw (pi_enumT hg hm pa_xa ha2) ok hgB htB heB hs) (key H (Ex.refl H) _ k)⟩
end
end Gw

set_option maxRecDepth 100000
set_option maxHeartbeats 4000000
/-! The builder's texts: only how long, and of which signs. -/
namespace Gw
open PySem PySem.Spec PyProof.Rows L2 Evl SX
def Gs (c : Nat) : Prop := c < 128 ∧ c ≠ 10
def Wd (n : Nat) (z : Str) : Prop := z.length ≤ n ∧ ∀ c ∈ z.cps.toList, Gs c
theorem Wd.mono {n m : Nat} {z : Str} (h : Wd n z) (q : n ≤ m) : Wd m z := ⟨Nat.le_trans h.1 q, h.2⟩
theorem wd_lit {n : Nat} {z : Str} (h : (decide (z.length ≤ n) && z.cps.toList.all fun c => decide (c < 128) && decide (c ≠ 10)) = true) : Wd n z := by
  rw [Bool.and_eq_true, decide_eq_true_eq, List.all_eq_true] at h
  exact ⟨h.1, fun c hc => by have := h.2 c hc; rw [Bool.and_eq_true, decide_eq_true_eq, decide_eq_true_eq] at this; exact this⟩
theorem wd_cat {n m : Nat} {a b : Str} (ha : Wd n a) (hb : Wd m b) : Wd (n + m) (a ++ b) := by
  have e : (a ++ b).cps.toList = a.cps.toList ++ b.cps.toList := TL.tl_append a b
  refine ⟨?_, fun c hc => ?_⟩
  · have h1 : (a ++ b).length = (a ++ b).cps.toList.length := by rw [Array.length_toList]; rfl
    rw [h1, e, List.length_append, Array.length_toList, Array.length_toList]
    exact Nat.add_le_add ha.1 hb.1
  · rw [e] at hc
    rcases List.mem_append.mp hc with q | q
    · exact ha.2 c q
    · exact hb.2 c q
theorem wd_cut {n : Nat} {z : Str} {lo hi : Option Int} (h : Wd n z) : Wd n (cutS z lo hi) := ⟨Nat.le_trans (cutS_length z lo hi) h.1, fun c hc => by
  unfold cutS at hc
  rw [List.toList_toArray] at hc
  exact h.2 c (List.mem_of_mem_drop (List.mem_of_mem_take hc))⟩
theorem wd_sign {c : Nat} (h : Gs c) : Wd 1 ⟨#[c]⟩ := ⟨Nat.le_refl _, fun d hd => by
  have : d = c := by simpa using hd
  rw [this]; exact h⟩
theorem wd_S {n : Nat} {a : W} : Wd n (S a) ↔ a.length ≤ n ∧ ∀ c ∈ a, Gs c := by
  unfold Wd
  rw [S_len]
theorem wd_tl {n : Nat} {z : Str} (h : Wd n z) : z.cps.toList.length ≤ n ∧ ∀ c ∈ z.cps.toList, Gs c := ⟨by rw [Array.length_toList]; exact h.1, h.2⟩
theorem joinL_len {s : W} : ∀ ws : List W, (TL.joinL s ws).length ≤ (ws.map fun w => w.length + s.length).sum
  | [] => Nat.le_refl _
  | [p] => by show p.length ≤ _; simp
  | p :: q :: r => by
    have := joinL_len (s := s) (q :: r)
    show (p ++ (s ++ TL.joinL s (q :: r))).length ≤ _
    rw [List.length_append, List.length_append, List.map_cons, List.sum_cons]
    omega
theorem joinL_mem {s : W} {c : Nat} : ∀ ws : List W, c ∈ TL.joinL s ws → c ∈ s ∨ ∃ w ∈ ws, c ∈ w
  | [], h => by cases h
  | [p], h => .inr ⟨p, by simp, h⟩
  | p :: q :: r, h => by
    have h : c ∈ p ++ (s ++ TL.joinL s (q :: r)) := h
    rcases List.mem_append.mp h with z | z
    · exact .inr ⟨p, by simp, z⟩
    · rcases List.mem_append.mp z with z | z
      · exact .inl z
      · rcases joinL_mem (q :: r) z with y | ⟨w, hw, hc⟩
        · exact .inl y
        · exact .inr ⟨w, List.mem_cons_of_mem _ hw, hc⟩
def tls (ws : List Str) : List W := ws.map fun z => z.cps.toList
theorem tls_S (ws : List Str) : (tls ws).map S = ws := by
  unfold tls
  rw [List.map_map]
  induction ws with
  | nil => rfl
  | cons a ws ih => rw [List.map_cons, ih]; rfl
theorem join_tls (u : Str) (ws : List Str) : Txt.join u ws = S (TL.joinL u.cps.toList (tls ws)) := by
  have h := join_S u.cps.toList (tls ws)
  rw [tls_S] at h
  exact h
theorem sum_le {α : Type} {f : α → Nat} {k : Nat} : ∀ {ws : List α}, (∀ w ∈ ws, f w ≤ k) → (ws.map f).sum ≤ ws.length * k
  | [], _ => Nat.zero_le _
  | a :: ws, h => by
    have := sum_le (ws := ws) fun w hw => h w (List.mem_cons_of_mem _ hw)
    have := h a (by simp)
    rw [List.map_cons, List.sum_cons, List.length_cons, Nat.succ_mul]
    omega
theorem wd_join {n k m : Nat} {u : Str} {ws : List Str} (hu : Wd k u) (hw : ∀ w ∈ ws, Wd n w) (hl : ws.length ≤ m) : Wd (m * (n + k)) (Txt.join u ws) := by
  rw [join_tls, wd_S]
  refine ⟨?_, fun c hc => ?_⟩
  · refine Nat.le_trans (joinL_len _) ?_
    have h1 : ((tls ws).map fun w => w.length + u.cps.toList.length).sum ≤ (tls ws).length * (n + k) := sum_le fun w hw' => by
      obtain ⟨z, hz, rfl⟩ := List.mem_map.mp hw'
      exact Nat.add_le_add (wd_tl (hw z hz)).1 (wd_tl hu).1
    have h2 : (tls ws).length = ws.length := List.length_map _
    rw [h2] at h1
    exact Nat.le_trans h1 (Nat.mul_le_mul_right _ hl)
  · rcases joinL_mem _ hc with q | ⟨w, hw', q⟩
    · exact hu.2 c q
    · obtain ⟨z, hz, rfl⟩ := List.mem_map.mp hw'
      exact (hw z hz).2 c q
theorem join_size {n m : Nat} {u : Str} {ws : List Str} (hu : u.length ≤ 1) (hw : ∀ w ∈ ws, w.length ≤ n) (hl : ws.length ≤ m) (hz : m * n + m ≤ 16777216) : (ws.map (·.length)).sum + ws.length * u.length ≤ 16777216 := by
  have h1 := sum_le (f := fun w : Str => w.length) hw
  have h2 := Nat.mul_le_mul_right n hl
  have h3 : ws.length * u.length ≤ ws.length * 1 := Nat.mul_le_mul_left _ hu
  omega
theorem wd_num {i : Int} {k : Nat} (h0 : 0 ≤ i) (hk : 0 < k) (h : i < 10 ^ k) : Wd k ((toString i : String) : Str) := ⟨toString_length_le h0 hk h, fun c hc => by
  apply Classical.byContradiction
  intro q
  by_cases a : c ≠ 45 ∧ (c < 48 ∨ 57 < c)
  · exact int_text_free' c a i hc
  · apply q
    unfold Gs
    omega⟩
/-- a text split at one sign -/
theorem spl_app {c : Nat} {b : W} : ∀ (n : Nat) (a : W), a.length ≤ n → TL.spl [c] 0 [] (a ++ c :: b) = TL.spl [c] 0 [] a ++ TL.spl [c] 0 [] b
  | 0, a, h => by
    have : a = [] := List.eq_nil_of_length_eq_zero (by omega)
    subst this
    rw [List.nil_append, spl_par (by simp) (c :: b)]
    have : TL.par [c] [] (c :: b) = some ([], b) := par1_of (p := []) (by simp)
    rw [this]
    rfl
  | n + 1, a, h => by
    cases e : TL.par [c] [] a with
    | none =>
      have hc : c ∉ a := par1_none.mp e
      rw [spl_par (by simp) (a ++ c :: b), par1_of hc, spl_par (by simp) a, e]
      rfl
    | some pq =>
      obtain ⟨p, q⟩ := pq
      have hp := par1_free e
      have ea : a = p ++ c :: q := by have := par_some_eq e; simpa using this
      have e2 : a ++ c :: b = p ++ c :: (q ++ c :: b) := by rw [ea]; simp
      have hq : q.length ≤ n := by rw [ea, List.length_append, List.length_cons] at h; omega
      rw [e2, spl_par (by simp) (p ++ c :: (q ++ c :: b)), par1_of hp, spl_par (by simp) a, e]
      show p :: TL.spl [c] 0 [] (q ++ c :: b) = (p :: TL.spl [c] 0 [] q) ++ TL.spl [c] 0 [] b
      rw [spl_app n q hq]
      rfl
theorem spl_join {c : Nat} : ∀ ws : List W, ws ≠ [] → TL.spl [c] 0 [] (TL.joinL [c] ws) = ws.flatMap fun w => TL.spl [c] 0 [] w
  | [], h => absurd rfl h
  | [p], _ => by show TL.spl [c] 0 [] p = _; simp
  | p :: q :: r, _ => by
    show TL.spl [c] 0 [] (p ++ ([c] ++ TL.joinL [c] (q :: r))) = _
    rw [List.singleton_append, spl_app p.length p (Nat.le_refl _), spl_join (q :: r) (by simp), List.flatMap_cons, List.flatMap_cons, List.flatMap_cons]
/-- what is told of a text, of a list of texts -/
def Sw (n : Nat) : V → Hp → Prop := fun y _ => ∃ a : Str, y = .str a ∧ Wd n a
def LsW (P : List Str → Prop) : V → Hp → Prop := fun y H => ∃ l ws, y = .ref l ∧ H l = some (.lst (ws.map V.str)) ∧ P ws
def ManyW (n m : Nat) (ws : List Str) : Prop := ws.length ≤ m ∧ ∀ w ∈ ws, Wd n w
abbrev Ts (X : Cx) (e : Expr) (σ : L2.St) (H : Hp) (n : Nat) : Prop := Er X e σ H (Sw n)
section
variable {X : Cx} {e a b c o : Expr} {es : List Expr} {rest : List Stmt} {σ : L2.St} {H H' : Hp} {Q : VK} {D : Ends} {v w x y z : V} {xs ys vs : List V} {pos p p2 apos : Pos} {R R' : V → Hp → Prop} {n m : Nat} {u : Str}
theorem Er.imp (h : Er X e σ H R) (k : ∀ y H', R y H' → R' y H') : Er X e σ H R' := fun H1 e1 Q q => h H1 e1 Q fun y H2 e2 r => q y H2 e2 (k y H2 r)
theorem ts_v (h : Vl X e σ H (.str u)) (hw : Wd n u) : Ts X e σ H n := vl_er h fun _ _ => ⟨u, rfl, hw⟩
theorem ts_lit {j : Nat} (hw : (decide (u.length ≤ n) && u.cps.toList.all fun c => decide (c < 128) && decide (c ≠ 10)) = true := by decide +kernel) : Ts X (.Constant (.str u) j pos) σ H n := ts_v v_str (wd_lit hw)
theorem ts_mono (h : Ts X e σ H n) (q : n ≤ m) : Ts X e σ H m := h.imp fun _ _ ⟨a, e, w⟩ => ⟨a, e, w.mono q⟩
theorem ts_add (ha : Ts X a σ H n) (hb : Ts X b σ H m) (hz : n + m ≤ 1000000 := by decide) : Ts X (.BinOp a .Add b pos) σ H (n + m) := fun H1 e1 Q k => xe_of (pe_op op_add_str pe_xe pe_xe)
  (ha H1 e1 _ fun y H2 e2 ⟨i, ey, wi⟩ => hb H2 (e1.trans e2) _ fun y2 H3 e3 ⟨j, ej, wj⟩ => ⟨i, j, ey, ej, Nat.le_trans (Nat.add_le_add wi.1 wj.1) (Nat.le_trans hz (by decide)), k _ H3 (e2.trans e3) ⟨i ++ j, rfl, wd_cat wi wj⟩⟩)
theorem ts_ix {i : Int} (ha : Vl X a σ H (.str u)) (hw : Wd n u) (hb : Vl X b σ H (.int i)) (h0 : 0 ≤ i) (hi : i < u.length) (hn : n ≤ 1000000 := by decide) (hs : PlainIx b := by exact fun _ _ => rfl) : Ts X (.Subscript a b pos) σ H 1 := by
  obtain ⟨k, rfl⟩ := Int.eq_ofNat_of_zero_le h0
  have hk : k < u.cps.toList.length := by rw [Array.length_toList]; exact Int.ofNat_lt.mp hi
  exact ts_v (v_ixS ha hb (Nat.le_trans hw.1 (Nat.le_trans hn (by decide))) (by rw [atI_n, List.getElem?_eq_getElem hk]) hs) (wd_sign (hw.2 _ (List.getElem_mem hk)))
theorem ts_ixL {i : Int} {ws : List Str} (ha : Sl X a σ H (ws.map V.str)) (hw : ∀ w ∈ ws, Wd n w) (hb : Vl X b σ H (.int i)) (h0 : 0 ≤ i) (hi : i < ws.length) (hs : PlainIx b := by exact fun _ _ => rfl) : Ts X (.Subscript a b pos) σ H n := by
  obtain ⟨k, rfl⟩ := Int.eq_ofNat_of_zero_le h0
  have hk : k < ws.length := Int.ofNat_lt.mp hi
  exact ts_v (v_ixL (v := .str ws[k]) ha hb (by rw [atI_n, List.getElem?_map, List.getElem?_eq_getElem hk]; rfl) hs) (hw _ (List.getElem_mem hk))
theorem ts_ixT {i : Int} {ws : List Str} (ha : Tu X a σ H (ws.map V.str)) (hw : ∀ w ∈ ws, Wd n w) (hb : Vl X b σ H (.int i)) (h0 : 0 ≤ i) (hi : i < ws.length) (hs : PlainIx b := by exact fun _ _ => rfl) : Ts X (.Subscript a b pos) σ H n := by
  obtain ⟨k, rfl⟩ := Int.eq_ofNat_of_zero_le h0
  have hk : k < ws.length := Int.ofNat_lt.mp hi
  exact ts_v (v_ixT (v := .str ws[k]) ha hb (by rw [atI_n, List.getElem?_map, List.getElem?_eq_getElem hk]; rfl) hs) (hw _ (List.getElem_mem hk))
theorem ts_ixTl {ws : List Str} (ha : Tu X a σ H (ws.map V.str)) (hw : ∀ w ∈ ws, Wd n w) (hb : Vl X b σ H (.int (-1))) (hi : ws ≠ []) (hs : PlainIx b := by exact fun _ _ => rfl) : Ts X (.Subscript a b pos) σ H n := by
  refine ts_v (v_ixT (v := .str (ws.getLast hi)) ha hb (by rw [atI_last, List.getLast?_map, List.getLast?_eq_some_getLast hi]; rfl) hs) (hw _ (List.getLast_mem hi))
theorem ts_slice {lo hi : Option Expr} {i j : Option Int} (ha : Vl X a σ H (.str u)) (hw : Wd n u) (h1 : Ol X lo σ H i) (h2 : Ol X hi σ H j) (hn : n ≤ 1000000 := by decide) : Ts X (.Subscript a (.Slice lo hi none p2) pos) σ H n :=
  ts_v (v_slS ha h1 h2 (Nat.le_trans hw.1 (Nat.le_trans hn (by decide)))) (wd_cut hw)
theorem ts_num {i : Int} (hm : X.mg "str" = none) (h : Vl X e σ H (.int i)) (h0 : 0 ≤ i) (hi : i < 10 ^ 13) (hg : Gl X "str" := by rfl) (hs : starEach [e] X.env = (false, eval e X.env) :: starEach [] X.env := by rfl) (hpl : (backTo pos (starEach [] X.env)).any (·.1) = false := by rfl) :
    Ts X (.Call (.Name "str" p) [e] [] pos) σ H 13 := ts_v (v_strI hm h (by
      have h2 : i.natAbs < 2 ^ 64 := by omega
      by_cases z : i.natAbs = 0
      · rw [z]; decide
      · exact Nat.lt_of_lt_of_le ((Nat.log2_lt z).mpr h2) (by decide)) hg hs hpl) (wd_num h0 (by decide) hi)
theorem ts_join {P : List Str → Prop} (ho : Vl X o σ H (.str u)) (he : Er X e σ H (LsW P)) (hw : ∀ ws, P ws → (ws.map (·.length)).sum + ws.length * u.length ≤ 16777216 ∧ Wd n (Txt.join u ws)) (hs : starEach [e] X.env = [(false, eval e X.env)] := by rfl) (hbase : attributeBase o "join" X.env (eval o X.env) = eval o X.env := by rfl)
    (hline : (apos.endLine == pos.line) = true := by rfl) : Ts X (.Call (.Attribute o "join" apos) [e] [] pos) σ H n := fun H1 e1 Q k => xe_of (pe_join pe_xe pe_xe hs hbase hline) (ho H1 e1 _ fun H2 e2 => ⟨⟨u, rfl⟩, he H2 (e1.trans e2) _ fun y H3 e3 ⟨l, ws, ey, hl, hp⟩ => ⟨u, l, ws, rfl, (by rw [ey]), .inl (sq_of hl), (hw ws hp).1, k _ H3 (e2.trans e3) ⟨_, rfl, (hw ws hp).2⟩⟩⟩)
theorem er_ll {P : List Str → Prop} {ws : List Str} (h : Ll X e σ H (ws.map V.str)) (hp : P ws) : Er X e σ H (LsW P) := fun H1 e1 Q k => h H1 e1 Q fun q H2 _ e2 h2 => k _ H2 e2 ⟨q, ws, rfl, h2, hp⟩
/-- stored, told of -/
theorem xb_setR (i : Nat) {nm : Str} (h : Er X e σ H R) (k : ∀ y H1, Ex H H1 → R y H1 → XB X rest D (σ.set i (some y)) H1) (hn : Nm X i nm := by exact ⟨by assumption, rfl, by first | exact Or.inl rfl | exact Or.inr rfl, by first | exact .inl rfl | exact .inr rfl⟩) (hs : swapsWith e (some (.Name nm p)) pos.line X.env = pure false := by rfl) :
    XB X (.Assign [.Name nm p] e pos :: rest) D σ H := xb_setE i (h H (Ex.refl H) _ k) hn hs
theorem xb_retR (h : Er X e σ H R) (k : ∀ y H1, Ex H H1 → R y H1 → D.rt y H1) : XB X (.Return (some e) pos :: rest) D σ H := xb_retE (h H (Ex.refl H) _ k)
theorem cp_er {P : Addr → List V → Hp → Hp → Prop} (h : Cp X e σ H P) (k : ∀ q ys H1 H2, H2 q = some (.lst ys) → P q ys H1 H2 → R (.ref q) H2) : Er X e σ H R := fun H1 e1 Q q => h.v H1 e1 Q fun l ys H2 _ e2 h2 r => q _ H2 e2 (k l ys H1 H2 h2 r)
theorem paired_Sw {α : Type} {n : Nat} {H : Hp} : ∀ {ws : List α} {ys : List V}, Paired (fun (_ : α) y => Sw n y H) ws ys → ∃ us : List Str, ys = us.map V.str ∧ us.length = ws.length ∧ ∀ u ∈ us, Wd n u
  | _, _, .nil => ⟨[], rfl, rfl, fun _ h => by cases h⟩
  | _, _, .cons ⟨a, e, w⟩ t => by
    obtain ⟨us, h1, h2, h3⟩ := paired_Sw t
    exact ⟨a :: us, by rw [e, h1]; rfl, by rw [List.length_cons, List.length_cons, h2], fun u hu => by
      rcases List.mem_cons.mp hu with q | q
      · rw [q]; exact w
      · exact h3 u q⟩
variable {iter elt : Expr} {scope : Scope} {nm nm2 : Str} {i l k1 : Nat} {p1 p3 cpos : Pos}
/-- a comprehension of texts -/
theorem lc_txt {α : Type} {ws : List α} {enc : α → V} {own : List (Str × Nat)} (n : Nat) (hi : Il X (.Name nm p) iter σ H (ws.map enc)) (hz : ws.length ≤ 40000) (ok : BlkOk X.N X.env.scope scope own)
    (he : ∀ s H0 C cl fp, ∀ w ∈ ws, Ts (Bk X scope s H0 C cl fp) elt ((wipe σ (own.map (·.2))).set i (some (enc w))) H n) (hN : X.N.Nodup := by assumption) (hc : X.calm = true := by rfl)
    (hg : ∀ s H0 C cl fp, Nm (Bk X scope s H0 C cl fp) i nm := by exact fun _ _ _ _ _ => ⟨by assumption, rfl, Or.inl rfl, Or.inr rfl⟩) (hw : ∀ x, wipe ((wipe σ (own.map (·.2))).set i (some x)) (own.map (·.2)) = wipe σ (own.map (·.2)) := by intro _; rfl)
    (hs : ∀ x, foldedSetIterable iter X.env x = pure x := by intro _; rfl) : Cp X (.ListComp elt [⟨.Name nm p, iter, [], 0⟩] scope pos) σ H fun _ ys _ _ => ∃ us : List Str, ys = us.map V.str ∧ us.length = ws.length ∧ ∀ u ∈ us, Wd n u :=
  (lc_gen (pos := pos) (fun _ => true) (fun _ _ y H => Sw n y H) hN hc ok hi hz hg hw (fun _ _ _ _ _ _ _ => q_nil) (fun s H0 C cl fp w hm _ D acc H1 e1 _ _ Q k => he s H0 C cl fp w hm H1 e1 Q k) (fun _ _ _ _ _ _ h => h) (fun _ _ _ _ _ _ h _ => h) hs).is fun _ _ _ _ r => by rw [filter_tt] at r; exact paired_Sw r
/-- of texts, over the places and items of a tuple -/
theorem lc_txtE {α : Type} {ws : List α} {enc : α → V} {own : List (Str × Nat)} (n : Nat) (hm : X.mg "enumerate" = none) (ht : Tu X e σ H (ws.map enc)) (hz : ws.length ≤ 40000) (ok : BlkOk X.N X.env.scope scope own)
    (he : ∀ s H0 C cl fp, ∀ w ∈ ws, ∀ j : Nat, j < ws.length → Ts (Bk X scope s H0 C cl fp) elt (((wipe σ (own.map (·.2))).set i (some (.int (j : Int)))).set l (some (enc w))) H n) (hN : X.N.Nodup := by assumption) (hc : X.calm = true := by rfl)
    (hg1 : ∀ s H0 C cl fp, Nm (Bk X scope s H0 C cl fp) i nm := by exact fun _ _ _ _ _ => ⟨by assumption, rfl, Or.inl rfl, Or.inr rfl⟩) (hg2 : ∀ s H0 C cl fp, Nm (Bk X scope s H0 C cl fp) l nm2 := by exact fun _ _ _ _ _ => ⟨by assumption, rfl, Or.inl rfl, Or.inr rfl⟩)
    (hw : ∀ x y, wipe (((wipe σ (own.map (·.2))).set i (some x)).set l (some y)) (own.map (·.2)) = wipe σ (own.map (·.2)) := by intro _ _; rfl)
    (hg : Gl X "enumerate" := by rfl) (ha : starEach [e] X.env = (false, eval e X.env) :: starEach [] X.env := by rfl) (ha2 : starEach [e] X.env = [(false, eval e X.env)] := by rfl)
    (hs : ∀ x, foldedSetIterable (.Call (.Name "enumerate" p) [e] [] cpos) X.env x = pure x := by intro _; rfl)
    (hn : ∀ s H0 C cl fp, (assignEach [.Name nm p1, .Name nm2 p2] (Bk X scope s H0 C cl fp).env).length = 2 := by intros; rfl) (hst : ∀ s H0 C cl fp, (assignEach [.Name nm p1, .Name nm2 p2] (Bk X scope s H0 C cl fp).env).findIdx? (·.1) = none := by intros; rfl) :
    Cp X (.ListComp elt [⟨.Tuple [.Name nm p1, .Name nm2 p2] k1 p3, .Call (.Name "enumerate" p) [e] [] cpos, [], 0⟩] scope pos) σ H fun _ ys _ _ => ∃ us : List Str, ys = us.map V.str ∧ us.length = ws.length ∧ ∀ u ∈ us, Wd n u :=
  (lc_genE (pos := pos) (fun _ _ y H => Sw n y H) hN hc ok hm ht hz hg1 hg2 hw (fun s H0 C cl fp w hm j hj D acc H1 e1 _ _ Q k => he s H0 C cl fp w hm j hj H1 e1 Q k) (fun _ _ _ _ _ _ h => h) (fun _ _ _ _ _ _ h _ => h) hg ha ha2 hs hn hst).is fun _ _ _ _ r => paired_Sw r
end
end Gw

set_option maxRecDepth 100000
set_option maxHeartbeats 4000000
/-! The builder's numbers and names. -/
namespace Gw
open PySem PySem.Spec PyProof.Rows L2 Evl SX
def mixN (c k : Int) : Int := (c * 48271 + 7919 * k + 11) % 1000003
def mixM (c k : Int) : Int := mixN c k * mixN c k % 1000003 * mixN c k % 1000003
def greatM (c k : Int) : Int := (mixM c k * 1000003 + mixM c (k + 500)) % 1000000000000
theorem mixN_b (c k : Int) : 0 ≤ mixN c k ∧ mixN c k < 1000003 := ⟨Int.emod_nonneg _ (by decide), Int.emod_lt_of_pos _ (by decide)⟩
theorem mixM_b (c k : Int) : 0 ≤ mixM c k ∧ mixM c k < 1000003 := ⟨Int.emod_nonneg _ (by decide), Int.emod_lt_of_pos _ (by decide)⟩
theorem greatM_b (c k : Int) : 0 ≤ greatM c k ∧ greatM c k < 1000000000000 := ⟨Int.emod_nonneg _ (by decide), Int.emod_lt_of_pos _ (by decide)⟩
theorem mod_nat (x : Int) {n : Nat} (hn : 0 < n) : ∃ i : Nat, x % (n : Int) = (i : Int) ∧ i < n := by
  have h1 : 0 ≤ x % (n : Int) := Int.emod_nonneg _ (by omega)
  have h2 : x % (n : Int) < (n : Int) := Int.emod_lt_of_pos _ (by omega)
  exact ⟨(x % (n : Int)).toNat, by omega, by omega⟩
theorem mod_b (x : Int) {n : Int} (hn : 0 < n) : 0 ≤ x % n ∧ x % n < n := ⟨Int.emod_nonneg _ (by omega), Int.emod_lt_of_pos _ hn⟩
def spI2 (f : Int → Int → Int) : Sp := fun vs H Q _ => ∃ i j : Int, vs = [.int i, .int j] ∧ ∀ H', Ex H H' → Q (.int (f i j)) H'
theorem spI2_v {f : Int → Int → Int} {i j : Int} {H : Hp} : SpV (spI2 f) [.int i, .int j] H (.int (f i j)) := fun H1 _ Q k _ => ⟨i, j, rfl, fun H2 e2 => k H2 e2⟩
theorem spI2_len {f : Int → Int → Int} {vs : List V} {H : Hp} {Q : VK} {E : XK} (h : spI2 f vs H Q E) : vs.length = 2 := by obtain ⟨_, _, e, _⟩ := h; subst e; rfl
section
variable {X : Cx} {a b : Expr} {σ : L2.St} {H : Hp} {p pos : Pos} {i j : Int} {k : Nat}
theorem v_mix (G : GdX X 1 "_law_mixed" (spI2 mixM)) (hr : Room k X.A) (ha : Vl X a σ H (.int i)) (hb : Vl X b σ H (.int j)) (hk : 1 ≤ k := by decide) (hg : Gl X "_law_mixed" := by rfl)
    (hs : starEach [a, b] X.env = (false, eval a X.env) :: starEach [b] X.env := by rfl) (hs2 : starEach [b] X.env = (false, eval b X.env) :: starEach [] X.env := by rfl) (hpl : (backTo pos (starEach [b] X.env)).any (·.1) = false := by rfl) :
    Vl X (.Call (.Name "_law_mixed" p) [a, b] [] pos) σ H (.int (mixM i j)) := v_call G (hr.mono hk) passL (a_cons ha (a_cons hb a_nil hs2) hs) spI2_v hg (by decide) hs hpl
theorem v_great (G : GdX X 2 "_law_great" (spI2 greatM)) (hr : Room k X.A) (ha : Vl X a σ H (.int i)) (hb : Vl X b σ H (.int j)) (hk : 2 ≤ k := by decide) (hg : Gl X "_law_great" := by rfl)
    (hs : starEach [a, b] X.env = (false, eval a X.env) :: starEach [b] X.env := by rfl) (hs2 : starEach [b] X.env = (false, eval b X.env) :: starEach [] X.env := by rfl) (hpl : (backTo pos (starEach [b] X.env)).any (·.1) = false := by rfl) :
    Vl X (.Call (.Name "_law_great" p) [a, b] [] pos) σ H (.int (greatM i j)) := v_call G (hr.mono hk) passL (a_cons ha (a_cons hb a_nil hs2) hs) spI2_v hg (by decide) hs hpl
/-- one of a display of numbers -/
theorem v_pick {ns : List Int} {e : Expr} {x : Int} (ha : Sl X e σ H (ns.map V.int)) (hb : Vl X b σ H (.int x)) (h0 : 0 ≤ x) (hx : x < ns.length) (hs : PlainIx b := by exact fun _ _ => rfl) : Vl X (.Subscript e b pos) σ H (.int (ns.getD x.toNat 0)) := by
  obtain ⟨n, rfl⟩ := Int.eq_ofNat_of_zero_le h0
  have hn : n < ns.length := Int.ofNat_lt.mp hx
  exact v_ixL ha hb (by rw [atI_n, List.getElem?_map, Int.toNat_natCast, List.getD_eq_getElem?_getD, List.getElem?_eq_getElem hn]; rfl) hs
theorem getD_b {ns : List Int} {lo hi : Int} {n : Nat} (h : ns.all (fun x => decide (lo ≤ x) && decide (x ≤ hi)) = true) (h0 : lo ≤ 0) (h1 : 0 ≤ hi) : lo ≤ ns.getD n 0 ∧ ns.getD n 0 ≤ hi := by
  rw [List.getD_eq_getElem?_getD]
  cases e : ns[n]? with
  | none => exact ⟨h0, h1⟩
  | some x =>
    have := List.all_eq_true.mp h x (List.mem_of_getElem? e)
    rw [Bool.and_eq_true, decide_eq_true_eq, decide_eq_true_eq] at this
    exact this
end
section
variable {P : Program} {w : World} {K : PySem.W.Frag} {mg : Str → Option Value} {base : Heap}
theorem ok_lMixed (T : Tx K mg) : Gd P w K mg base 1 "_law_mixed" (spI2 mixM) := by
  refine gd_of T dLawMixed 38 T.g__law_mixed scLawMixed (fun _ _ _ _ _ _ us hl => match us, hl with | [_, _], _ => rfl) (fun _ _ _ _ => spI2_len) fun f cdv A outer s H vs Q E hr ⟨i, j, e, k⟩ => ?_
  subst e
  have nd := scLawMixed.nd
  refine xb_set 2 (v := .int (mixN i j)) (vl_is (v_mod (v_add (v_add (v_mulR (v_v 0) v_int (by decide)) (v_mulL v_int (v_v 1) (by decide))) v_int) v_int (by decide)) rfl) fun H1 e1 => ?_
  have b := mixN_b i j
  have b2 := mod_b (mixN i j * mixN i j) (n := 1000003) (by decide)
  exact xb_ret (v := .int (mixM i j)) (vl_is (v_mod (v_mulR (v_mod (v_mulR (v_v 2) (v_v 2) ⟨by omega, by omega⟩) v_int (by decide)) (v_v 2) ⟨by omega, by omega⟩) v_int (by decide)) rfl) fun H2 e2 => k H2 (e1.trans e2)
theorem ok_lGreat (T : Tx K mg) : Gd P w K mg base 2 "_law_great" (spI2 greatM) := by
  have GM : Gd P w K mg base 1 "_law_mixed" (spI2 mixM) := ok_lMixed T
  refine gd_of T dLawGreat 39 T.g__law_great scLawGreat (fun _ _ _ _ _ _ us hl => match us, hl with | [_, _], _ => rfl) (fun _ _ _ _ => spI2_len) fun f cdv A outer s H vs Q E hr ⟨i, j, e, k⟩ => ?_
  subst e
  exact xb_ret (v := .int (greatM i j)) (vl_is (v_mod (v_add (v_mulR (v_mix GM hr (v_v 0) (v_v 1)) v_int (by decide)) (v_mix GM hr (v_v 0) (v_add (v_v 1) v_int))) (vl_is (v_pow v_int v_int ⟨by decide, by decide, by decide⟩) (by decide)) (by decide)) rfl) fun H2 e2 => k H2 e2
end
end Gw

set_option maxRecDepth 100000
set_option maxHeartbeats 4000000
/-! The builder's cells and names. -/
namespace Gw
open PySem PySem.Spec PyProof.Rows L2 Evl SX
def SpR (sp : Sp) (vs : List V) (H : Hp) (R : V → Hp → Prop) : Prop := ∀ H1, Ex H H1 → ∀ Q : VK, (∀ y H2, Ex H1 H2 → R y H2 → Q y H2) → ∀ E, sp vs H1 Q E
def GiveLs (P : List Str → Prop) (H : Hp) (Q : VK) : Prop := ∀ l ws H', H l = none → Ex H H' → H' l = some (.lst (ws.map V.str)) → P ws → Q (.ref l) H'
theorem GiveLs.er {P : List Str → Prop} {H : Hp} {Q : VK} (k : ∀ y H2, Ex H H2 → LsW P y H2 → Q y H2) : GiveLs P H Q := fun l ws H' _ e h p => k _ H' e ⟨l, ws, rfl, h, p⟩
def NsP (m n : Nat) (ws : List Str) : Prop := ws.length = m ∧ ∀ w ∈ ws, Wd n w
def SwP (P : Str → Prop) : V → Hp → Prop := fun y _ => ∃ a : Str, y = .str a ∧ P a
def Lt1 (u : Str) : Prop := ∃ c ∈ lettersS.cps.toList, u = ⟨#[c]⟩
theorem letters_gs : ∀ c ∈ lettersS.cps.toList, Gs c := fun c hc => by
  have : lettersS.cps.toList.all (fun c => decide (c < 128) && decide (c ≠ 10)) = true := by decide +kernel
  have := List.all_eq_true.mp this c hc
  rw [Bool.and_eq_true, decide_eq_true_eq, decide_eq_true_eq] at this
  exact this
theorem Lt1.wd {u : Str} (h : Lt1 u) : Wd 1 u := by obtain ⟨c, hc, e⟩ := h; rw [e]; exact wd_sign (letters_gs c hc)
theorem letters_len : lettersS.cps.toList.length = 26 := by decide +kernel
def occ1 (a b : Str) : Option Nat := (Builtin.Str.occurrences a b 0 a.length 1).head?
theorem letters_at : lettersS.cps.toList.all (fun c => match occ1 lettersS ⟨#[c]⟩ with | some i => decide (i < 26) | none => false) = true := by decide +kernel
section
variable {X : Cx} {e a b c o : Expr} {es : List Expr} {rest : List Stmt} {σ : L2.St} {H H' : Hp} {Q : VK} {D : Ends} {v w x y z : V} {xs ys vs : List V} {pos p p2 apos : Pos} {R R' : V → Hp → Prop} {n m : Nat} {u : Str}
/-- a call of which something is told -/
theorem er_call {k : Nat} {nm : Str} {sp : Sp} (G : GdX X k nm sp) (hr : Room k X.A) (h : Al X (a :: es) σ H vs) (hsp : SpR sp vs H R) (hg : Gl X nm := by rfl) (hdb : (nm == ("__debug__" : Str)) = false := by decide)
    (hs : starEach (a :: es) X.env = (false, eval a X.env) :: starEach es X.env := by rfl) (hpl : (backTo pos (starEach es X.env)).any (·.1) = false := by rfl) : Er X (.Call (.Name nm p) (a :: es) [] pos) σ H R := fun H1 e1 Q q =>
  xe_call G hr passL (h H1 e1 _ fun H2 e2 => hsp H2 (e1.trans e2) Q (fun y H3 e3 r => q y H3 (e2.trans e3) r) _) hg hdb hs hpl
theorem mt_sindex : MtR X "str.index" (fun x xs H Q => ∃ (a b : Str) (i : Nat) (r : List Nat), x = .str a ∧ xs = [.str b] ∧ Builtin.Str.occurrences a b 0 a.length 1 = i :: r ∧ Q (.int (i : Nat)) H) := by
  intro pins s σ H x xs v us Q I rx rs h
  obtain ⟨a, b, i, r, rfl, rfl, ho, h⟩ := h
  obtain ⟨t, rfl⟩ := rx
  cases rs with
  | cons r1 rs =>
    cases rs
    obtain ⟨u, rfl⟩ := r1
    exact PySem.call_gives PySem.F.slot_str_index (PySem.typeIs_str _ _ _) PySem.F.entry_str_index (PySem.F.args_str_index_2 _ _) (PySem.gives_str_index a b t u i r ho) ⟨.int (i : Nat), H, I.tok _, ⟨_, rfl⟩, h⟩
def idxC (u : Str) : Nat := (occ1 lettersS u).getD 0
theorem idx_lt {u : Str} (hc : Lt1 u) : idxC u < 26 ∧ ∃ r, Builtin.Str.occurrences lettersS u 0 lettersS.length 1 = idxC u :: r := by
  obtain ⟨c, hc, rfl⟩ := hc
  have h := List.all_eq_true.mp letters_at c hc
  unfold idxC
  unfold occ1 at h ⊢
  cases e2 : Builtin.Str.occurrences lettersS ⟨#[c]⟩ 0 lettersS.length 1 with
  | nil => rw [e2] at h; cases h
  | cons i r =>
    rw [e2] at h
    exact ⟨of_decide_eq_true h, r, rfl⟩
/-- letters.index(a letter) -/
theorem v_lidxS (ho : Vl X o σ H (.str lettersS)) (he : Vl X e σ H (.str u)) (hc : Lt1 u) (hs : starEach [e] X.env = [(false, eval e X.env)] := by rfl) (hbase : attributeBase o "index" X.env (eval o X.env) = eval o X.env := by rfl) (hline : (apos.endLine == pos.line) = true := by rfl) :
    Vl X (.Call (.Attribute o "index" apos) [e] [] pos) σ H (.int (idxC u : Nat)) := by
  obtain ⟨_, r, e2⟩ := idx_lt hc
  exact vl_of (pe_m1 PySem.F.slot_str_index PySem.F.type_str_index mt_sindex pe_xe pe_xe hs hbase hline) fun H1 e1 Q q => ho H1 e1 _ fun H2 e2' => ⟨⟨_, rfl⟩, he H2 (e1.trans e2') _ fun H3 e3 => ⟨_, _, idxC u, r, rfl, rfl, e2, q H3 (e2'.trans e3)⟩⟩
theorem er_vls {l : Addr} {ws : List Str} {P : List Str → Prop} (h : Vl X e σ H (.ref l)) (hl : H l = some (.lst (ws.map V.str))) (hp : P ws) : Er X e σ H (LsW P) := fun H1 e1 Q k => h H1 e1 Q fun H2 e2 => k _ H2 e2 ⟨l, ws, rfl, (e1.trans e2) _ _ hl, hp⟩
theorem ts_joinM {k : Nat} (ho : Vl X o σ H (.str u)) (hu : Wd k u) (hk : k ≤ 1) (he : Er X e σ H (LsW (ManyW n m))) (hz : m * n + m ≤ 16777216 := by decide) (hs : starEach [e] X.env = [(false, eval e X.env)] := by rfl) (hbase : attributeBase o "join" X.env (eval o X.env) = eval o X.env := by rfl)
    (hline : (apos.endLine == pos.line) = true := by rfl) : Ts X (.Call (.Attribute o "join" apos) [e] [] pos) σ H (m * (n + k)) :=
  ts_join ho he (fun ws h => ⟨join_size (Nat.le_trans hu.1 hk) (fun w hw => (h.2 w hw).1) h.1 hz, wd_join hu h.2 h.1⟩) hs hbase hline
theorem er_letter {i : Int} (ha : Vl X a σ H (.str lettersS)) (hb : Vl X b σ H (.int i)) (h0 : 0 ≤ i) (hi : i < 26) (hs : PlainIx b := by exact fun _ _ => rfl) : Er X (.Subscript a b pos) σ H (SwP Lt1) := by
  obtain ⟨k, rfl⟩ := Int.eq_ofNat_of_zero_le h0
  have hk : k < lettersS.cps.toList.length := by rw [letters_len]; omega
  exact vl_er (v_ixS ha hb (by decide) (by rw [atI_n, List.getElem?_eq_getElem hk]) hs) fun _ _ => ⟨_, rfl, _, List.getElem_mem hk, rfl⟩
theorem paired_SwP {α : Type} {P : Str → Prop} {H : Hp} : ∀ {ws : List α} {ys : List V}, Paired (fun (_ : α) y => SwP P y H) ws ys → ∃ us : List Str, ys = us.map V.str ∧ us.length = ws.length ∧ ∀ u ∈ us, P u
  | _, _, .nil => ⟨[], rfl, rfl, fun _ h => by cases h⟩
  | _, _, .cons ⟨a, e, w⟩ t => by
    obtain ⟨us, h1, h2, h3⟩ := paired_SwP t
    exact ⟨a :: us, by rw [e, h1]; rfl, by rw [List.length_cons, List.length_cons, h2], fun u hu => by
      rcases List.mem_cons.mp hu with q | q
      · rw [q]; exact w
      · exact h3 u q⟩
variable {iter elt : Expr} {scope : Scope} {nm : Str} {i : Nat}
theorem lc_txtP {α : Type} {ws : List α} {enc : α → V} {own : List (Str × Nat)} (P : Str → Prop) (hi : Il X (.Name nm p) iter σ H (ws.map enc)) (hz : ws.length ≤ 40000) (ok : BlkOk X.N X.env.scope scope own)
    (he : ∀ s H0 C cl fp, ∀ w ∈ ws, Er (Bk X scope s H0 C cl fp) elt ((wipe σ (own.map (·.2))).set i (some (enc w))) H (SwP P)) (hN : X.N.Nodup := by assumption) (hc : X.calm = true := by rfl)
    (hg : ∀ s H0 C cl fp, Nm (Bk X scope s H0 C cl fp) i nm := by exact fun _ _ _ _ _ => ⟨by assumption, rfl, Or.inl rfl, Or.inr rfl⟩) (hw : ∀ x, wipe ((wipe σ (own.map (·.2))).set i (some x)) (own.map (·.2)) = wipe σ (own.map (·.2)) := by intro _; rfl)
    (hs : ∀ x, foldedSetIterable iter X.env x = pure x := by intro _; rfl) : Cp X (.ListComp elt [⟨.Name nm p, iter, [], 0⟩] scope pos) σ H fun _ ys _ _ => ∃ us : List Str, ys = us.map V.str ∧ us.length = ws.length ∧ ∀ u ∈ us, P u :=
  (lc_gen (pos := pos) (fun _ => true) (fun _ _ y H => SwP P y H) hN hc ok hi hz hg hw (fun _ _ _ _ _ _ _ => q_nil) (fun s H0 C cl fp w hm _ D acc H1 e1 _ _ Q k => he s H0 C cl fp w hm H1 e1 Q k) (fun _ _ _ _ _ _ h => h) (fun _ _ _ _ _ _ h _ => h) hs).is fun _ _ _ _ r => by rw [filter_tt] at r; exact paired_SwP r
end
def spLCell (K : PySem.W.Frag) : Sp := fun vs H Q _ => ∃ (ad : Addr) (ns : List Int) (k : Nat), vs = [.ref ad, .int k] ∧ SqL K H ad (ns.map V.int) ∧ ∀ H', Ex H H' → Q (.int (ns.getD k 0)) H'
theorem spLCell_v {K : PySem.W.Frag} {ad : Addr} {ns : List Int} {k : Nat} {H : Hp} (h : SqL K H ad (ns.map V.int)) : SpV (spLCell K) [.ref ad, .int k] H (.int (ns.getD k 0)) := fun H1 e1 Q kk _ => ⟨ad, ns, k, rfl, ex_l e1 h, fun H2 e2 => kk H2 e2⟩
def spLNames : Sp := fun vs H Q _ => ∃ (c : Int) (m : Nat), vs = [.int c, .int m] ∧ m ≤ 9 ∧ GiveLs (NsP m 8) H Q
theorem spLNames_r {c : Int} {m : Nat} {H : Hp} (hm : m ≤ 9) : SpR spLNames [.int c, .int m] H (LsW (NsP m 8)) := fun H1 _ Q k E => ⟨c, m, rfl, hm, GiveLs.er k⟩
section
variable {P : Program} {w : World} {K : PySem.W.Frag} {mg : Str → Option Value} {base : Heap}
theorem ok_lCellAt (T : Tx K mg) : Gd P w K mg base 1 "_law_cell_at" (spLCell K) := by
  refine gd_of T dLawCellAt 37 T.g__law_cell_at scLawCellAt (fun _ _ _ _ _ _ us hl => match us, hl with | [_, _], _ => rfl) (fun _ _ _ _ ⟨_, _, _, e, _⟩ => by subst e; rfl) fun f cdv A outer s H vs Q E hr ⟨ad, ns, n, e, hs, k⟩ => ?_
  subst e
  have nd := scLawCellAt.nd
  refine xb_when (k := decide (n < ns.length)) (bl_is (bc (c_lt (v_v 1) (v_lenL T.f_len (vl_sl (v_v 0) hs)))) (by rw [List.length_map]; exact decide_eq_decide.mpr (by omega))) (fun q H1 e1 => ?_) fun q H1 e1 => ?_
  · have hn : n < ns.length := of_decide_eq_true q
    have ev : ns.getD n 0 = ns[n] := by rw [List.getD_eq_getElem?_getD, List.getElem?_eq_getElem hn]; rfl
    rw [ev] at k
    exact xb_ret (v_ixLn n (v := .int ns[n]) (vl_sl (v_v 0) (ex_l e1 hs)) (v_v 1) (by rw [List.getElem?_map, List.getElem?_eq_getElem hn]; rfl)) fun H2 e2 => k H2 (e1.trans e2)
  · have hn : ns.length ≤ n := Nat.le_of_not_lt (of_decide_eq_false q)
    have ev : ns.getD n 0 = 0 := by rw [List.getD_eq_getElem?_getD, List.getElem?_eq_none hn]; rfl
    rw [ev] at k
    exact xb_ret v_int fun H2 e2 => k H2 (e1.trans e2)
theorem ok_lNames (T : Tx K mg) : Gd P w K mg base 2 "_law_names" spLNames := by
  have GM : Gd P w K mg base 1 "_law_mixed" (spI2 mixM) := ok_lMixed T
  refine gd_of T dLawNames 40 T.g__law_names scLawNames (fun _ _ _ _ _ _ us hl => match us, hl with | [_, _], _ => rfl) (fun _ _ _ _ ⟨_, _, e, _⟩ => by subst e; rfl) fun f cdv A outer s H vs Q E hr ⟨c, m, e, hm, k⟩ => ?_
  subst e
  have nd := scLawNames.nd
  refine xb_set 2 (v := .str lettersS) v_str fun H1 e1 => ?_
  refine xb_setC 3 (lc_txtP (i := 11) (own := [("_law_j", 11)]) (ws := List.range 8) (enc := fun j : Nat => V.int (j : Int)) Lt1 (il_R T.f_range v_int ⟨by decide, by decide⟩) (by decide) (blkOk_by (N := nLawNames) (sc := defScope sLawNames) (by decide +kernel))
    (fun _ _ _ _ _ j _ => er_letter (v_v 2) (v_mod (v_mix GM hr (v_v 0) (v_v 11)) v_int (by decide)) (mod_b _ (by decide)).1 (mod_b _ (by decide)).2)) fun rl ys H2 hrl e2 h2 ⟨us, ey, lu, pu⟩ => ?_
  subst ey
  have lu : us.length = 8 := lu
  obtain ⟨at_, hat, lat⟩ := mod_nat (mixM c 8) (n := 8) (by decide)
  refine xb_set 4 (v := .int (at_ : Int)) (vl_is (v_mod (v_mix GM hr (v_v 0) v_int) v_int (by decide)) (by rw [← hat]; rfl)) fun H3 e3 => ?_
  obtain ⟨r, hr9, lr⟩ := mod_nat (mixM c 9) (n := 8 - at_) (by omega)
  refine xb_set 5 (v := .int ((at_ + 1 + r : Nat) : Int)) (vl_is (v_add (v_add (v_v 4) v_int) (v_mod (v_mix GM hr (v_v 0) v_int) (v_sub v_int (v_v 4)) (by omega))) (by rw [show (8 : Int) - (at_ : Int) = ((8 - at_ : Nat) : Int) by omega, hr9]; congr 1)) fun H4 e4 => ?_
  refine xb_set 6 (v_pick (ns := [1, 3, 5, 7, 9, 11]) (ll_sl (l_lst (a_cons v_int (a_cons v_int (a_cons v_int (a_cons v_int (a_cons v_int (a_cons v_int a_nil)))))))) (v_mod (v_mix GM hr (v_v 0) v_int) v_int (by decide)) (mod_b _ (by decide)).1 (mod_b _ (by decide)).2) fun H5 e5 => ?_
  have hstep := getD_b (ns := [1, 3, 5, 7, 9, 11]) (lo := 0) (hi := 11) (n := (mixM c 10 % 6).toNat) (by decide) (by decide) (by decide)
  generalize ([1, 3, 5, 7, 9, 11] : List Int).getD (mixM c 10 % 6).toNat 0 = step at hstep ⊢
  refine xb_setL 7 (l_lst a_nil) fun fl H6 hfl e6 h6 => ?_
  have E5 := ((e3.trans e4).trans e5)
  have R5 := E5 _ _ h2
  have E05 := ((e1.trans e2).trans E5)
  refine xb_forR 8 po_cx T.f_range (v_v 1) ⟨by omega, by omega⟩ (fun j σ' H' => ∃ (o8 o9 o10 : Option V) (ws : List Str), σ' = [some (.int c), some (.int m), some (.str lettersS), some (.ref rl), some (.int at_), some (.int ((at_ + 1 + r : Nat) : Int)), some (.int step), some (.ref fl), o8, o9, o10, none] ∧ Ex H5 H' ∧ H' fl = some (.lst (ws.map V.str)) ∧ ws.length = j ∧ ∀ w ∈ ws, Wd 8 w)
    (fun H7 e7 => ⟨_, _, _, [], rfl, e6.trans e7, e7 _ _ h6, rfl, fun _ h => by cases h⟩) ?_ ?_
  · rintro j σ' H' hj ⟨o8, o9, o10, ws, hσ, eH, hw, lw, pw⟩
    subst hσ
    have mb := mixM_b c 11
    refine xb_setR 9 (er_letter (v_v 2) (v_mod (v_add (v_mix GM hr (v_v 0) v_int) (v_mulL (v_v 6) (v_v 8) ⟨by omega, by omega⟩)) v_int (by decide)) (mod_b _ (by decide)).1 (mod_b _ (by decide)).2) fun y H7 e7 ⟨sg, ey, psg⟩ => ?_
    subst ey
    have R7 := (eH.trans e7) _ _ R5
    refine xb_setL 10 (xs := (us.take at_ ++ [sg] ++ (us.drop (at_ + 1)).take r).map V.str) (ll_is (l_cat (ll_hl (l_cat (ll_hl (l_slL (vl_sl (v_v 3) (sq_of R7)) o_n (o_s (v_v 4)))) (ll_hl (l_lst (a_1 (v_v 9)))) ?_)) (ll_hl (l_slL (vl_sl (v_v 3) (sq_of R7)) (o_s (i := ((at_ + 1 : Nat) : Int)) (vl_is (v_add (v_v 4) v_int) rfl)) (o_s (v_v 5)))) ?_) ?_) fun wl H8 hwl e8 h8 => ?_
    · rw [cutV_to, List.length_take, List.length_map]; simp; omega
    · rw [cutV_to, cutV_nn]; simp; omega
    · rw [cutV_to, cutV_nn, List.map_append, List.map_append, List.map_take, List.map_take, List.map_drop, show at_ + 1 + r - (at_ + 1) = r by omega]; rfl
    · have pw8 : ∀ w ∈ us.take at_ ++ [sg] ++ (us.drop (at_ + 1)).take r, Wd 1 w := fun w hw => by
        rcases List.mem_append.mp hw with q | q
        · rcases List.mem_append.mp q with q | q
          · exact (pu w (List.mem_of_mem_take q)).wd
          · rw [List.mem_singleton.mp q]; exact psg.wd
        · exact (pu w (List.mem_of_mem_drop (List.mem_of_mem_take q))).wd
      have lw8 : (us.take at_ ++ [sg] ++ (us.drop (at_ + 1)).take r).length ≤ 8 := by
        rw [List.length_append, List.length_append, List.length_take, List.length_take, List.length_drop, lu, List.length_singleton]; omega
      generalize us.take at_ ++ [sg] ++ (us.drop (at_ + 1)).take r = wd at h8 pw8 lw8
      have E8 := (eH.trans e7).trans e8
      have F8 := (e7.trans e8) _ _ hw
      refine xb_ifM (k := decide (mixM c 12 % 4 = 1)) (fun σ' H' => ∃ (wl : Addr) (wd : List Str), σ' = [some (.int c), some (.int m), some (.str lettersS), some (.ref rl), some (.int at_), some (.int ((at_ + 1 + r : Nat) : Int)), some (.int step), some (.ref fl), some (.int j), some (.str sg), some (.ref wl), none] ∧ Ex H5 H' ∧ H' fl = some (.lst (ws.map V.str)) ∧ H' wl = some (.lst (wd.map V.str)) ∧ wd.length ≤ 8 ∧ ∀ w ∈ wd, Wd 1 w)
        (bl_is (bc (c_eq (v_mod (v_mix GM hr (v_v 0) v_int) v_int (by decide)) v_int)) (decide_eq_decide.mpr (by simp))) (fun q H9 e9 => ?_) (fun q H9 e9 => xb_nil ⟨wl, wd, rfl, E8.trans e9, e9 _ _ F8, e9 _ _ h8, lw8, pw8⟩) ?_
      · have R9 := ((e7.trans e8).trans e9)
        have R9r := (eH.trans R9) _ _ R5
        refine xb_setE 10 (xe_if (k := decide (j < 8)) (bl_is (bc (c_lt (v_v 8) v_int)) (decide_eq_decide.mpr (by omega))) (fun q2 H10 e10 => ?_) fun q2 H10 e10 => ?_)
        · refine (l_slL (vl_sl (v_v 3) (sq_of (e10 _ _ R9r))) o_n (o_s (i := ((1 + j : Nat) : Int)) (vl_is (v_add v_int (v_v 8)) (by congr 1)))) H10 (Ex.refl _) _ fun l H11 hl e11 h11 => ?_
          have : j < 8 := of_decide_eq_true q2
          refine xb_nil ⟨l, us.take (1 + j), rfl, (E8.trans e9).trans (e10.trans e11), (e9.trans (e10.trans e11)) _ _ F8, ?_, ?_, fun w hw => (pu w (List.mem_of_mem_take hw)).wd⟩
          · rw [h11, cutV_to, List.map_take]
          · rw [List.length_take]; omega
        · match us, lu, pu, R9r with
          | u0 :: us', lu, pu, R9r =>
            refine xe_lst (xa_cons ((er_letter (v_v 2) (v_mod (v_add (v_lidxS (v_v 2) (v_ixLn 0 (v := .str u0) (vl_sl (v_v 3) (sq_of (e10 _ _ R9r))) v_int rfl) (pu u0 (by simp))) v_int) v_int (by decide)) (mod_b _ (by decide)).1 (mod_b _ (by decide)).2) H10 (Ex.refl _) _ fun y H11 e11 ⟨s2, ey, ps2⟩ => xa_nil ⟨by simp, fun l hl => ?_⟩))
            subst ey
            exact xb_nil ⟨l, [s2], rfl, ((E8.trans e9).trans (e10.trans e11)).trans (Ex.new hl), ((e9.trans (e10.trans e11)).trans (Ex.new hl)) _ _ F8, upd_same, by simp, fun w hw => by rw [List.mem_singleton.mp hw]; exact ps2.wd⟩
      · rintro σ' H' ⟨wl, wd, hσ, eH', hfl', hwl', lwd, pwd⟩
        subst hσ
        refine xb_appE (l := fl) (xs := ws.map V.str) (v_v 7) hfl' (fun H9 e9 => (ts_joinM (n := 1) (m := 8) (k := 0) v_str (wd_lit (by decide +kernel)) (by decide) (er_vls (P := ManyW 1 8) (v_v 10) (e9 _ _ hwl') ⟨lwd, pwd⟩)) H9 (Ex.refl _) _ fun y H10 e10 ⟨a, ey, wa⟩ => ?_) (by rw [List.length_map]; omega)
        subst ey
        refine ⟨(e9.trans e10) _ _ hfl', xb_nil ⟨_, _, _, ws ++ [a], rfl, (eH'.trans (e9.trans e10)).mut hfl, ?_, ?_, fun w hw => ?_⟩⟩
        · rw [upd_same, List.map_append]; rfl
        · rw [List.length_append, List.length_singleton, lw]
        · rcases List.mem_append.mp hw with q | q
          · exact pw w q
          · rw [List.mem_singleton.mp q]; exact wa
  · rintro σ' H' ⟨o8, o9, o10, ws, hσ, eH, hw, lw, pw⟩
    subst hσ
    exact xb_ret (v_v 7) fun H9 e9 => k fl ws H9 (fresh_back E05 hfl) ((E05.trans eH).trans e9) (e9 _ _ hw) ⟨by omega, pw⟩
end
end Gw

set_option maxRecDepth 100000
set_option maxHeartbeats 4000000
/-! The builder's paths. -/
namespace Gw
open PySem PySem.Spec PyProof.Rows L2 Evl SX
section
variable {X : Cx} {e o : Expr} {rest : List Stmt} {σ : L2.St} {H : Hp} {Q : VK} {D : Ends} {xs : List V} {pos apos : Pos}
theorem il_Rn {tg : Expr} {m : Nat} {p' : Pos} (hm : X.mg "range" = none) (h : Vl X e σ H (.int (m : Int))) (hk : m ≤ 100000) (hg : Gl X "range" := by rfl) (hst : starEach [e] X.env = (false, eval e X.env) :: starEach [] X.env := by rfl) :
    Il X tg (.Call (.Name "range" p') [e] [] pos) σ H ((List.range m).map fun j : Nat => V.int (j : Int)) := by
  have q := il_R (tg := tg) (p' := p') (pos := pos) hm h ⟨by omega, by omega⟩ hg hst
  rwa [Int.toNat_natCast] at q
/-- o.extend(e), e a new list -/
theorem xb_ext {l : Addr} (ho : Vl X o σ H (.ref l)) (hl : H l = some (.lst xs)) (h : ∀ H1, Ex H H1 → XE X e σ H1 fun y H2 => ∃ b zs, y = .ref b ∧ H2 b = some (.lst zs) ∧ H2 l = some (.lst xs) ∧ xs.length + zs.length ≤ 100000 ∧ XB X rest D σ (upd H2 l (.lst (xs ++ zs))))
    {pos' : Pos} (hse : swapsWith (.Call (.Attribute o "extend" apos) [e] [] pos) none pos'.line X.env = pure false := by rfl)
    (hbase : attributeBase o "extend" X.env (eval o X.env) = eval o X.env := by rfl)
    (hfew : ((backTo pos (starEach [e] X.env)).all (fun x => !x.1) && (backToKw pos (keywordEach [] X.env)).all (fun x => x.1.isSome)
      && decide (([e] : List Expr).length + ([] : List Keyword).length + (if ([] : List Keyword).isEmpty then 0 else 1) < 30)) = true := by rfl)
    (hline : (apos.endLine == pos.line) = true := by rfl) (hs : starEach [e] X.env = (false, eval e X.env) :: starEach [] X.env := by rfl) (hplain : (backTo pos (starEach [] X.env)).any (·.1) = false := by rfl) :
    XB X (.Expr (.Call (.Attribute o "extend" apos) [e] [] pos) pos' :: rest) D σ H := by
  refine xb_expr ?_ hse
  refine xe_of (pe_bm PySem.F.plainAttrs_list PySem.F.slot_list_extend PySem.F.type_list_extend mt_extend pe_xe (pa_cons pe_xe pa_nil hs) hbase hfew hline hs hplain) ?_
  refine ho H (Ex.refl H) _ fun H1 e1 => ⟨.inl ⟨rfl, xs, ex_l e1 (sq_of hl)⟩, ?_⟩
  refine ⟨fun pins s I => thn ((h H1 e1).run pins s I) fun u s1 ⟨v, H2, I2, r2, b, zs, ey, q1, q2, q3, q4⟩ => ⟨v, H2, I2, r2, l, b, xs, zs, rfl, by rw [ey], q2, q1, sz_of q3, q4⟩⟩
end
def spLPaths : Sp := fun vs H Q _ => ∃ (c : Int) (m : Nat), vs = [.int c, .int m] ∧ m ≤ 9 ∧ GiveLs (NsP m 26) H Q
theorem spLPaths_r {c : Int} {m : Nat} {H : Hp} (hm : m ≤ 9) : SpR spLPaths [.int c, .int m] H (LsW (NsP m 26)) := fun H1 _ Q k E => ⟨c, m, rfl, hm, GiveLs.er k⟩
section
variable {P : Program} {w : World} {K : PySem.W.Frag} {mg : Str → Option Value} {base : Heap}
theorem ok_lPaths (T : Tx K mg) : Gd P w K mg base 3 "_law_paths" spLPaths := by
  have GM : Gd P w K mg base 1 "_law_mixed" (spI2 mixM) := ok_lMixed T
  have GN : Gd P w K mg base 2 "_law_names" spLNames := ok_lNames T
  refine gd_of T dLawPaths 41 T.g__law_paths scLawPaths (fun _ _ _ _ _ _ us hl => match us, hl with | [_, _], _ => rfl) (fun _ _ _ _ ⟨_, _, e, _⟩ => by subst e; rfl) fun f cdv A outer s H vs Q E hr ⟨c, m, e, hm, k⟩ => ?_
  subst e
  have nd := scLawPaths.nd
  refine xb_setR 2 (er_call GN hr (a_cons (v_v 0) (a_1 v_int)) (spLNames_r (m := 3) (by decide))) fun y H1 e1 ⟨nl, ns, ey, hnl, lns, pns⟩ => ?_
  subst ey
  refine xb_setL 3 (l_list T.f_list (vl_sl (v_v 2) (sq_of hnl))) fun el H2 hel e2 h2 => ?_
  refine xb_forL (ad := nl) 4 po_cx (v_v 2) (sq_of (e2 _ _ hnl)) (fun j σ' H' => ∃ (o4 : Option V) (ev : List Str), σ' = [some (.int c), some (.int m), some (.ref nl), some (.ref el), o4, none, none, none] ∧ Ex H1 H' ∧ H' el = some (.lst (ev.map V.str)) ∧ ev.length = 3 + 3 * j ∧ ∀ w ∈ ev, Wd 17 w)
    (fun H3 e3 => ⟨_, ns, rfl, e2.trans e3, e3 _ _ h2, by rw [lns], fun w hw => (pns w hw).mono (by decide)⟩) (fun j σ' H' _ ⟨_, _, _, e', _⟩ => sq_of (e' _ _ hnl)) ?_ ?_
  · rintro j x σ' H' hx ⟨o4, ev, hσ, eH, hev, lev, pev⟩
    subst hσ
    rw [List.getElem?_map] at hx
    cases hj : ns[j]? with
    | none => rw [hj] at hx; cases hx
    | some one =>
      rw [hj] at hx
      cases hx
      have h1 := pns one (List.mem_of_getElem? hj)
      have lj : j < 3 := by have := (List.getElem?_eq_some_iff.mp hj).1; omega
      refine xb_ext (l := el) (v_v 3) hev fun H3 e3 => (lc_txt (i := 6) (own := [("_law_other", 6)]) 17 (il_L (vl_sl (v_v 2) (sq_of ((eH.trans e3) _ _ hnl)))) (by omega) (blkOk_by (N := nLawPaths) (sc := defScope sLawPaths) (by decide +kernel))
        (fun _ _ _ _ _ w hw => ts_add (n := 9) (m := 8) (ts_add (n := 8) (m := 1) (ts_v (v_v 4) h1) ts_lit) (ts_v (v_v 6) (pns w hw)))).v H3 (Ex.refl _) _ fun q ys H4 hq e4 h4 ⟨us, ey, lu, pu⟩ => ?_
      subst ey
      refine ⟨q, us.map V.str, rfl, h4, (e3.trans e4) _ _ hev, by rw [List.length_map, List.length_map]; omega, xb_nil ⟨_, ev ++ us, rfl, (eH.trans (e3.trans e4)).mut hel, ?_, ?_, fun w hw => ?_⟩⟩
      · rw [upd_same, List.map_append]
      · rw [List.length_append, lev, lu, lns]; omega
      · rcases List.mem_append.mp hw with q | q
        · exact pev w q
        · exact pu w q
  · rintro σ' H' ⟨o4, ev, hσ, eH, hev, lev, pev⟩
    subst hσ
    rw [List.length_map, lns] at lev
    refine xb_forN 4 po_cx (l_list T.f_list (ll_sl (l_slL (vl_sl (v_v 3) (sq_of hev)) (o_s (i := ((3 : Nat) : Int)) v_int) o_n))) (fun q j σ2 H2' => ∃ (o4 : Option V) (ev2 : List Str), σ2 = [some (.int c), some (.int m), some (.ref nl), some (.ref el), o4, none, none, none] ∧ Ex H1 H2' ∧ H2' el = some (.lst (ev2.map V.str)) ∧ H2' q = some (.lst ((ev.drop 3).map V.str)) ∧ q ≠ el ∧ ev2.length = 12 + 3 * j ∧ ∀ w ∈ ev2, Wd 26 w)
      (fun q H3 hq e3 h3 => ⟨_, ev, rfl, eH.trans e3, e3 _ _ hev, by rw [h3, cutV_from, List.map_drop], fun z => (by subst z; rw [hev] at hq; cases hq), by omega, fun w hw => (pev w hw).mono (by decide)⟩) (fun q j σ2 H2' _ ⟨_, _, _, _, _, h, _⟩ => by rw [cutV_from, ← List.map_drop]; exact sq_of h) ?_ ?_
    · rintro q j x σ2 H3 hx ⟨o4', ev2, hσ2, eH2, hev2, hq, nq, lev2, pev2⟩
      subst hσ2
      rw [cutV_from, ← List.map_drop, List.getElem?_map] at hx
      cases hj : (ev.drop 3)[j]? with
      | none => rw [hj] at hx; cases hx
      | some one =>
        rw [hj] at hx
        cases hx
        have h1 := pev one (List.mem_of_mem_drop (List.mem_of_getElem? hj))
        have lj : j < 9 := by have := (List.getElem?_eq_some_iff.mp hj).1; rw [List.length_drop] at this; omega
        refine xb_ext (l := el) (v_v 3) hev2 fun H4 e4 => (lc_txt (i := 6) (own := [("_law_other", 6)]) 26 (il_L (vl_sl (v_v 2) (sq_of ((eH2.trans e4) _ _ hnl)))) (by omega) (blkOk_by (N := nLawPaths) (sc := defScope sLawPaths) (by decide +kernel))
          (fun _ _ _ _ _ w hw => ts_add (n := 18) (m := 8) (ts_add (n := 17) (m := 1) (ts_v (v_v 4) h1) ts_lit) (ts_v (v_v 6) (pns w hw)))).v H4 (Ex.refl _) _ fun b ys H5 hb e5 h5 ⟨us, ey, lu, pu⟩ => ?_
        subst ey
        refine ⟨b, us.map V.str, rfl, h5, (e4.trans e5) _ _ hev2, by rw [List.length_map, List.length_map]; omega, xb_nil ⟨_, ev2 ++ us, rfl, (eH2.trans (e4.trans e5)).mut hel, ?_, ?_, nq, ?_, fun w hw => ?_⟩⟩
        · rw [upd_same, List.map_append]
        · rw [upd_ne nq]; exact (e4.trans e5) _ _ hq
        · rw [List.length_append, lev2, lu, lns]; omega
        · rcases List.mem_append.mp hw with q | q
          · exact pev2 w q
          · exact pu w q
    · rintro q σ2 H3 ⟨o4', ev2, hσ2, eH2, hev2, hq, nq, lev2, pev2⟩
      subst hσ2
      rw [cutV_from, ← List.map_drop, List.length_map, List.length_drop, lev] at lev2
      refine xb_set 5 (v_pick (ns := [1, 2, 4, 5, 7, 8, 10, 11]) (ll_sl (l_lst (a_cons v_int (a_cons v_int (a_cons v_int (a_cons v_int (a_cons v_int (a_cons v_int (a_cons v_int (a_cons v_int a_nil)))))))))) (v_mod (v_mix GM hr (v_v 0) v_int) v_int (by decide)) (mod_b _ (by decide)).1 (mod_b _ (by decide)).2) fun H4 e4 => ?_
      have hstep := getD_b (ns := [1, 2, 4, 5, 7, 8, 10, 11]) (lo := 0) (hi := 11) (n := (mixM c 20 % 8).toNat) (by decide) (by decide) (by decide)
      generalize ([1, 2, 4, 5, 7, 8, 10, 11] : List Int).getD (mixM c 20 % 8).toNat 0 = step at hstep ⊢
      refine xb_retE ((lc_txt (i := 7) (own := [("_law_k", 7)]) (ws := List.range m) (enc := fun j : Nat => V.int (j : Int)) 26 (il_Rn T.f_range (v_v 1) (by omega)) (by rw [List.length_range]; omega) (blkOk_by (N := nLawPaths) (sc := defScope sLawPaths) (by decide +kernel))
        (fun _ _ _ _ _ j hj => ts_ixL (ws := ev2) (vl_sl (v_v 3) (sq_of (e4 _ _ hev2))) pev2 (v_mod (v_add (v_mix GM hr (v_v 0) v_int) (v_mulL (v_v 5) (v_v 7) ⟨by omega, by omega⟩)) v_int (by decide)) (mod_b _ (by decide)).1 (Int.lt_of_lt_of_le (mod_b _ (by decide)).2 (by omega)))).v H4 (Ex.refl _) _ fun l ys H5 hl e5 h5 ⟨us, ey, lu, pu⟩ => ?_)
      subst ey
      exact k l us H5 (fresh_back (e1.trans (eH2.trans e4)) hl) (e1.trans ((eH2.trans e4).trans e5)) h5 ⟨by rw [lu, List.length_range], pu⟩
end
end Gw

set_option maxRecDepth 100000
set_option maxHeartbeats 4000000
/-! The builder's fields. -/
namespace Gw
open PySem PySem.Spec PyProof.Rows L2 Evl SX
def TpW (P : List Str → Prop) : V → Hp → Prop := fun y H => ∃ t ws, y = .ref t ∧ Rd H t (.tup (ws.map V.str)) ∧ P ws
def TWn (n m : Nat) (ws : List Str) : Prop := 1 ≤ ws.length ∧ ws.length ≤ m ∧ ∀ w ∈ ws, Wd n w
def ThG (kd : Str) (y : V) (H : Hp) : Prop :=
  (kd = "names" ∧ TpW (TWn 8 9) y H) ∨ (kd = "tree" ∧ TpW (TWn 26 9) y H) ∨ (kd = "number" ∧ ∃ n : Int, y = .int n ∧ 0 ≤ n ∧ n ≤ 1000000000000) ∨
  (kd = "bits" ∧ ∃ n : Nat, y = .int (n : Int) ∧ 1 ≤ n ∧ n ≤ 32) ∨ (kd = "marks" ∧ TpW (TWn 8 5) y H) ∨ (kd = "clock" ∧ y = .non)
def GF (H : Hp) (v : V) : Prop := ∃ a nm kd y, v = .ref a ∧ Rd H a (.tup [.str nm, .str kd, y]) ∧ Wd 8 nm ∧ Wd 6 kd ∧ ThG kd y H
theorem TpW.tex {P : List Str → Prop} {y : V} {H H' : Hp} (e : Tex H H') (h : TpW P y H) : TpW P y H' := let ⟨t, ws, a, b, c⟩ := h; ⟨t, ws, a, e _ _ b, c⟩
theorem ThG.tex {kd : Str} {y : V} {H H' : Hp} (e : Tex H H') (h : ThG kd y H) : ThG kd y H' := by
  rcases h with ⟨a, b⟩ | ⟨a, b⟩ | h | h | ⟨a, b⟩ | h
  · exact .inl ⟨a, b.tex e⟩
  · exact .inr (.inl ⟨a, b.tex e⟩)
  · exact .inr (.inr (.inl h))
  · exact .inr (.inr (.inr (.inl h)))
  · exact .inr (.inr (.inr (.inr (.inl ⟨a, b.tex e⟩))))
  · exact .inr (.inr (.inr (.inr (.inr h))))
theorem GF.tex {v : V} {H H' : Hp} (e : Tex H H') (h : GF H v) : GF H' v := let ⟨a, nm, kd, y, h1, h2, h3, h4, h5⟩ := h; ⟨a, nm, kd, y, h1, e _ _ h2, h3, h4, h5.tex e⟩
theorem GF.mono {v : V} {H H' : Hp} (e : Ex H H') (h : GF H v) : GF H' v := h.tex (.of e)
theorem GF.upd {v : V} {H : Hp} {D : Addr} {l l' : List V} (h : GF H v) (hl : H D = some (.lst l)) : GF (L2.upd H D (.lst l')) v := h.tex ((Fex.refl _).mut (noTup.lst hl)).tex
section
variable {X : Cx} {e a b c o : Expr} {es : List Expr} {rest : List Stmt} {σ : L2.St} {H H' : Hp} {Q : VK} {D : Ends} {v w x y z : V} {xs ys vs : List V} {pos p p2 apos : Pos} {R R' : V → Hp → Prop} {n m : Nat} {u : Str}
theorem er_ixL {i : Int} {ws : List Str} (ha : Sl X a σ H (ws.map V.str)) (hb : Vl X b σ H (.int i)) (h0 : 0 ≤ i) (hi : i < ws.length) (hs : PlainIx b := by exact fun _ _ => rfl) : Er X (.Subscript a b pos) σ H (SwP (· ∈ ws)) := by
  obtain ⟨k, rfl⟩ := Int.eq_ofNat_of_zero_le h0
  have hk : k < ws.length := Int.ofNat_lt.mp hi
  exact vl_er (v_ixL (v := .str ws[k]) ha hb (by rw [atI_n, List.getElem?_map, List.getElem?_eq_getElem hk]; rfl) hs) fun _ _ => ⟨_, rfl, List.getElem_mem hk⟩
theorem er_tupleW {P : List Str → Prop} (hm : X.mg "tuple" = none) (h : Er X e σ H (LsW P)) (hg : Gl X "tuple" := by rfl) (hs : starEach [e] X.env = (false, eval e X.env) :: starEach [] X.env := by rfl) (hpl : (backTo pos (starEach [] X.env)).any (·.1) = false := by rfl) :
    Er X (.Call (.Name "tuple" p) [e] [] pos) σ H (TpW P) := fun H1 e1 Q q => xe_of (pe_callTy call_tuple_of hg hm (by decide +kernel) (pa_cons pe_xe pa_nil hs) (by decide) (by decide) hs hpl)
  (h H1 e1 _ fun y H2 e2 ⟨l, ws, ey, hl, hp⟩ => ⟨l, ws.map V.str, (by rw [ey]), .inl ⟨sq_of hl, fun t ht => q _ _ (e2.trans (Ex.new ht)) ⟨t, ws, rfl, .inl upd_same, hp⟩⟩⟩)
theorem er_tupleG {P : List V → Hp → Prop} (hP : ∀ xs H H', Ex H H' → P xs H → P xs H') (hm : X.mg "tuple" = none) (h : Er X e σ H fun y H => ∃ l xs, y = .ref l ∧ H l = some (.lst xs) ∧ P xs H) (hg : Gl X "tuple" := by rfl) (hs : starEach [e] X.env = (false, eval e X.env) :: starEach [] X.env := by rfl) (hpl : (backTo pos (starEach [] X.env)).any (·.1) = false := by rfl) :
    Er X (.Call (.Name "tuple" p) [e] [] pos) σ H (fun y H => ∃ t xs, y = .ref t ∧ Rd H t (.tup xs) ∧ P xs H) := fun H1 e1 Q q => xe_of (pe_callTy call_tuple_of hg hm (by decide +kernel) (pa_cons pe_xe pa_nil hs) (by decide) (by decide) hs hpl)
  (h H1 e1 _ fun y H2 e2 ⟨l, ws, ey, hl, hp⟩ => ⟨l, ws, (by rw [ey]), .inl ⟨sq_of hl, fun t ht => q _ _ (e2.trans (Ex.new ht)) ⟨t, ws, rfl, .inl upd_same, hP _ _ _ (Ex.new ht) hp⟩⟩⟩)
/-- (a, b, c), of c only something told -/
theorem xe_tup3 {x1 : Nat} (ha : Vl X a σ H x) (hb : Vl X b σ H y) (hc : Er X c σ H R) (k : ∀ t z H1 H2, Ex H H1 → R z H1 → H2 t = some (.tup [x, y, z]) → Ex H1 H2 → Q (.ref t) H2)
    (hs1 : starEach [a, b, c] X.env = (false, eval a X.env) :: starEach [b, c] X.env := by rfl) (hs2 : starEach [b, c] X.env = (false, eval b X.env) :: starEach [c] X.env := by rfl) (hs3 : starEach [c] X.env = (false, eval c X.env) :: starEach [] X.env := by rfl) : XE X (.Tuple [a, b, c] x1 pos) σ H Q :=
  xe_tup (xa_cons (xe_v ha fun H1 e1 => xa_cons (xe_v (hb.mono e1) fun H2 e2 => xa_cons ((hc.mono (e1.trans e2)) H2 (Ex.refl _) _ fun z H3 e3 r => xa_nil ⟨by simp, fun t ht => k t z H3 _ ((e1.trans e2).trans e3) r upd_same (Ex.new ht)⟩) hs3) hs2) hs1)
end
theorem getD_mem {ns : List Int} {k : Nat} (h : k < ns.length) : ns.getD k 0 ∈ ns := by
  rw [List.getD_eq_getElem?_getD, List.getElem?_eq_getElem h]
  exact List.getElem_mem h
abbrev kindsG : List Str := ["names", "tree", "number", "bits", "marks", "clock"]
theorem kinds_wd : ∀ z ∈ kindsG, Wd 6 z := fun z h => by
  simp only [kindsG, List.mem_cons, List.not_mem_nil, or_false] at h
  rcases h with h | h | h | h | h | h <;> rw [h] <;> exact wd_lit (by decide +kernel)
def spLField : Sp := fun vs H Q _ => ∃ (c : Int) (nm : Str), vs = [.int c, .str nm, .bl false] ∧ Wd 8 nm ∧ ∀ y H', Ex H H' → GF H' y → Q y H'
def spLFields : Sp := fun vs H Q _ => ∃ (c : Int) (m : Nat), vs = [.int c, .int m, .bl false] ∧ 1 ≤ m ∧ m ≤ 4 ∧ ∀ t fs H', Ex H H' → Rd H' t (.tup fs) → fs.length = m → (∀ v ∈ fs, GF H' v) → Q (.ref t) H'
theorem paired_GF {α : Type} {H : Hp} : ∀ {ws : List α} {ys : List V}, Paired (fun (_ : α) y => GF H y) ws ys → ys.length = ws.length ∧ ∀ v ∈ ys, GF H v
  | _, _, .nil => ⟨rfl, fun _ h => by cases h⟩
  | _, _, .cons h t => by
    obtain ⟨h2, h3⟩ := paired_GF t
    exact ⟨by rw [List.length_cons, List.length_cons, h2], fun u hu => by
      rcases List.mem_cons.mp hu with q | q
      · rw [q]; exact h
      · exact h3 u q⟩
section
variable {P : Program} {w : World} {K : PySem.W.Frag} {mg : Str → Option Value} {base : Heap}
theorem ok_lField (T : Tx K mg) : Gd P w K mg base 4 "_law_field" spLField := by
  have GM : Gd P w K mg base 1 "_law_mixed" (spI2 mixM) := ok_lMixed T
  have GG : Gd P w K mg base 2 "_law_great" (spI2 greatM) := ok_lGreat T
  have GN : Gd P w K mg base 2 "_law_names" spLNames := ok_lNames T
  have GP : Gd P w K mg base 3 "_law_paths" spLPaths := ok_lPaths T
  refine gd_of T dLawField 42 T.g__law_field scLawField (fun _ _ _ _ _ _ us hl => match us, hl with | [_, _, _], _ => rfl) (fun _ _ _ _ ⟨_, _, e, _⟩ => by subst e; rfl) fun f cdv A outer s H vs Q E hr ⟨c, nm, e, hn, k⟩ => ?_
  subst e
  have nd := scLawField.nd
  have hr2 : Room 2 (Cxd dLawField P w K mg base nLawField f cdv A outer s H E).A := hr.mono (by decide)
  refine xb_setR 3 (er_ixL (ws := kindsG) (ll_sl (l_lst (a_cons v_str (a_cons v_str (a_cons v_str (a_cons v_str (a_cons v_str (a_cons v_str a_nil)))))))) (v_mod (v_mix GM hr (v_v 0) v_int) (vl_is (w := .int 6) (v_pick (ns := [6, 5]) (ll_sl (l_lst (a_cons v_int (a_cons v_int a_nil)))) (v_intB T.f_int (v_v 2)) (by decide) (by decide)) rfl) (by decide)) (mod_b _ (by decide)).1 (mod_b _ (by decide)).2) fun y H1 e1 ⟨kd, ey, hk⟩ => ?_
  subst ey
  have hkw := kinds_wd kd hk
  obtain ⟨r, her, lr⟩ := mod_nat (mixM c 31) (n := 9) (by decide)
  refine xb_set 4 (v := .int ((1 + r : Nat) : Int)) (vl_is (v_add v_int (v_mod (v_mix GM hr (v_v 0) v_int) (vl_is (w := .int 9) (v_pick (ns := [9, 4]) (ll_sl (l_lst (a_cons v_int (a_cons v_int a_nil)))) (v_intB T.f_int (v_v 2)) (by decide) (by decide)) rfl) (by decide))) (by rw [show (9 : Int) = ((9 : Nat) : Int) from rfl, her]; rfl)) fun H2 e2 => ?_
  have fin : ∀ {y : V} {H3 H4 : Hp} {t : Addr}, Ex H2 H3 → ThG kd y H3 → H4 t = some (.tup [.str nm, .str kd, y]) → Ex H3 H4 → Q (.ref t) H4 := fun e3 h ht e4 => k _ _ (((e1.trans e2).trans e3).trans e4) ⟨_, nm, kd, _, rfl, .inl ht, hn, hkw, h.tex (.of e4)⟩
  refine xb_when (k := decide (kd = "names")) (bl_is (bc (c_eq (v_v 3) v_str)) dec_V) (fun q H3 e3 => ?_) fun q1 H3 e3 => ?_
  · exact xb_retE (xe_tup3 (v_v 1) (v_v 3) (er_tupleW T.f_tuple (er_call GN hr2 (a_cons (v_add (v_v 0) v_int) (a_1 (v_v 4))) (spLNames_r (m := 1 + r) (by omega)))) fun t z H4 H5 e4 hz ht e5 => fin (e3.trans e4) (.inl ⟨of_decide_eq_true q, let ⟨t', ws, a, b, l, p⟩ := hz; ⟨t', ws, a, b, by omega, by omega, p⟩⟩) ht e5)
  refine xb_when (k := decide (kd = "tree")) (bl_is (bc (c_eq (v_v 3) v_str)) dec_V) (fun q H4 e4 => ?_) fun q2 H4 e4 => ?_
  · exact xb_retE (xe_tup3 (v_v 1) (v_v 3) (er_tupleW T.f_tuple (er_call GP hr (a_cons (v_add (v_v 0) v_int) (a_1 (v_v 4))) (spLPaths_r (m := 1 + r) (by omega)))) fun t z H5 H6 e5 hz ht e6 => fin ((e3.trans e4).trans e5) (.inr (.inl ⟨of_decide_eq_true q, let ⟨t', ws, a, b, l, p⟩ := hz; ⟨t', ws, a, b, by omega, by omega, p⟩⟩)) ht e6)
  refine xb_no (bl_is (b_w (w_and (j := decide (kd = "number")) (k := false) (bl_is (bc (c_eq (v_v 3) v_str)) dec_V) fun _ => w_and1 (b_v (v_v 2)))) (Bool.and_false _)) fun H5 e5 => ?_
  refine xb_when (k := decide (kd = "number")) (bl_is (bc (c_eq (v_v 3) v_str)) dec_V) (fun q H6 e6 => ?_) fun q3 H6 e6 => ?_
  · have b1 := mod_b (mixM c 32) (n := 9) (by decide)
    have b2 := greatM_b c 33
    have b3 := mod_b (mixM c 34) (n := 3) (by decide)
    refine xb_retE (xe_tup3 (R := fun y _ => y = .int (([mixM c 32 % 9, greatM c 33, 1000000000000] : List Int).getD (mixM c 34 % 3).toNat 0)) (v_v 1) (v_v 3) (vl_er (v_pick (ns := [mixM c 32 % 9, greatM c 33, 1000000000000]) (ll_sl (l_lst (a_cons (v_mod (v_mix GM hr (v_v 0) v_int) v_int (by decide)) (a_cons (v_great GG hr (v_v 0) v_int) (a_cons (vl_is (v_pow v_int v_int ⟨by decide, by decide, by decide⟩) (by decide)) a_nil))))) (v_mod (v_mix GM hr (v_v 0) v_int) v_int (by decide)) b3.1 b3.2) fun _ _ => rfl) fun t z H7 H8 e7 hz ht e8 => fin (((e3.trans e4).trans (e5.trans e6)).trans e7) (.inr (.inr (.inl ⟨of_decide_eq_true q, _, hz, ?_⟩))) ht e8)
    have hm := getD_mem (ns := [mixM c 32 % 9, greatM c 33, 1000000000000]) (k := (mixM c 34 % 3).toNat) (by show _ < 3; omega)
    generalize ([mixM c 32 % 9, greatM c 33, 1000000000000] : List Int).getD (mixM c 34 % 3).toNat 0 = x at hm ⊢
    simp only [List.mem_cons, List.not_mem_nil, or_false] at hm
    rcases hm with h | h | h <;> omega
  refine xb_when (k := decide (kd = "bits")) (bl_is (bc (c_eq (v_v 3) v_str)) dec_V) (fun q H7 e7 => ?_) fun q4 H7 e7 => ?_
  · obtain ⟨r2, her2, lr2⟩ := mod_nat (mixM c 32) (n := 32) (by decide)
    exact xb_retE (xe_tup3 (R := fun y _ => y = .int ((1 + r2 : Nat) : Int)) (v_v 1) (v_v 3) (vl_er (vl_is (v_add v_int (v_mod (v_mix GM hr (v_v 0) v_int) (vl_is (w := .int 32) (v_pick (ns := [32, 2]) (ll_sl (l_lst (a_cons v_int (a_cons v_int a_nil)))) (v_intB T.f_int (v_v 2)) (by decide) (by decide)) rfl) (by decide))) (by have her2 : mixM c 32 % 32 = (r2 : Int) := her2; rw [her2]; rfl)) fun _ _ => rfl) fun t z H8 H9 e8 hz ht e9 => fin (((e3.trans e4).trans ((e5.trans e6).trans e7)).trans e8) (.inr (.inr (.inr (.inl ⟨of_decide_eq_true q, 1 + r2, hz, by omega, by omega⟩)))) ht e9)
  refine xb_when (k := decide (kd = "marks")) (bl_is (bc (c_eq (v_v 3) v_str)) dec_V) (fun q H8 e8 => ?_) fun q5 H8 e8 => ?_
  · exact xb_retE (xe_tup3 (v_v 1) (v_v 3) (er_tupleW T.f_tuple (er_call GN hr2 (a_cons (v_add (v_v 0) v_int) (a_1 (vl_is (w := .int ((1 + (1 + r) % 5 : Nat) : Int)) (v_add v_int (v_mod (v_v 4) (vl_is (w := .int 5) (v_pick (ns := [5, 2]) (ll_sl (l_lst (a_cons v_int (a_cons v_int a_nil)))) (v_intB T.f_int (v_v 2)) (by decide) (by decide)) rfl) (by decide))) rfl))) (spLNames_r (m := 1 + (1 + r) % 5) (by omega)))) fun t z H9 H10 e9 hz ht e10 => fin (((e3.trans e4).trans ((e5.trans e6).trans (e7.trans e8))).trans e9) (.inr (.inr (.inr (.inr (.inl ⟨of_decide_eq_true q, let ⟨t', ws, a, b, l, p⟩ := hz; ⟨t', ws, a, b, by omega, by omega, p⟩⟩))))) ht e10)
  refine xb_retE (xe_tup3 (R := fun y _ => y = .non) (v_v 1) (v_v 3) (vl_er v_non fun _ _ => rfl) fun t z H9 H10 e9 hz ht e10 => fin (((e3.trans e4).trans ((e5.trans e6).trans (e7.trans e8))).trans e9) (.inr (.inr (.inr (.inr (.inr ⟨?_, hz⟩))))) ht e10)
  simp only [kindsG, List.mem_cons, List.not_mem_nil, or_false] at hk
  have := of_decide_eq_false q1
  have := of_decide_eq_false q2
  have := of_decide_eq_false q3
  have := of_decide_eq_false q4
  have := of_decide_eq_false q5
  rcases hk with h | h | h | h | h | h <;> first | contradiction | exact h
theorem ok_lFields (T : Tx K mg) : Gd P w K mg base 5 "_law_fields" spLFields := by
  have GM : Gd P w K mg base 1 "_law_mixed" (spI2 mixM) := ok_lMixed T
  have GN : Gd P w K mg base 2 "_law_names" spLNames := ok_lNames T
  have GF' : Gd P w K mg base 4 "_law_field" spLField := ok_lField T
  refine gd_of T dLawFields 43 T.g__law_fields scLawFields (fun _ _ _ _ _ _ us hl => match us, hl with | [_, _, _], _ => rfl) (fun _ _ _ _ ⟨_, _, e, _⟩ => by subst e; rfl) fun f cdv A outer s H vs Q E hr ⟨c, m, e, h1, h4, k⟩ => ?_
  subst e
  have nd := scLawFields.nd
  have hr2 : Room 2 (Cxd dLawFields P w K mg base nLawFields f cdv A outer s H E).A := hr.mono (by decide)
  refine xb_setR 3 (er_call GN hr2 (a_cons (v_v 0) (a_1 (v_v 1))) (spLNames_r (m := m) (by omega))) fun y H1 e1 ⟨nl, ns, ey, hnl, lns, pns⟩ => ?_
  subst ey
  refine xb_retR (er_tupleG (P := fun xs H => xs.length = m ∧ ∀ v ∈ xs, GF H v) (fun xs H H' e h => ⟨h.1, fun v hv => (h.2 v hv).mono e⟩) T.f_tuple (cp_er (lc_gen (i := 4) (own := [("_law_k", 4)]) (ws := List.range m) (enc := fun j : Nat => V.int (j : Int)) (fun _ => true) (fun _ _ y H => GF H y) nd rfl (blkOk_by (N := nLawFields) (sc := defScope sLawFields) (by decide +kernel))
    (il_Rn T.f_range (v_v 1) (by omega)) (by rw [List.length_range]; omega) (fun _ _ _ _ _ => ⟨by assumption, rfl, Or.inl rfl, Or.inr rfl⟩) (by intro _; rfl) (fun _ _ _ _ _ _ _ => q_nil)
    (fun _ _ _ _ _ j hj _ D acc H2 e2 _ _ Q' k' => ?_) (fun _ _ _ _ _ e h => h.mono e) (fun _ _ _ _ _ _ h hl => h.upd hl)) fun q ys H1 H2 h pr => ?_)) fun y H2 e2 ⟨t, fs, ey, ht, lf, pf⟩ => ?_
  · have hj := List.mem_range.mp hj
    refine xe_call GF' hr passL (xa_cons (xe_v (v_mix GM hr (v_v 0) (v_add v_int (v_v 4))) fun H3 e3 => xa_cons ((ts_ixL (ws := ns) (n := 8) (vl_sl (v_v 3) (sq_of ((e2.trans e3) _ _ hnl))) pns (v_v 4) (by omega) (by omega)) H3 (Ex.refl _) _ fun y H4 e4 ⟨nm, ey, wn⟩ => xa_cons (xe_v (v_v 2) fun H5 e5 => xa_nil ⟨mixM c (40 + (j : Int)), nm, (by rw [ey]), wn, fun y2 H6 e6 g => k' y2 H6 ((e3.trans e4).trans (e5.trans e6)) g⟩))))
  · rw [filter_tt] at pr
    obtain ⟨a, b⟩ := paired_GF pr
    exact ⟨q, ys, rfl, h, by rw [a, List.length_range], b⟩
  · subst ey
    exact k t fs H2 (e1.trans e2) ht lf pf
end
end Gw

set_option maxRecDepth 100000
set_option maxHeartbeats 4000000
/-! The builder's words. -/
namespace Gw
open PySem PySem.Spec PyProof.Rows L2 Evl SX
section
variable {X : Cx} {e a b c o : Expr} {es : List Expr} {rest : List Stmt} {σ : L2.St} {H H' : Hp} {Q : VK} {D : Ends} {v w x y z : V} {xs ys vs : List V} {pos p p2 p3 p4 apos : Pos} {R R' : V → Hp → Prop} {n m : Nat} {u u2 : Str}
theorem ts_numK {i : Int} (k : Nat) (hm : X.mg "str" = none) (h : Vl X e σ H (.int i)) (h0 : 0 ≤ i) (hi : i < 10 ^ k) (hk : 0 < k ∧ k ≤ 13) (hg : Gl X "str" := by rfl) (hs : starEach [e] X.env = (false, eval e X.env) :: starEach [] X.env := by rfl) (hpl : (backTo pos (starEach [] X.env)).any (·.1) = false := by rfl) :
    Ts X (.Call (.Name "str" p) [e] [] pos) σ H k := ts_v (v_strI hm h (by
      have h3 : (10 : Int) ^ k ≤ 10 ^ 13 := by
        have := Nat.pow_le_pow_right (n := 10) (by decide) hk.2
        exact_mod_cast this
      have h2 : i.natAbs < 2 ^ 64 := by omega
      by_cases z : i.natAbs = 0
      · rw [z]; decide
      · exact Nat.lt_of_lt_of_le ((Nat.log2_lt z).mpr h2) (by decide)) hg hs hpl) (wd_num h0 hk.1 hi)
/-- z.partition(u)[0] -/
theorem ts_part {j : Nat} (hu : u2 = S [47]) (ho : Vl X o σ H (.str u)) (hw : Wd n u) (he : Vl X e σ H (.str u2)) (hn : n ≤ 40000 := by decide) (hs : starEach [e] X.env = [(false, eval e X.env)] := by rfl) (hbase : attributeBase o "partition" X.env (eval o X.env) = eval o X.env := by rfl) (hline : (apos.endLine == pos.line) = true := by rfl)
    (hs2 : PlainIx (.Constant (.int 0) j p2) := by exact fun _ _ => rfl) : Ts X (.Subscript (.Call (.Attribute o "partition" apos) [e] [] pos) (.Constant (.int 0) j p2) p3) σ H n := by
  have hl := wd_tl hw
  have t := ul_tu (u_partW (X := X) (a := u.cps.toList) (b := [47]) (pos := pos) (apos := apos) hu (by exact ho) he (Nat.le_trans hl.1 hn) (by simp) hs hbase hline)
  cases ep : TL.par [47] [] u.cps.toList with
  | none =>
    have q : parV [47] u.cps.toList = [.str u, .str (S []), .str (S [])] := by unfold parV; rw [ep]
    rw [q] at t
    exact ts_v (v_ixT t v_int rfl hs2) hw
  | some pq =>
    obtain ⟨p, q⟩ := pq
    have q : parV [47] u.cps.toList = [.str (S p), .str (S [47]), .str (S q)] := by unfold parV; rw [ep]
    rw [q] at t
    have ea := par_some_eq ep
    refine ts_v (v_ixT t v_int rfl hs2) (wd_S.mpr ⟨?_, fun c hc => hl.2 c (by rw [ea]; exact List.mem_append_left _ hc)⟩)
    rw [ea, List.length_append] at hl
    omega
/-- arguments, each a text -/
def Ta (X : Cx) (es : List Expr) (σ : L2.St) (H : Hp) (m n : Nat) : Prop := ∀ H1, Ex H H1 → ∀ Q : List V → Hp → Prop, (∀ (us : List Str) H2, Ex H1 H2 → NsP m n us → Q (us.map V.str) H2) → XA X es σ H1 Q
theorem ta_nil : Ta X [] σ H 0 n := fun H1 e1 Q k => a_nil H1 e1 Q fun H2 e2 => k [] H2 e2 ⟨rfl, fun _ h => by cases h⟩
theorem ta_cons (ha : Ts X a σ H n) (hr : Ta X es σ H m n) (hs : starEach (a :: es) X.env = (false, eval a X.env) :: starEach es X.env := by rfl) : Ta X (a :: es) σ H (m + 1) n := fun H1 e1 Q k => xa_cons (ha H1 e1 _ fun y H2 e2 ⟨z, ey, wz⟩ => hr H2 (e1.trans e2) _ fun us H3 e3 ⟨l, p⟩ => by
  rw [ey]
  exact k (z :: us) H3 (e2.trans e3) ⟨by rw [List.length_cons, l], fun u hu => by
    rcases List.mem_cons.mp hu with q | q
    · rw [q]; exact wz
    · exact p u q⟩) hs
theorem er_lst (h : Ta X es σ H m n) (hm : m ≤ 1000 := by decide) : Er X (.List es pos) σ H (LsW (NsP m n)) := fun H1 e1 Q k => xe_lst (h H1 e1 _ fun us H2 e2 pu => ⟨by rw [List.length_map, pu.1]; omega, fun l hl => k _ _ (e2.trans (Ex.new hl)) ⟨l, us, rfl, upd_same, pu⟩⟩)
theorem er_cat {P P' : List Str → Prop} (ha : Er X a σ H (LsW P)) (hb : Er X b σ H (LsW P')) (h : ∀ us vs, P us → P' vs → us.length + vs.length ≤ 16777216) : Er X (.BinOp a .Add b pos) σ H (LsW fun ws => ∃ us vs, ws = us ++ vs ∧ P us ∧ P' vs) := fun H1 e1 Q k => xe_of (pe_op op_cat pe_xe pe_xe)
  (ha H1 e1 _ fun y H2 e2 ⟨l, us, ey, hl, pu⟩ => hb H2 (e1.trans e2) _ fun y2 H3 e3 ⟨l2, vs, ey2, hl2, pv⟩ => ⟨l, l2, us.map V.str, vs.map V.str, ey, ey2, e3 _ _ hl, hl2, (by rw [List.length_map, List.length_map, sizeLine_eq]; exact h us vs pu pv), fun r hr => k _ _ ((e2.trans e3).trans (Ex.new hr)) ⟨r, us ++ vs, rfl, (by rw [upd_same, List.map_append]), us, vs, rfl, pu, pv⟩⟩)
theorem xb_retL {P : List Str → Prop} (h : Er X e σ H (LsW P)) (k : ∀ y H1, Ex H H1 → LsW P y H1 → D.rt y H1) : XB X (.Return (some e) pos :: rest) D σ H := xb_retR h k
end
def WsP (ws : List Str) : Prop := 1 ≤ ws.length ∧ ws.length ≤ 40 ∧ ∀ w ∈ ws, Wd 45 w
theorem WsP.cat {us vs : List Str} (h1 : 1 ≤ us.length) (h2 : us.length + vs.length ≤ 40) (hu : ∀ w ∈ us, Wd 45 w) (hv : ∀ w ∈ vs, Wd 45 w) : WsP (us ++ vs) := ⟨by rw [List.length_append]; omega, by rw [List.length_append]; exact h2, fun w hw => by
  rcases List.mem_append.mp hw with q | q
  · exact hu w q
  · exact hv w q⟩
theorem LsW.imp {P P' : List Str → Prop} {y : V} {H : Hp} (h : LsW P y H) (k : ∀ ws, P ws → P' ws) : LsW P' y H := let ⟨l, ws, a, b, c⟩ := h; ⟨l, ws, a, b, k ws c⟩
def spLWords : Sp := fun vs H Q _ => ∃ (c : Int) (fv : V) (gl : Addr) (gs : List Str), vs = [.int c, fv, .ref gl] ∧ GF H fv ∧ H gl = some (.lst (gs.map V.str)) ∧ gs.length ≤ 16 ∧ (∀ w ∈ gs, Wd 8 w) ∧ ∀ y H', Ex H H' → LsW WsP y H' → Q y H'
section
variable {P : Program} {w : World} {K : PySem.W.Frag} {mg : Str → Option Value} {base : Heap}
theorem ok_lWords (T : Tx K mg) : Gd P w K mg base 3 "_law_words" spLWords := by
  have GM : Gd P w K mg base 1 "_law_mixed" (spI2 mixM) := ok_lMixed T
  have GG : Gd P w K mg base 2 "_law_great" (spI2 greatM) := ok_lGreat T
  refine gd_of T dLawWords 44 T.g__law_words scLawWords (fun _ _ _ _ _ _ us hl => match us, hl with | [_, _, _], _ => rfl) (fun _ _ _ _ ⟨_, _, _, _, e, _⟩ => by subst e; rfl) fun f cdv A outer s H vs Q E hr ⟨c, fv, gl, gs, e, hf, hgl, lg, pg, k⟩ => ?_
  subst e
  have nd := scLawWords.nd
  obtain ⟨fa, nm, kd, tv, rfl, hfa, wn, wk, ht⟩ := hf
  refine xb_un2 3 4 (tu_is (ul_tu (u_slT (vl_tu (v_v 1) (.inl hfa)) (o_s v_int) o_n slT1)) (show cutV _ (some ((1 : Nat) : Int)) none = [.str kd, tv] by rw [cutV_from]; rfl)) fun H1 e1 => ?_
  have ht := ht.tex (.of e1)
  refine xb_when (k := decide (kd = "names")) (bl_is (bc (c_eq (v_v 3) v_str)) dec_V) (fun q H2 e2 => ?_) fun q1 H2 e2 => ?_
  · rcases ht with ⟨_, t, ws, ey, htt, l1, l2, pw⟩ | ⟨h, _⟩ | ⟨h, _⟩ | ⟨h, _⟩ | ⟨h, _⟩ | ⟨h, _⟩
    case inl =>
      subst ey
      refine xb_retL (er_cat (P := (· = ws)) (P' := (· = gs)) (er_ll (l_listT T.f_list (vl_tu (v_v 4) (.inl (ex_rd e2 htt)))) rfl) (er_vls (v_v 2) ((e1.trans e2) _ _ hgl) rfl) (fun us vs a b => by rw [a, b]; omega)) fun y H3 e3 hy => k y H3 ((e1.trans e2).trans e3) (hy.imp ?_)
      rintro _ ⟨us, vs, rfl, rfl, rfl⟩
      exact WsP.cat l1 (by omega) (fun w hw => (pw w hw).mono (by decide)) fun w hw => (pg w hw).mono (by decide)
    all_goals exact absurd q (by rw [h]; decide +kernel)
  refine xb_when (k := decide (kd = "tree")) (bl_is (bc (c_eq (v_v 3) v_str)) dec_V) (fun q H3 e3 => ?_) fun q2 H3 e3 => ?_
  · rcases ht with ⟨h, _⟩ | ⟨_, t, ws, ey, htt, l1, l2, pw⟩ | ⟨h, _⟩ | ⟨h, _⟩ | ⟨h, _⟩ | ⟨h, _⟩
    case inr.inl =>
      subst ey
      have hne : ws ≠ [] := fun z => by rw [z] at l1; cases l1
      refine xb_retL (er_cat (P := (· = ws)) (P' := NsP 3 27) (er_ll (l_listT T.f_list (vl_tu (v_v 4) (.inl (ex_rd (e2.trans e3) htt)))) rfl) (er_lst (ta_cons (ts_lit (n := 27)) (ta_cons (ts_add (n := 26) (m := 1) (ts_ixT (ws := ws) (vl_tu (v_v 4) (.inl (ex_rd (e2.trans e3) htt))) pw v_int (by decide) (by omega)) ts_lit)
        (ta_cons (ts_add (n := 26) (m := 1) (ts_part litSlash (u := ws.getLast hne) (v_ixT (v := .str (ws.getLast hne)) (vl_tu (v_v 4) (.inl (ex_rd (e2.trans e3) htt))) (v_neg v_int) (by rw [show (-1 : Int) = -1 from rfl, atI_last, List.getLast?_map, List.getLast?_eq_some_getLast hne]; rfl)) (pw _ (List.getLast_mem hne)) v_str) ts_lit) ta_nil)))) (fun us vs a b => by rw [a, b.1]; omega)) fun y H4 e4 hy => k y H4 ((e1.trans (e2.trans e3)).trans e4) (hy.imp ?_)
      rintro _ ⟨us, vs, rfl, rfl, pv⟩
      exact WsP.cat l1 (by rw [pv.1]; omega) (fun w hw => (pw w hw).mono (by decide)) fun w hw => (pv.2 w hw).mono (by decide)
    all_goals exact absurd q (by rw [h]; decide +kernel)
  refine xb_when (k := decide (kd = "number")) (bl_is (bc (c_eq (v_v 3) v_str)) dec_V) (fun q H4 e4 => ?_) fun q3 H4 e4 => ?_
  · rcases ht with ⟨h, _⟩ | ⟨h, _⟩ | ⟨_, n, ey, n0, n1⟩ | ⟨h, _⟩ | ⟨h, _⟩ | ⟨h, _⟩
    case inr.inr.inl =>
      subst ey
      have b := mod_b (greatM c 72) (n := n + 1) (by omega)
      refine xb_setR 5 (ts_num T.f_str (v_mod (v_great GG hr (v_v 0) v_int) (v_add (v_v 4) v_int) (by omega)) b.1 (by omega)) fun y H5 e5 ⟨low, ey, wl⟩ => ?_
      subst ey
      refine xb_setR 6 (ts_add (n := 15) (m := 13) (ts_add (n := 13) (m := 2) (ts_v (v_v 5) wl) ts_lit) (ts_num T.f_str (v_v 4) n0 (by omega))) fun y H6 e6 ⟨both, ey, wb⟩ => ?_
      subst ey
      refine xb_retL (er_cat (P := NsP 4 15) (P' := ManyW 28 1) (er_lst (ta_cons (ts_lit (n := 15)) (ta_cons (ts_mono (n := 13) (ts_v (v_v 5) wl) (by decide)) (ta_cons (ts_add (n := 13) (m := 2) (ts_v (v_v 5) wl) ts_lit) (ta_cons (ts_add (n := 2) (m := 13) ts_lit (ts_v (v_v 5) wl)) ta_nil))))) (er_ll (ws := if !decide (V.str low = V.str (toString n : String)) then [both] else []) (ll_is (l_rep1 (k := !decide (V.str low = V.str (toString n : String))) (ll_hl (l_lst (a_1 (v_v 6)))) (v_intB T.f_int (vc (c_ne (v_v 5) (v_strI T.f_str (v_v 4) ?_)))) (by simp)) ?_) ?_) (fun us vs a b => by rw [a.1]; have := b.1; omega)) fun y H7 e7 hy => k y H7 ((e1.trans (e2.trans (e3.trans e4))).trans (e5.trans (e6.trans e7))) (hy.imp ?_)
      · by_cases z : n.natAbs = 0
        · rw [z]; decide
        · exact Nat.lt_of_lt_of_le ((Nat.log2_lt z).mpr (show n.natAbs < 2 ^ 64 by omega)) (by decide)
      · split <;> rfl
      · split
        · exact ⟨by simp, fun w hw => by rw [List.mem_singleton.mp hw]; exact wb⟩
        · exact ⟨by simp, fun w hw => by cases hw⟩
      · rintro _ ⟨us, vs, rfl, pu, pv⟩
        exact WsP.cat (by rw [pu.1]; decide) (by rw [pu.1]; have := pv.1; omega) (fun w hw => (pu.2 w hw).mono (by decide)) fun w hw => (pv.2 w hw).mono (by decide)
    all_goals exact absurd q (by rw [h]; decide +kernel)
  refine xb_when (k := decide (kd = "bits")) (bl_is (bc (c_eq (v_v 3) v_str)) dec_V) (fun q H5 e5 => ?_) fun q4 H5 e5 => ?_
  · rcases ht with ⟨h, _⟩ | ⟨h, _⟩ | ⟨h, _⟩ | ⟨_, n, ey, n0, n1⟩ | ⟨h, _⟩ | ⟨h, _⟩
    case inr.inr.inr.inl =>
      subst ey
      refine xb_setR 7 (ts_joinM (n := 1) (m := 32) (k := 0) v_str (wd_lit (by decide +kernel)) (by decide) (cp_er (lc_txt (i := 9) (own := [("_law_k", 9)]) (ws := List.range n) (enc := fun j : Nat => V.int (j : Int)) 1 (il_Rn T.f_range (v_v 4) (by omega)) (by rw [List.length_range]; omega) (blkOk_by (N := nLawWords) (sc := defScope sLawWords) (by decide +kernel))
        (fun _ _ _ _ _ j _ => ts_numK 1 T.f_str (v_mod (v_mix GM hr (v_v 0) (v_add v_int (v_v 9))) v_int (by decide)) (mod_b _ (by decide)).1 (Int.lt_of_lt_of_le (mod_b _ (by decide)).2 (by decide)) (by decide))) fun q ys H1 H2 h ⟨us, ey, lu, pu⟩ => ⟨q, us, rfl, by rw [h, ey], by rw [lu, List.length_range]; exact n1, pu⟩)) fun y H6 e6 ⟨bits, ey, wb⟩ => ?_
      subst ey
      exact xb_retL (er_lst (m := 3) (n := 33) (ta_cons (ts_lit (n := 33)) (ta_cons (ts_mono (n := 32) (ts_v (v_v 7) wb) (by decide)) (ta_cons (ts_add (n := 32) (m := 1) (ts_slice (v_v 7) wb o_n (o_s (v_fdiv (v_v 4) v_int ⟨by decide, by decide⟩))) ts_lit) ta_nil)))) fun y H7 e7 hy => k y H7 ((e1.trans (e2.trans (e3.trans (e4.trans e5)))).trans (e6.trans e7)) (hy.imp fun ws pw => ⟨by rw [pw.1]; decide, by rw [pw.1]; decide, fun w hw => (pw.2 w hw).mono (by decide)⟩)
    all_goals exact absurd q (by rw [h]; decide +kernel)
  refine xb_when (k := decide (kd = "marks")) (bl_is (bc (c_eq (v_v 3) v_str)) dec_V) (fun q H6 e6 => ?_) fun q5 H6 e6 => ?_
  · rcases ht with ⟨h, _⟩ | ⟨h, _⟩ | ⟨h, _⟩ | ⟨h, _⟩ | ⟨_, t, ws, ey, htt, l1, l2, pw⟩ | ⟨h, _⟩
    case inr.inr.inr.inr.inl =>
      subst ey
      have hne : ws ≠ [] := fun z => by rw [z] at l1; cases l1
      have ee := e2.trans (e3.trans (e4.trans (e5.trans e6)))
      refine xb_setC 8 (lc_txtE (i := 9) (l := 10) (own := [("_law_k", 9), ("_law_mark", 10)]) (ws := ws) (enc := V.str) 9 T.f_enumerate (vl_tu (v_v 4) (.inl (ex_rd ee htt))) (by omega) (blkOk_by (N := nLawWords) (sc := defScope sLawWords) (by decide +kernel))
        (fun _ _ _ _ _ w hw j _ => ts_add (n := 1) (m := 8) (ts_ix (u := "+-") (n := 2) v_str (wd_lit (by decide +kernel)) (v_mod (v_mix GM hr (v_v 0) (v_add v_int (v_v 9))) v_int (by decide)) (mod_b _ (by decide)).1 (mod_b _ (by decide)).2) (ts_v (v_v 10) (pw w hw)))) fun sl ys H7 hsl e7 h7 ⟨us, ey, lu, pu⟩ => ?_
      subst ey
      refine xb_retL (er_lst (m := 3) (n := 45) (ta_cons (ts_mono (n := 9) (ts_add (n := 1) (m := 8) ts_lit (ts_ixT (ws := ws) (vl_tu (v_v 4) (.inl (ex_rd (ee.trans e7) htt))) pw v_int (by decide) (by omega))) (by decide)) (ta_cons (ts_mono (n := 9) (ts_add (n := 1) (m := 8) ts_lit (ts_ixTl (ws := ws) (vl_tu (v_v 4) (.inl (ex_rd (ee.trans e7) htt))) pw (v_neg v_int) hne)) (by decide)) (ta_cons (ts_joinM (n := 9) (m := 5) (k := 0) v_str (wd_lit (by decide +kernel)) (by decide) (er_vls (v_v 8) h7 ⟨by omega, pu⟩)) ta_nil)))) fun y H8 e8 hy => k y H8 ((e1.trans ee).trans (e7.trans e8)) (hy.imp fun ws pw => ⟨by rw [pw.1]; decide, by rw [pw.1]; decide, fun w hw => (pw.2 w hw).mono (by decide)⟩)
    all_goals exact absurd q (by rw [h]; decide +kernel)
  · exact xb_retL (er_lst (m := 4) (n := 12) (ta_cons (ts_lit (n := 12)) (ta_cons (ts_lit (n := 12)) (ta_cons (ts_lit (n := 12)) (ta_cons (ts_lit (n := 12)) ta_nil))))) fun y H8 e8 hy => k y H8 (((e1.trans (e2.trans (e3.trans (e4.trans e5)))).trans e6).trans e8) (hy.imp fun ws pw => ⟨by rw [pw.1]; decide, by rw [pw.1]; decide, fun w hw => (pw.2 w hw).mono (by decide)⟩)
end
end Gw

set_option maxRecDepth 100000
set_option maxHeartbeats 4000000
/-! The builder's condition words, its field lines, its rule lines. -/
namespace Gw
open PySem PySem.Spec PyProof.Rows L2 Evl SX
section
variable {X : Cx} {e a b c o f : Expr} {es : List Expr} {rest : List Stmt} {σ : L2.St} {H H' : Hp} {Q : VK} {D : Ends} {v w x y z : V} {xs ys vs : List V} {pos p p2 p3 p4 apos cpos : Pos} {R R' : V → Hp → Prop} {n m : Nat} {u u2 : Str}
theorem op_mulS1 : OpR X (binaryOp .Mult) (fun x y H Q => ∃ (u : Str) (k : Bool), x = .str u ∧ y = .int (if k then 1 else 0) ∧ Q (.str (if k then u else Str.empty)) H) := by
  intro pins s σ H x y v w Q I rx ry h
  obtain ⟨u, k, rfl, rfl, q⟩ := h
  obtain ⟨t, rfl⟩ := rx
  obtain ⟨t', rfl⟩ := ry
  cases k with
  | false => exact PySem.P.mul_str_none (by decide) (by decide) ⟨.str Str.empty, H, I.tok _, ⟨_, rfl⟩, q⟩
  | true => exact PySem.P.mul_str (by decide) (fun _ h => by cases h) (fun _ h => by cases h) ⟨.str u, H, I, ⟨_, rfl⟩, q⟩
/-- u * int(b) -/
theorem ts_rep1 {k : Bool} (ha : Vl X a σ H (.str u)) (hw : Wd n u) (hb : Vl X b σ H (.int (if k then 1 else 0))) : Ts X (.BinOp a .Mult b pos) σ H n := fun H1 e1 Q q => xe_of (pe_op op_mulS1 pe_xe pe_xe)
  (ha H1 e1 _ fun H2 e2 => hb H2 (e1.trans e2) _ fun H3 e3 => ⟨u, k, rfl, rfl, q _ H3 (e2.trans e3) ⟨_, rfl, by
    cases k with
    | true => exact hw
    | false => exact ⟨Nat.zero_le _, fun c hc => by cases hc⟩⟩⟩)
theorem call_str_non : CallR X (.type "str") (fun xs H Q => xs = [.non] ∧ Q (.str "None") H) := by
  intro pins s σ H xs us Q I r h
  obtain ⟨rfl, q⟩ := h
  obtain ⟨u, rfl, r1⟩ := vals1 r
  cases r1
  exact PySem.P.str_of_none ⟨.str "None", H, I.tok _, ⟨_, rfl⟩, q⟩
theorem v_strN (hm : X.mg "str" = none) (h : Vl X e σ H .non) (hg : Gl X "str" := by rfl) (hs : starEach [e] X.env = (false, eval e X.env) :: starEach [] X.env := by rfl) (hpl : (backTo pos (starEach [] X.env)).any (·.1) = false := by rfl) :
    Vl X (.Call (.Name "str" p) [e] [] pos) σ H (.str "None") := vl_of (pe_callTy call_str_non hg hm (by decide +kernel) (pa_cons pe_xe pa_nil hs) (by decide) (by decide) hs hpl) fun H1 e1 Q q => h H1 e1 _ fun H2 e2 => ⟨rfl, q H2 e2⟩
/-- d.get(k, []) -/
theorem er_dget2 {k0 : Nat} {kvs : List (Key × V)} {q : Key} (hr : Room k0 X.A) (ha : Du X o σ H kvs) (hb : Vl X a σ H (kV q)) (hc : Er X b σ H R) (hv : ∀ v H', Ex H H' → valV kvs q = some v → R v H') (m : M2 X o "get" apos a b pos) : Er X (.Call (.Attribute o "get" apos) [a, b] [] pos) σ H R := fun H1 e1 Q kk =>
  xe_of (pe_dget2 (hu_of hr) pe_xe pe_xe pe_xe m) (ha H1 e1 _ fun ad H2 e2 h2 => ⟨ad, rfl, .inl ⟨kvs, .inl h2⟩, hb H2 (e1.trans e2) _ fun H3 e3 => hc H3 ((e1.trans e2).trans e3) _ fun y H4 e4 r => ⟨_, DGet.k ((e3.trans e4) _ _ h2), kk _ H4 ((e2.trans e3).trans e4) (by
    cases hq : valV kvs q with
    | none => exact r
    | some v => exact hv v H4 ((e1.trans e2).trans (e3.trans e4)) hq)⟩⟩)
end
theorem valV_mem {kvs : List (Key × V)} {q : Key} {v : V} (h : valV kvs q = some v) : ∃ kv ∈ kvs, kv.2 = v := by
  unfold valV at h
  cases e : kvs.find? (fun kv => decide (kv.1 = q)) with
  | none => rw [e] at h; cases h
  | some kv => rw [e] at h; exact ⟨kv, List.mem_of_find?_eq_some e, Option.some.inj h⟩
theorem tyT {K : PySem.W.Frag} {H : Hp} {t : Addr} {xs : List V} (h : Rd H t (.tup xs)) : TyX K H (.ref t) (.type "tuple") := by
  rcases h with h | ⟨ob, h⟩
  · exact .base (.tup h)
  · exact .fTuple h
/-- groups by field: lists of names -/
def GrD (H : Hp) (gd : Addr) (n : Nat) : Prop := ∃ kvs : List (Key × V), H gd = some (.dK kvs) ∧ kvs.length ≤ n ∧ ∀ kv ∈ kvs, LsW (ManyW 8 n) kv.2 H
theorem LsW.mono {P : List Str → Prop} {y : V} {H H' : Hp} (e : Ex H H') (h : LsW P y H) : LsW P y H' := let ⟨l, ws, a, b, c⟩ := h; ⟨l, ws, a, e _ _ b, c⟩
theorem GrD.mono {H H' : Hp} {gd : Addr} {n : Nat} (e : Ex H H') (h : GrD H gd n) : GrD H' gd n := let ⟨kvs, a, b, c⟩ := h; ⟨kvs, e _ _ a, b, fun kv hkv => (c kv hkv).mono e⟩
def spLCondW : Sp := fun vs H Q _ => ∃ (c : Int) (fv : V) (gl : Addr) (gs : List Str), vs = [.int c, fv, .ref gl] ∧ GF H fv ∧ H gl = some (.lst (gs.map V.str)) ∧ gs.length ≤ 16 ∧ (∀ w ∈ gs, Wd 8 w) ∧ ∀ y H', Ex H H' → Sw 148 y H' → Q y H'
def spLFieldLine : Sp := fun vs H Q _ => ∃ fv : V, vs = [fv] ∧ GF H fv ∧ ∀ y H', Ex H H' → Sw 900 y H' → Q y H'
def spLRuleLine : Sp := fun vs H Q _ => ∃ (c : Int) (ft gd al : Addr) (fs : List V) (as : List Str), vs = [.int c, .ref ft, .ref gd, .ref al] ∧ Rd H ft (.tup fs) ∧ fs.length ≤ 4 ∧ (∀ v ∈ fs, GF H v) ∧ GrD H gd 16 ∧ H al = some (.lst (as.map V.str)) ∧ as.length ≤ 16 ∧ (∀ w ∈ as, Wd 8 w) ∧ ∀ y H', Ex H H' → Sw 900 y H' → Q y H'
section
variable {P : Program} {w : World} {K : PySem.W.Frag} {mg : Str → Option Value} {base : Heap}
theorem ok_lCondW (T : Tx K mg) : Gd P w K mg base 4 "_law_condition_word" spLCondW := by
  have GM : Gd P w K mg base 1 "_law_mixed" (spI2 mixM) := ok_lMixed T
  have GW : Gd P w K mg base 3 "_law_words" spLWords := ok_lWords T
  refine gd_of T dLawConditionWord 45 T.g__law_condition_word scLawConditionWord (fun _ _ _ _ _ _ us hl => match us, hl with | [_, _, _], _ => rfl) (fun _ _ _ _ ⟨_, _, _, _, e, _⟩ => by subst e; rfl) fun f cdv A outer s H vs Q E hr ⟨c, fv, gl, gs, e, hf, hgl, lg, pg, k⟩ => ?_
  subst e
  have nd := scLawConditionWord.nd
  refine xb_setR 3 (er_call (R := LsW WsP) GW hr (a_cons (v_v 0) (a_cons (v_v 1) (a_1 (v_v 2)))) fun H1 e1 Q' k' E' => ⟨c, fv, gl, gs, rfl, hf.mono e1, e1 _ _ hgl, lg, pg, k'⟩) fun y H1 e1 ⟨wl, ws, ey, hwl, l1, l2, pw⟩ => ?_
  subst ey
  obtain ⟨r, her, lr⟩ := mod_nat (mixM c 85) (n := 3) (by decide)
  refine xb_set 4 (v := .int ((1 + r : Nat) : Int)) (vl_is (v_add v_int (v_mod (v_mix GM hr (v_v 0) v_int) v_int (by decide))) (by have her : mixM c 85 % 3 = (r : Int) := her; rw [her]; rfl)) fun H2 e2 => ?_
  have hlen : (0 : Int) < ((ws.map V.str).length : Int) := by rw [List.length_map]; omega
  refine xb_setC 5 (lc_txt (i := 6) (own := [("_law_k", 6)]) (ws := List.range (1 + r)) (enc := fun j : Nat => V.int (j : Int)) 45 (il_Rn T.f_range (v_v 4) (by omega)) (by rw [List.length_range]; omega) (blkOk_by (N := nLawConditionWord) (sc := defScope sLawConditionWord) (by decide +kernel))
    (fun _ _ _ _ _ j _ => ts_ixL (ws := ws) (vl_sl (v_v 3) (sq_of (e2 _ _ hwl))) pw (v_mod (v_mix GM hr (v_v 0) (v_add v_int (v_v 6))) (v_lenL T.f_len (vl_sl (v_v 3) (sq_of (e2 _ _ hwl)))) hlen) (mod_b _ hlen).1 (Int.lt_of_lt_of_le (mod_b _ hlen).2 (by rw [List.length_map]; exact Int.le_refl _)))) fun sl ys H3 hsl e3 h3 ⟨us, ey, lu, pu⟩ => ?_
  subst ey
  rw [List.length_range] at lu
  obtain ⟨fa, nm, kd, tv, rfl, hfa, wn, wk, ht⟩ := hf
  exact xb_retR (ts_mono (n := 10 + 138) (ts_add (n := 10) (m := 138) (ts_add (n := 9) (m := 1) (ts_add (n := 8) (m := 1) (ts_v (v_ixT (v := .str nm) (vl_tu (v_v 1) (.inl (ex_rd ((e1.trans e2).trans e3) hfa))) v_int rfl) wn) ts_lit) (ts_rep1 v_str (wd_lit (by decide +kernel)) (v_intB (k := decide (V.int (mixM c 86 % 4) = V.int 1)) T.f_int (vc (c_eq (v_mod (v_mix GM hr (v_v 0) v_int) v_int (by decide)) v_int))))) (ts_joinM (n := 45) (m := 3) (k := 1) v_str (wd_lit (by decide +kernel)) (by decide) (er_vls (v_v 5) h3 ⟨by omega, pu⟩))) (by decide)) fun y H4 e4 hy => k y H4 ((e1.trans e2).trans (e3.trans e4)) hy
theorem ok_lFieldLine (T : Tx K mg) : Gd P w K mg base 1 "_law_field_line" spLFieldLine := by
  refine gd_of T dLawFieldLine 47 T.g__law_field_line scLawFieldLine (fun _ _ _ _ _ _ us hl => match us, hl with | [_], _ => rfl) (fun _ _ _ _ ⟨_, e, _⟩ => by subst e; rfl) fun f cdv A outer s H vs Q E hr ⟨fv, e, hf, k⟩ => ?_
  subst e
  have nd := scLawFieldLine.nd
  obtain ⟨fa, nm, kd, tv, rfl, hfa, wn, wk, ht⟩ := hf
  refine xb_un3 1 2 3 (vl_tu (v_v 0) (.inl hfa)) fun H1 e1 => ?_
  have ht := ht.tex (.of e1)
  refine xb_setE 4 (xe_mono (Q := fun y H2 => ∃ wl ws, y = .ref wl ∧ Ex H1 H2 ∧ H2 wl = some (.lst (ws.map V.str)) ∧ ManyW 26 9 ws) ?_ ?_)
  · have conv : ∀ {n m : Nat}, n ≤ 26 → m ≤ 9 → TpW (TWn n m) tv H1 → TpW (ManyW 26 9) tv H1 := fun {n m} hn hm ⟨t, ws, ey, htt, l1, l2, pw⟩ => ⟨t, ws, ey, htt, by omega, fun w hw => (pw w hw).mono hn⟩
    have ht' : TpW (ManyW 26 9) tv H1 ∨ (∃ n : Int, tv = .int n ∧ 0 ≤ n ∧ n ≤ 1000000000000) ∨ tv = .non := by
      rcases ht with ⟨_, h⟩ | ⟨_, h⟩ | ⟨_, h⟩ | ⟨_, n, ey, n0, n1⟩ | ⟨_, h⟩ | ⟨_, ey⟩
      · exact .inl (conv (by decide) (by decide) h)
      · exact .inl (conv (by decide) (by decide) h)
      · exact .inr (.inl h)
      · exact .inr (.inl ⟨n, ey, by omega, by omega⟩)
      · exact .inl (conv (by decide) (by decide) h)
      · exact .inr (.inr ey)
    rcases ht' with ⟨t, ws, ey, htt, pw⟩ | ⟨n, ey, n0, n1⟩ | ey
    · subst ey
      exact xe_if (k := true) (b_v (v_isi (n := "tuple") (t := .type "tuple") T.f_isinstance (v_v 3) (fun H' e' => tyT (ex_rd e' htt)) T.f_tuple (by decide +kernel) (k := true) (by rfl)))
        (fun _ H2 e2 => (l_listT T.f_list (vl_tu (v_v 3) (.inl (ex_rd e2 htt)))) H2 (Ex.refl _) _ fun l H3 hl e3 h3 => ⟨l, ws, rfl, e2.trans e3, h3, pw⟩) (fun q => by cases q)
    · subst ey
      exact xe_if (k := false) (b_v (v_isi (n := "tuple") (t := .type "int") T.f_isinstance (v_v 3) (fun H' e' => .base (.int _)) T.f_tuple (by decide +kernel) (k := false) (by rfl))) (fun q => by cases q)
        fun _ H2 e2 => xe_lst (xa_cons ((ts_num T.f_str (v_v 3) n0 (by omega)) H2 (Ex.refl _) _ fun y H3 e3 ⟨z, ey, wz⟩ => xa_nil ⟨by simp, fun l hl => ⟨l, [z], rfl, (e2.trans e3).trans (Ex.new hl), by rw [upd_same, ey]; rfl, by simp, fun w hw => by rw [List.mem_singleton.mp hw]; exact wz.mono (by decide)⟩⟩))
    · subst ey
      exact xe_if (k := false) (b_v (v_isi (n := "tuple") (t := .type "NoneType") T.f_isinstance (v_v 3) (fun H' e' => .base .non) T.f_tuple (by decide +kernel) (k := false) (by rfl))) (fun q => by cases q)
        fun _ H2 e2 => xe_lst (xa_cons (xe_v (v_strN T.f_str (v_v 3)) fun H3 e3 => xa_nil ⟨by simp, fun l hl => ⟨l, ["None"], rfl, (e2.trans e3).trans (Ex.new hl), by rw [upd_same]; rfl, by simp, fun w hw => by rw [List.mem_singleton.mp hw]; exact wd_lit (by decide +kernel)⟩⟩))
  · rintro y H2 ⟨wl, ws, rfl, e2, hwl, pw⟩
    refine xb_retR (ts_joinM (n := 26) (m := 12) (k := 1) v_str (wd_lit (by decide +kernel)) (by decide) ((er_cat (P := NsP 3 26) (P' := ManyW 26 9) (er_lst (ta_cons (ts_lit (n := 26)) (ta_cons (ts_mono (ts_v (v_v 1) wn) (by decide)) (ta_cons (ts_mono (ts_v (v_v 2) wk) (by decide)) ta_nil)))) (er_ll (ws := if !decide (tv = .non) then ws else []) (ll_is (l_rep1 (k := !decide (tv = .non)) (vl_hl (v_v 4) hwl) (v_intB T.f_int (vc (c_notN (v_v 3)))) (by rw [List.length_map]; have := pw.1; omega)) (by split <;> rfl)) (by split; exact pw; exact ⟨Nat.zero_le _, fun w hw => by cases hw⟩)) (fun us vs a b => by rw [a.1]; have := b.1; omega)).imp fun y H' h => h.imp ?_)) fun y H3 e3 hy => k y H3 ((e1.trans e2).trans e3) (let ⟨a, q, wa⟩ := hy; ⟨a, q, wa.mono (by decide)⟩)
    rintro _ ⟨us, vs, rfl, pu, pv⟩
    refine ⟨by rw [List.length_append, pu.1]; have := pv.1; omega, fun w hw => ?_⟩
    rcases List.mem_append.mp hw with q | q
    · exact pu.2 w q
    · exact pv.2 w q
theorem ok_lRuleLine (T : Tx K mg) : Gd P w K mg base 5 "_law_rule_line" spLRuleLine := by
  have GM : Gd P w K mg base 1 "_law_mixed" (spI2 mixM) := ok_lMixed T
  have GC : Gd P w K mg base 4 "_law_condition_word" spLCondW := ok_lCondW T
  refine gd_of T dLawRuleLine 46 T.g__law_rule_line scLawRuleLine (fun _ _ _ _ _ _ us hl => match us, hl with | [_, _, _, _], _ => rfl) (fun _ _ _ _ ⟨_, _, _, _, _, _, e, _⟩ => by subst e; rfl) fun f cdv A outer s H vs Q E hr ⟨c, ft, gd, al, fs, as, e, hft, lf, pf, hg, hal, la, pa, k⟩ => ?_
  subst e
  have nd := scLawRuleLine.nd
  refine xb_setE 4 (xe_lst (xa_cons ((ts_ixL (ws := ["let", "refuse"]) (n := 6) (ll_sl (l_lst (a_cons v_str (a_cons v_str a_nil)))) (fun w hw => ?_) (v_mod (v_mix GM hr (v_v 0) v_int) v_int (by decide)) (mod_b _ (by decide)).1 (mod_b _ (by decide)).2) H (Ex.refl _) _ fun y H1 e1 ⟨w0, ey, ww⟩ => xa_nil ⟨by simp, fun wl hwl => ?_⟩)))
  · rcases List.mem_cons.mp hw with q | q
    · rw [q]; exact wd_lit (by decide +kernel)
    · rw [List.mem_singleton.mp q]; exact wd_lit (by decide +kernel)
  subst ey
  have en : Ex H (upd H1 wl (.lst [V.str w0])) := e1.trans (Ex.new hwl)
  have hw0 : upd H1 wl (.lst [V.str w0]) wl = some (.lst [V.str w0]) := upd_same
  generalize upd H1 wl (.lst [V.str w0]) = H2 at en hw0 ⊢
  have hwl0 : H wl = none := fresh_back e1 hwl
  have hln : (mixM c 113 % ((as.map V.str).length : Int)) = mixM c 113 % ((as.map V.str).length : Int) := rfl
  refine xb_ifM (k := !as.isEmpty && decide (mixM c 112 % 4 = 1)) (fun σ' H' => ∃ (wl : Addr) (ws : List Str), σ' = [some (.int c), some (.ref ft), some (.ref gd), some (.ref al), some (.ref wl), none, none, none] ∧ Ex H H' ∧ H wl = none ∧ H' wl = some (.lst (ws.map V.str)) ∧ ws.length ≤ 2 ∧ ∀ w ∈ ws, Wd 148 w)
    (b_w (w_and (bl_is (bc (c_neNil hr (vl_sl (v_v 3) (sq_of (en _ _ hal))))) (by rw [isEmpty_map])) fun _ => w_and1 (bl_is (bc (c_eq (v_mod (v_mix GM hr (v_v 0) v_int) v_int (by decide)) v_int)) (decide_eq_decide.mpr (by simp))))) (fun q H3 e3 => ?_) (fun q H3 e3 => xb_nil ⟨wl, [w0], rfl, en.trans e3, hwl0, e3 _ _ hw0, by simp, fun w hw => by rw [List.mem_singleton.mp hw]; exact ww.mono (by decide)⟩) ?_
  · have hne : 0 < as.length := by
      rw [Bool.and_eq_true] at q
      cases as with
      | nil => cases q.1
      | cons _ _ => simp
    have hne' : (0 : Int) < ((as.map V.str).length : Int) := by rw [List.length_map]; omega
    have hal3 := (en.trans e3) _ _ hal
    refine xb_setE 4 (xe_lst (xa_cons (xe_v v_str fun H4 e4 => xa_cons ((ts_ixL (ws := as) (n := 8) (vl_sl (v_v 3) (sq_of (e4 _ _ hal3))) pa (v_mod (v_mix GM hr (v_v 0) v_int) (v_lenL T.f_len (vl_sl (v_v 3) (sq_of (e4 _ _ hal3)))) hne') (mod_b _ hne').1 (Int.lt_of_lt_of_le (mod_b _ hne').2 (by rw [List.length_map]; exact Int.le_refl _))) H4 (Ex.refl _) _ fun y H5 e5 ⟨w1, ey, ww1⟩ => xa_nil ⟨by simp, fun wl2 hwl2 => ?_⟩))))
    subst ey
    have ee := (en.trans e3).trans (e4.trans e5)
    refine xb_nil ⟨wl2, ["pass", w1], rfl, ee.trans (Ex.new hwl2), fresh_back ee hwl2, upd_same, by simp, fun w hw => ?_⟩
    rcases List.mem_cons.mp hw with q | q
    · rw [q]; exact wd_lit (by decide +kernel)
    · rw [List.mem_singleton.mp q]; exact ww1.mono (by decide)
  · rintro σ' H' ⟨wl, ws, hσ, eH, hwl0, hwl', lw, pw⟩
    subst hσ
    refine xb_forET (ad := ft) 5 6 po_cx T.f_enumerate (v_v 1) (.inl (ex_rd eH hft)) (fun j σ2 H2 => ∃ (o5 o6 o7 : Option V) (ws : List Str), σ2 = [some (.int c), some (.ref ft), some (.ref gd), some (.ref al), some (.ref wl), o5, o6, o7] ∧ Ex H H2 ∧ H2 wl = some (.lst (ws.map V.str)) ∧ ws.length ≤ 2 + j ∧ ∀ w ∈ ws, Wd 148 w)
      (fun H3 e3 => ⟨_, _, _, ws, rfl, eH.trans e3, e3 _ _ hwl', lw, pw⟩) (fun j σ2 H2 _ ⟨_, _, _, _, _, e', _⟩ => .inl (ex_rd e' hft)) ?_ ?_
    · rintro j x σ2 H2' hx ⟨o5, o6, o7, ws2, hσ, eH2, hw2, lw2, pw2⟩ H3 e3
      subst hσ
      have hxm : x ∈ fs := List.mem_of_getElem? hx
      have lj : j < 4 := by have := (List.getElem?_eq_some_iff.mp hx).1; omega
      have E3 := eH2.trans e3
      refine xb_when (k := decide (0 < mixM c (90 + (j : Int)) % 3)) (bl_is (bc (c_gt (v_mod (v_mix GM hr (v_v 0) (v_add v_int (v_v 5))) v_int (by decide)) v_int)) rfl) (fun q H4 e4 => ?_) fun q H4 e4 => xb_nil ⟨_, _, _, ws2, rfl, E3.trans e4, (e3.trans e4) _ _ hw2, by omega, pw2⟩
      obtain ⟨fa, nm, kd, tv, rfl, hfa, wn, wk, ht⟩ := (pf x hxm).mono (E3.trans e4)
      have hgf : GF H4 (.ref fa) := ⟨fa, nm, kd, tv, rfl, hfa, wn, wk, ht⟩
      obtain ⟨kvs, hkv, lkv, pkv⟩ := hg.mono (E3.trans e4)
      refine xb_setR 7 (er_dget2 (R := LsW (ManyW 8 16)) (q := .inr nm) hr (vl_du (v_v 2) hkv) (v_ixT (v := .str nm) (vl_tu (v_v 6) (.inl hfa)) v_int rfl) (er_ll (ws := []) (l_lst a_nil) ⟨by simp, fun w hw => by cases hw⟩) (fun v H' e' hv => ?_) ⟨rfl, rfl, rfl, rfl⟩) fun y H5 e5 ⟨gl, gs, ey, hgl, lg, pg⟩ => ?_
      · obtain ⟨kv, hm, ev⟩ := valV_mem hv
        rw [← ev]
        exact (pkv kv hm).mono e'
      · subst ey
        have E5 := (E3.trans e4).trans e5
        refine xb_appE (l := wl) (xs := ws2.map V.str) (v_v 4) ((e3.trans (e4.trans e5)) _ _ hw2) (fun H6 e6 => (er_call (R := Sw 148) GC hr (a_cons (v_mix GM hr (v_v 0) (v_add v_int (v_v 5))) (a_cons (v_v 6) (a_1 (v_v 7)))) fun H7 e7 Q' k' E' => ⟨_, _, gl, gs, rfl, hgf.mono (e5.trans (e6.trans e7)), (e6.trans e7) _ _ hgl, lg, pg, k'⟩) H6 (Ex.refl _) _ fun y H7 e7 ⟨z, ey, wz⟩ => ?_) (by rw [List.length_map]; omega)
        subst ey
        refine ⟨(e3.trans (e4.trans (e5.trans (e6.trans e7)))) _ _ hw2, xb_nil (xb_nil ⟨_, _, _, ws2 ++ [z], rfl, (E5.trans (e6.trans e7)).mut hwl0, (by rw [upd_same, List.map_append]; rfl), (by rw [List.length_append, List.length_singleton]; omega), fun w hw => ?_⟩)⟩
        rcases List.mem_append.mp hw with q | q
        · exact pw2 w q
        · rw [List.mem_singleton.mp q]; exact wz
    · rintro σ2 H2' ⟨o5, o6, o7, ws2, hσ, eH2, hw2, lw2, pw2⟩
      subst hσ
      exact xb_retR (ts_joinM (n := 148) (m := 6) (k := 1) v_str (wd_lit (by decide +kernel)) (by decide) (er_vls (v_v 4) hw2 ⟨by omega, pw2⟩)) fun y H3 e3 hy => k y H3 (eH2.trans e3) (let ⟨a, q, wa⟩ := hy; ⟨a, q, wa.mono (by decide)⟩)
end
end Gw

set_option maxRecDepth 100000
set_option maxHeartbeats 4000000
/-! The builder's head lines. -/
namespace Gw
open PySem PySem.Spec PyProof.Rows L2 Evl SX
def cutA {α : Type} (xs : List α) (lo hi : Option Int) : List α := (xs.drop (HT.sIx xs.length 0 lo)).take (HT.sIx xs.length xs.length hi - HT.sIx xs.length 0 lo)
theorem cutV_map {α : Type} {f : α → V} {ws : List α} {lo hi : Option Int} : cutV (ws.map f) lo hi = (cutA ws lo hi).map f := by
  unfold cutV cutA
  rw [List.map_take, List.map_drop, List.length_map]
theorem cutA_mem {α : Type} {ws : List α} {lo hi : Option Int} {x : α} (h : x ∈ cutA ws lo hi) : x ∈ ws := List.mem_of_mem_drop (List.mem_of_mem_take h)
theorem cutA_last {α : Type} {ws : List α} : (cutA ws (some (-1)) none).length ≤ 1 := by
  unfold cutA
  rw [List.length_take]
  show min (ws.length - (-1 + (ws.length : Int)).toNat) _ ≤ 1
  omega
theorem putK_mem {kvs : List (Key × V)} {q : Key} {v : V} : ∀ kv ∈ putK kvs q v, kv ∈ kvs ∨ kv.2 = v := by
  intro kv h
  unfold putK at h
  split at h
  · obtain ⟨kv0, h0, e⟩ := List.mem_map.mp h
    split at e
    · rw [← e]; exact .inr rfl
    · rw [← e]; exact .inl h0
  · rcases List.mem_append.mp h with z | z
    · exact .inl z
    · rw [List.mem_singleton.mp z]; exact .inr rfl
theorem putK_le {kvs : List (Key × V)} {q : Key} {v : V} : (putK kvs q v).length ≤ kvs.length + 1 := by
  unfold putK
  split
  · rw [List.length_map]; omega
  · rw [List.length_append]; exact Nat.le_refl _
/-- the groups, none of their lists the list ll -/
def GrI (H : Hp) (gd ll : Addr) (n : Nat) : Prop := ∃ kvs : List (Key × V), H gd = some (.dK kvs) ∧ kvs.length ≤ n ∧ ∀ kv ∈ kvs, ∃ l gs, kv.2 = .ref l ∧ l ≠ ll ∧ H l = some (.lst (gs.map V.str)) ∧ ManyW 8 n gs
theorem ManyW.mono {n m m' : Nat} {ws : List Str} (h : ManyW n m ws) (q : m ≤ m') : ManyW n m' ws := ⟨Nat.le_trans h.1 q, h.2⟩
theorem GrI.mono {H H' : Hp} {gd ll : Addr} {n m : Nat} (e : Ex H H') (q : n ≤ m) (h : GrI H gd ll n) : GrI H' gd ll m := let ⟨kvs, a, b, c⟩ := h; ⟨kvs, e _ _ a, Nat.le_trans b q, fun kv hkv => let ⟨l, gs, x, y, z, w⟩ := c kv hkv; ⟨l, gs, x, y, e _ _ z, w.mono q⟩⟩
theorem GrI.lines {H : Hp} {gd ll : Addr} {n : Nat} {xs xs' : List V} (h : GrI H gd ll n) (hl : H ll = some (.lst xs)) : GrI (upd H ll (.lst xs')) gd ll n := by
  obtain ⟨kvs, a, b, c⟩ := h
  refine ⟨kvs, by rw [upd_ne fun q => by rw [q, hl] at a; cases a]; exact a, b, fun kv hkv => ?_⟩
  obtain ⟨l, gs, x, y, z, w⟩ := c kv hkv
  exact ⟨l, gs, x, y, by rw [upd_ne y]; exact z, w⟩
theorem GrI.put {H : Hp} {gd ll l : Addr} {n : Nat} {q : Key} {gs : List Str} (h : GrI H gd ll n) {kvs : List (Key × V)} (hk : H gd = some (.dK kvs)) (hl : H l = some (.lst (gs.map V.str))) (nl : l ≠ ll) (hg : ManyW 8 (n + 1) gs) : GrI (upd H gd (.dK (putK kvs q (.ref l)))) gd ll (n + 1) := by
  obtain ⟨kvs', a, b, c⟩ := h
  rw [hk] at a
  cases a
  refine ⟨_, upd_same, Nat.le_trans putK_le (by omega), fun kv hkv => ?_⟩
  have ne : ∀ {l' : Addr} {gs' : List Str}, H l' = some (.lst (gs'.map V.str)) → l' ≠ gd := fun z q => by rw [q, hk] at z; cases z
  rcases putK_mem kv hkv with z | z
  · obtain ⟨l', gs', x, y, u, w⟩ := c kv z
    exact ⟨l', gs', x, y, by rw [upd_ne (ne u)]; exact u, w.mono (by omega)⟩
  · exact ⟨l, gs, z, nl, by rw [upd_ne (ne hl)]; exact hl, hg⟩
theorem GrI.grd {H : Hp} {gd ll : Addr} {n : Nat} (h : GrI H gd ll n) : GrD H gd n := let ⟨kvs, a, b, c⟩ := h; ⟨kvs, a, b, fun kv hkv => let ⟨l, gs, x, _, z, w⟩ := c kv hkv; ⟨l, gs, x, z, w⟩⟩
section
variable {X : Cx} {e a b c o f : Expr} {es : List Expr} {rest : List Stmt} {σ : L2.St} {H H' : Hp} {Q : VK} {D : Ends} {v w x y z : V} {xs ys vs : List V} {pos p p2 p3 p4 apos cpos : Pos} {k0 : Nat}
/-- d[k] = a new list -/
theorem xb_dputL {ad : Addr} {kvs : List (Key × V)} {q : Key} {p' : Pos} (hr : Room k0 X.A) (hv : Ll X e σ H xs) (ha : Vl X a σ H (.ref ad)) (hb : Vl X b σ H (kV q)) (hd : H ad = some (.dK kvs)) (hz : kvs.length < 100000) (kk : ∀ l H1, H l = none → Ex H H1 → H1 l = some (.lst xs) → XB X rest D σ (upd H1 ad (.dK (putK kvs q (.ref l)))))
    (hs : swapsWith e (some (.Subscript a b p')) pos.line X.env = pure false := by rfl) : XB X (.Assign [.Subscript a b p'] e pos :: rest) D σ H :=
  xb_cons (xs_of (ps_dput (hu_of hr) pe_xe pe_xe pe_xe hs) (hv H (Ex.refl H) _ fun l H1 hl e1 h1 => ha H1 e1 _ fun H2 e2 => hb H2 (e1.trans e2) _ fun H3 e3 => ⟨ad, _, rfl, DPut.k (((e1.trans e2).trans e3) _ _ hd) (sz_lt hz), kk l H3 hl ((e1.trans e2).trans e3) ((e2.trans e3) _ _ h1)⟩))
end
def spLHead (K : PySem.W.Frag) : Sp := fun vs H Q _ => ∃ (sa ft : Addr) (ns : List Int) (fs : List V), vs = [.ref sa, .ref ft] ∧ SqL K H sa (ns.map V.int) ∧ Rd H ft (.tup fs) ∧ fs.length ≤ 4 ∧ (∀ v ∈ fs, GF H v) ∧
  ∀ t ll gd ls H', Ex H H' → Rd H' t (.tup [.ref ll, .ref gd]) → H' ll = some (.lst (ls.map V.str)) → ManyW 900 12 ls → GrD H' gd 16 → Q (.ref t) H'
section
variable {P : Program} {w : World} {K : PySem.W.Frag} {mg : Str → Option Value} {base : Heap}
theorem ok_lHead (T : Tx K mg) : Gd P w K mg base 3 "_law_head_lines" (spLHead K) := by
  have GM : Gd P w K mg base 1 "_law_mixed" (spI2 mixM) := ok_lMixed T
  have GC : Gd P w K mg base 1 "_law_cell_at" (spLCell K) := ok_lCellAt T
  have GN : Gd P w K mg base 2 "_law_names" spLNames := ok_lNames T
  have GL : Gd P w K mg base 1 "_law_field_line" spLFieldLine := ok_lFieldLine T
  refine gd_of T dLawHeadLines 48 T.g__law_head_lines scLawHeadLines (fun _ _ _ _ _ _ us hl => match us, hl with | [_, _], _ => rfl) (fun _ _ _ _ ⟨_, _, _, _, e, _⟩ => by subst e; rfl) fun f cdv A outer s H vs Q E hr ⟨sa, ft, ns, fs, e, hsa, hft, lf, pf, k⟩ => ?_
  subst e
  have nd := scLawHeadLines.nd
  have hr1 : Room 1 (Cxd dLawHeadLines P w K mg base nLawHeadLines f cdv A outer s H E).A := hr.mono (by decide)
  refine xb_setC 2 (lc_txt (i := 4) (own := [("_law_field_here", 4)]) (ws := fs) (enc := fun v => v) 900 (il_T (vl_tu (v_v 1) (.inl (by rw [List.map_id']; exact hft)))) (by omega) (blkOk_by (N := nLawHeadLines) (sc := defScope sLawHeadLines) (by decide +kernel))
    (fun _ _ _ _ _ v hv => er_call GL hr1 (a_1 (v_v 4)) fun H1 e1 Q' k' E' => ⟨v, rfl, (pf v hv).mono e1, k'⟩)) fun ll ys H1 hll e1 h1 ⟨ls0, ey, l0, p0⟩ => ?_
  subst ey
  refine xb_setE 3 (xe_of pe_dnewK fun gd hgd => ?_)
  have e2 : Ex H (upd H1 gd (.dK [])) := e1.trans (Ex.new hgd)
  have ngl : ll ≠ gd := fun q => by rw [q, hgd] at h1; cases h1
  have h2 : upd H1 gd (.dK []) ll = some (.lst (ls0.map V.str)) := by rw [upd_ne ngl]; exact h1
  have g2 : GrI (upd H1 gd (.dK [])) gd ll 0 := ⟨[], upd_same, Nat.le_refl _, fun _ h => by cases h⟩
  have hgd0 : H gd = none := fresh_back e1 hgd
  generalize upd H1 gd (.dK []) = H2 at e2 h2 g2 ⊢
  refine xb_forT (ad := ft) 4 po_cx (v_v 1) (.inl (ex_rd e2 hft)) (fun j σ' H' => ∃ (o4 o5 o6 o7 o8 o9 : Option V) (ls : List Str), σ' = [some (.ref sa), some (.ref ft), some (.ref ll), some (.ref gd), o4, o5, o6, o7, o8, o9] ∧ Ex H H' ∧ H' ll = some (.lst (ls.map V.str)) ∧ ManyW 900 (4 + 2 * j) ls ∧ GrI H' gd ll (2 * j))
    (fun H3 e3 => ⟨_, _, _, _, _, _, ls0, rfl, e2.trans e3, e3 _ _ h2, ⟨by omega, p0⟩, g2.mono e3 (Nat.le_refl _)⟩) (fun j σ' H' _ ⟨_, _, _, _, _, _, _, _, e', _⟩ => .inl (ex_rd e' hft)) ?_ ?_
  · rintro j x σ' H' hx ⟨o4, o5, o6, o7, o8, o9, ls, hσ, eH, hls, pls, gH⟩
    subst hσ
    have hxm : x ∈ fs := List.mem_of_getElem? hx
    have lj : j < 4 := by have := (List.getElem?_eq_some_iff.mp hx).1; omega
    obtain ⟨fa, nm, kd, tv, rfl, hfa0, wn, wk, ht0⟩ := pf x hxm
    have hfa := ex_rd eH hfa0
    refine xb_setR 5 (er_call GN hr (a_cons (v_mix GM hr (v_call GC hr1 passL (a_cons (v_v 0) (a_1 (vl_is (w := .int ((1 : Nat) : Int)) v_int rfl))) (spLCell_v (ex_l eH hsa))) v_int) (a_1 (vl_is (w := .int ((2 : Nat) : Int)) v_int rfl))) (spLNames_r (m := 2) (by decide))) fun y H3 e3 ⟨nl, nms, ey, hnl, lnm, pnm⟩ => ?_
    subst ey
    have E3 := eH.trans e3
    refine xb_forN 6 po_cx (ll_is (l_rep1 (k := decide (kd = "names")) (vl_hl (v_v 5) hnl) (v_intB T.f_int (vl_is (vc (c_eq (v_ixT (v := .str kd) (vl_tu (v_v 4) (.inl (ex_rd e3 hfa))) v_int rfl) v_str)) (congrArg V.bl dec_V))) (by rw [List.length_map]; omega)) (show _ = (if decide (kd = "names") then nms else []).map V.str by split <;> rfl)) (fun q i σ2 H2' => ∃ (o6 o7 o8 o9 : Option V) (ls : List Str), σ2 = [some (.ref sa), some (.ref ft), some (.ref ll), some (.ref gd), some (.ref fa), some (.ref nl), o6, o7, o8, o9] ∧ Ex H H2' ∧ H2' q = some (.lst ((if decide (kd = "names") then nms else []).map V.str)) ∧ q ≠ ll ∧ q ≠ gd ∧ H2' ll = some (.lst (ls.map V.str)) ∧ ManyW 900 (4 + (2 * j + i)) ls ∧ GrI H2' gd ll (2 * j + i))
      (fun q H4 hq e4 h4 => ⟨_, _, _, _, ls, rfl, E3.trans e4, h4, fun z => (by rw [z, e3 _ _ hls] at hq; cases hq), fun z => (by obtain ⟨kvs, a, _⟩ := gH.mono e3 (Nat.le_refl _); rw [z, a] at hq; cases hq), (e3.trans e4) _ _ hls, pls, gH.mono (e3.trans e4) (Nat.le_refl _)⟩)
      (fun q i σ2 H2' _ ⟨_, _, _, _, _, _, _, h, _⟩ => sq_of h) ?_ ?_
    · rintro q i x σ2 H4 hx ⟨o6, o7, o8, o9, ls2, hσ2, eH2, hq, nq1, nq2, hls2, pls2, gH2⟩
      subst hσ2
      by_cases hkd : kd = "names"
      · rcases ht0.tex (.of eH2) with ⟨_, t, ws, ey, htt, l1, l2, pw⟩ | ⟨h, _⟩ | ⟨h, _⟩ | ⟨h, _⟩ | ⟨h, _⟩ | ⟨h, _⟩
        case inl =>
          subst ey
          rw [decide_eq_true hkd, if_pos rfl, List.getElem?_map] at hx
          cases hni : nms[i]? with
          | none => rw [hni] at hx; cases hx
          | some nmi =>
            rw [hni] at hx
            cases hx
            have wi := pnm nmi (List.mem_of_getElem? hni)
            have li : i < 2 := by have := (List.getElem?_eq_some_iff.mp hni).1; omega
            have hfa4 := ex_rd eH2 hfa0
            refine xb_when (bc (c_ninT (v_v 6) (vl_tu (v_ixT (v := .ref t) (vl_tu (v_v 4) (.inl hfa4)) v_int rfl) (.inl htt)) rfl (by rw [List.all_map]; exact List.all_eq_true.mpr fun _ _ => rfl))) (fun _ H5 e5 => ?_) fun _ H5 e5 => xb_nil ⟨_, _, _, _, ls2, rfl, eH2.trans e5, e5 _ _ hq, nq1, nq2, e5 _ _ hls2, pls2.mono (by omega), gH2.mono e5 (by omega)⟩
            obtain ⟨kvs, hkv, lkv, pkv⟩ := gH2.mono e5 (Nat.le_refl _)
            refine xb_setR 7 (er_dget2 (R := fun y H => ∃ l gs, y = .ref l ∧ l ≠ ll ∧ H l = some (.lst (gs.map V.str)) ∧ ManyW 8 (2 * j + i) gs) (q := .inr nm) hr (vl_du (v_v 3) hkv) (v_ixT (v := .str nm) (vl_tu (v_v 4) (.inl (ex_rd e5 hfa4))) v_int rfl) (fun H0 e0 Q' k' => (l_lst a_nil) H0 e0 _ fun l H1' hl e1' h1' => k' _ H1' e1' ⟨l, [], rfl, fun q => (by rw [q, e0 _ _ (e5 _ _ hls2)] at hl; cases hl), h1', Nat.zero_le _, fun w hw => by cases hw⟩) (fun v H' e' hv => ?_) ⟨rfl, rfl, rfl, rfl⟩) fun y H6 e6 ⟨ol, gs, ey, nol, hol, lg, pg⟩ => ?_
            · obtain ⟨kv, hm, ev⟩ := valV_mem hv
              obtain ⟨l, gs, x, nl, z, w⟩ := pkv kv hm
              rw [← ev]
              exact ⟨l, gs, x, nl, e' _ _ z, w⟩
            subst ey
            refine xb_setL 8 (xs := (ws ++ gs).map V.str) (ll_is (l_cat (ll_hl (l_listT T.f_list (vl_tu (v_ixT (v := .ref t) (vl_tu (v_v 4) (.inl (ex_rd (e5.trans e6) hfa4))) v_int rfl) (.inl (ex_rd (e5.trans e6) htt))))) (vl_hl (v_v 7) hol) (by rw [List.length_map, List.length_map]; omega)) (by rw [List.map_append])) fun kl H7 hkl e7 h7 => ?_
            have pk : ∀ w ∈ ws ++ gs, Wd 8 w := fun w hw => by
              rcases List.mem_append.mp hw with z | z
              · exact pw w z
              · exact pg w z
            have lk : 0 < (ws ++ gs).length := by rw [List.length_append]; omega
            have lk2 : (ws ++ gs).length ≤ 40 := by rw [List.length_append]; omega
            generalize ws ++ gs = ks at h7 pk lk lk2
            refine xb_setR 9 (er_cat (P := NsP 1 8) (P' := ManyW 8 1) (er_lst (ta_cons (ts_ixL (ws := ks) (vl_sl (v_v 8) (sq_of h7)) pk v_int (by decide) (by omega)) ta_nil)) (er_ll (ws := if decide (1 < ks.length) then cutA ks (some (-1)) none else []) (ll_is (l_rep1 (k := decide (1 < ks.length)) (ll_hl (l_slL (vl_sl (v_v 8) (sq_of h7)) (o_s (v_neg v_int)) o_n)) (v_intB T.f_int (vl_is (vc (c_gt (v_lenL T.f_len (vl_sl (v_v 8) (sq_of h7))) v_int)) (congrArg V.bl (decide_eq_decide.mpr (by rw [List.length_map]; omega))))) (by refine Nat.le_trans (cutV_length _ _ _) ?_; rw [List.length_map]; omega)) (by rw [cutV_map]; split <;> rfl)) (by
              split
              · exact ⟨cutA_last, fun w hw => pk w (cutA_mem hw)⟩
              · exact ⟨Nat.zero_le _, fun w hw => by cases hw⟩)) (fun us vs a b => by rw [a.1]; have := b.1; omega)) fun y H8 e8 hy => ?_
            obtain ⟨sl, ss, ey, hsl, us, vs, rfl, pu, pv⟩ := hy
            subst ey
            have ps : ManyW 8 2 (us ++ vs) := ⟨by rw [List.length_append, pu.1]; have := pv.1; omega, fun w hw => by
              rcases List.mem_append.mp hw with z | z
              · exact pu.2 w z
              · exact pv.2 w z⟩
            generalize us ++ vs = ss at hsl ps
            have ee := e5.trans (e6.trans (e7.trans e8))
            have hls8 := ee _ _ hls2
            refine xb_appE (l := ll) (xs := ls2.map V.str) (v_v 2) hls8 (fun H9 e9 => (ts_joinM (n := 8) (m := 5) (k := 1) v_str (wd_lit (by decide +kernel)) (by decide) ((er_cat (P := NsP 3 8) (P' := ManyW 8 2) (er_lst (ta_cons (ts_lit (n := 8)) (ta_cons (ts_v (v_ixT (v := .str nm) (vl_tu (v_v 4) (.inl (ex_rd (ee.trans e9) hfa4))) v_int rfl) wn) (ta_cons (ts_v (v_v 6) wi) ta_nil)))) (er_vls (v_v 9) (e9 _ _ hsl) ps) (fun us vs a b => by rw [a.1]; have := b.1; omega)).imp fun y H' h => h.imp ?_)) H9 (Ex.refl _) _ fun y H10 e10 ⟨z, ey, wz⟩ => ?_) (by rw [List.length_map]; have := pls2.1; omega)
            · rintro _ ⟨us, vs, rfl, pu, pv⟩
              refine ⟨by rw [List.length_append, pu.1]; have := pv.1; omega, fun w hw => ?_⟩
              rcases List.mem_append.mp hw with z | z
              · exact pu.2 w z
              · exact pv.2 w z
            subst ey
            have e910 := e9.trans e10
            have e10' := ee.trans e910
            refine ⟨e910 _ _ hls8, ?_⟩
            have g10 := (gH2.mono e10' (Nat.le_refl _)).lines (xs' := ls2.map V.str ++ [V.str z]) (e10' _ _ hls2)
            have eL : Ex H (upd H10 ll (.lst (ls2.map V.str ++ [V.str z]))) := (eH2.trans e10').mut hll
            have hq10 : upd H10 ll (.lst (ls2.map V.str ++ [V.str z])) q = some (.lst ((if decide (kd = "names") then nms else []).map V.str)) := by rw [upd_ne nq1]; exact e10' _ _ hq
            have hll10 : upd H10 ll (.lst (ls2.map V.str ++ [V.str z])) ll = some (.lst ((ls2 ++ [z]).map V.str)) := by rw [upd_same, List.map_append]; rfl
            have hol10 : upd H10 ll (.lst (ls2.map V.str ++ [V.str z])) ol = some (.lst (gs.map V.str)) := by rw [upd_ne nol]; exact (e7.trans (e8.trans e910)) _ _ hol
            generalize upd H10 ll (.lst (ls2.map V.str ++ [V.str z])) = H11 at g10 eL hq10 hll10 hol10 ⊢
            obtain ⟨kvs2, hkv2, lkv2, pkv2⟩ := id g10
            refine xb_dputL (q := .inr nm) (xs := (gs ++ [nmi]).map V.str) hr (ll_is (l_cat (vl_hl (v_v 7) hol10) (ll_hl (l_lst (a_1 (v_v 6)))) (by rw [List.length_map]; simp; omega)) (by rw [List.map_append]; rfl)) (v_v 3) (v_ixT (v := .str nm) (vl_tu (v_v 4) (.inl (ex_rd eL hfa0))) v_int rfl) hkv2 (by omega) fun nl2 H12 hnl2 e12 h12 => ?_
            have ngd : ∀ {b : Addr} {xs : List V}, H12 b = some (.lst xs) → b ≠ gd := fun z q => by rw [q, e12 _ _ hkv2] at z; cases z
            refine xb_nil (xb_nil ⟨_, _, _, _, ls2 ++ [z], rfl, (eL.trans e12).mut hgd0, (by rw [upd_ne (ngd (e12 _ _ hq10))]; exact e12 _ _ hq10), nq1, nq2, (by rw [upd_ne (ngd (e12 _ _ hll10))]; exact e12 _ _ hll10), ⟨by rw [List.length_append, List.length_singleton]; have := pls2.1; omega, fun w hw => ?_⟩, (g10.mono e12 (Nat.le_refl _)).put (e12 _ _ hkv2) h12 (fun q => by rw [q, hll10] at hnl2; cases hnl2) ⟨by rw [List.length_append, List.length_singleton]; omega, fun w hw => ?_⟩⟩)
            · rcases List.mem_append.mp hw with q | q
              · exact pls2.2 w q
              · rw [List.mem_singleton.mp q]; exact wz.mono (by decide)
            · rcases List.mem_append.mp hw with q | q
              · exact pg w q
              · rw [List.mem_singleton.mp q]; exact wi
        all_goals exact absurd (h.symm.trans hkd) (by decide +kernel)
      · rw [decide_eq_false hkd] at hx
        simp at hx
    · rintro q σ2 H4 ⟨o6, o7, o8, o9, ls2, hσ2, eH2, hq, nq1, nq2, hls2, pls2, gH2⟩
      subst hσ2
      have l2 : ((if decide (kd = "names") = true then nms else []).map V.str).length ≤ 2 := by
        rw [List.length_map]; split
        · omega
        · exact Nat.zero_le _
      exact xb_nil ⟨_, _, _, _, _, _, ls2, rfl, eH2, hls2, pls2.mono (by omega), gH2.mono (Ex.refl _) (by omega)⟩
  · rintro σ' H' ⟨o4, o5, o6, o7, o8, o9, ls, hσ, eH, hls, pls, gH⟩
    subst hσ
    refine xb_retE (xe_tup (xa_cons (xe_v (v_v 2) fun H3 e3 => xa_cons (xe_v (v_v 3) fun H4 e4 => xa_nil ⟨by simp, fun t ht => ?_⟩))))
    have ee := (e3.trans e4).trans (Ex.new (o := .tup [.ref ll, .ref gd]) ht)
    exact k t ll gd ls _ (eH.trans ee) (.inl upd_same) (ee _ _ hls) (pls.mono (by omega)) (gH.mono ee (by omega)).grd
end
end Gw

set_option maxRecDepth 100000
set_option maxHeartbeats 4000000
/-! The builder's house. -/
namespace Gw
open PySem PySem.Spec PyProof.Rows L2 Evl SX
/-- the rows of rules: each a list of at most eight texts, none of them there in H0 -/
def RwI (H0 H : Hp) (rl : Addr) (rs : List Addr) : Prop := H rl = some (.lst (rs.map V.ref)) ∧ ∀ r ∈ rs, r ≠ rl ∧ H0 r = none ∧ ∃ ws : List Str, H r = some (.lst (ws.map V.str)) ∧ ManyW 900 8 ws
theorem RwI.mono {H0 H H' : Hp} {rl : Addr} {rs : List Addr} (e : Ex H H') (h : RwI H0 H rl rs) : RwI H0 H' rl rs := ⟨e _ _ h.1, fun r hr => let ⟨a, b, ws, c, d⟩ := h.2 r hr; ⟨a, b, ws, e _ _ c, d⟩⟩
theorem RwI.put {H0 H : Hp} {rl r : Addr} {rs : List Addr} {ws : List Str} (h : RwI H0 H rl rs) (hr : r ∈ rs) (hw : ManyW 900 8 ws) : RwI H0 (upd H r (.lst (ws.map V.str))) rl rs := by
  obtain ⟨n0, _, _⟩ := h.2 r hr
  refine ⟨by rw [upd_ne (Ne.symm n0)]; exact h.1, fun r' hr' => ?_⟩
  obtain ⟨a, b, ws', c, d⟩ := h.2 r' hr'
  refine ⟨a, b, ?_⟩
  by_cases q : r' = r
  · rw [q]; exact ⟨ws, upd_same, hw⟩
  · exact ⟨ws', by rw [upd_ne q]; exact c, d⟩
theorem paired_rows {α : Type} {H0 H : Hp} {D : Addr} : ∀ {ws : List α} {ys : List V}, Paired (fun (_ : α) y => ∃ l, y = V.ref l ∧ l ≠ D ∧ H0 l = none ∧ H l = some (.lst [])) ws ys → ∃ rs : List Addr, ys = rs.map V.ref ∧ rs.length = ws.length ∧ ∀ r ∈ rs, r ≠ D ∧ H0 r = none ∧ H r = some (.lst [])
  | _, _, .nil => ⟨[], rfl, rfl, fun _ h => by cases h⟩
  | _, _, .cons ⟨l, e, w⟩ t => by
    obtain ⟨us, h1, h2, h3⟩ := paired_rows t
    exact ⟨l :: us, by rw [e, h1]; rfl, by rw [List.length_cons, List.length_cons, h2], fun u hu => by
      rcases List.mem_cons.mp hu with q | q
      · rw [q]; exact w
      · exact h3 u q⟩
def spLHouse (K : PySem.W.Frag) : Sp := fun vs H Q _ => ∃ (sa : Addr) (ns : List Int), vs = [.ref sa] ∧ SqL K H sa (ns.map V.int) ∧
  ∀ t a b ll ls H', Ex H H' → Rd H' t (.tup [a, b, .ref ll]) → H' ll = some (.lst (ls.map V.str)) → 1 ≤ ls.length → ManyW 900 57 ls → Q (.ref t) H'
section
variable {P : Program} {w : World} {K : PySem.W.Frag} {mg : Str → Option Value} {base : Heap}
theorem ok_lHouse (T : Tx K mg) : Gd P w K mg base 6 "_law_house_text" (spLHouse K) := by
  have GM : Gd P w K mg base 1 "_law_mixed" (spI2 mixM) := ok_lMixed T
  have GC : Gd P w K mg base 1 "_law_cell_at" (spLCell K) := ok_lCellAt T
  have GN : Gd P w K mg base 2 "_law_names" spLNames := ok_lNames T
  have GFs : Gd P w K mg base 5 "_law_fields" spLFields := ok_lFields T
  have GH : Gd P w K mg base 3 "_law_head_lines" (spLHead K) := ok_lHead T
  have GR : Gd P w K mg base 5 "_law_rule_line" spLRuleLine := ok_lRuleLine T
  refine gd_of T dLawHouseText 49 T.g__law_house_text scLawHouseText (fun _ _ _ _ _ _ us hl => match us, hl with | [_], _ => rfl) (fun _ _ _ _ ⟨_, _, e, _⟩ => by subst e; rfl) fun f cdv A outer s H vs Q E hr ⟨sa, ns, e, hsa, k⟩ => ?_
  subst e
  have nd := scLawHouseText.nd
  have hr1 : Room 1 (Cxd dLawHouseText P w K mg base nLawHouseText f cdv A outer s H E).A := hr.mono (by decide)
  have hr2 : Room 2 (Cxd dLawHouseText P w K mg base nLawHouseText f cdv A outer s H E).A := hr.mono (by decide)
  have hr3 : Room 3 (Cxd dLawHouseText P w K mg base nLawHouseText f cdv A outer s H E).A := hr.mono (by decide)
  refine xb_set 1 (v_call GC hr1 passL (a_cons (v_v 0) (a_1 (vl_is (w := .int ((0 : Nat) : Int)) v_int rfl))) (spLCell_v hsa)) fun H1 e1 => ?_
  obtain ⟨r4, her4, lr4⟩ := mod_nat (ns.getD 0 0) (n := 4) (by decide)
  refine xb_setR 2 (er_call (R := fun y H' => ∃ t fs, y = .ref t ∧ Rd H' t (.tup fs) ∧ fs.length ≤ 4 ∧ ∀ v ∈ fs, GF H' v) GFs hr (a_cons (v_mix GM hr1 (v_v 1) v_int) (a_cons (vl_is (w := .int ((1 + r4 : Nat) : Int)) (v_add v_int (v_mod (v_v 1) v_int (by decide))) (by have her4 : ns.getD 0 0 % 4 = (r4 : Int) := her4; rw [her4]; rfl)) (a_1 v_bl))) fun H2 e2 Q' k' E' => ⟨_, 1 + r4, rfl, by omega, by omega, fun t fs H' e' h1 h2 h3 => k' _ H' e' ⟨t, fs, rfl, h1, by omega, h3⟩⟩) fun y H2 e2 ⟨ft, fs, ey, hft, lf, pf⟩ => ?_
  subst ey
  have E2 := e1.trans e2
  refine xb_un2E 3 4 ((er_call (R := fun y H' => ∃ t ll gd ls, y = .ref t ∧ Rd H' t (.tup [.ref ll, .ref gd]) ∧ H' ll = some (.lst (ls.map V.str)) ∧ ManyW 900 12 ls ∧ GrD H' gd 16) GH hr3 (a_cons (v_v 0) (a_1 (v_v 2))) fun H3 e3 Q' k' E' => ⟨sa, ft, ns, fs, rfl, ex_l (E2.trans e3) hsa, ex_rd e3 hft, lf, fun v hv => (pf v hv).mono e3, fun t ll gd ls H' e' a b c d => k' _ H' e' ⟨t, ll, gd, ls, rfl, a, b, c, d⟩⟩) H2 (Ex.refl _) _ fun y H3 e3 ⟨t, ll, gd, ls, ey, ht, hls, pls, hgd⟩ => ⟨t, .ref ll, .ref gd, ey, .inl ht, ?_⟩)
  have E3 := E2.trans e3
  refine xb_set 5 (v_call GC hr1 passL (a_cons (v_v 0) (a_1 (vl_is (w := .int ((2 : Nat) : Int)) v_int rfl))) (spLCell_v (ex_l E3 hsa))) fun H4 e4 => ?_
  obtain ⟨r5, her5, lr5⟩ := mod_nat (ns.getD 2 0) (n := 5) (by decide)
  refine xb_setR 6 (er_call GN hr2 (a_cons (v_mix GM hr1 (v_v 5) v_int) (a_1 (vl_is (w := .int ((1 + r5 : Nat) : Int)) (v_add v_int (v_mod (v_v 5) v_int (by decide))) (by have her5 : ns.getD 2 0 % 5 = (r5 : Int) := her5; rw [her5]; rfl)))) (spLNames_r (m := 1 + r5) (by omega))) fun y H5 e5 ⟨nl, nms, ey, hnl, lnm, pnm⟩ => ?_
  subst ey
  have E5 := E3.trans (e4.trans e5)
  have F5 := e4.trans e5
  generalize ns.getD 0 0 = c0
  generalize ns.getD 2 0 = c2
  refine xb_setC 7 (lc_gen (i := 13) (own := [("_law_name", 13)]) (ws := nms) (enc := V.str) (fun _ => true) (fun D _ y H => ∃ l, y = V.ref l ∧ l ≠ D ∧ H5 l = none ∧ H l = some (.lst [])) nd rfl (blkOk_by (N := nLawHouseText) (sc := defScope sLawHouseText) (by decide +kernel)) (il_L (vl_sl (v_v 6) (sq_of hnl))) (by omega) (fun _ _ _ _ _ => ⟨by assumption, rfl, Or.inl rfl, Or.inr rfl⟩) (by intro _; rfl) (fun _ _ _ _ _ _ _ => q_nil)
    (fun _ _ _ _ _ w hw _ D acc H6 e6 hD hD2 Q' k' => (l_lst a_nil) H6 (Ex.refl _) _ fun l H7 hl e7 h7 => k' _ H7 e7 ⟨l, rfl, fun q => (by rw [q, hD2] at hl; cases hl), fresh_back e6 hl, h7⟩) (fun _ _ _ _ _ e ⟨l, a, b, c, d⟩ => ⟨l, a, b, c, e _ _ d⟩) (fun _ _ _ _ _ _ ⟨l, a, b, c, d⟩ hl => ⟨l, a, b, c, by rw [upd_ne b]; exact d⟩)) fun rl ys H6 hrl e6 h6 pr => ?_
  rw [filter_tt] at pr
  obtain ⟨rs, ey, lrs, prs⟩ := paired_rows pr
  subst ey
  have I6 : RwI H5 H6 rl rs := ⟨h6, fun r hr => let ⟨a, b, c⟩ := prs r hr; ⟨a, b, [], c, Nat.zero_le _, fun w hw => by cases hw⟩⟩
  have lnm' : (0 : Int) < ((nms.map V.str).length : Int) := by rw [List.length_map]; omega
  refine xb_forEN 8 9 po_cx T.f_enumerate (l_slL (vl_sl (v_v 0) (ex_l (E5.trans e6) hsa)) (o_s v_int) (o_s v_int)) (fun q j σ' H' => ∃ o8 o9 o10 o11 o12, σ' = [some (.ref sa), some (.int c0), some (.ref ft), some (.ref ll), some (.ref gd), some (.int c2), some (.ref nl), some (.ref rl), o8, o9, o10, o11, o12, none, none, none] ∧ Ex H5 H' ∧ RwI H5 H' rl rs ∧ H' q = some (.lst (cutV (ns.map V.int) (some 3) (some 15))) ∧ ∀ r ∈ rs, r ≠ q)
    (fun q H7 hq e7 h7 => ⟨_, _, _, _, _, rfl, e6.trans e7, I6.mono e7, h7, fun r hr z => (by obtain ⟨_, _, ws, c, _⟩ := I6.2 r hr; rw [z, hq] at c; cases c)⟩) (fun q j σ' H' _ ⟨_, _, _, _, _, _, _, _, h, _⟩ => sq_of h) ?_ ?_
  · rintro q j x σ' H7 hx ⟨o8, o9, o10, o11, o12, hσ, eH, I7, hq, nq⟩ H8 e8
    subst hσ
    rw [cutV_map, List.getElem?_map] at hx
    cases hz : (cutA ns (some 3) (some 15))[j]? with
    | none => rw [hz] at hx; cases hx
    | some one =>
      rw [hz] at hx
      cases hx
      have E8 := eH.trans e8
      have I8 := I7.mono e8
      obtain ⟨p, hep, lp⟩ := mod_nat (mixM one (4 + (j : Int))) (n := nms.length) (by omega)
      refine xb_set 10 (v := .int (p : Int)) (vl_is (v_mod (v_mix GM hr1 (v_v 9) (v_add v_int (v_v 8))) (v_lenL T.f_len (vl_sl (v_v 6) (sq_of (E8 _ _ hnl)))) lnm') (by rw [List.length_map, hep])) fun H9 e9 => ?_
      have hpr : p < rs.length := by rw [lrs]; exact lp
      have hmr : rs[p] ∈ rs := List.getElem_mem hpr
      have I9 := I8.mono e9
      have E9 := E8.trans e9
      obtain ⟨nr, fr, ws, hws, pws⟩ := I9.2 _ hmr
      have vrow : ∀ {H' : Hp} {σ2 : L2.St} {pp1 pp2 pp3 : Pos}, Ex H9 H' → σ2[7]? = some (some (.ref rl)) → σ2[10]? = some (some (.int (p : Int))) → Vl (Cxd dLawHouseText P w K mg base nLawHouseText f cdv A outer s H E) (.Subscript (.Name "_law_rows" pp1) (.Name "_law_place" pp2) pp3) σ2 H' (.ref rs[p]) := fun e' h7 h10 => v_ixLn p (v := .ref rs[p]) (vl_sl (v_v 7 h7) (sq_of (e' _ _ I9.1))) (v_v 10 h10) (by rw [List.getElem?_map, List.getElem?_eq_getElem hpr]; rfl)
      refine xb_set 11 (v_lenL T.f_len (ll_sl (cp_ll (lc_fil (i := 15) (own := [("_law_row", 15)]) (ws := ws) (enc := V.str) (fun u => decide (V.str (cutS u none (some 4)) = V.str "pass")) (fun u => V.str u) (il_L (vl_sl (vrow (Ex.refl _) rfl rfl) (sq_of hws))) (by have := pws.1; omega) (blkOk_by (N := nLawHouseText) (sc := defScope sLawHouseText) (by decide +kernel))
        (fun _ _ _ _ _ u hu => bc (c_eq (v_slS (v_v 15) o_n (o_s v_int) (Nat.le_trans (pws.2 u hu).1 (by decide))) v_str)) (fun _ _ _ _ _ u hu _ => v_v 15))))) fun H10 e10 => ?_
      generalize (((ws.filter fun u => decide (V.str (cutS u none (some 4)) = V.str "pass")).map fun u => V.str u).length : Int) = np
      refine xb_setL 12 (xs := (if decide (np < 2) then nms.take p else []).map V.str) (ll_is (l_rep1 (k := decide (np < 2)) (ll_hl (l_slL (vl_sl (v_v 6) (sq_of ((E9.trans e10) _ _ hnl))) o_n (o_s (v_v 10)))) (v_intB T.f_int (vc (c_lt (v_v 11) v_int))) (by refine Nat.le_trans (cutV_length _ _ _) ?_; rw [List.length_map]; omega)) (by rw [cutV_to]; split; rw [List.map_take]; rfl)) fun al H11 hal e11 h11 => ?_
      have hah : ManyW 8 16 (if decide (np < 2) then nms.take p else []) := by
        split
        · exact ⟨by rw [List.length_take]; omega, fun w hw => pnm w (List.mem_of_mem_take hw)⟩
        · exact ⟨Nat.zero_le _, fun w hw => by cases hw⟩
      generalize (if decide (np < 2) then nms.take p else []) = ahs at h11 hah
      have E11 := e10.trans e11
      have I11 := I9.mono E11
      refine xb_when (k := decide (ws.length < 8)) (bl_is (bc (c_lt (v_lenL T.f_len (vl_sl (vrow E11 rfl rfl) (sq_of (E11 _ _ hws)))) v_int)) (by rw [List.length_map]; exact decide_eq_decide.mpr (by omega))) (fun lw H12 e12 => ?_) fun lw H12 e12 => xb_nil ⟨_, _, _, _, _, rfl, (E9.trans E11).trans e12, I11.mono e12, (e8.trans (e9.trans (E11.trans e12))) _ _ hq, nq⟩
      have lw : ws.length < 8 := of_decide_eq_true lw
      have I12 := I11.mono e12
      have F12 := (E9.trans E11).trans e12
      have F212 := (e3.trans F5).trans F12
      refine xb_appE (l := rs[p]) (xs := ws.map V.str) (vrow (E11.trans e12) rfl rfl) ((E11.trans e12) _ _ hws) (fun H13 e13 => (er_call (R := Sw 900) GR hr (a_cons (v_mix GM hr1 (v_v 9) (v_add v_int (v_v 8))) (a_cons (v_v 2) (a_cons (v_v 4) (a_1 (v_v 12))))) fun H14 e14 Q' k' E' => ⟨_, ft, gd, al, fs, ahs, rfl, ex_rd (F212.trans (e13.trans e14)) hft, lf, fun v hv => (pf v hv).mono (F212.trans (e13.trans e14)), hgd.mono (F5.trans (F12.trans (e13.trans e14))), (e12.trans (e13.trans e14)) _ _ h11, hah.1, hah.2, k'⟩) H13 (Ex.refl _) _ fun y H14 e14 ⟨z, ey, wz⟩ => ?_) (by rw [List.length_map]; omega)
      · subst ey
        have e14' := e13.trans e14
        have em : ws.map V.str ++ [V.str z] = (ws ++ [z]).map V.str := by rw [List.map_append]; rfl
        rw [em]
        refine ⟨(E11.trans (e12.trans e14')) _ _ hws, xb_nil (xb_nil ⟨_, _, _, _, _, rfl, (F12.trans e14').mut fr, (I12.mono e14').put hmr ⟨by rw [List.length_append, List.length_singleton]; omega, fun w hw => ?_⟩, by rw [upd_ne (Ne.symm (nq _ hmr))]; exact (e8.trans (e9.trans (E11.trans (e12.trans e14')))) _ _ hq, nq⟩)⟩
        rcases List.mem_append.mp hw with q | q
        · exact pws.2 w q
        · rw [List.mem_singleton.mp q]; exact wz
  · rintro q σ' H7 ⟨o8, o9, o10, o11, o12, hσ, eH, I7, hq, nq⟩
    subst hσ
    refine xb_forE (ad := nl) 8 13 po_cx T.f_enumerate (v_v 6) (sq_of (eH _ _ hnl)) (fun j σ' H' => ∃ o8 o9 o10 o11 o12 o13 o14 l3 ls3, σ' = [some (.ref sa), some (.int c0), some (.ref ft), some (.ref l3), some (.ref gd), some (.int c2), some (.ref nl), some (.ref rl), o8, o9, o10, o11, o12, o13, o14, none] ∧ Ex H7 H' ∧ H' l3 = some (.lst (ls3.map V.str)) ∧ j ≤ ls3.length ∧ ManyW 900 (12 + 9 * j) ls3)
      (fun H8 e8 => ⟨_, _, _, _, _, _, _, ll, ls, rfl, e8, (F5.trans (eH.trans e8)) _ _ hls, Nat.zero_le _, pls⟩) (fun j σ' H' _ ⟨_, _, _, _, _, _, _, _, _, _, e', _⟩ => sq_of ((eH.trans e') _ _ hnl)) ?_ ?_
    · rintro j x σ' H8 hx ⟨o8, o9, o10, o11, o12, o13, o14, l3, ls3, hσ, e8, h3, l31, p3⟩ H9 e9
      subst hσ
      rw [List.getElem?_map] at hx
      cases hz : nms[j]? with
      | none => rw [hz] at hx; cases hx
      | some nm =>
        rw [hz] at hx
        cases hx
        have wn := pnm nm (List.mem_of_getElem? hz)
        have lj : j < nms.length := (List.getElem?_eq_some_iff.mp hz).1
        have hjr : j < rs.length := by rw [lrs]; exact lj
        refine xb_setR 14 (ts_ixL (ws := ["first", "refusals", "narrow"]) (n := 8) (ll_sl (l_lst (a_cons v_str (a_cons v_str (a_cons v_str a_nil))))) (fun w hw => ?_) (v_mod (v_mix GM hr1 (v_v 5) (v_add v_int (v_v 8))) v_int (by decide)) (mod_b _ (by decide)).1 (mod_b _ (by decide)).2) fun y H10 e10 ⟨od, ey, wo⟩ => ?_
        · simp only [List.mem_cons, List.not_mem_nil, or_false] at hw
          rcases hw with h | h | h <;> rw [h] <;> exact wd_lit (by decide +kernel)
        subst ey
        have I10 := I7.mono (e8.trans (e9.trans e10))
        obtain ⟨_, _, ws, hws, pws⟩ := I10.2 _ (List.getElem_mem hjr)
        refine xb_setR 3 (er_cat (P := fun ws => ∃ us vs, ws = us ++ vs ∧ us = ls3 ∧ NsP 1 22 vs) (P' := (· = ws)) (er_cat (P := (· = ls3)) (P' := NsP 1 22) (er_vls (v_v 3) ((e9.trans e10) _ _ h3) rfl) (er_lst (ta_cons (ts_add (n := 14) (m := 8) (ts_add (n := 13) (m := 1) (ts_add (n := 5) (m := 8) ts_lit (ts_v (v_v 13) wn)) ts_lit) (ts_v (v_v 14) wo)) ta_nil)) (fun us vs a b => by rw [a, b.1]; have := p3.1; omega))
          (fun H0 e0 Q' k' => (v_ixLn j (v := .ref rs[j]) (vl_sl (v_v 7) (sq_of (e0 _ _ I10.1))) (v_v 8) (by rw [List.getElem?_map, List.getElem?_eq_getElem hjr]; rfl)) H0 (Ex.refl _) _ fun H0' e0' => k' _ H0' e0' ⟨rs[j], ws, rfl, (e0.trans e0') _ _ hws, rfl⟩) (fun us vs a b => by obtain ⟨us', vs', e, a1, a2⟩ := a; rw [e, List.length_append, a1, a2.1, b]; have := p3.1; have := pws.1; omega)) fun y H11 e11 hy => ?_
        obtain ⟨l4, ls4, ey, h4, us, vs, rfl, ⟨us', vs', rfl, rfl, pv'⟩, rfl⟩ := hy
        subst ey
        refine xb_nil ⟨_, _, _, _, _, _, _, l4, _, rfl, e8.trans (e9.trans (e10.trans e11)), h4, ?_, ?_, fun w hw => ?_⟩
        · rw [List.length_append, List.length_append, pv'.1]; omega
        · rw [List.length_append, List.length_append, pv'.1]; have := p3.1; have := pws.1; omega
        · rcases List.mem_append.mp hw with z | z
          · rcases List.mem_append.mp z with z | z
            · exact p3.2 w z
            · exact (pv'.2 w z).mono (by decide)
          · exact pws.2 w z
    · rintro σ' H8 ⟨o8, o9, o10, o11, o12, o13, o14, l3, ls3, hσ, e8, h3, l31, p3⟩
      subst hσ
      rw [List.length_map] at l31 p3
      refine xb_retE (xe_tup (xa_cons (xe_v (v_v 2) fun H9 e9 => xa_cons (xe_v (v_v 6) fun H10 e10 => xa_cons (xe_v (v_v 3) fun H11 e11 => xa_nil ⟨by simp, fun t ht => ?_⟩)))))
      have ee := (e9.trans (e10.trans e11)).trans (Ex.new (o := .tup [.ref ft, .ref nl, .ref l3]) ht)
      exact k t _ _ l3 ls3 _ (E5.trans (eH.trans (e8.trans ee))) (.inl upd_same) (ee _ _ h3) (by omega) (p3.mono (by omega))
end
end Gw

set_option maxRecDepth 100000
set_option maxHeartbeats 4000000
/-! For bending: a slice stored, a text split, words joined. -/
namespace Gw
open PySem PySem.Spec PyProof.Rows L2 Evl SX
theorem relv_part {vl : Value} {i : Int} (h : IsPart vl (some i)) : RelV (.int i) vl := by
  cases h
  exact ⟨_, rfl⟩
section
variable {X : Cx} {e a b c o lo hi : Expr} {es : List Expr} {rest : List Stmt} {σ : L2.St} {H H' : Hp} {Q : VK} {D : Ends} {v w x y z : V} {xs ys vs : List V} {pos p p' p2 p3 p4 apos cpos : Pos} {R : V → Hp → Prop} {n m : Nat} {u : Str}
/-- xs[a:c] = a new list -/
theorem xb_slice {l : Addr} {a c : Nat} (hv : Ll X e σ H ys) (ho : Vl X o σ H (.ref l)) (hl : H l = some (.lst xs)) (h1 : Vl X lo σ H (.int (a : Int))) (h2 : Vl X hi σ H (.int (c : Int))) (hac : a ≤ c) (hc : c ≤ xs.length) (hz : xs.length + ys.length ≤ 16777216)
    (k : ∀ H1, Ex H H1 → XB X rest D σ (upd H1 l (.lst (xs.take a ++ ys ++ xs.drop c)))) (hs : swapsWith e (some (.Subscript o (.Slice (some lo) (some hi) none p2) p')) pos.line X.env = pure false := by rfl) :
    XB X (.Assign [.Subscript o (.Slice (some lo) (some hi) none p2) p'] e pos :: rest) D σ H := by
  refine xb_cons ⟨fun pins s I => wpAny_Assign_Subscript (thn ((hv H (Ex.refl H) (fun v H1 => ∃ b, v = .ref b ∧ H b = none ∧ Ex H H1 ∧ H1 b = some (.lst ys)) (fun b H1 hb e1 h1 => ⟨b, rfl, hb, e1, h1⟩)).run pins s I) fun r s1 ⟨v, H1, I1, rv, b, ev, hb, e1, hb1⟩ => ?_) hs⟩
  refine thn ((ho H1 e1 (fun v H2 => v = .ref l ∧ Ex H1 H2) (fun H2 e2 => ⟨rfl, e2⟩)).run pins s1 I1) fun u s2 ⟨x, H2, I2, rx, ex, e2⟩ => ?_
  refine wpAny_Slice (thn ((po_xo (X := X) (o := some lo)).run pins s2 σ H2 (fun i H3 => i = some (a : Int) ∧ Ex H2 H3) I2 ((o_s h1) H2 (e1.trans e2) _ fun H3 e3 => ⟨rfl, e3⟩)) fun vl s3 ⟨i, H3, I3, pl, ei, e3⟩ => thn ((po_xo (X := X) (o := some hi)).run pins s3 σ H3 (fun i H4 => i = some (c : Int) ∧ Ex H3 H4) I3 ((o_s h2) H3 ((e1.trans e2).trans e3) _ fun H4 e4 => ⟨rfl, e4⟩)) fun vu s4 ⟨j, H4, I4, pu, ej, e4⟩ => ?_)
  rw [evalPart_none]
  refine wpAny_pure ?_
  subst ev ex ei ej
  obtain rfl : r = Value.ref b := rv
  obtain rfl : u = Value.ref l := rx
  have I5 : Inv X pins σ H4 { s4 with heap := s4.heap.push { cls := .type "slice", data := .fields #[vl, vu, .none] } } := I4.kept (t' := s4.toks) fun b ob q => Heap.get?_push_of_some _ q
  have e14 := (e2.trans e3).trans e4
  refine set_slice I5 ((e1.trans e14) _ _ hl) (e14 _ _ hb1) (fun q => by rw [← q, hl] at hb; cases hb) (Heap.IsSliceOf.new ..) (relv_part pl) (relv_part pu) (by omega) (by omega) (by omega) (by rw [sizeLine_eq]; exact hz) fun s' I' => ⟨σ, _, I', ?_⟩
  have := k H4 (e1.trans e14)
  rw [Int.toNat_natCast, Int.toNat_natCast]
  exact this
/-- a text of which something is told, split at a blank -/
theorem er_split {P : Str → Prop} (ho : Er X o σ H (SwP P)) (he : Vl X e σ H (.str " ")) (hP : ∀ z, P z → z.length ≤ 1000000) (hs : starEach [e] X.env = [(false, eval e X.env)] := by rfl) (hbase : attributeBase o "split" X.env (eval o X.env) = eval o X.env := by rfl) (hline : (apos.endLine == pos.line) = true := by rfl) :
    Er X (.Call (.Attribute o "split" apos) [e] [] pos) σ H (LsW fun ws => ∃ z, P z ∧ ws = (TL.spl [32] 0 [] z.cps.toList).map S) := fun H1 e1 Q q => xe_of (pe_split pe_xe pe_xe hs hbase hline) (ho H1 e1 _ fun y H2 e2 ⟨z, ey, hp⟩ => ⟨⟨z, ey⟩, he H2 (e1.trans e2) _ fun H3 e3 => ⟨z, " ", ey, rfl, (by decide +kernel), (by
    have := hP z hp
    exact Nat.le_trans (show z.length + 2 ≤ 1000002 by omega) (by decide)), fun l hl => q _ _ ((e2.trans e3).trans (Ex.new hl)) ⟨l, (TL.spl [32] 0 [] z.cps.toList).map S, rfl, (by
    have h : Txt.split (S z.cps.toList) " " = (TL.spl [32] 0 [] z.cps.toList).map S := by rw [litBlank]; exact split_S (by simp) (by decide)
    rw [upd_same]
    exact congrArg (fun q => some (HO.lst (q.map V.str))) h), z, hp, rfl⟩⟩⟩)
end
/-- the pieces of a text, how long all together -/
theorem spl_tot {c : Nat} : ∀ (n : Nat) (a : W), a.length ≤ n → ((TL.spl [c] 0 [] a).map fun p => p.length + 1).sum = a.length + 1
  | 0, a, h => by
    have : a = [] := List.eq_nil_of_length_eq_zero (by omega)
    subst this
    rfl
  | n + 1, a, h => by
    rw [spl_par (by simp) a]
    cases e : TL.par [c] [] a with
    | none => simp
    | some pq =>
      obtain ⟨p, q⟩ := pq
      have ea : a = p ++ c :: q := by have := par_some_eq e; simpa using this
      have hq : q.length ≤ n := by rw [ea, List.length_append, List.length_cons] at h; omega
      show ((p :: TL.spl [c] 0 [] q).map _).sum = _
      rw [List.map_cons, List.sum_cons, spl_tot n q hq, ea, List.length_append, List.length_cons]
      omega
theorem joinL_tot {c : Nat} : ∀ ws : List W, (TL.joinL [c] ws).length ≤ (ws.map fun w => w.length + 1).sum - 1
  | [] => Nat.le_refl _
  | [p] => by show p.length ≤ _; simp
  | p :: q :: r => by
    have := joinL_tot (c := c) (q :: r)
    show (p ++ ([c] ++ TL.joinL [c] (q :: r))).length ≤ _
    rw [List.length_append, List.length_append, List.map_cons, List.sum_cons, List.length_singleton]
    simp only [List.map_cons, List.sum_cons] at this ⊢
    omega
theorem tls_len (ws : List Str) {k : Nat} : (tls ws).map (fun w => w.length + k) = ws.map fun w => w.length + k := by
  unfold tls
  rw [List.map_map]
  refine List.map_congr_left fun w _ => ?_
  show w.cps.toList.length + k = w.length + k
  rw [Array.length_toList]; rfl
theorem tot_take_drop {ws vs : List Str} {a c : Nat} (h : a ≤ c) : ((ws.take a ++ vs ++ ws.drop c).map fun w => w.length + 1).sum ≤ (ws.map fun w => w.length + 1).sum + (vs.map fun w => w.length + 1).sum := by
  rw [List.map_append, List.map_append, List.sum_append, List.sum_append]
  have h1 : ((ws.take a).map fun w => w.length + 1).sum + ((ws.drop a).map fun w => w.length + 1).sum = (ws.map fun w => w.length + 1).sum := by
    rw [← List.sum_append, ← List.map_append, List.take_append_drop]
  have h2 : ((ws.drop c).map fun w => w.length + 1).sum ≤ ((ws.drop a).map fun w => w.length + 1).sum := by
    have e : ws.drop c = (ws.drop a).drop (c - a) := by rw [List.drop_drop]; congr 1; omega
    rw [e]
    have : ((ws.drop a).map fun w => w.length + 1).sum = (((ws.drop a).take (c - a)).map fun w => w.length + 1).sum + (((ws.drop a).drop (c - a)).map fun w => w.length + 1).sum := by
      rw [← List.sum_append, ← List.map_append, List.take_append_drop]
    omega
  omega
end Gw

set_option maxRecDepth 100000
set_option maxHeartbeats 4000000
/-! A text bent. -/
namespace Gw
open PySem PySem.Spec PyProof.Rows L2 Evl SX
theorem blank_tl : (" " : Str).cps.toList = [32] := by decide +kernel
theorem join_blank (ws : List Str) : (Txt.join " " ws).cps.toList = TL.joinL [32] (tls ws) := by rw [join_tls, blank_tl]
theorem piece_wd {n : Nat} {z : Str} (h : Wd n z) : ∀ w ∈ (TL.spl [32] 0 [] z.cps.toList).map S, Wd n w := fun w hw => by
  obtain ⟨p, hp, rfl⟩ := List.mem_map.mp hw
  have hl := wd_tl h
  exact wd_S.mpr ⟨Nat.le_trans (spl_le (by simp) hp) hl.1, fun c hc => hl.2 c ((spl1_free _ _ (Nat.le_refl _) p hp).2 c hc)⟩
theorem pool_wd {n : Nat} {ls : List Str} (h0 : ls ≠ []) (h : ∀ l ∈ ls, Wd n l) : ∀ w ∈ (TL.spl [32] 0 [] (Txt.join " " ls).cps.toList).map S, Wd n w := fun w hw => by
  rw [join_blank, spl_join (tls ls) (by unfold tls; simpa using h0), List.map_flatMap] at hw
  obtain ⟨q, hq, hw⟩ := List.mem_flatMap.mp hw
  obtain ⟨l, hl, rfl⟩ := List.mem_map.mp hq
  exact piece_wd (h l hl) w hw
theorem merge_two {q1 q2 j : Key} {y1 y2 : V} : valV (mergeK [] [(q1, y1), (q2, y2)]) j = if j = q2 then some y2 else if j = q1 then some y1 else none := by
  unfold mergeK
  simp only [List.foldl_cons, List.foldl_nil]
  rw [valV_put, valV_put, valV_nil]
def swpN (a b k : Nat) : Nat := if k = b then a else if k = a then b else k
theorem swpN_lt {a b k n : Nat} (ha : a < n) (hb : b < n) (hk : k < n) : swpN a b k < n := by unfold swpN; split; exact ha; split; exact hb; exact hk
theorem swp_get {a b k : Nat} : (valV (mergeK [] [((.inl (a : Int) : Key), V.int (b : Int)), (.inl (b : Int), V.int (a : Int))]) (.inl (k : Int))).getD (V.int (k : Int)) = V.int ((swpN a b k : Nat) : Int) := by
  rw [merge_two]
  unfold swpN
  by_cases h1 : k = b
  · rw [if_pos (by rw [h1]), if_pos h1]; rfl
  · have h1' : ¬ (Sum.inl (k : Int) : Key) = .inl (b : Int) := fun q => h1 (by have := Sum.inl.inj q; omega)
    rw [if_neg h1', if_neg h1]
    by_cases h2 : k = a
    · rw [if_pos (by rw [h2]), if_pos h2]; rfl
    · have h2' : ¬ (Sum.inl (k : Int) : Key) = .inl (a : Int) := fun q => h2 (by have := Sum.inl.inj q; omega)
      rw [if_neg h2', if_neg h2]; rfl
theorem dec_vi {w j : Nat} : decide (V.int (w : Int) = V.int (j : Int)) = decide (w = j) := decide_eq_decide.mpr ⟨fun h => by have := V.int.inj h; omega, fun h => by rw [h]⟩
def BentP (n m : Nat) (ws : List Str) : Prop := 1 ≤ ws.length ∧ ManyW (2 * n + 1) (m + 1) ws
def spLBent : Sp := fun vs H Q _ => ∃ (ll : Addr) (x y : Int) (ls : List Str) (n m : Nat), vs = [.ref ll, .int x, .int y] ∧ H ll = some (.lst (ls.map V.str)) ∧ 1 ≤ ls.length ∧ ManyW n m ls ∧ m ≤ 60 ∧ 13 ≤ n ∧ n ≤ 4000 ∧ ∀ y H', Ex H H' → LsW (BentP n m) y H' → Q y H'
theorem bent_three {n m : Nat} {us vs ws : List Str} {w : Str} (hu : ManyW n m ws) (h1 : ∀ u ∈ us, u ∈ ws) (h2 : ∀ v ∈ vs, v ∈ ws) (hl : us.length + vs.length ≤ m) (hw : Wd (2 * n + 1) w) : BentP n m (us ++ [w] ++ vs) := by
  refine ⟨by simp; omega, by simp; omega, fun z hz => ?_⟩
  rcases List.mem_append.mp hz with q | q
  · rcases List.mem_append.mp q with q | q
    · exact (hu.2 z (h1 z q)).mono (by omega)
    · rw [List.mem_singleton.mp q]; exact hw
  · exact (hu.2 z (h2 z q)).mono (by omega)
section
variable {P : Program} {w : World} {K : PySem.W.Frag} {mg : Str → Option Value} {base : Heap}
theorem ok_lBent (T : Tx K mg) : Gd P w K mg base 1 "_law_bent" spLBent := by
  refine gd_of T dLawBent 60 T.g__law_bent scLawBent (fun _ _ _ _ _ _ us hl => match us, hl with | [_, _, _], _ => rfl) (fun _ _ _ _ ⟨_, _, _, _, _, _, e, _⟩ => by subst e; rfl) fun f cdv A outer s H vs Q E hr ⟨ll, x, y, ls, n, m, e, hll, l1, pl, hm, hn0, hn1, k⟩ => ?_
  subst e
  have nd := scLawBent.nd
  have hne : ls ≠ [] := fun z => by rw [z] at l1; cases l1
  have lm := pl.1
  have vL : ∀ {H' : Hp} {σ2 : L2.St} {pp1 pp2 pp3 : Pos}, Ex H H' → σ2[0]? = some (some (.ref ll)) → Vl (Cxd dLawBent P w K mg base nLawBent f cdv A outer s H E) (.Call (.Name "len" pp1) [.Name "_law_lines" pp2] [] pp3) σ2 H' (.int (ls.length : Int)) := fun e' h0 => vl_is (v_lenL T.f_len (vl_sl (v_v 0 h0) (sq_of (e' _ _ hll)))) (by rw [List.length_map])
  have lpos : (0 : Int) < (ls.length : Int) := by omega
  obtain ⟨a, hea, la⟩ := mod_nat (x / 8) (n := ls.length) l1
  refine xb_set 3 (v := .int (a : Int)) (vl_is (v_mod (v_fdiv (v_v 1) v_int ⟨by decide, by decide⟩) (vL (Ex.refl _) rfl) lpos) (by rw [hea])) fun H1 e1 => ?_
  obtain ⟨b, heb, lb⟩ := mod_nat y (n := ls.length) l1
  refine xb_set 4 (v := .int (b : Int)) (vl_is (v_mod (v_v 2) (vL e1 rfl) lpos) (by rw [heb])) fun H2 e2 => ?_
  have E2 := e1.trans e2
  have jsz : (ls.map (·.length)).sum + ls.length * (" " : Str).length ≤ 16777216 := join_size (n := 4000) (m := 60) (by decide) (fun w hw => Nat.le_trans (pl.2 w hw).1 hn1) (by omega) (by decide)
  have jl : (Txt.join " " ls).length ≤ 1000000 := Nat.le_trans (wd_join (k := 1) (n := n) (m := 60) (wd_lit (by decide +kernel)) pl.2 (by omega)).1 (by omega)
  have jw := pool_wd hne pl.2
  have jc : ((TL.spl [32] 0 [] (Txt.join " " ls).cps.toList).map S).length ≤ 300000 := by
    rw [List.length_map]
    refine Nat.le_trans (spl_many (by simp)) ?_
    rw [Array.length_toList]
    have h2 : (Txt.join " " ls).cps.size ≤ 60 * (n + 1) := (wd_join (k := 1) (n := n) (m := 60) (wd_lit (by decide +kernel)) pl.2 (by omega)).1
    omega
  refine xb_setR 5 (R := LsW (ManyW n 300010)) ((er_cat (P := ManyW n 300000) (P' := NsP 10 13) ((er_split (P := (· = Txt.join " " ls)) (fun H0 e0 Q' k' => (v_join v_str (vl_sl (v_v 0) (sq_of (E2 _ _ hll))) jsz) H0 e0 Q' fun H0' e0' => k' _ H0' e0' ⟨_, rfl, rfl⟩) v_str (fun z hz => by rw [hz]; exact jl)).imp fun y H' h => h.imp fun ws ⟨z, hz, hw⟩ => by rw [hw, hz]; exact ⟨jc, jw⟩)
    (er_lst (m := 10) (n := 13) (ta_cons (ts_lit (n := 13)) (ta_cons (ts_lit (n := 13)) (ta_cons (ts_lit (n := 13)) (ta_cons (ts_lit (n := 13)) (ta_cons (ts_lit (n := 13)) (ta_cons (ts_lit (n := 13)) (ta_cons (ts_lit (n := 13)) (ta_cons (ts_lit (n := 13)) (ta_cons (ts_lit (n := 13)) (ta_cons (ts_lit (n := 13)) ta_nil))))))))))) (fun us vs a b => by have := a.1; have := b.1; omega)).imp fun y H' h => h.imp fun ws ⟨us, vs, ew, pu, pv⟩ => ?_) fun y3 H3 e3 ⟨pa, ps, ey, hpa, pps⟩ => ?_
  · subst ew
    refine ⟨by rw [List.length_append, pv.1]; have := pu.1; omega, fun w hw => ?_⟩
    rcases List.mem_append.mp hw with q | q
    · exact pu.2 w q
    · exact (pv.2 w q).mono hn0
  subst ey
  refine xb_setR 5 (R := LsW (ManyW n 300020)) ((er_cat (P := ManyW n 300010) (P' := NsP 10 13) (er_vls (v_v 5) hpa pps)
    (er_lst (m := 10) (n := 13) (ta_cons (ts_lit (n := 13)) (ta_cons (ts_lit (n := 13)) (ta_cons (ts_lit (n := 13)) (ta_cons (ts_lit (n := 13)) (ta_cons (ts_lit (n := 13)) (ta_cons (ts_lit (n := 13)) (ta_cons (ts_lit (n := 13)) (ta_cons (ts_lit (n := 13)) (ta_cons (ts_lit (n := 13)) (ta_cons (ts_lit (n := 13)) ta_nil))))))))))) (fun us vs a b => by have := a.1; have := b.1; omega)).imp fun y H' h => h.imp fun ws ⟨us, vs, ew, pu, pv⟩ => ?_) fun y4 H4 e4 ⟨pa2, ps2, ey, hpa2, pps2⟩ => ?_
  · subst ew
    refine ⟨by rw [List.length_append, pv.1]; have := pu.1; omega, fun w hw => ?_⟩
    rcases List.mem_append.mp hw with q | q
    · exact pu.2 w q
    · exact (pv.2 w q).mono hn0
  subst ey
  refine xb_setR 5 (R := LsW fun ws => 1 ≤ ws.length ∧ ManyW n 300030 ws) ((er_cat (P := ManyW n 300020) (P' := NsP 6 13) (er_vls (v_v 5) hpa2 pps2)
    (er_lst (m := 6) (n := 13) (ta_cons (ts_lit (n := 13)) (ta_cons (ts_lit (n := 13)) (ta_cons (ts_lit (n := 13)) (ta_cons (ts_lit (n := 13)) (ta_cons (ts_lit (n := 13)) (ta_cons (ts_lit (n := 13)) ta_nil))))))) (fun us vs a b => by have := a.1; have := b.1; omega)).imp fun y H' h => h.imp fun ws ⟨us, vs, ew, pu, pv⟩ => ?_) fun y5 H5 e5 ⟨pa3, ps3, ey, hpa3, lp3, pps3⟩ => ?_
  · subst ew
    refine ⟨by rw [List.length_append, pv.1]; omega, by rw [List.length_append, pv.1]; have := pu.1; omega, fun w hw => ?_⟩
    rcases List.mem_append.mp hw with q | q
    · exact pu.2 w q
    · exact (pv.2 w q).mono hn0
  subst ey
  have E5 := E2.trans (e3.trans (e4.trans e5))
  have hla : ls[a]? = some ls[a] := List.getElem?_eq_getElem la
  have wa := pl.2 _ (List.getElem_mem la)
  generalize ls[a] = u at hla wa
  have vA : ∀ {H' : Hp} {σ2 : L2.St} {pp1 pp2 pp3 : Pos}, Ex H H' → σ2[0]? = some (some (.ref ll)) → σ2[3]? = some (some (.int (a : Int))) → Vl (Cxd dLawBent P w K mg base nLawBent f cdv A outer s H E) (.Subscript (.Name "_law_lines" pp1) (.Name "_law_at" pp2) pp3) σ2 H' (.str u) := fun e' h0 h3 => v_ixLn a (v := .str u) (vl_sl (v_v 0 h0) (sq_of (e' _ _ hll))) (v_v 3 h3) (by rw [List.getElem?_map, hla]; rfl)
  refine xb_setL 6 (l_splitBig (a := u.cps.toList) litBlank (vA E5 rfl rfl) v_str (Nat.le_trans (wd_tl wa).1 (by omega)) ⟨by decide, by decide⟩) fun wl H6 hwl e6 h6 => ?_
  have em : ((TL.spl [32] 0 [] u.cps.toList).map fun p => V.str (S p)) = ((TL.spl [32] 0 [] u.cps.toList).map S).map V.str := by rw [List.map_map]; rfl
  rw [em] at h6
  have tw : (((TL.spl [32] 0 [] u.cps.toList).map S).map fun w => w.length + 1).sum = u.length + 1 := by
    have h := spl_tot (c := 32) _ u.cps.toList (Nat.le_refl _)
    rw [Array.length_toList] at h
    rw [List.map_map, ← h.trans (show u.cps.size + 1 = u.length + 1 from rfl)]
    congr 1
  have pw := piece_wd wa
  have lw : 0 < ((TL.spl [32] 0 [] u.cps.toList).map S).length := by
    cases hz : (TL.spl [32] 0 [] u.cps.toList).map S with
    | nil => rw [hz] at tw; simp at tw
    | cons _ _ => simp
  have lwm : ((TL.spl [32] 0 [] u.cps.toList).map S).length ≤ n + 1 := by
    rw [List.length_map]
    have := spl_many (s := [32]) (a := u.cps.toList) (by simp)
    have := (wd_tl wa).1
    omega
  generalize (TL.spl [32] 0 [] u.cps.toList).map S = ws at h6 tw pw lw lwm
  have wpos : (0 : Int) < ((ws.map V.str).length : Int) := by rw [List.length_map]; omega
  obtain ⟨p, hep, lp⟩ := mod_nat (y / 64) (n := ws.length) lw
  refine xb_set 7 (v := .int (p : Int)) (vl_is (v_mod (v_fdiv (v_v 2) v_int ⟨by decide, by decide⟩) (v_lenL T.f_len (vl_sl (v_v 6) (sq_of h6))) wpos) (by rw [List.length_map, hep])) fun H7 e7 => ?_
  have ppos : (0 : Int) < ((ps3.map V.str).length : Int) := by rw [List.length_map]; omega
  have hpa7 := (e6.trans e7) _ _ hpa3
  refine xb_setR 8 (ts_ixL (ws := ps3) (n := n) (vl_sl (v_v 5) (sq_of hpa7)) pps3.2 (v_mod (v_fdiv (v_v 2) v_int ⟨by decide, by decide⟩) (v_lenL T.f_len (vl_sl (v_v 5) (sq_of hpa7))) ppos) (mod_b _ ppos).1 (Int.lt_of_lt_of_le (mod_b _ ppos).2 (by rw [List.length_map]; exact Int.le_refl _))) fun y8 H8 e8 ⟨word, ey, ww⟩ => ?_
  subst ey
  obtain ⟨w, hew, lw8⟩ := mod_nat x (n := 8) (by decide)
  refine xb_set 9 (v := .int (w : Int)) (vl_is (v_mod (v_v 1) v_int (by decide)) (by have hew : x % 8 = (w : Int) := hew; rw [hew])) fun H9 e9 => ?_
  have E9 := E5.trans (e6.trans (e7.trans (e8.trans e9)))
  have hll9 := E9 _ _ hll
  have h69 := (e7.trans (e8.trans e9)) _ _ h6
  refine xb_when (k := decide (w = 0)) (bl_is (bc (c_eq (v_v 9) v_int)) (dec_vi (j := 0))) (fun q H10 e10 => ?_) fun q0 H10 e10 => ?_
  · refine xb_retE (xe_if (k := decide (1 < ls.length)) (bl_is (bc (c_gt (vL (E9.trans e10) rfl) v_int)) (decide_eq_decide.mpr (by omega))) (fun q H11 e11 => ?_) fun q H11 e11 => ?_)
    · have q := of_decide_eq_true q
      have h11 := (e10.trans e11) _ _ hll9
      refine (ll_is (ys := (ls.take a ++ ls.drop (a + 1)).map V.str) (l_cat (ll_hl (l_slL (vl_sl (v_v 0) (sq_of h11)) o_n (o_s (v_v 3)))) (ll_hl (l_slL (vl_sl (v_v 0) (sq_of h11)) (o_s (i := ((a + 1 : Nat) : Int)) (vl_is (v_add (v_v 3) v_int) rfl)) o_n)) (by have h1 := cutV_length (ls.map V.str) none (some (a : Int)); have h2 := cutV_length (ls.map V.str) (some ((a + 1 : Nat) : Int)) none; rw [List.length_map] at h1 h2; omega)) (by rw [cutV_to, cutV_from, List.map_append, List.map_take, List.map_drop])) H11 (Ex.refl _) _ fun l H12 hl e12 h12 => k _ H12 (E9.trans (e10.trans (e11.trans e12))) ⟨l, _, rfl, h12, ?_, ?_, fun z hz => ?_⟩
      · rw [List.length_append, List.length_take, List.length_drop]; omega
      · rw [List.length_append, List.length_take, List.length_drop]; omega
      · rcases List.mem_append.mp hz with q | q
        · exact (pl.2 z (List.mem_of_mem_take q)).mono (by omega)
        · exact (pl.2 z (List.mem_of_mem_drop q)).mono (by omega)
    · exact xe_v (v_v 0) fun H12 e12 => k _ H12 (E9.trans (e10.trans (e11.trans e12))) ⟨ll, ls, rfl, (e10.trans (e11.trans e12)) _ _ hll9, l1, by omega, fun z hz => (pl.2 z hz).mono (by omega)⟩
  refine xb_when (k := decide (w = 1)) (bl_is (bc (c_eq (v_v 9) v_int)) (dec_vi (j := 1))) (fun q H11 e11 => ?_) fun q1 H11 e11 => ?_
  · have h11 := (e10.trans e11) _ _ hll9
    refine xb_retR (er_cat (P := fun z => ∃ us vs, z = us ++ vs ∧ us = ls.take b ∧ NsP 1 n vs) (P' := (· = ls.drop b)) (er_cat (P := (· = ls.take b)) (P' := NsP 1 n) (er_ll (ws := ls.take b) (ll_is (l_slL (vl_sl (v_v 0) (sq_of h11)) o_n (o_s (v_v 4))) (by rw [cutV_to, List.map_take])) rfl) (er_lst (ta_cons (ts_v (vA (E9.trans (e10.trans e11)) rfl rfl) wa) ta_nil)) (fun us vs a b => by rw [a, b.1, List.length_take]; omega)) (er_ll (ws := ls.drop b) (ll_is (l_slL (vl_sl (v_v 0) (sq_of h11)) (o_s (v_v 4)) o_n) (by rw [cutV_from, List.map_drop])) rfl) (fun us vs a b => by obtain ⟨us', vs', e, a1, a2⟩ := a; rw [e, List.length_append, a1, a2.1, b, List.length_take, List.length_drop]; omega)) fun y H12 e12 hy => k y H12 (E9.trans (e10.trans (e11.trans e12))) (hy.imp ?_)
    rintro _ ⟨_, _, rfl, ⟨us, vs, rfl, rfl, pv⟩, rfl⟩
    match vs, pv with
    | [v], pv => exact bent_three pl (fun z hz => List.mem_of_mem_take hz) (fun z hz => List.mem_of_mem_drop hz) (by rw [List.length_take, List.length_drop]; omega) ((pv.2 v (by simp)).mono (by omega))
  refine xb_when (k := decide (w = 2)) (bl_is (bc (c_eq (v_v 9) v_int)) (dec_vi (j := 2))) (fun q H12 e12 => ?_) fun q2 H12 e12 => ?_
  · have h12 := (e10.trans (e11.trans e12)) _ _ hll9
    refine xb_retR (cp_er (lc_txt (i := 13) (own := [("_law_k", 13)]) (ws := List.range ls.length) (enc := fun j : Nat => V.int (j : Int)) n (il_Rn T.f_range (vL (E9.trans (e10.trans (e11.trans e12))) rfl) (by omega)) (by rw [List.length_range]; omega) (blkOk_by (N := nLawBent) (sc := defScope sLawBent) (by decide +kernel))
      (fun _ _ _ _ _ j hj => ts_ixL (ws := ls) (vl_sl (v_v 0) (sq_of h12)) pl.2 (vl_is (v_dget2 (q := .inl (j : Int)) (kvs := mergeK [] [((.inl (a : Int) : Key), V.int (b : Int)), (.inl (b : Int), V.int (a : Int))]) hr (fun H0 e0 Q' k' => xe_disp2 (q1 := .inl (a : Int)) (q2 := .inl (b : Int)) (v_v 3) (v_v 4) fun p H1 hp e1 hp1 => xe_v (v_v 4) fun H2 e2 => ⟨e2, fun H3 e3 => xe_v (v_v 3) fun H4 e4 => ⟨e4, k' p _ ((e1.trans (e2.trans (e3.trans e4))).mut hp) upd_same⟩⟩) (v_v 13) (v_v 13) ⟨rfl, rfl, rfl, rfl⟩) swp_get) (by omega) (by have := swpN_lt la lb (List.mem_range.mp hj); omega)))
      fun q ys H1 H2 h ⟨us, ey, lu, pu⟩ => ⟨q, us, rfl, by rw [h, ey], show BentP n m us from ⟨by rw [lu, List.length_range]; exact l1, by rw [lu, List.length_range]; omega, fun z hz => (pu z hz).mono (by omega)⟩⟩) fun y H13 e13 hy => k y H13 (E9.trans (e10.trans (e11.trans (e12.trans e13)))) hy
  have q0 := of_decide_eq_false q0
  have q1 := of_decide_eq_false q1
  have q2 := of_decide_eq_false q2
  have F12 := e10.trans (e11.trans e12)
  refine xb_when (k := decide (w < 6)) (bl_is (bc (c_lt (v_v 9) v_int)) (decide_eq_decide.mpr (by omega))) (fun q H13 e13 => ?_) fun q6 H13 e13 => ?_
  · have q := of_decide_eq_true q
    have hd : ∃ d : Nat, ([1, 0, 1] : List Int).getD ((w : Int) - 3).toNat 0 = (d : Int) ∧ d ≤ 1 := by
      have h3 : w = 3 ∨ w = 4 ∨ w = 5 := by omega
      rcases h3 with h | h | h <;> subst h
      · exact ⟨1, rfl, by decide⟩
      · exact ⟨0, rfl, by decide⟩
      · exact ⟨1, rfl, by decide⟩
    obtain ⟨d, hd, ld⟩ := hd
    have h613 := (F12.trans e13) _ _ h69
    have l2 : (cutA [word] none (some (if decide (w < 5) then 1 else 0))).length ≤ 1 := by
      unfold cutA
      rw [List.length_take, List.length_drop]
      simp only [List.length_singleton]
      omega
    have m2 : ∀ z ∈ cutA [word] none (some (if decide (w < 5) then 1 else 0)), z = word := fun z hz => List.mem_singleton.mp (cutA_mem hz)
    refine xb_slice (l := wl) (a := p) (c := p + d) (xs := ws.map V.str) (ys := (cutA [word] none (some (if decide (w < 5) then 1 else 0))).map V.str) (ll_is (l_slL (ll_sl (l_lst (a_1 (v_v 8)))) o_n (o_s (v_intB (k := decide (w < 5)) T.f_int (vl_is (vc (c_lt (v_v 9) v_int)) (congrArg V.bl (decide_eq_decide.mpr (by omega))))))) (show cutV ([word].map V.str) _ _ = _ from cutV_map)) (v_v 6) h613 (v_v 7)
      (vl_is (v_add (v_v 7) (v_pick (ns := [1, 0, 1]) (ll_sl (l_lst (a_cons v_int (a_cons v_int (a_cons v_int a_nil))))) (v_sub (v_v 9) v_int) (by omega) (by show _ < (3 : Int); omega))) (by rw [hd]; rfl)) (by omega) (by rw [List.length_map]; omega) (by rw [List.length_map, List.length_map]; omega) fun H14 e14 => ?_
    generalize cutA [word] none (some (if decide (w < 5) then 1 else 0)) = nw at l2 m2
    have eX : Ex H (upd H14 wl (.lst ((ws.map V.str).take p ++ nw.map V.str ++ (ws.map V.str).drop (p + d)))) := (E9.trans (F12.trans (e13.trans e14))).mut (fresh_back E5 hwl)
    have hX : upd H14 wl (.lst ((ws.map V.str).take p ++ nw.map V.str ++ (ws.map V.str).drop (p + d))) wl = some (.lst ((ws.take p ++ nw ++ ws.drop (p + d)).map V.str)) := by rw [upd_same, List.map_append, List.map_append, List.map_take, List.map_drop]
    generalize upd H14 wl (.lst ((ws.map V.str).take p ++ nw.map V.str ++ (ws.map V.str).drop (p + d))) = H15 at eX hX ⊢
    have tt := tot_take_drop (ws := ws) (vs := nw) (a := p) (c := p + d) (by omega)
    have tn : (nw.map fun w => w.length + 1).sum ≤ n + 1 := by
      match nw, l2, m2 with
      | [], _, _ => exact Nat.zero_le _
      | [z], _, m2 => simp only [List.map_cons, List.map_nil, List.sum_cons, List.sum_nil]; have := (m2 z (by simp)) ▸ ww.1; omega
    have pX : ∀ z ∈ ws.take p ++ nw ++ ws.drop (p + d), Wd n z := fun z hz => by
      rcases List.mem_append.mp hz with q | q
      · rcases List.mem_append.mp q with q | q
        · exact pw z (List.mem_of_mem_take q)
        · rw [m2 z q]; exact ww
      · exact pw z (List.mem_of_mem_drop q)
    have lX : (ws.take p ++ nw ++ ws.drop (p + d)).length ≤ 4100 := by
      rw [List.length_append, List.length_append, List.length_take, List.length_drop]; omega
    generalize ws.take p ++ nw ++ ws.drop (p + d) = wX at hX tt pX lX
    have wj : Wd (2 * n + 1) (Txt.join " " wX) := by
      rw [join_tls, blank_tl, wd_S]
      refine ⟨?_, fun c hc => ?_⟩
      · refine Nat.le_trans (joinL_tot _) ?_
        rw [tls_len wX]
        have := wa.1
        omega
      · rcases joinL_mem _ hc with q | ⟨w, hw', q⟩
        · have : c = 32 := by simpa using q
          rw [this]; exact ⟨by decide, by decide⟩
        · obtain ⟨z, hz, rfl⟩ := List.mem_map.mp hw'
          exact (pX z hz).2 c q
    have hll15 := eX _ _ hll
    refine xb_retR (er_cat (P := fun z => ∃ us vs, z = us ++ vs ∧ us = ls.take a ∧ NsP 1 (2 * n + 1) vs) (P' := (· = ls.drop (a + 1))) (er_cat (P := (· = ls.take a)) (P' := NsP 1 (2 * n + 1)) (er_ll (ws := ls.take a) (ll_is (l_slL (vl_sl (v_v 0) (sq_of hll15)) o_n (o_s (v_v 3))) (by rw [cutV_to, List.map_take])) rfl) (er_lst (ta_cons (ts_join (P := (· = wX)) v_str (er_vls (v_v 6) hX rfl) fun z hz => ⟨by rw [hz]; exact join_size (n := 4000) (m := 4100) (by decide) (fun w hw => Nat.le_trans (pX w hw).1 hn1) lX (by decide), by rw [hz]; exact wj⟩) ta_nil)) (fun us vs a b => by rw [a, b.1, List.length_take]; omega)) (er_ll (ws := ls.drop (a + 1)) (ll_is (l_slL (vl_sl (v_v 0) (sq_of hll15)) (o_s (i := ((a + 1 : Nat) : Int)) (vl_is (v_add (v_v 3) v_int) rfl)) o_n) (by rw [cutV_from, List.map_drop])) rfl) (fun us vs a b => by obtain ⟨us', vs', e, a1, a2⟩ := a; rw [e, List.length_append, a1, a2.1, b, List.length_take, List.length_drop]; omega)) fun y H16 e16 hy => k y H16 (eX.trans e16) (hy.imp ?_)
    rintro _ ⟨_, _, rfl, ⟨us, vs, rfl, rfl, pv⟩, rfl⟩
    match vs, pv with
    | [v], pv => exact bent_three pl (fun z hz => List.mem_of_mem_take hz) (fun z hz => List.mem_of_mem_drop hz) (by rw [List.length_take, List.length_drop]; omega) (pv.2 v (by simp))
  have F13 := F12.trans e13
  obtain ⟨sp, hes, lsp⟩ := mod_nat (y / 4) (n := u.length + 1) (by omega)
  have ul : u.length ≤ sizeLine := Nat.le_trans wa.1 (Nat.le_trans hn1 (by decide))
  refine xb_set 10 (v := .int (sp : Int)) (vl_is (v_mod (v_fdiv (v_v 2) v_int ⟨by decide, by decide⟩) (v_add (v_lenS T.f_len (vA (E9.trans F13) rfl rfl) ul) v_int) (by omega)) (by rw [show (u.length : Int) + 1 = ((u.length + 1 : Nat) : Int) from rfl, hes])) fun H14 e14 => ?_
  refine xb_setR 11 (ts_ix (u := "abz0159/|:!+-*.# A") (n := 18) v_str (wd_lit (by decide +kernel)) (v_mod (v_fdiv (v_v 2) v_int ⟨by decide, by decide⟩) v_int (by decide)) (mod_b _ (by decide)).1 (mod_b _ (by decide)).2) fun y15 H15 e15 ⟨sg, ey, wsg⟩ => ?_
  subst ey
  have E15 := E9.trans (F13.trans (e14.trans e15))
  refine xb_setR 12 (ts_add (n := n + 1) (m := n) (ts_add (n := n) (m := 1) (ts_slice (vA E15 rfl rfl) wa o_n (o_s (v_v 10)) (by omega)) (ts_v (v_v 11) wsg) (by omega)) (ts_slice (vA E15 rfl rfl) wa (o_s (v_sub (v_add (v_v 10) (v_v 9)) v_int)) o_n (by omega)) (by omega)) fun y16 H16 e16 ⟨line, ey, wln⟩ => ?_
  subst ey
  have h16 := (E15.trans e16) _ _ hll
  refine xb_retR (er_cat (P := fun z => ∃ us vs, z = us ++ vs ∧ us = ls.take a ∧ NsP 1 (2 * n + 1) vs) (P' := (· = ls.drop (a + 1))) (er_cat (P := (· = ls.take a)) (P' := NsP 1 (2 * n + 1)) (er_ll (ws := ls.take a) (ll_is (l_slL (vl_sl (v_v 0) (sq_of h16)) o_n (o_s (v_v 3))) (by rw [cutV_to, List.map_take])) rfl) (er_lst (ta_cons (ts_v (v_v 12) (wln.mono (by omega))) ta_nil)) (fun us vs a b => by rw [a, b.1, List.length_take]; omega)) (er_ll (ws := ls.drop (a + 1)) (ll_is (l_slL (vl_sl (v_v 0) (sq_of h16)) (o_s (i := ((a + 1 : Nat) : Int)) (vl_is (v_add (v_v 3) v_int) rfl)) o_n) (by rw [cutV_from, List.map_drop])) rfl) (fun us vs a b => by obtain ⟨us', vs', e, a1, a2⟩ := a; rw [e, List.length_append, a1, a2.1, b, List.length_take, List.length_drop]; omega)) fun y H17 e17 hy => k y H17 (E15.trans (e16.trans e17)) (hy.imp ?_)
  rintro _ ⟨_, _, rfl, ⟨us, vs, rfl, rfl, pv⟩, rfl⟩
  match vs, pv with
  | [v], pv => exact bent_three pl (fun z hz => List.mem_of_mem_take hz) (fun z hz => List.mem_of_mem_drop hz) (by rw [List.length_take, List.length_drop]; omega) (pv.2 v (by simp))
end
end Gw

set_option maxRecDepth 100000
set_option maxHeartbeats 4000000
/-! The law itself. -/
namespace Gw
open PySem PySem.Spec PyProof.Rows L2 Evl SX
section
variable {X : Cx} {e : Expr} {rest : List Stmt} {σ : L2.St} {H : Hp} {D : Ends} {pos p1 p2 p3 p4 : Pos} {k1 : Nat} {n m r : Str}
theorem xb_un3E (i j l : Nat) (h : XE X e σ H fun v H1 => ∃ q x y z, v = .ref q ∧ SqT X.K H1 q [x, y, z] ∧ XB X rest D (((σ.set i (some x)).set j (some y)).set l (some z)) H1) (hc : X.calm = true := by rfl) (h1 : Nm X i n := by exact ⟨by assumption, rfl, by first | exact Or.inl rfl | exact Or.inr rfl, by first | exact .inl rfl | exact .inr rfl⟩) (h2 : Nm X j m := by exact ⟨by assumption, rfl, by first | exact Or.inl rfl | exact Or.inr rfl, by first | exact .inl rfl | exact .inr rfl⟩)
    (h3 : Nm X l r := by exact ⟨by assumption, rfl, by first | exact Or.inl rfl | exact Or.inr rfl, by first | exact .inl rfl | exact .inr rfl⟩)
    (hs : swapsWithSole [.Tuple [.Name n p1, .Name m p2, .Name r p4] k1 p3] e pos.line X.env = pure false := by rfl) (hw : swappedStores [.Tuple [.Name n p1, .Name m p2, .Name r p4] k1 p3] e X.env = pure none := by rfl)
    (hn : (assignEach [.Name n p1, .Name m p2, .Name r p4] X.env).length = 3 := by rfl) (hst : (assignEach [.Name n p1, .Name m p2, .Name r p4] X.env).findIdx? (·.1) = none := by rfl) :
    XB X (.Assign [.Tuple [.Name n p1, .Name m p2, .Name r p4] k1 p3] e pos :: rest) D σ H :=
  xb_cons (xs_of (ps_asg pe_xe (pg_tup hc (pgs_cons h1.pg (pgs_cons h2.pg (pgs_cons h3.pg pgs_nil))) hn hst) hs hw) (xe_mono h fun v H1 ⟨q, x, y, z, ev, g1, k⟩ => ⟨q, [x, y, z], ev, g1, rfl, x, [y, z], rfl, y, [z], rfl, z, [], rfl, rfl, k⟩))
end
theorem tp_tup {H : Hp} {v : V} {ds : List PyData} (h : Tp H v (.tuple ds)) : ∃ t xs, v = .ref t ∧ Rd H t (.tup xs) := by
  cases h with
  | tup a b => exact ⟨_, _, rfl, a⟩
def nT : Nat → Nat
  | 0 => 900
  | t + 1 => 2 * nT t + 1
theorem line_tl : ("\n" : Str).cps.toList = [10] := by decide +kernel
/-- the text of a few lines, none too long -/
theorem text_of {ls : List Str} (h1 : 1 ≤ ls.length) (h : ManyW 8000 60 ls) : TextOk (Txt.join "\n" ls).cps.toList ∧ Cok (Txt.join "\n" ls).cps.toList := by
  have e : (Txt.join "\n" ls).cps.toList = TL.joinL [10] (tls ls) := by rw [join_tls, line_tl]
  rw [e]
  have hne : tls ls ≠ [] := fun q => by
    unfold tls at q
    have : ls = [] := by simpa using q
    rw [this] at h1; cases h1
  refine ⟨⟨?_, fun l hl => ?_⟩, fun c hc => ?_⟩
  · refine Nat.le_trans (joinL_len _) ?_
    rw [tls_len ls]
    have h2 := sum_le (f := fun w : Str => w.length + ([10] : W).length) (k := 8001) (ws := ls) fun w hw => by have := (h.2 w hw).1; show w.length + 1 ≤ 8001; omega
    have h3 := h.1
    have h4 := Nat.mul_le_mul_right 8001 h3
    omega
  · rw [spl_join _ hne] at hl
    obtain ⟨q, hq, hl⟩ := List.mem_flatMap.mp hl
    obtain ⟨z, hz, rfl⟩ := List.mem_map.mp hq
    exact Nat.le_trans (spl_le (by simp) hl) (wd_tl (h.2 z hz)).1
  · rcases joinL_mem _ hc with q | ⟨w, hw, q⟩
    · have : c = 10 := by simpa using q
      rw [this]; decide
    · obtain ⟨z, hz, rfl⟩ := List.mem_map.mp hw
      exact Nat.lt_of_lt_of_le ((h.2 z hz).2 c q).1 (by decide)
section
variable {P : Program} {w : World} {K : PySem.W.Frag} {mg : Str → Option Value} {base : Heap}
theorem law_body (T : Tx K mg) {f a : Addr} {cdv : Value} {s : Shared} {H : Hp} {ns : List Int} (hsa : SqL K H a (ns.map V.int)) (hr : Room 10 (Cxd dLaw P w K mg base nLaw f cdv callerA [] s H (fun _ _ _ => False)).A) :
    XB (Cxd dLaw P w K mg base nLaw f cdv callerA [] s H (fun _ _ _ => False)) dLaw.body { nx := fun _ _ => False, rt := fun v _ => v = .bl true } (start nLaw [.ref a]) H := by
  have GM : Gd P w K mg base 1 "_law_mixed" (spI2 mixM) := ok_lMixed T
  have GH : Gd P w K mg base 6 "_law_house_text" (spLHouse K) := ok_lHouse T
  have GB : Gd P w K mg base 1 "_law_bent" spLBent := ok_lBent T
  have GD : Gd P w K mg base 7 "_law_due" spLDue := ok_lDue T
  have GT : Gd P w K mg base 10 "_law_told" spLTold := ok_lTold T
  have nd := scLaw.nd
  have hr1 : Room 1 (Cxd dLaw P w K mg base nLaw f cdv callerA [] s H (fun _ _ _ => False)).A := hr.mono (by decide)
  have hr6 : Room 6 (Cxd dLaw P w K mg base nLaw f cdv callerA [] s H (fun _ _ _ => False)).A := hr.mono (by decide)
  have hr7 : Room 7 (Cxd dLaw P w K mg base nLaw f cdv callerA [] s H (fun _ _ _ => False)).A := hr.mono (by decide)
  have hg : (Cxd dLaw P w K mg base nLaw f cdv callerA [] s H (fun _ _ _ => False)).A.guards = some [] := rfl
  have hu : (Cxd dLaw P w K mg base nLaw f cdv callerA [] s H (fun _ _ _ => False)).A.units + 70 < cLine := by have := hr.un; omega
  refine xb_un3E 1 2 3 ((er_call (R := fun y H' => ∃ t a b ll ls, y = .ref t ∧ Rd H' t (.tup [a, b, .ref ll]) ∧ H' ll = some (.lst (ls.map V.str)) ∧ 1 ≤ ls.length ∧ ManyW 900 57 ls) GH hr6 (a_1 (v_v 0)) fun H1 e1 Q' k' E' => ⟨a, ns, rfl, ex_l e1 hsa, fun t a b ll ls H' e' h1 h2 h3 h4 => k' _ H' e' ⟨t, a, b, ll, ls, rfl, h1, h2, h3, h4⟩⟩) H (Ex.refl _) _ fun y H1 e1 ⟨t, fa, na, ll, ls, ey, ht, hls, l1, pls⟩ => ⟨t, fa, na, .ref ll, ey, .inl ht, ?_⟩)
  refine xb_forEN 4 5 po_cx T.f_enumerate (ll_is (ys := ((0 :: cutA ns (some 3) (some 100)).map V.int)) (l_cat (ll_hl (l_lst (a_1 v_int))) (ll_hl (l_list T.f_list (ll_sl (l_slL (vl_sl (v_v 0) (ex_l e1 hsa)) (o_s v_int) (o_s v_int))))) (by rw [show (3 : Int) = ((3 : Nat) : Int) from rfl, show (100 : Int) = ((100 : Nat) : Int) from rfl, cutV_nn, List.length_take]; simp; omega)) (by rw [cutV_map]; rfl)) (fun q j σ' H' => ∃ o4 o5 o6 o7 o8 o9 o10 o11, σ' = [some (.ref a), some fa, some na, some (.ref ll), o4, o5, o6, o7, o8, o9, o10, o11] ∧ Ex H1 H' ∧ H' q = some (.lst ((0 :: cutA ns (some 3) (some 100)).map V.int)))
    (fun q H2 hq e2 h2 => ⟨_, _, _, _, _, _, _, _, rfl, e2, h2⟩) (fun q j σ' H' _ ⟨_, _, _, _, _, _, _, _, _, _, h⟩ => sq_of h) ?_ ?_
  · rintro q j x σ' H2 hx ⟨o4, o5, o6, o7, o8, o9, o10, o11, hσ, e2, hq⟩ H3 e3
    subst hσ
    rw [List.getElem?_map] at hx
    cases hz : (0 :: cutA ns (some 3) (some 100))[j]? with
    | none => rw [hz] at hx; cases hx
    | some cell =>
      rw [hz] at hx
      cases hx
      refine xb_set 6 (v_v 3) fun H4 e4 => ?_
      have hm : ∃ many : Nat, ([0, 1, 1, 2, 3] : List Int).getD (mixM cell (500 + (j : Int)) % 5).toNat 0 * (if decide (0 < j) then 1 else 0) = (many : Int) ∧ many ≤ 3 := by
        have hb := getD_b (ns := [0, 1, 1, 2, 3]) (lo := 0) (hi := 3) (n := (mixM cell (500 + (j : Int)) % 5).toNat) (by decide) (by decide) (by decide)
        generalize ([0, 1, 1, 2, 3] : List Int).getD (mixM cell (500 + (j : Int)) % 5).toNat 0 = z at hb ⊢
        refine ⟨(z * (if decide (0 < j) then 1 else 0)).toNat, ?_, ?_⟩ <;> split <;> omega
      have hb := getD_b (ns := [0, 1, 1, 2, 3]) (lo := 0) (hi := 3) (n := (mixM cell (500 + (j : Int)) % 5).toNat) (by decide) (by decide) (by decide)
      obtain ⟨many, hmany, lmany⟩ := hm
      refine xb_set 7 (v := .int (many : Int)) (vl_is (v_mulL (v_pick (ns := [0, 1, 1, 2, 3]) (ll_sl (l_lst (a_cons v_int (a_cons v_int (a_cons v_int (a_cons v_int (a_cons v_int a_nil))))))) (v_mod (v_mix GM hr1 (v_v 5) (v_add v_int (v_v 4))) v_int (by decide)) (mod_b _ (by decide)).1 (mod_b _ (by decide)).2) (v_intB (k := decide (0 < j)) T.f_int (vl_is (vc (c_gt (v_v 4) v_int)) (congrArg V.bl (decide_eq_decide.mpr (by omega))))) ⟨by omega, by omega⟩) (by rw [hmany])) fun H5 e5 => ?_
      have E5 := e2.trans (e3.trans (e4.trans e5))
      refine xb_forR 8 po_cx T.f_range (v_v 7) ⟨by omega, by omega⟩ (fun t σ2 H' => ∃ o8 o9 bl ls, σ2 = [some (.ref a), some fa, some na, some (.ref ll), some (.int j), some (.int cell), some (.ref bl), some (.int many), o8, o9, o10, o11] ∧ Ex H2 H' ∧ H' bl = some (.lst (ls.map V.str)) ∧ 1 ≤ ls.length ∧ ManyW (nT t) (57 + t) ls)
        (fun H6 e6 => ⟨_, _, ll, ls, rfl, e3.trans (e4.trans (e5.trans e6)), (E5.trans e6) _ _ hls, l1, pls⟩) ?_ ?_
      · rintro t σ2 H6 ht2 ⟨o8', o9', bl, ls2, hσ2, e6, hbl, l2, p2⟩
        subst hσ2
        have t3 : t < 3 := by omega
        have hn : 13 ≤ nT t ∧ nT t ≤ 4000 := by
          match t, t3 with
          | 0, _ => exact ⟨by decide, by decide⟩
          | 1, _ => exact ⟨by decide, by decide⟩
          | 2, _ => exact ⟨by decide, by decide⟩
        refine xb_set 9 (v_mix GM hr1 (v_v 5) (v_add (v_add v_int (v_mulL v_int (v_v 4) (by decide))) (v_v 8))) fun H7 e7 => ?_
        refine xb_setR 6 (er_call (R := LsW (BentP (nT t) (57 + t))) GB hr1 (a_cons (v_v 6) (a_cons (v_mix GM hr1 (v_v 5) (v_add (v_add v_int (v_mulL v_int (v_v 4) (by decide))) (v_v 8))) (a_1 (v_v 9)))) fun H8 e8 Q' k' E' => ⟨bl, _, _, ls2, nT t, 57 + t, rfl, (e7.trans e8) _ _ hbl, l2, p2, by omega, hn.1, hn.2, k'⟩) fun y H8 e8 ⟨bl2, ls3, ey, hbl2, l3, p3⟩ => ?_
        subst ey
        exact xb_nil ⟨_, _, bl2, ls3, rfl, e6.trans (e7.trans e8), hbl2, l3, p3⟩
      · rintro σ2 H6 ⟨o8', o9', bl, ls2, hσ2, e6, hbl, l2, p2⟩
        subst hσ2
        rw [Int.toNat_natCast] at p2
        have hn : nT many ≤ 8000 := by
          match many, lmany with
          | 0, _ => decide
          | 1, _ => decide
          | 2, _ => decide
          | 3, _ => decide
        have p8 : ManyW 8000 60 ls2 := ⟨Nat.le_trans p2.1 (by omega), fun w hw => (p2.2 w hw).mono hn⟩
        obtain ⟨tok, cok⟩ := text_of l2 p8
        have jz : (ls2.map (·.length)).sum + ls2.length * ("\n" : Str).length ≤ 16777216 := join_size (n := 8000) (m := 60) (by decide) (fun w hw => (p8.2 w hw).1) p8.1 (by decide)
        generalize htx : (Txt.join "\n" ls2) = tx at tok cok
        have vJ : ∀ {H' : Hp} {σ3 : L2.St} {pp1 pp2 pp3 pp4 : Pos} {jj : Nat}, Ex H6 H' → σ3[6]? = some (some (.ref bl)) → (pp2.endLine == pp4.line) = true → Vl (Cxd dLaw P w K mg base nLaw f cdv callerA [] s H (fun _ _ _ => False)) (.Call (.Attribute (.Constant (.str "\n") jj pp1) "join" pp2) [.Name "_law_bent_here" pp3] [] pp4) σ3 H' (.str tx) := fun e' h6 hl => vl_is (v_join v_str (vl_sl (v_v 6 h6) (sq_of (e' _ _ hbl))) jz rfl rfl hl) (by rw [htx])
        cases hrd : readM tx.cps.toList with
        | ok st =>
          have gd := gd_lst (ga_cons (good_read tok cok hrd) (ga_nil (D := 10)))
          obtain ⟨f1, f2, f3, f4⟩ := fits gd (by decide) (by decide)
          refine xb_setE 10 (xe_call GD hr7 passL (xa_cons (xe_v (vJ (Ex.refl _) rfl rfl) fun H7 e7 => xa_nil ⟨tx.cps.toList, rfl, tok, fun st' hs H8 v e8 tv => ?_, fun n hn => by rw [hrd] at hn; cases hn⟩)))
          rw [hrd] at hs
          cases hs
          refine xb_setE 11 (xe_call GT hr passL (xa_cons (xe_v (vJ (e7.trans e8) rfl rfl) fun H9 e9 => xa_nil ⟨tx.cps.toList, rfl, tok, fun st' hs v' H10 e10 one => ?_, fun n hn => by rw [hrd] at hn; cases hn⟩)))
          rw [hrd] at hs
          cases hs
          obtain ⟨l, y, rfl, hl, ty⟩ := one
          obtain ⟨tt, xs, rfl, htt⟩ := tp_tup tv
          have e810 := e9.trans e10
          refine xb_no (bl_is (bc (c_ne (v_repr (d := .list [st.d]) hg hu T.f_repr (vl_er (v_v 11) fun H' e' => ⟨l, rfl, Dp.lst (sq_of (e' _ _ hl)) (.cons ((ty.mono e').dp) .nil)⟩) f1 f2 f3 f4)
            (v_repr (d := .list [st.d]) hg hu T.f_repr (fun H0 e0 Q' k' => xe_if (k := false) (b_v (v_isi (n := "int") (t := .type "tuple") T.f_isinstance (v_v 10) (fun H' e' => tyT (ex_rd (e810.trans (e0.trans e')) htt)) T.f_int (by decide +kernel) (k := false) (by rfl))) (fun q => by cases q)
              fun _ H12 e12 => (l_lst (a_1 (v_v 10))) H12 (Ex.refl _) _ fun l2 H13 hl2 e13 h13 => k' _ H13 (e12.trans e13) ⟨l2, rfl, Dp.lst (sq_of h13) (.cons ((tv.mono (e810.trans (e0.trans (e12.trans e13)))).dp) .nil)⟩) f1 f2 f3 f4))) (by simp)) fun H11 e11 => ?_
          have ee := e6.trans ((e7.trans e8).trans (e810.trans e11))
          exact xb_nil ⟨_, _, _, _, _, _, _, _, rfl, e2.trans ee, ee _ _ hq⟩
        | error n =>
          have gd := gd_tup (ga_cons (n := 0) (D := 1) (gd_int (err_le tok hrd)) (ga_cons (n := 0) (gd_bool (b := false)) ga_nil))
          obtain ⟨f1, f2, f3, f4⟩ := fits gd (by decide) (by decide)
          refine xb_setE 10 (xe_call GD hr7 passL (xa_cons (xe_v (vJ (Ex.refl _) rfl rfl) fun H7 e7 => xa_nil ⟨tx.cps.toList, rfl, tok, fun st' hs => (by rw [hrd] at hs; cases hs), fun n' hn H8 e8 => ?_⟩)))
          rw [hrd] at hn
          cases hn
          refine xb_setE 11 (xe_call GT hr passL (xa_cons (xe_v (vJ (e7.trans e8) rfl rfl) fun H9 e9 => xa_nil ⟨tx.cps.toList, rfl, tok, fun st' hs => (by rw [hrd] at hs; cases hs), fun n' hn H10 v' e10 tv => ?_⟩)))
          rw [hrd] at hn
          cases hn
          obtain ⟨tt, xs, rfl, htt⟩ := tp_tup tv
          have e810 := e9.trans e10
          refine xb_no (bl_is (bc (c_ne (v_repr (d := .tuple [.int (n : Int), .bool false]) hg hu T.f_repr (vl_er (v_v 11) fun H' e' => ⟨tt, rfl, (tv.mono e').dp⟩) f1 f2 f3 f4)
            (v_repr (d := .tuple [.int (n : Int), .bool false]) hg hu T.f_repr (fun H0 e0 Q' k' => xe_if (k := true) (b_v (v_isi (n := "int") (t := .type "int") T.f_isinstance (v_v 10) (fun H' e' => .base (.int _)) T.f_int (by decide +kernel) (k := true) (by rfl)))
              (fun _ H12 e12 => (d_tup (da_cons (d_int (v_v 10)) (da_cons (d_v v_bl (.bl false)) da_nil))) H12 (Ex.refl _) _ fun y H13 e13 tp => k' _ H13 (e12.trans e13) (let ⟨t2, _, ey, _⟩ := tp_tup tp; ⟨t2, ey, ey ▸ tp.dp⟩)) (fun q => by cases q)) f1 f2 f3 f4))) (by simp)) fun H11 e11 => ?_
          have ee := e6.trans ((e7.trans e8).trans (e810.trans e11))
          exact xb_nil ⟨_, _, _, _, _, _, _, _, rfl, e2.trans ee, ee _ _ hq⟩
  · rintro q σ' H2 ⟨o4, o5, o6, o7, o8, o9, o10, o11, hσ, e2, hq⟩
    subst hσ
    exact xb_ret v_bl fun H3 e3 => rfl
end
end Gw

set_option maxRecDepth 100000
set_option maxHeartbeats 4000000
namespace Gw
open PySem PySem.Spec PyProof.Rows L2 Evl SX
/-- the law's call, the head known -/
theorem gw_call {P : Program} {w : World} {K : PySem.W.Frag} {s : Shared} {mg mb : Str → Option Value} {f a : Addr} {vs : List Value} {ns : List Int} (KX : K.In s.heap) (c : SaysM K) (hns : s.heap.Ns mainGlobals mg) (hb : s.heap.Ns builtinsNs mb) (hbb : ∀ x : Str, x ≠ "__name__" → mb x = bootBuiltins x) (hlim : s.heap.NoLimit)
    (hg : s.gens = #[]) (hf : mg "law" = some (.ref f)) (ha : s.heap.get? a = some { cls := .type "list", data := .seq vs.toArray }) (hi : IntsAre vs ns) (hl : ns.length ≤ 63) :
    codeAny (model P w) callerA (.call (.ref f) ⟨[.ref a], []⟩) (fun r s' => r = .ok (.ret (.bool true)) ∧ OldK s.heap s'.heap ∧ s'.os = s.os ∧ AllBare s'.gens) s := by
  have T : Tx K mg := tx_of KX hns c
  have e := T.g_law
  rw [hf] at e
  cases e
  obtain ⟨fd, F⟩ := T.c.d.def_ 62 (d := dLaw) rfl
  have F2 : FunD K dLaw.name dLaw.qual dLaw.params dLaw.body dLaw.scope [] [] (He.ga K "law") fd := F
  have b := FunD.bindsA (ps := ["_law_script"]) F2 fun _ _ _ _ _ _ us hl => match us, hl with | [_], _ => rfl
  refine call_top KX hns hb hbb hlim hg ha hi (Nat.le_trans hl (by decide)) (fun base H _ _ e0 hsa => ?_) (fun H e s' h => ?_)
  · exact run_top (k := 10) F2 scLaw ⟨rfl, by decide, by decide⟩ e0 (b s [.ref a] rfl) fun cdv hr => law_body T hsa hr
  · obtain ⟨_, _, _, _, _, _, _, _, _, _, _, _, z⟩ := h
    exact z
end Gw
open PySem PySem.W PySem.Calls PyProof.Rows
theorem PySem.Challenge.cw_gatewright_k25_whole_any_text_holds : PySem.Challenge.rw_gatewright_k25_whole_any_text.Holds := by
  w_on; o_law
  refine HandSHeadRun.head_any (r := OpenLaw.row PySem.Challenge.rw_gatewright_k25_whole_any_text) (q := view (OpenLaw.row PySem.Challenge.rw_gatewright_k25_whole_any_text).prog [94]) (H := Gw.hk) (ob := Gw.ob) (M := 20000) (loose := Gw.looseL) (d := HandSHeadRun.topDef (OpenLaw.row PySem.Challenge.rw_gatewright_k25_whole_any_text).prog 94) (kwd := []) Gw.ob_eq
    (by kernel_rfl) (fun s => by kernel_rfl) Gw.run (by kernel_rfl) (by kernel_rfl) (by kernel_rfl) (by rfl) (by first | assumption | decide +kernel) (by decide +kernel) ⟨rfl, rfl, rfl, rfl, rfl, by decide +kernel⟩ ?hw ?hc
  case hw => w_witness2
  case hc =>
    refine Att.attach_call (l := PySem.Challenge.rw_gatewright_k25_whole_any_text) (n := 63) rfl (by kernel_rfl) fun w s₀ s₁ mg mb fa o pm cd doc a vs ns G Y ho hd hcd hmg0 hobj hints hlen hg => ?_
    obtain ⟨K, KX, c⟩ := Y
    have hmg : mg ("law" : PySem.Str) = some (.ref fa) := by
      have e : (HandSHeadRun.topDef (OpenLaw.row PySem.Challenge.rw_gatewright_k25_whole_any_text).prog 94).name = ("law" : PySem.Str) := by kernel_rfl
      rw [← e]
      exact hmg0
    exact Gw.gw_call KX c G.T.g G.T.b G.T.builtins G.T.nolimit hg hmg hobj hints hlen
