import PyProof.Rows.All
import Wide.All
import OpenK.AllK
import Wide.FinOn
import KE.KStateDown
import HandS.ForMost
import HandS.More
import HandS.WordsExc
import HandS.Defaults
import HandS.MakeKw
import HandS.MakeKwOnly
import HandS.Property
import HandS.Star
import HandS.CallLocal
import HandS.IsInst
import HandS.StrMore
import HandS.FStr
import HandS.DictComp
import HandS.OwnEq
import HandS.Walk
import HandS.Deep
import HandS.Flow
import HandS.Wide
import HandS.WideMore
import HandS.Exc
import HandS.TryOnly
import HandS.RaiseMore
import HandS.Replace
import HandS.TupAny
import HandS.DeepEq
import HandS.Head0
import HandS.Head1
import HandS.Head2
import HandS.HeadEnd
import HandS.HeadHook1
import HandS.HeadHook2
import HandS.HeadHook3
import HandS.Small
import HandS.Codes
import KE.GoesMore
import KE.GoesZip
import KE.GoesEnum
import KE.KUnpackStar
import KE.KOpsOwn
import HandS.Style
import KE.KWithOwn
import PySem.Challenge.RW_partlabels_k95_whole_labels_by_name
set_option Elab.async false
set_option linter.all false
set_option maxRecDepth 100000
set_option maxHeartbeats 4000000
namespace K95
open PySem PySem.Spec PyProof.Rows L2
/-! ### the text by places -/
def top (i : Nat) : Stmt := PySem.Challenge.pw_partlabels_k95_whole_labels_by_name.main.body.getD i (.Pass ⟨0, 0, 0, 0⟩)
abbrev sIsName : Stmt := top 25
abbrev sIsInteger : Stmt := top 31
abbrev sDigitsOf : Stmt := top 32
abbrev sWordOf : Stmt := top 33
abbrev sNumberText : Stmt := top 34
abbrev sReadNumber : Stmt := top 35
abbrev sIsHead : Stmt := top 42
abbrev sWrongItem : Stmt := top 43
abbrev sAreJoints : Stmt := top 44
abbrev sLabelInit : Stmt := inClass (top 45) 0
abbrev sLabelEq : Stmt := inClass (top 45) 1
abbrev sLabelShown : Stmt := inClass (top 45) 3
abbrev sLabelSameForm : Stmt := inClass (top 45) 5
abbrev sLabelJoined : Stmt := inClass (top 45) 6
abbrev sLabelOf : Stmt := inClass (top 45) 7
abbrev sLabelRead : Stmt := inClass (top 45) 8
abbrev sLabelText : Stmt := inClass (top 45) 9
abbrev sShownIn : Stmt := top 46
abbrev sReadLabel : Stmt := top 47
abbrev sCheckNames : Stmt := top 54
abbrev sIsDeed : Stmt := top 55
abbrev sCheckKind : Stmt := top 56
abbrev sCheckKnown : Stmt := top 57
abbrev sSchemeInit : Stmt := inClass (top 58) 0
abbrev sSchemeCounters : Stmt := inClass (top 58) 1
abbrev sSchemeKinds : Stmt := inClass (top 58) 2
abbrev sSchemeStart : Stmt := inClass (top 58) 3
abbrev sSchemeDeeds : Stmt := inClass (top 58) 4
abbrev sSchemeLabel : Stmt := inClass (top 58) 5
abbrev sSchemeFollowers : Stmt := inClass (top 58) 6
abbrev sSchemeBeginners : Stmt := inClass (top 58) 7
abbrev sSchemeMayBegin : Stmt := inClass (top 58) 8
abbrev sSchemeMayFollow : Stmt := inClass (top 58) 9
abbrev sSchemeEq : Stmt := inClass (top 58) 10
abbrev sMayStand : Stmt := top 60
abbrev sWrongIndex : Stmt := top 61
abbrev sCheckDocument : Stmt := top 62
abbrev sStartsOf : Stmt := top 63
abbrev sCarried : Stmt := top 64
abbrev sDocValues : Stmt := top 65
abbrev sLabelsOf : Stmt := top 67
abbrev sLabelsByKey : Stmt := top 68
abbrev sTrialInit : Stmt := inClass (top 69) 0
abbrev sTrialEnter : Stmt := inClass (top 69) 1
abbrev sTrialExit : Stmt := inClass (top 69) 2
abbrev sManuscriptInit : Stmt := inClass (top 70) 0
abbrev sManuscriptLen : Stmt := inClass (top 70) 1
abbrev sManuscriptParts : Stmt := inClass (top 70) 3
abbrev sManuscriptDocument : Stmt := inClass (top 70) 4
abbrev sManuscriptLabelOf : Stmt := inClass (top 70) 6
abbrev sManuscriptPlaceOf : Stmt := inClass (top 70) 7
abbrev sManuscriptTold : Stmt := inClass (top 70) 8
abbrev sManuscriptNeedIndex : Stmt := inClass (top 70) 10
abbrev sManuscriptNeedKey : Stmt := inClass (top 70) 11
abbrev sManuscriptKeep : Stmt := inClass (top 70) 12
abbrev sManuscriptPut : Stmt := inClass (top 70) 13
abbrev sManuscriptDrop : Stmt := inClass (top 70) 14
abbrev sManuscriptExchange : Stmt := inClass (top 70) 15
abbrev sManuscriptMove : Stmt := inClass (top 70) 16
abbrev sManuscriptRekey : Stmt := inClass (top 70) 17
abbrev sManuscriptUndo : Stmt := inClass (top 70) 18
abbrev sManuscriptTrial : Stmt := inClass (top 70) 19
abbrev sManuscriptTried : Stmt := inClass (top 70) 20
abbrev sIsChange : Stmt := top 74
abbrev sBehind : Stmt := top 75
abbrev sActionInit : Stmt := inClass (top 77) 0
abbrev sActionEq : Stmt := inClass (top 77) 1
abbrev sActionAdd : Stmt := inClass (top 77) 2
abbrev sActionOf : Stmt := inClass (top 77) 6
abbrev sKindAction : Stmt := top 78
abbrev sActOf : Stmt := top 79
abbrev sListed : Stmt := top 87
abbrev sSchemeText : Stmt := top 88
abbrev sReadStarts : Stmt := top 89
abbrev sReadDeed : Stmt := top 90
abbrev sReadDeeds : Stmt := top 91
abbrev sReadShown : Stmt := top 92
abbrev sReadNames : Stmt := top 93
abbrev sReaderInit : Stmt := inClass (top 94) 0
abbrev sReaderPresent : Stmt := inClass (top 94) 1
abbrev sReaderNeed : Stmt := inClass (top 94) 2
abbrev sReadKinds : Stmt := top 95
abbrev sReadScheme : Stmt := top 96
abbrev sLawTape : Stmt := top 98
abbrev sLawPick : Stmt := top 99
abbrev sLawOfLabels : Stmt := top 100
abbrev sLawLength : Stmt := top 101
abbrev sLawOfManuscripts : Stmt := top 102
abbrev sLaw : Stmt := top 103
/-! ### the slots -/
theorem scIsName : FnScope ["text"] ["text"] (defScope sIsName) := ⟨rfl, rfl, rfl, by decide +kernel, rfl, by decide +kernel, by decide +kernel⟩
theorem scIsInteger : FnScope ["value", "low", "high"] ["value", "low", "high"] (defScope sIsInteger) := ⟨rfl, rfl, rfl, by decide +kernel, rfl, by decide +kernel, by decide +kernel⟩
theorem scDigitsOf : FnScope ["number", "found"] ["number"] (defScope sDigitsOf) := ⟨rfl, rfl, rfl, by decide +kernel, rfl, by decide +kernel, by decide +kernel⟩
theorem scWordOf : FnScope ["number", "found"] ["number"] (defScope sWordOf) := ⟨rfl, rfl, rfl, by decide +kernel, rfl, by decide +kernel, by decide +kernel⟩
theorem scNumberText : FnScope ["form", "number"] ["form", "number"] (defScope sNumberText) := ⟨rfl, rfl, rfl, by decide +kernel, rfl, by decide +kernel, by decide +kernel⟩
theorem scReadNumber : FnScope ["form", "text", "signs", "found", "sign"] ["form", "text"] (defScope sReadNumber) := ⟨rfl, rfl, rfl, by decide +kernel, rfl, by decide +kernel, by decide +kernel⟩
theorem scIsHead : FnScope ["text", "word", "sign"] ["text"] (defScope sIsHead) := ⟨rfl, rfl, rfl, by decide +kernel, rfl, by decide +kernel, by decide +kernel⟩
theorem scWrongItem : FnScope ["shown", "names", "index", "item", "name", "form"] ["shown"] (defScope sWrongItem) := ⟨rfl, rfl, rfl, by decide +kernel, rfl, by decide +kernel, by decide +kernel⟩
theorem scAreJoints : FnScope ["joints", "many", "joint"] ["joints", "many"] (defScope sAreJoints) := ⟨rfl, rfl, rfl, by decide +kernel, rfl, by decide +kernel, by decide +kernel⟩
theorem scLabelInit : FnScope ["self", "head", "shown", "joints", "index"] ["self", "head", "shown", "joints"] (defScope sLabelInit) := ⟨rfl, rfl, rfl, by decide +kernel, rfl, by decide +kernel, by decide +kernel⟩
theorem scLabelEq : FnScope ["self", "other"] ["self", "other"] (defScope sLabelEq) := ⟨rfl, rfl, rfl, by decide +kernel, rfl, by decide +kernel, by decide +kernel⟩
theorem scLabelShown : FnScope ["self"] ["self"] (defScope sLabelShown) := ⟨rfl, rfl, rfl, by decide +kernel, rfl, by decide +kernel, by decide +kernel⟩
theorem scLabelSameForm : FnScope ["self", "other", "forms", "name", "form"] ["self", "other"] (defScope sLabelSameForm) := ⟨rfl, rfl, rfl, by decide +kernel, rfl, by decide +kernel, by decide +kernel⟩
theorem scLabelJoined : FnScope ["self", "words", "found", "joint", "word"] ["self", "words"] (defScope sLabelJoined) := ⟨rfl, rfl, rfl, by decide +kernel, rfl, by decide +kernel, by decide +kernel⟩
theorem scLabelOf : FnScope ["self", "values", "name", "form"] ["self", "values"] (defScope sLabelOf) := ⟨rfl, rfl, rfl, by decide +kernel, rfl, by decide +kernel, by decide +kernel⟩
theorem scLabelRead : FnScope ["self", "text", "rest", "words", "joint", "word", "sign", "numbers", "item", "number"] ["self", "text"] (defScope sLabelRead) := ⟨rfl, rfl, rfl, by decide +kernel, rfl, by decide +kernel, by decide +kernel⟩
theorem scLabelText : FnScope ["self", "words", "name", "form"] ["self"] (defScope sLabelText) := ⟨rfl, rfl, rfl, by decide +kernel, rfl, by decide +kernel, by decide +kernel⟩
theorem scShownIn : FnScope ["word"] ["word"] (defScope sShownIn) := ⟨rfl, rfl, rfl, by decide +kernel, rfl, by decide +kernel, by decide +kernel⟩
theorem scReadLabel : FnScope ["text", "head", "parts", "shown", "joints", "index", "part", "word", "sign", "rest"] ["text"] (defScope sReadLabel) := ⟨rfl, rfl, rfl, by decide +kernel, rfl, by decide +kernel, by decide +kernel⟩
theorem scCheckNames : FnScope ["names", "most", "name"] ["names", "most"] (defScope sCheckNames) := ⟨rfl, rfl, rfl, by decide +kernel, rfl, by decide +kernel, by decide +kernel⟩
theorem scIsDeed : FnScope ["value", "starts", "word", "counter", "number"] ["value", "starts"] (defScope sIsDeed) := ⟨rfl, rfl, rfl, by decide +kernel, rfl, by decide +kernel, by decide +kernel⟩
theorem scCheckKind : FnScope ["deeds", "label", "starts", "deed", "counter", "form"] ["deeds", "label", "starts"] (defScope sCheckKind) := ⟨rfl, rfl, rfl, by decide +kernel, rfl, by decide +kernel, by decide +kernel⟩
theorem scCheckKnown : FnScope ["names", "known", "name"] ["names", "known"] (defScope sCheckKnown) := ⟨rfl, rfl, rfl, by decide +kernel, rfl, by decide +kernel, by decide +kernel⟩
theorem scSchemeInit : FnScope ["self", "starts", "kinds", "follows", "begins", "counter", "kind", "allowed", "other"] ["self", "starts", "kinds", "follows", "begins"] (defScope sSchemeInit) := ⟨rfl, rfl, rfl, by decide +kernel, rfl, by decide +kernel, by decide +kernel⟩
theorem scSchemeCounters : FnScope ["self"] ["self"] (defScope sSchemeCounters) := ⟨rfl, rfl, rfl, by decide +kernel, rfl, by decide +kernel, by decide +kernel⟩
theorem scSchemeKinds : FnScope ["self"] ["self"] (defScope sSchemeKinds) := ⟨rfl, rfl, rfl, by decide +kernel, rfl, by decide +kernel, by decide +kernel⟩
theorem scSchemeStart : FnScope ["self", "counter"] ["self", "counter"] (defScope sSchemeStart) := ⟨rfl, rfl, rfl, by decide +kernel, rfl, by decide +kernel, by decide +kernel⟩
theorem scSchemeDeeds : FnScope ["self", "kind"] ["self", "kind"] (defScope sSchemeDeeds) := ⟨rfl, rfl, rfl, by decide +kernel, rfl, by decide +kernel, by decide +kernel⟩
theorem scSchemeLabel : FnScope ["self", "kind"] ["self", "kind"] (defScope sSchemeLabel) := ⟨rfl, rfl, rfl, by decide +kernel, rfl, by decide +kernel, by decide +kernel⟩
theorem scSchemeFollowers : FnScope ["self", "kind"] ["self", "kind"] (defScope sSchemeFollowers) := ⟨rfl, rfl, rfl, by decide +kernel, rfl, by decide +kernel, by decide +kernel⟩
theorem scSchemeBeginners : FnScope ["self"] ["self"] (defScope sSchemeBeginners) := ⟨rfl, rfl, rfl, by decide +kernel, rfl, by decide +kernel, by decide +kernel⟩
theorem scSchemeMayBegin : FnScope ["self", "kind"] ["self", "kind"] (defScope sSchemeMayBegin) := ⟨rfl, rfl, rfl, by decide +kernel, rfl, by decide +kernel, by decide +kernel⟩
theorem scSchemeMayFollow : FnScope ["self", "kind", "other"] ["self", "kind", "other"] (defScope sSchemeMayFollow) := ⟨rfl, rfl, rfl, by decide +kernel, rfl, by decide +kernel, by decide +kernel⟩
theorem scSchemeEq : FnScope ["self", "other"] ["self", "other"] (defScope sSchemeEq) := ⟨rfl, rfl, rfl, by decide +kernel, rfl, by decide +kernel, by decide +kernel⟩
theorem scMayStand : FnScope ["scheme", "kind", "before"] ["scheme", "kind", "before"] (defScope sMayStand) := ⟨rfl, rfl, rfl, by decide +kernel, rfl, by decide +kernel, by decide +kernel⟩
theorem scWrongIndex : FnScope ["scheme", "document", "before", "index", "kind"] ["scheme", "document"] (defScope sWrongIndex) := ⟨rfl, rfl, rfl, by decide +kernel, rfl, by decide +kernel, by decide +kernel⟩
theorem scCheckDocument : FnScope ["scheme", "document", "index"] ["scheme", "document"] (defScope sCheckDocument) := ⟨rfl, rfl, rfl, by decide +kernel, rfl, by decide +kernel, by decide +kernel⟩
theorem scStartsOf : FnScope ["scheme", "counter"] ["scheme"] (defScope sStartsOf) := ⟨rfl, rfl, rfl, by decide +kernel, rfl, by decide +kernel, by decide +kernel⟩
theorem scCarried : FnScope ["values", "deeds", "found", "word", "counter", "number"] ["values", "deeds"] (defScope sCarried) := ⟨rfl, rfl, rfl, by decide +kernel, rfl, by decide +kernel, by decide +kernel⟩
theorem scDocValues : FnScope ["scheme", "document", "found", "kind"] ["scheme", "document"] (defScope sDocValues) := ⟨rfl, rfl, rfl, by decide +kernel, rfl, by decide +kernel, by decide +kernel⟩
theorem scLabelsOf : FnScope ["scheme", "parts", "found", "at", "kind", "key", "label", "row", "part"] ["scheme", "parts"] (defScope sLabelsOf) := ⟨rfl, rfl, rfl, by decide +kernel, rfl, by decide +kernel, by decide +kernel⟩
theorem scLabelsByKey : FnScope ["scheme", "parts", "kind", "key", "label"] ["scheme", "parts"] (defScope sLabelsByKey) := ⟨rfl, rfl, rfl, by decide +kernel, rfl, by decide +kernel, by decide +kernel⟩
theorem scTrialInit : FnScope ["self", "manuscript"] ["self", "manuscript"] (defScope sTrialInit) := ⟨rfl, rfl, rfl, by decide +kernel, rfl, by decide +kernel, by decide +kernel⟩
theorem scTrialEnter : FnScope ["self"] ["self"] (defScope sTrialEnter) := ⟨rfl, rfl, rfl, by decide +kernel, rfl, by decide +kernel, by decide +kernel⟩
theorem scTrialExit : FnScope ["self", "sort", "error", "trace"] ["self", "sort", "error", "trace"] (defScope sTrialExit) := ⟨rfl, rfl, rfl, by decide +kernel, rfl, by decide +kernel, by decide +kernel⟩
theorem scManuscriptInit : FnScope ["self", "scheme"] ["self", "scheme"] (defScope sManuscriptInit) := ⟨rfl, rfl, rfl, by decide +kernel, rfl, by decide +kernel, by decide +kernel⟩
theorem scManuscriptLen : FnScope ["self"] ["self"] (defScope sManuscriptLen) := ⟨rfl, rfl, rfl, by decide +kernel, rfl, by decide +kernel, by decide +kernel⟩
theorem scManuscriptParts : FnScope ["self"] ["self"] (defScope sManuscriptParts) := ⟨rfl, rfl, rfl, by decide +kernel, rfl, by decide +kernel, by decide +kernel⟩
theorem scManuscriptDocument : FnScope ["self", "kind", "key"] ["self"] (defScope sManuscriptDocument) := ⟨rfl, rfl, rfl, by decide +kernel, rfl, by decide +kernel, by decide +kernel⟩
theorem scManuscriptLabelOf : FnScope ["self", "key"] ["self", "key"] (defScope sManuscriptLabelOf) := ⟨rfl, rfl, rfl, by decide +kernel, rfl, by decide +kernel, by decide +kernel⟩
theorem scManuscriptPlaceOf : FnScope ["self", "key", "keys", "part"] ["self", "key"] (defScope sManuscriptPlaceOf) := ⟨rfl, rfl, rfl, by decide +kernel, rfl, by decide +kernel, by decide +kernel⟩
theorem scManuscriptTold : FnScope ["self", "text", "first", "parts", "found", "part", "key", "sign", "rest", "label"] ["self", "text"] (defScope sManuscriptTold) := ⟨rfl, rfl, rfl, by decide +kernel, rfl, by decide +kernel, by decide +kernel⟩
theorem scManuscriptNeedIndex : FnScope ["self", "index", "least"] ["self", "index", "least"] (defScope sManuscriptNeedIndex) := ⟨rfl, rfl, rfl, by decide +kernel, rfl, by decide +kernel, by decide +kernel⟩
theorem scManuscriptNeedKey : FnScope ["self", "key", "index", "at", "part"] ["self", "key", "index"] (defScope sManuscriptNeedKey) := ⟨rfl, rfl, rfl, by decide +kernel, rfl, by decide +kernel, by decide +kernel⟩
theorem scManuscriptKeep : FnScope ["self", "parts", "before", "kind", "key"] ["self", "parts"] (defScope sManuscriptKeep) := ⟨rfl, rfl, rfl, by decide +kernel, rfl, by decide +kernel, by decide +kernel⟩
theorem scManuscriptPut : FnScope ["self", "index", "kind", "key", "parts"] ["self", "index", "kind", "key"] (defScope sManuscriptPut) := ⟨rfl, rfl, rfl, by decide +kernel, rfl, by decide +kernel, by decide +kernel⟩
theorem scManuscriptDrop : FnScope ["self", "index", "parts"] ["self", "index"] (defScope sManuscriptDrop) := ⟨rfl, rfl, rfl, by decide +kernel, rfl, by decide +kernel, by decide +kernel⟩
theorem scManuscriptExchange : FnScope ["self", "index", "parts"] ["self", "index"] (defScope sManuscriptExchange) := ⟨rfl, rfl, rfl, by decide +kernel, rfl, by decide +kernel, by decide +kernel⟩
theorem scManuscriptMove : FnScope ["self", "index", "target", "parts", "part"] ["self", "index", "target"] (defScope sManuscriptMove) := ⟨rfl, rfl, rfl, by decide +kernel, rfl, by decide +kernel, by decide +kernel⟩
theorem scManuscriptRekey : FnScope ["self", "index", "key", "parts"] ["self", "index", "key"] (defScope sManuscriptRekey) := ⟨rfl, rfl, rfl, by decide +kernel, rfl, by decide +kernel, by decide +kernel⟩
theorem scManuscriptUndo : FnScope ["self"] ["self"] (defScope sManuscriptUndo) := ⟨rfl, rfl, rfl, by decide +kernel, rfl, by decide +kernel, by decide +kernel⟩
theorem scManuscriptTrial : FnScope ["self"] ["self"] (defScope sManuscriptTrial) := ⟨rfl, rfl, rfl, by decide +kernel, rfl, by decide +kernel, by decide +kernel⟩
theorem scManuscriptTried : FnScope ["self", "action"] ["self", "action"] (defScope sManuscriptTried) := ⟨rfl, rfl, rfl, by decide +kernel, rfl, by decide +kernel, by decide +kernel⟩
theorem scIsChange : FnScope ["change"] ["change"] (defScope sIsChange) := ⟨rfl, rfl, rfl, by decide +kernel, rfl, by decide +kernel, by decide +kernel⟩
theorem scBehind : FnScope ["one", "other"] ["one", "other"] (defScope sBehind) := ⟨rfl, rfl, rfl, by decide +kernel, rfl, by decide +kernel, by decide +kernel⟩
theorem scActionInit : FnScope ["self", "changes", "name", "change"] ["self", "changes"] (defScope sActionInit) := ⟨rfl, rfl, rfl, by decide +kernel, rfl, by decide +kernel, by decide +kernel⟩
theorem scActionEq : FnScope ["self", "other"] ["self", "other"] (defScope sActionEq) := ⟨rfl, rfl, rfl, by decide +kernel, rfl, by decide +kernel, by decide +kernel⟩
theorem scActionAdd : FnScope ["self", "other", "found", "name", "change"] ["self", "other"] (defScope sActionAdd) := ⟨rfl, rfl, rfl, by decide +kernel, rfl, by decide +kernel, by decide +kernel⟩
theorem scActionOf : FnScope ["self", "values", "name", "found", "number", "kind", "amount"] ["self", "values"] (defScope sActionOf) := ⟨rfl, rfl, rfl, by decide +kernel, rfl, by decide +kernel, by decide +kernel⟩
theorem scKindAction : FnScope ["scheme", "kind", "found", "word", "name", "number"] ["scheme", "kind"] (defScope sKindAction) := ⟨rfl, rfl, rfl, by decide +kernel, rfl, by decide +kernel, by decide +kernel⟩
theorem scActOf : FnScope ["scheme", "kinds", "kind", "found"] ["scheme", "kinds"] (defScope sActOf) := ⟨rfl, rfl, rfl, by decide +kernel, rfl, by decide +kernel, by decide +kernel⟩
theorem scListed : FnScope ["names", "name"] ["names"] (defScope sListed) := ⟨rfl, rfl, rfl, by decide +kernel, rfl, by decide +kernel, by decide +kernel⟩
theorem scSchemeText : FnScope ["scheme", "starts", "lines", "kind", "deeds", "label", "name", "word", "number"] ["scheme"] (defScope sSchemeText) := ⟨rfl, rfl, rfl, by decide +kernel, rfl, by decide +kernel, by decide +kernel⟩
theorem scReadStarts : FnScope ["line", "found", "latest", "word", "name", "sign", "figures", "start"] ["line"] (defScope sReadStarts) := ⟨rfl, rfl, rfl, by decide +kernel, rfl, by decide +kernel, by decide +kernel⟩
theorem scReadDeed : FnScope ["text", "starts", "words", "deed"] ["text", "starts"] (defScope sReadDeed) := ⟨rfl, rfl, rfl, by decide +kernel, rfl, by decide +kernel, by decide +kernel⟩
theorem scReadDeeds : FnScope ["text", "starts", "deeds", "part"] ["text", "starts"] (defScope sReadDeeds) := ⟨rfl, rfl, rfl, by decide +kernel, rfl, by decide +kernel, by decide +kernel⟩
theorem scReadShown : FnScope ["line", "starts", "label", "name", "form"] ["line", "starts"] (defScope sReadShown) := ⟨rfl, rfl, rfl, by decide +kernel, rfl, by decide +kernel, by decide +kernel⟩
theorem scReadNames : FnScope ["text", "known", "names", "name"] ["text", "known"] (defScope sReadNames) := ⟨rfl, rfl, rfl, by decide +kernel, rfl, by decide +kernel, by decide +kernel⟩
theorem scReaderInit : FnScope ["self", "text"] ["self", "text"] (defScope sReaderInit) := ⟨rfl, rfl, rfl, by decide +kernel, rfl, by decide +kernel, by decide +kernel⟩
theorem scReaderPresent : FnScope ["self"] ["self"] (defScope sReaderPresent) := ⟨rfl, rfl, rfl, by decide +kernel, rfl, by decide +kernel, by decide +kernel⟩
theorem scReaderNeed : FnScope ["self", "found"] ["self", "found"] (defScope sReaderNeed) := ⟨rfl, rfl, rfl, by decide +kernel, rfl, by decide +kernel, by decide +kernel⟩
theorem scReadKinds : FnScope ["reader", "starts", "kinds", "latest", "name", "sign", "text", "is_kind", "deeds", "label"] ["reader", "starts"] (defScope sReadKinds) := ⟨rfl, rfl, rfl, by decide +kernel, rfl, by decide +kernel, by decide +kernel⟩
theorem scReadScheme : FnScope ["text", "reader", "starts", "kinds", "line", "begins", "follows", "kind", "head"] ["text"] (defScope sReadScheme) := ⟨rfl, rfl, rfl, by decide +kernel, rfl, by decide +kernel, by decide +kernel⟩
theorem scLawTape : FnScope ["_law_script", "_law_k", "_law_cell"] ["_law_script", "_law_k"] (defScope sLawTape) := ⟨rfl, rfl, rfl, by decide +kernel, rfl, by decide +kernel, by decide +kernel⟩
theorem scLawPick : FnScope ["_law_tape_here", "_law_many", "_law_digit", "_law_mixed"] ["_law_tape_here", "_law_many"] (defScope sLawPick) := ⟨rfl, rfl, rfl, by decide +kernel, rfl, by decide +kernel, by decide +kernel⟩
theorem scLawOfLabels : FnScope ["_law_s", "_law_c", "_law_k", "_law_d", "_law_e", "_law_v", "_law_a"] ["_law_s", "_law_c", "_law_k", "_law_d"] (defScope sLawOfLabels) := ⟨rfl, rfl, rfl, by decide +kernel, rfl, by decide +kernel, by decide +kernel⟩
theorem scLawLength : FnScope ["_law_m"] ["_law_m"] (defScope sLawLength) := ⟨rfl, rfl, rfl, by decide +kernel, rfl, by decide +kernel, by decide +kernel⟩
theorem scLawOfManuscripts : FnScope ["_law_s", "_law_k", "_law_j", "_law_m"] ["_law_s", "_law_k", "_law_j"] (defScope sLawOfManuscripts) := ⟨rfl, rfl, rfl, by decide +kernel, rfl, by decide +kernel, by decide +kernel⟩
theorem scLaw : FnScope ["_law_script", "_law_tape_here", "_law_c", "_law_k", "_law_j", "_law_t", "_law_s", "_law_d"] ["_law_script"] (defScope sLaw) := ⟨rfl, rfl, rfl, by decide +kernel, rfl, by decide +kernel, by decide +kernel⟩
/-! ### the rows of the defs for the head -/
def dIsName : He.DefD := ⟨("is_name", none), "is_name", "is_name", defArgs sIsName, defBody sIsName, defScope sIsName, [], []⟩
def dIsInteger : He.DefD := ⟨("is_integer", none), "is_integer", "is_integer", defArgs sIsInteger, defBody sIsInteger, defScope sIsInteger, [.non], []⟩
def dDigitsOf : He.DefD := ⟨("digits_of", none), "digits_of", "digits_of", defArgs sDigitsOf, defBody sDigitsOf, defScope sDigitsOf, [], []⟩
def dWordOf : He.DefD := ⟨("word_of", none), "word_of", "word_of", defArgs sWordOf, defBody sWordOf, defScope sWordOf, [], []⟩
def dNumberText : He.DefD := ⟨("number_text", none), "number_text", "number_text", defArgs sNumberText, defBody sNumberText, defScope sNumberText, [], []⟩
def dReadNumber : He.DefD := ⟨("read_number", none), "read_number", "read_number", defArgs sReadNumber, defBody sReadNumber, defScope sReadNumber, [], []⟩
def dIsHead : He.DefD := ⟨("is_head", none), "is_head", "is_head", defArgs sIsHead, defBody sIsHead, defScope sIsHead, [], []⟩
def dWrongItem : He.DefD := ⟨("wrong_item", none), "wrong_item", "wrong_item", defArgs sWrongItem, defBody sWrongItem, defScope sWrongItem, [], []⟩
def dAreJoints : He.DefD := ⟨("are_joints", none), "are_joints", "are_joints", defArgs sAreJoints, defBody sAreJoints, defScope sAreJoints, [], []⟩
def dLabelInit : He.DefD := ⟨("Label", some "__init__"), "__init__", "Label.__init__", defArgs sLabelInit, defBody sLabelInit, defScope sLabelInit, [.adr (He.dflAt ("Label", some "__init__") 0)], []⟩
def dLabelEq : He.DefD := ⟨("Label", some "__eq__"), "__eq__", "Label.__eq__", defArgs sLabelEq, defBody sLabelEq, defScope sLabelEq, [], []⟩
def dLabelSameForm : He.DefD := ⟨("Label", some "same_form"), "same_form", "Label.same_form", defArgs sLabelSameForm, defBody sLabelSameForm, defScope sLabelSameForm, [], []⟩
def dLabelJoined : He.DefD := ⟨("Label", some "joined"), "joined", "Label.joined", defArgs sLabelJoined, defBody sLabelJoined, defScope sLabelJoined, [], []⟩
def dLabelOf : He.DefD := ⟨("Label", some "of"), "of", "Label.of", defArgs sLabelOf, defBody sLabelOf, defScope sLabelOf, [], []⟩
def dLabelRead : He.DefD := ⟨("Label", some "read"), "read", "Label.read", defArgs sLabelRead, defBody sLabelRead, defScope sLabelRead, [], []⟩
def dLabelText : He.DefD := ⟨("Label", some "text"), "text", "Label.text", defArgs sLabelText, defBody sLabelText, defScope sLabelText, [], []⟩
def dShownIn : He.DefD := ⟨("shown_in", none), "shown_in", "shown_in", defArgs sShownIn, defBody sShownIn, defScope sShownIn, [], []⟩
def dReadLabel : He.DefD := ⟨("read_label", none), "read_label", "read_label", defArgs sReadLabel, defBody sReadLabel, defScope sReadLabel, [], []⟩
def dCheckNames : He.DefD := ⟨("check_names", none), "check_names", "check_names", defArgs sCheckNames, defBody sCheckNames, defScope sCheckNames, [], []⟩
def dIsDeed : He.DefD := ⟨("is_deed", none), "is_deed", "is_deed", defArgs sIsDeed, defBody sIsDeed, defScope sIsDeed, [], []⟩
def dCheckKind : He.DefD := ⟨("check_kind", none), "check_kind", "check_kind", defArgs sCheckKind, defBody sCheckKind, defScope sCheckKind, [], []⟩
def dCheckKnown : He.DefD := ⟨("check_known", none), "check_known", "check_known", defArgs sCheckKnown, defBody sCheckKnown, defScope sCheckKnown, [], []⟩
def dSchemeInit : He.DefD := ⟨("Scheme", some "__init__"), "__init__", "Scheme.__init__", defArgs sSchemeInit, defBody sSchemeInit, defScope sSchemeInit, [], [("follows", .non), ("begins", .non)]⟩
def dSchemeCounters : He.DefD := ⟨("Scheme", some "counters"), "counters", "Scheme.counters", defArgs sSchemeCounters, defBody sSchemeCounters, defScope sSchemeCounters, [], []⟩
def dSchemeKinds : He.DefD := ⟨("Scheme", some "kinds"), "kinds", "Scheme.kinds", defArgs sSchemeKinds, defBody sSchemeKinds, defScope sSchemeKinds, [], []⟩
def dSchemeStart : He.DefD := ⟨("Scheme", some "start"), "start", "Scheme.start", defArgs sSchemeStart, defBody sSchemeStart, defScope sSchemeStart, [], []⟩
def dSchemeDeeds : He.DefD := ⟨("Scheme", some "deeds"), "deeds", "Scheme.deeds", defArgs sSchemeDeeds, defBody sSchemeDeeds, defScope sSchemeDeeds, [], []⟩
def dSchemeLabel : He.DefD := ⟨("Scheme", some "label"), "label", "Scheme.label", defArgs sSchemeLabel, defBody sSchemeLabel, defScope sSchemeLabel, [], []⟩
def dSchemeFollowers : He.DefD := ⟨("Scheme", some "followers"), "followers", "Scheme.followers", defArgs sSchemeFollowers, defBody sSchemeFollowers, defScope sSchemeFollowers, [], []⟩
def dSchemeBeginners : He.DefD := ⟨("Scheme", some "beginners"), "beginners", "Scheme.beginners", defArgs sSchemeBeginners, defBody sSchemeBeginners, defScope sSchemeBeginners, [], []⟩
def dSchemeMayBegin : He.DefD := ⟨("Scheme", some "may_begin"), "may_begin", "Scheme.may_begin", defArgs sSchemeMayBegin, defBody sSchemeMayBegin, defScope sSchemeMayBegin, [], []⟩
def dSchemeMayFollow : He.DefD := ⟨("Scheme", some "may_follow"), "may_follow", "Scheme.may_follow", defArgs sSchemeMayFollow, defBody sSchemeMayFollow, defScope sSchemeMayFollow, [], []⟩
def dSchemeEq : He.DefD := ⟨("Scheme", some "__eq__"), "__eq__", "Scheme.__eq__", defArgs sSchemeEq, defBody sSchemeEq, defScope sSchemeEq, [], []⟩
def dMayStand : He.DefD := ⟨("may_stand", none), "may_stand", "may_stand", defArgs sMayStand, defBody sMayStand, defScope sMayStand, [], []⟩
def dWrongIndex : He.DefD := ⟨("wrong_index", none), "wrong_index", "wrong_index", defArgs sWrongIndex, defBody sWrongIndex, defScope sWrongIndex, [], []⟩
def dCheckDocument : He.DefD := ⟨("check_document", none), "check_document", "check_document", defArgs sCheckDocument, defBody sCheckDocument, defScope sCheckDocument, [], []⟩
def dStartsOf : He.DefD := ⟨("starts_of", none), "starts_of", "starts_of", defArgs sStartsOf, defBody sStartsOf, defScope sStartsOf, [], []⟩
def dCarried : He.DefD := ⟨("carried", none), "carried", "carried", defArgs sCarried, defBody sCarried, defScope sCarried, [], []⟩
def dDocValues : He.DefD := ⟨("values", none), "values", "values", defArgs sDocValues, defBody sDocValues, defScope sDocValues, [], []⟩
def dLabelsOf : He.DefD := ⟨("labels_of", none), "labels_of", "labels_of", defArgs sLabelsOf, defBody sLabelsOf, defScope sLabelsOf, [], []⟩
def dLabelsByKey : He.DefD := ⟨("labels_by_key", none), "labels_by_key", "labels_by_key", defArgs sLabelsByKey, defBody sLabelsByKey, defScope sLabelsByKey, [], []⟩
def dTrialInit : He.DefD := ⟨("Trial", some "__init__"), "__init__", "Trial.__init__", defArgs sTrialInit, defBody sTrialInit, defScope sTrialInit, [], []⟩
def dTrialEnter : He.DefD := ⟨("Trial", some "__enter__"), "__enter__", "Trial.__enter__", defArgs sTrialEnter, defBody sTrialEnter, defScope sTrialEnter, [], []⟩
def dTrialExit : He.DefD := ⟨("Trial", some "__exit__"), "__exit__", "Trial.__exit__", defArgs sTrialExit, defBody sTrialExit, defScope sTrialExit, [], []⟩
def dManuscriptInit : He.DefD := ⟨("Manuscript", some "__init__"), "__init__", "Manuscript.__init__", defArgs sManuscriptInit, defBody sManuscriptInit, defScope sManuscriptInit, [], []⟩
def dManuscriptLen : He.DefD := ⟨("Manuscript", some "__len__"), "__len__", "Manuscript.__len__", defArgs sManuscriptLen, defBody sManuscriptLen, defScope sManuscriptLen, [], []⟩
def dManuscriptParts : He.DefD := ⟨("Manuscript", some "parts"), "parts", "Manuscript.parts", defArgs sManuscriptParts, defBody sManuscriptParts, defScope sManuscriptParts, [], []⟩
def dManuscriptDocument : He.DefD := ⟨("Manuscript", some "document"), "document", "Manuscript.document", defArgs sManuscriptDocument, defBody sManuscriptDocument, defScope sManuscriptDocument, [], []⟩
def dManuscriptLabelOf : He.DefD := ⟨("Manuscript", some "label_of"), "label_of", "Manuscript.label_of", defArgs sManuscriptLabelOf, defBody sManuscriptLabelOf, defScope sManuscriptLabelOf, [], []⟩
def dManuscriptPlaceOf : He.DefD := ⟨("Manuscript", some "place_of"), "place_of", "Manuscript.place_of", defArgs sManuscriptPlaceOf, defBody sManuscriptPlaceOf, defScope sManuscriptPlaceOf, [], []⟩
def dManuscriptTold : He.DefD := ⟨("Manuscript", some "told"), "told", "Manuscript.told", defArgs sManuscriptTold, defBody sManuscriptTold, defScope sManuscriptTold, [], []⟩
def dManuscriptNeedIndex : He.DefD := ⟨("Manuscript", some "need_index"), "need_index", "Manuscript.need_index", defArgs sManuscriptNeedIndex, defBody sManuscriptNeedIndex, defScope sManuscriptNeedIndex, [], []⟩
def dManuscriptNeedKey : He.DefD := ⟨("Manuscript", some "need_key"), "need_key", "Manuscript.need_key", defArgs sManuscriptNeedKey, defBody sManuscriptNeedKey, defScope sManuscriptNeedKey, [], []⟩
def dManuscriptKeep : He.DefD := ⟨("Manuscript", some "keep"), "keep", "Manuscript.keep", defArgs sManuscriptKeep, defBody sManuscriptKeep, defScope sManuscriptKeep, [], []⟩
def dManuscriptPut : He.DefD := ⟨("Manuscript", some "put"), "put", "Manuscript.put", defArgs sManuscriptPut, defBody sManuscriptPut, defScope sManuscriptPut, [], [("key", .non)]⟩
def dManuscriptDrop : He.DefD := ⟨("Manuscript", some "drop"), "drop", "Manuscript.drop", defArgs sManuscriptDrop, defBody sManuscriptDrop, defScope sManuscriptDrop, [], []⟩
def dManuscriptExchange : He.DefD := ⟨("Manuscript", some "exchange"), "exchange", "Manuscript.exchange", defArgs sManuscriptExchange, defBody sManuscriptExchange, defScope sManuscriptExchange, [], []⟩
def dManuscriptMove : He.DefD := ⟨("Manuscript", some "move"), "move", "Manuscript.move", defArgs sManuscriptMove, defBody sManuscriptMove, defScope sManuscriptMove, [], []⟩
def dManuscriptRekey : He.DefD := ⟨("Manuscript", some "rekey"), "rekey", "Manuscript.rekey", defArgs sManuscriptRekey, defBody sManuscriptRekey, defScope sManuscriptRekey, [], []⟩
def dManuscriptUndo : He.DefD := ⟨("Manuscript", some "undo"), "undo", "Manuscript.undo", defArgs sManuscriptUndo, defBody sManuscriptUndo, defScope sManuscriptUndo, [], []⟩
def dManuscriptTrial : He.DefD := ⟨("Manuscript", some "trial"), "trial", "Manuscript.trial", defArgs sManuscriptTrial, defBody sManuscriptTrial, defScope sManuscriptTrial, [], []⟩
def dManuscriptTried : He.DefD := ⟨("Manuscript", some "tried"), "tried", "Manuscript.tried", defArgs sManuscriptTried, defBody sManuscriptTried, defScope sManuscriptTried, [], []⟩
def dIsChange : He.DefD := ⟨("is_change", none), "is_change", "is_change", defArgs sIsChange, defBody sIsChange, defScope sIsChange, [], []⟩
def dBehind : He.DefD := ⟨("behind", none), "behind", "behind", defArgs sBehind, defBody sBehind, defScope sBehind, [], []⟩
def dActionInit : He.DefD := ⟨("Action", some "__init__"), "__init__", "Action.__init__", defArgs sActionInit, defBody sActionInit, defScope sActionInit, [], []⟩
def dActionEq : He.DefD := ⟨("Action", some "__eq__"), "__eq__", "Action.__eq__", defArgs sActionEq, defBody sActionEq, defScope sActionEq, [], []⟩
def dActionAdd : He.DefD := ⟨("Action", some "__add__"), "__add__", "Action.__add__", defArgs sActionAdd, defBody sActionAdd, defScope sActionAdd, [], []⟩
def dActionOf : He.DefD := ⟨("Action", some "of"), "of", "Action.of", defArgs sActionOf, defBody sActionOf, defScope sActionOf, [], []⟩
def dKindAction : He.DefD := ⟨("kind_action", none), "kind_action", "kind_action", defArgs sKindAction, defBody sKindAction, defScope sKindAction, [], []⟩
def dActOf : He.DefD := ⟨("action_of", none), "action_of", "action_of", defArgs sActOf, defBody sActOf, defScope sActOf, [], []⟩
def dListed : He.DefD := ⟨("listed", none), "listed", "listed", defArgs sListed, defBody sListed, defScope sListed, [], []⟩
def dSchemeText : He.DefD := ⟨("scheme_text", none), "scheme_text", "scheme_text", defArgs sSchemeText, defBody sSchemeText, defScope sSchemeText, [], []⟩
def dReadStarts : He.DefD := ⟨("read_starts", none), "read_starts", "read_starts", defArgs sReadStarts, defBody sReadStarts, defScope sReadStarts, [], []⟩
def dReadDeed : He.DefD := ⟨("read_deed", none), "read_deed", "read_deed", defArgs sReadDeed, defBody sReadDeed, defScope sReadDeed, [], []⟩
def dReadDeeds : He.DefD := ⟨("read_deeds", none), "read_deeds", "read_deeds", defArgs sReadDeeds, defBody sReadDeeds, defScope sReadDeeds, [], []⟩
def dReadShown : He.DefD := ⟨("read_shown", none), "read_shown", "read_shown", defArgs sReadShown, defBody sReadShown, defScope sReadShown, [], []⟩
def dReadNames : He.DefD := ⟨("read_names", none), "read_names", "read_names", defArgs sReadNames, defBody sReadNames, defScope sReadNames, [], []⟩
def dReaderInit : He.DefD := ⟨("Reader", some "__init__"), "__init__", "Reader.__init__", defArgs sReaderInit, defBody sReaderInit, defScope sReaderInit, [], []⟩
def dReaderPresent : He.DefD := ⟨("Reader", some "present"), "present", "Reader.present", defArgs sReaderPresent, defBody sReaderPresent, defScope sReaderPresent, [], []⟩
def dReaderNeed : He.DefD := ⟨("Reader", some "need"), "need", "Reader.need", defArgs sReaderNeed, defBody sReaderNeed, defScope sReaderNeed, [], []⟩
def dReadKinds : He.DefD := ⟨("read_kinds", none), "read_kinds", "read_kinds", defArgs sReadKinds, defBody sReadKinds, defScope sReadKinds, [], []⟩
def dReadScheme : He.DefD := ⟨("read_scheme", none), "read_scheme", "read_scheme", defArgs sReadScheme, defBody sReadScheme, defScope sReadScheme, [], []⟩
def dLawTape : He.DefD := ⟨("_law_tape", none), "_law_tape", "_law_tape", defArgs sLawTape, defBody sLawTape, defScope sLawTape, [], []⟩
def dLawPick : He.DefD := ⟨("_law_pick", none), "_law_pick", "_law_pick", defArgs sLawPick, defBody sLawPick, defScope sLawPick, [], []⟩
def dLawOfLabels : He.DefD := ⟨("_law_of_labels", none), "_law_of_labels", "_law_of_labels", defArgs sLawOfLabels, defBody sLawOfLabels, defScope sLawOfLabels, [], []⟩
def dLawLength : He.DefD := ⟨("_law_length", none), "_law_length", "_law_length", defArgs sLawLength, defBody sLawLength, defScope sLawLength, [], []⟩
def dLawOfManuscripts : He.DefD := ⟨("_law_of_manuscripts", none), "_law_of_manuscripts", "_law_of_manuscripts", defArgs sLawOfManuscripts, defBody sLawOfManuscripts, defScope sLawOfManuscripts, [], []⟩
def dLaw : He.DefD := ⟨("law", none), "law", "law", defArgs sLaw, defBody sLaw, defScope sLaw, [], []⟩
/-! ### the facts of the head -/
def fa : List He.Fa := [.glo "BadText",
  .glo "is_name",
  .glo "is_integer",
  .glo "digits_of",
  .glo "word_of",
  .glo "number_text",
  .glo "read_number",
  .glo "is_head",
  .glo "wrong_item",
  .glo "are_joints",
  .glo "Label",
  .glo "shown_in",
  .glo "read_label",
  .glo "check_names",
  .glo "is_deed",
  .glo "check_kind",
  .glo "check_known",
  .glo "Scheme",
  .glo "may_stand",
  .glo "wrong_index",
  .glo "check_document",
  .glo "starts_of",
  .glo "carried",
  .glo "values",
  .glo "labels_of",
  .glo "labels_by_key",
  .glo "Trial",
  .glo "Manuscript",
  .glo "is_change",
  .glo "behind",
  .glo "Action",
  .glo "kind_action",
  .glo "action_of",
  .glo "listed",
  .glo "scheme_text",
  .glo "read_starts",
  .glo "read_deed",
  .glo "read_deeds",
  .glo "read_shown",
  .glo "read_names",
  .glo "Reader",
  .glo "read_kinds",
  .glo "read_scheme",
  .glo "_law_tape",
  .glo "_law_pick",
  .glo "_law_of_labels",
  .glo "_law_length",
  .glo "_law_of_manuscripts",
  .glo "law",
  .glo "JOINTS",
  .glo "LEAST",
  .free "abs",
  .free "all",
  .free "bool",
  .free "dict",
  .free "enumerate",
  .free "int",
  .free "isinstance",
  .free "len",
  .free "list",
  .free "sorted",
  .free "str",
  .free "tuple",
  .free "zip",
  .int "LONGEST" 8,
  .str "SIGNS_names" "abcdefghijklmnopqrstuvwxyz",
  .str "FIGURES" "figures",
  .str "LETTERS" "letters",
  .str "DIGITS" "0123456789",
  .str "NONE" "-",
  .str "SIGNS_labels" "abcdefghijklmnopqrstuvwxyzABCDEFGHIJKLMNOPQRSTUVWXYZ",
  .int "MOST_SHOWN" 4,
  .int "LONGEST_HEAD" 30,
  .str "ENDING" ":a",
  .int "MOST_COUNTERS" 4,
  .int "MOST_KINDS" 6,
  .int "MOST_DEEDS" 6,
  .int "MOST" 99,
  .str "ADD" "add",
  .str "SET" "set",
  .str "COUNTERS" "counters ",
  .str "KIND" "kind ",
  .str "LABEL" "label ",
  .str "BEGINS" "begins",
  .str "AFTER" "after ",
  .str "COLON" ":",
  .cls "Label",
  .mkr "Label",
  .noat "Label" "first",
  .noat "Label" "slots",
  .noat "Label" "signs",
  .cls "Scheme",
  .mkr "Scheme",
  .noat "Scheme" "first_values",
  .noat "Scheme" "all_deeds",
  .noat "Scheme" "all_labels",
  .noat "Scheme" "next_kinds",
  .noat "Scheme" "first_kinds",
  .cls "Trial",
  .mkr "Trial",
  .noat "Trial" "manuscript",
  .noat "Trial" "held",
  .cls "Manuscript",
  .mkr "Manuscript",
  .noat "Manuscript" "plan",
  .noat "Manuscript" "past",
  .cls "Action",
  .mkr "Action",
  .noat "Action" "made_of",
  .cls "Reader",
  .mkr "Reader",
  .noat "Reader" "lines",
  .noat "Reader" "at",
  .meth "Label" "__eq__",
  .meth "Label" "same_form",
  .meth "Label" "joined",
  .meth "Label" "of",
  .meth "Label" "read",
  .meth "Label" "text",
  .meth "Scheme" "counters",
  .meth "Scheme" "kinds",
  .meth "Scheme" "start",
  .meth "Scheme" "deeds",
  .meth "Scheme" "label",
  .meth "Scheme" "followers",
  .meth "Scheme" "beginners",
  .meth "Scheme" "may_begin",
  .meth "Scheme" "may_follow",
  .meth "Scheme" "__eq__",
  .meth "Trial" "__enter__",
  .meth "Trial" "__exit__",
  .meth "Manuscript" "__len__",
  .meth "Manuscript" "parts",
  .meth "Manuscript" "document",
  .meth "Manuscript" "label_of",
  .meth "Manuscript" "place_of",
  .meth "Manuscript" "told",
  .meth "Manuscript" "need_index",
  .meth "Manuscript" "need_key",
  .meth "Manuscript" "keep",
  .meth "Manuscript" "put",
  .meth "Manuscript" "drop",
  .meth "Manuscript" "exchange",
  .meth "Manuscript" "move",
  .meth "Manuscript" "rekey",
  .meth "Manuscript" "undo",
  .meth "Manuscript" "trial",
  .meth "Manuscript" "tried",
  .meth "Action" "__eq__",
  .meth "Action" "__add__",
  .meth "Action" "of",
  .meth "Reader" "present",
  .meth "Reader" "need"]
def fn : List He.DefD := [dIsName, dIsInteger, dDigitsOf, dWordOf, dNumberText, dReadNumber, dIsHead, dWrongItem, dAreJoints, dLabelInit, dLabelEq, dLabelSameForm, dLabelJoined, dLabelOf, dLabelRead, dLabelText, dShownIn, dReadLabel, dCheckNames, dIsDeed, dCheckKind, dCheckKnown, dSchemeInit, dSchemeCounters, dSchemeKinds, dSchemeStart, dSchemeDeeds, dSchemeLabel, dSchemeFollowers, dSchemeBeginners, dSchemeMayBegin, dSchemeMayFollow, dSchemeEq, dMayStand, dWrongIndex, dCheckDocument, dStartsOf, dCarried, dDocValues, dLabelsOf, dLabelsByKey, dTrialInit, dTrialEnter, dTrialExit, dManuscriptInit, dManuscriptLen, dManuscriptParts, dManuscriptDocument, dManuscriptLabelOf, dManuscriptPlaceOf, dManuscriptTold, dManuscriptNeedIndex, dManuscriptNeedKey, dManuscriptKeep, dManuscriptPut, dManuscriptDrop, dManuscriptExchange, dManuscriptMove, dManuscriptRekey, dManuscriptUndo, dManuscriptTrial, dManuscriptTried, dIsChange, dBehind, dActionInit, dActionEq, dActionAdd, dActionOf, dKindAction, dActOf, dListed, dSchemeText, dReadStarts, dReadDeed, dReadDeeds, dReadShown, dReadNames, dReaderInit, dReaderPresent, dReaderNeed, dReadKinds, dReadScheme, dLawTape, dLawPick, dLawOfLabels, dLawLength, dLawOfManuscripts, dLaw]
end K95

set_option maxRecDepth 100000
set_option maxHeartbeats 4000000
namespace K95
open PySem PySem.Spec PyProof.Rows L2
/-! ### the part of the heap that the facts speak of: the module's names, what their objects name, the classes' members, what these name -/
def subs (g : Addr → Option Obj) (a : Addr) : List Addr := match g a with
  | some o => (match o.data with
    | .func fd => He.refV fd.code ++ (He.refV fd.defaults ++ He.refV fd.kwdefaults)
    | .fields vs => vs.toList.flatMap He.refV
    | .seq vs _ => vs.toList.flatMap He.refV
    | _ => [])
  | none => []
def dvals (g : Addr → Option Obj) (a : Addr) : List Addr := match g a with
  | some o => (match o.data with
    | .dict es _ => es.toList.flatMap fun e => He.refV e.val
    | _ => [])
  | none => []
def withSubs (g : Addr → Option Obj) : List Addr → List Addr
  | [] => []
  | a :: r => a :: (subs g a ++ withSubs g r)
def withSubs2 (g : Addr → Option Obj) : List Addr → List Addr
  | [] => []
  | a :: r => a :: (withSubs g (subs g a) ++ withSubs2 g r)
def clsOf (g : Addr → Option Obj) (a : Addr) : List Addr := match g a with
  | some o => (match o.data with
    | .cls cd => cd.ns :: withSubs2 g (dvals g cd.ns)
    | _ => [])
  | none => []
def asK (g : Addr → Option Obj) : List Addr := mainGlobals :: (dvals g mainGlobals ++ ((dvals g mainGlobals).flatMap (subs g) ++ (dvals g mainGlobals).flatMap (clsOf g)))
/-! ### the getter of Label.shown -/
def prP (K : PySem.W.Frag) : Addr := He.ma K (He.ga K "Label") "shown"
def prG (K : PySem.W.Frag) : Addr := match PySem.W.recIn K (prP K) "property" with
  | some (.ref g :: _) => g
  | _ => 0
def fnA (K : PySem.W.Frag) (a : Addr) : He.FnW := match K.lookup a with
  | some ⟨_, _, .func fd, _⟩ => some (fd.name, fd.qualname, fd.params, fd.body, fd.scope, fd.globals, fd.closure, fd.builtins)
  | _ => none
def prB (K : PySem.W.Frag) : Bool :=
  He.eqO (PySem.W.findIn K (.ref (He.ga K "Label")) "shown") (some (some (.ref (prP K)))) &&
  (He.eqO (PySem.W.specialIn K (.ref (prP K)) "__get__") (some (some (.builtin "property.__get__"))) &&
  (decide (PySem.W.takesIn K (.ref (prP K)) = some true) &&
  ((match PySem.W.recIn K (prP K) "property" with
    | some (.ref _ :: _) => true
    | _ => false) &&
  (PySem.W.keepIn K (.ref (prG K)) && (match K.lookup (prG K) with
    | some ⟨_, _, .func fd, _⟩ => PySem.W.codeIn K fd.code "Label.shown" && He.dflB K fd.defaults []
    | _ => false)))))
def shownW : He.FnW := some ("shown", "Label.shown", defArgs sLabelShown, .stmts (defBody sLabelShown), defScope sLabelShown, mainGlobals, [], builtinsNs)
/-! ### the Hook -/
abbrev AlK : Type := He.AlT × Bool × He.FnW
def obsK (fa : List He.Fa) (fn : List He.DefD) (ts : List He.Tab) (ex : PySem.W.Frag → Bool) (K : PySem.W.Frag) : AlK := (He.obsT fa fn ts K, ex K && prB K, fnA K (prG K))
def valK (fn : List He.DefD) (ts : List He.Tab) (w : World) : AlK := (He.valT fn ts w, true, shownW)
def SaysK (fa : List He.Fa) (fn : List He.DefD) (ts : List He.Tab) (ex : PySem.W.Frag → Bool) (w : World) (K : PySem.W.Frag) : Prop := obsK fa fn ts ex K = valK fn ts w
def obsKG (fa : List He.Fa) (fn : List He.DefD) (ts : List He.Tab) (ex : PySem.W.Frag → Bool) (g : Addr → Option Obj) : AlK := obsK fa fn ts ex (He.frG g (asK g))
def hookK (fa : List He.Fa) (fn : List He.DefD) (ts : List He.Tab) (ex : PySem.W.Frag → Bool) : PySem.W.Hook where
  α := AlK
  obs := fun s => obsKG fa fn ts ex s.heap.get?
  val := fun w => valK fn ts w
  says := fun w h => ∃ K : PySem.W.Frag, K.In h ∧ SaysK fa fn ts ex w K
  of := fun _ _ e => ⟨_, He.frG_in, e⟩
  keeps := fun _ _ _ ⟨K, hK, c⟩ k => ⟨K, PySem.W.Frag.In.keeps hK k, c⟩
theorem obsKG_eq {fa : List He.Fa} {fn : List He.DefD} {ts : List He.Tab} {ex : PySem.W.Frag → Bool} {g : Addr → Option Obj} {s : Shared} (h : ∀ a, g a = s.heap.get? a) : obsKG fa fn ts ex g = (hookK fa fn ts ex).obs s := by
  have e : g = s.heap.get? := funext h
  rw [e] <;> rfl
theorem map3 {α β γ δ : Type} (o : Option α) (f1 : α → β) (f2 : α → γ) (f3 : α → δ) (b : β) (c : γ) (d : δ) (h1 : o.map (fun s => (f1 s, f2 s)) = some (b, c)) (h2 : o.map f3 = some d) : o.map (fun s => (f1 s, f2 s, f3 s)) = some (b, c, d) := by
  cases o with
  | none => cases h1
  | some s =>
    have e1 : (f1 s, f2 s) = (b, c) := Option.some.inj h1
    have e2 : f3 s = d := Option.some.inj h2
    have e3 : f1 s = b := congrArg Prod.fst e1
    have e4 : f2 s = c := congrArg Prod.snd e1
    show some (f1 s, f2 s, f3 s) = _
    rw [e2, e3, e4]
/-- a class of the text with its own ==, as != asks for it -/
def neB (K : PySem.W.Frag) (C : Addr) : Bool := match K.lookup C with
  | some ⟨.type t, _, .cls cd, sl⟩ => (t == "type") && ((cd.mro == [.ref C, .type "object"]) && ((!cd.hasDel) && ((match sl.toList with
    | [_, _, _, _, some (.builtin _), _] => true
    | _ => false) && (PySem.W.nsOkIn K cd.ns && (He.eqO (PySem.W.nsIn K cd.ns "__ne__") (some none) && He.eqO (PySem.W.nsIn K cd.ns "__eq__") (some (some (.ref (He.ma K C "__eq__")))))))))
  | _ => false
def clB (K : PySem.W.Frag) (C : Addr) : Bool := He.eqO (PySem.W.findIn K (.ref C) "__class__") (some (some (.builtin "object.__class__"))) && (decide (PySem.W.mroIn K C (.type "object") = some true) && neB K C)
def exB (K : PySem.W.Frag) : Bool :=
  (He.eqO (PySem.W.specialIn K (.builtin "object.__class__") "__get__") (some (some (.builtin "getset_descriptor.__get__"))) && decide (PySem.W.takesIn K (.builtin "object.__class__") = some true)) &&
  ((clB K (He.ga K "Label") && (clB K (He.ga K "Scheme") && clB K (He.ga K "Action"))) &&
  ((PySem.W.selfFirst K (He.ga K "Action") && He.eqO (PySem.W.findIn K (.ref (He.ga K "Action")) "__radd__") (some none)) &&
  ((He.tupB K "JOINTS" [.str ".", .str ":", .str "/"] && He.valsB K (He.ga K "LEAST") [("add", .int 1), ("set", .int 0)]) &&
  (match K.lookup (He.dflAt ("Label", some "__init__") 0 K) with
    | some ⟨.type t, _, .seq its _, _⟩ => (t == "tuple") && its.toList.isEmpty
    | _ => false))))
end K95

set_option maxRecDepth 100000
set_option maxHeartbeats 4000000
namespace K95
open PySem PySem.Spec PyProof.Rows L2
def ts : List He.Tab := [(fun K => He.ga K "LEAST", ["add", "set"])]
def ex (K : PySem.W.Frag) : Bool := exB K
/-- what the head says, at a written part K -/
structure Ctx (w : World) (K : PySem.W.Frag) (mg : Str → Option Value) : Prop where
  h : ∃ h : Heap, K.In h ∧ h.Ns mainGlobals mg
  says : SaysK fa fn ts ex w K
section
variable {w : World} {K : PySem.W.Frag} {mg : Str → Option Value}
theorem Ctx.d (c : Ctx w K mg) : He.SaysD fa fn K := He.SaysT.d (congrArg (fun z : AlK => z.1) c.says)
theorem Ctx.t (c : Ctx w K mg) : He.SaysT fa fn ts w K := congrArg (fun z : AlK => z.1) c.says
theorem Ctx.b (c : Ctx w K mg) : (ex K && prB K) = true := congrArg (fun z : AlK => z.2.1) c.says
theorem Ctx.fact (c : Ctx w K mg) (i : Nat) {f : He.Fa} (h : fa[i]? = some f := by rfl) : f.ok K = true := c.d.fact i h
/-- a def of the module -/
structure DefAt (K : PySem.W.Frag) (mg : Str → Option Value) (x : Str) (st : Stmt) (dvs : List V) (kws : List (Str × V)) (f : Addr) (fd : FuncData) : Prop where
  g : mg x = some (.ref f)
  F : FunD K x x (defArgs st) (defBody st) (defScope st) dvs kws f fd
/-- a method of a class of the module -/
structure MethAt (K : PySem.W.Frag) (C : Addr) (m q : Str) (st : Stmt) (dvs : List V) (kws : List (Str × V)) (f : Addr) (fd : FuncData) : Prop where
  me : Meth K C m f
  F : FunD K m q (defArgs st) (defBody st) (defScope st) dvs kws f fd
/-- a class and its __init__ -/
structure MakeAt (K : PySem.W.Frag) (mg : Str → Option Value) (x q : Str) (st : Stmt) (dvs : List V) (kws : List (Str × V)) (f : Addr) (fd : FuncData) : Prop where
  g : mg x = some (.ref (He.ga K x))
  M : Mk K (He.ga K x) f
  F : FunD K "__init__" q (defArgs st) (defBody st) (defScope st) dvs kws f fd
theorem Ctx.glo (c : Ctx w K mg) {x : Str} (i : Nat) (h : fa[i]? = some (.glo x) := by rfl) : mg x = some (.ref (He.ga K x)) := by
  obtain ⟨hp, X, G⟩ := c.h
  exact He.glo_ok X G (c.fact i h)
theorem Ctx.free (c : Ctx w K mg) {x : Str} (i : Nat) (h : fa[i]? = some (.free x) := by rfl) : mg x = none := by
  obtain ⟨hp, X, G⟩ := c.h
  exact He.free_ok X G (c.fact i h)
theorem Ctx.int (c : Ctx w K mg) {x : Str} {k : Int} (i : Nat) (h : fa[i]? = some (.int x k) := by rfl) : ∃ t, mg x = some (.int k t) := by
  obtain ⟨hp, X, G⟩ := c.h
  exact He.int_ok X G (c.fact i h)
theorem Ctx.str (c : Ctx w K mg) {x z : Str} (i : Nat) (h : fa[i]? = some (.str x z) := by rfl) : ∃ t, mg x = some (.str z t) := by
  obtain ⟨hp, X, G⟩ := c.h
  exact He.str_ok X G (c.fact i h)
abbrev cLabel (K : PySem.W.Frag) : Addr := He.ga K "Label"
abbrev cScheme (K : PySem.W.Frag) : Addr := He.ga K "Scheme"
abbrev cTrial (K : PySem.W.Frag) : Addr := He.ga K "Trial"
abbrev cManuscript (K : PySem.W.Frag) : Addr := He.ga K "Manuscript"
abbrev cAction (K : PySem.W.Frag) : Addr := He.ga K "Action"
abbrev cReader (K : PySem.W.Frag) : Addr := He.ga K "Reader"
theorem Ctx.g_BadText (c : Ctx w K mg) : mg "BadText" = some (.ref (He.ga K "BadText")) := c.glo 0
theorem Ctx.g_is_name (c : Ctx w K mg) : mg "is_name" = some (.ref (He.ga K "is_name")) := c.glo 1
theorem Ctx.g_is_integer (c : Ctx w K mg) : mg "is_integer" = some (.ref (He.ga K "is_integer")) := c.glo 2
theorem Ctx.g_digits_of (c : Ctx w K mg) : mg "digits_of" = some (.ref (He.ga K "digits_of")) := c.glo 3
theorem Ctx.g_word_of (c : Ctx w K mg) : mg "word_of" = some (.ref (He.ga K "word_of")) := c.glo 4
theorem Ctx.g_number_text (c : Ctx w K mg) : mg "number_text" = some (.ref (He.ga K "number_text")) := c.glo 5
theorem Ctx.g_read_number (c : Ctx w K mg) : mg "read_number" = some (.ref (He.ga K "read_number")) := c.glo 6
theorem Ctx.g_is_head (c : Ctx w K mg) : mg "is_head" = some (.ref (He.ga K "is_head")) := c.glo 7
theorem Ctx.g_wrong_item (c : Ctx w K mg) : mg "wrong_item" = some (.ref (He.ga K "wrong_item")) := c.glo 8
theorem Ctx.g_are_joints (c : Ctx w K mg) : mg "are_joints" = some (.ref (He.ga K "are_joints")) := c.glo 9
theorem Ctx.g_Label (c : Ctx w K mg) : mg "Label" = some (.ref (He.ga K "Label")) := c.glo 10
theorem Ctx.g_shown_in (c : Ctx w K mg) : mg "shown_in" = some (.ref (He.ga K "shown_in")) := c.glo 11
theorem Ctx.g_read_label (c : Ctx w K mg) : mg "read_label" = some (.ref (He.ga K "read_label")) := c.glo 12
theorem Ctx.g_check_names (c : Ctx w K mg) : mg "check_names" = some (.ref (He.ga K "check_names")) := c.glo 13
theorem Ctx.g_is_deed (c : Ctx w K mg) : mg "is_deed" = some (.ref (He.ga K "is_deed")) := c.glo 14
theorem Ctx.g_check_kind (c : Ctx w K mg) : mg "check_kind" = some (.ref (He.ga K "check_kind")) := c.glo 15
theorem Ctx.g_check_known (c : Ctx w K mg) : mg "check_known" = some (.ref (He.ga K "check_known")) := c.glo 16
theorem Ctx.g_Scheme (c : Ctx w K mg) : mg "Scheme" = some (.ref (He.ga K "Scheme")) := c.glo 17
theorem Ctx.g_may_stand (c : Ctx w K mg) : mg "may_stand" = some (.ref (He.ga K "may_stand")) := c.glo 18
theorem Ctx.g_wrong_index (c : Ctx w K mg) : mg "wrong_index" = some (.ref (He.ga K "wrong_index")) := c.glo 19
theorem Ctx.g_check_document (c : Ctx w K mg) : mg "check_document" = some (.ref (He.ga K "check_document")) := c.glo 20
theorem Ctx.g_starts_of (c : Ctx w K mg) : mg "starts_of" = some (.ref (He.ga K "starts_of")) := c.glo 21
theorem Ctx.g_carried (c : Ctx w K mg) : mg "carried" = some (.ref (He.ga K "carried")) := c.glo 22
theorem Ctx.g_values (c : Ctx w K mg) : mg "values" = some (.ref (He.ga K "values")) := c.glo 23
theorem Ctx.g_labels_of (c : Ctx w K mg) : mg "labels_of" = some (.ref (He.ga K "labels_of")) := c.glo 24
theorem Ctx.g_labels_by_key (c : Ctx w K mg) : mg "labels_by_key" = some (.ref (He.ga K "labels_by_key")) := c.glo 25
theorem Ctx.g_Trial (c : Ctx w K mg) : mg "Trial" = some (.ref (He.ga K "Trial")) := c.glo 26
theorem Ctx.g_Manuscript (c : Ctx w K mg) : mg "Manuscript" = some (.ref (He.ga K "Manuscript")) := c.glo 27
theorem Ctx.g_is_change (c : Ctx w K mg) : mg "is_change" = some (.ref (He.ga K "is_change")) := c.glo 28
theorem Ctx.g_behind (c : Ctx w K mg) : mg "behind" = some (.ref (He.ga K "behind")) := c.glo 29
theorem Ctx.g_Action (c : Ctx w K mg) : mg "Action" = some (.ref (He.ga K "Action")) := c.glo 30
theorem Ctx.g_kind_action (c : Ctx w K mg) : mg "kind_action" = some (.ref (He.ga K "kind_action")) := c.glo 31
theorem Ctx.g_action_of (c : Ctx w K mg) : mg "action_of" = some (.ref (He.ga K "action_of")) := c.glo 32
theorem Ctx.g_listed (c : Ctx w K mg) : mg "listed" = some (.ref (He.ga K "listed")) := c.glo 33
theorem Ctx.g_scheme_text (c : Ctx w K mg) : mg "scheme_text" = some (.ref (He.ga K "scheme_text")) := c.glo 34
theorem Ctx.g_read_starts (c : Ctx w K mg) : mg "read_starts" = some (.ref (He.ga K "read_starts")) := c.glo 35
theorem Ctx.g_read_deed (c : Ctx w K mg) : mg "read_deed" = some (.ref (He.ga K "read_deed")) := c.glo 36
theorem Ctx.g_read_deeds (c : Ctx w K mg) : mg "read_deeds" = some (.ref (He.ga K "read_deeds")) := c.glo 37
theorem Ctx.g_read_shown (c : Ctx w K mg) : mg "read_shown" = some (.ref (He.ga K "read_shown")) := c.glo 38
theorem Ctx.g_read_names (c : Ctx w K mg) : mg "read_names" = some (.ref (He.ga K "read_names")) := c.glo 39
theorem Ctx.g_Reader (c : Ctx w K mg) : mg "Reader" = some (.ref (He.ga K "Reader")) := c.glo 40
theorem Ctx.g_read_kinds (c : Ctx w K mg) : mg "read_kinds" = some (.ref (He.ga K "read_kinds")) := c.glo 41
theorem Ctx.g_read_scheme (c : Ctx w K mg) : mg "read_scheme" = some (.ref (He.ga K "read_scheme")) := c.glo 42
theorem Ctx.g__law_tape (c : Ctx w K mg) : mg "_law_tape" = some (.ref (He.ga K "_law_tape")) := c.glo 43
theorem Ctx.g__law_pick (c : Ctx w K mg) : mg "_law_pick" = some (.ref (He.ga K "_law_pick")) := c.glo 44
theorem Ctx.g__law_of_labels (c : Ctx w K mg) : mg "_law_of_labels" = some (.ref (He.ga K "_law_of_labels")) := c.glo 45
theorem Ctx.g__law_length (c : Ctx w K mg) : mg "_law_length" = some (.ref (He.ga K "_law_length")) := c.glo 46
theorem Ctx.g__law_of_manuscripts (c : Ctx w K mg) : mg "_law_of_manuscripts" = some (.ref (He.ga K "_law_of_manuscripts")) := c.glo 47
theorem Ctx.g_law (c : Ctx w K mg) : mg "law" = some (.ref (He.ga K "law")) := c.glo 48
theorem Ctx.g_JOINTS (c : Ctx w K mg) : mg "JOINTS" = some (.ref (He.ga K "JOINTS")) := c.glo 49
theorem Ctx.g_LEAST (c : Ctx w K mg) : mg "LEAST" = some (.ref (He.ga K "LEAST")) := c.glo 50
theorem Ctx.f_abs (c : Ctx w K mg) : mg "abs" = none := c.free 51
theorem Ctx.f_all (c : Ctx w K mg) : mg "all" = none := c.free 52
theorem Ctx.f_bool (c : Ctx w K mg) : mg "bool" = none := c.free 53
theorem Ctx.f_dict (c : Ctx w K mg) : mg "dict" = none := c.free 54
theorem Ctx.f_enumerate (c : Ctx w K mg) : mg "enumerate" = none := c.free 55
theorem Ctx.f_int (c : Ctx w K mg) : mg "int" = none := c.free 56
theorem Ctx.f_isinstance (c : Ctx w K mg) : mg "isinstance" = none := c.free 57
theorem Ctx.f_len (c : Ctx w K mg) : mg "len" = none := c.free 58
theorem Ctx.f_list (c : Ctx w K mg) : mg "list" = none := c.free 59
theorem Ctx.f_sorted (c : Ctx w K mg) : mg "sorted" = none := c.free 60
theorem Ctx.f_str (c : Ctx w K mg) : mg "str" = none := c.free 61
theorem Ctx.f_tuple (c : Ctx w K mg) : mg "tuple" = none := c.free 62
theorem Ctx.f_zip (c : Ctx w K mg) : mg "zip" = none := c.free 63
theorem Ctx.i_LONGEST (c : Ctx w K mg) : ∃ t, mg "LONGEST" = some (.int 8 t) := c.int 64
theorem Ctx.s_SIGNS_names (c : Ctx w K mg) : ∃ t, mg "SIGNS_names" = some (.str "abcdefghijklmnopqrstuvwxyz" t) := c.str 65
theorem Ctx.s_FIGURES (c : Ctx w K mg) : ∃ t, mg "FIGURES" = some (.str "figures" t) := c.str 66
theorem Ctx.s_LETTERS (c : Ctx w K mg) : ∃ t, mg "LETTERS" = some (.str "letters" t) := c.str 67
theorem Ctx.s_DIGITS (c : Ctx w K mg) : ∃ t, mg "DIGITS" = some (.str "0123456789" t) := c.str 68
theorem Ctx.s_NONE (c : Ctx w K mg) : ∃ t, mg "NONE" = some (.str "-" t) := c.str 69
theorem Ctx.s_SIGNS_labels (c : Ctx w K mg) : ∃ t, mg "SIGNS_labels" = some (.str "abcdefghijklmnopqrstuvwxyzABCDEFGHIJKLMNOPQRSTUVWXYZ" t) := c.str 70
theorem Ctx.i_MOST_SHOWN (c : Ctx w K mg) : ∃ t, mg "MOST_SHOWN" = some (.int 4 t) := c.int 71
theorem Ctx.i_LONGEST_HEAD (c : Ctx w K mg) : ∃ t, mg "LONGEST_HEAD" = some (.int 30 t) := c.int 72
theorem Ctx.s_ENDING (c : Ctx w K mg) : ∃ t, mg "ENDING" = some (.str ":a" t) := c.str 73
theorem Ctx.i_MOST_COUNTERS (c : Ctx w K mg) : ∃ t, mg "MOST_COUNTERS" = some (.int 4 t) := c.int 74
theorem Ctx.i_MOST_KINDS (c : Ctx w K mg) : ∃ t, mg "MOST_KINDS" = some (.int 6 t) := c.int 75
theorem Ctx.i_MOST_DEEDS (c : Ctx w K mg) : ∃ t, mg "MOST_DEEDS" = some (.int 6 t) := c.int 76
theorem Ctx.i_MOST (c : Ctx w K mg) : ∃ t, mg "MOST" = some (.int 99 t) := c.int 77
theorem Ctx.s_ADD (c : Ctx w K mg) : ∃ t, mg "ADD" = some (.str "add" t) := c.str 78
theorem Ctx.s_SET (c : Ctx w K mg) : ∃ t, mg "SET" = some (.str "set" t) := c.str 79
theorem Ctx.s_COUNTERS (c : Ctx w K mg) : ∃ t, mg "COUNTERS" = some (.str "counters " t) := c.str 80
theorem Ctx.s_KIND (c : Ctx w K mg) : ∃ t, mg "KIND" = some (.str "kind " t) := c.str 81
theorem Ctx.s_LABEL (c : Ctx w K mg) : ∃ t, mg "LABEL" = some (.str "label " t) := c.str 82
theorem Ctx.s_BEGINS (c : Ctx w K mg) : ∃ t, mg "BEGINS" = some (.str "begins" t) := c.str 83
theorem Ctx.s_AFTER (c : Ctx w K mg) : ∃ t, mg "AFTER" = some (.str "after " t) := c.str 84
theorem Ctx.s_COLON (c : Ctx w K mg) : ∃ t, mg "COLON" = some (.str ":" t) := c.str 85
theorem Ctx.clLabel (c : Ctx w K mg) : Cls K (cLabel K) := He.cls_ok (c.fact 86)
theorem Ctx.mkLabel (c : Ctx w K mg) : Mk K (cLabel K) (He.ma K (cLabel K) "__init__") := He.mkr_ok (c.fact 87)
theorem Ctx.nLabel_first (c : Ctx w K mg) : NoAttr K (cLabel K) "first" := He.noat_ok (c.fact 88)
theorem Ctx.nLabel_slots (c : Ctx w K mg) : NoAttr K (cLabel K) "slots" := He.noat_ok (c.fact 89)
theorem Ctx.nLabel_signs (c : Ctx w K mg) : NoAttr K (cLabel K) "signs" := He.noat_ok (c.fact 90)
theorem Ctx.clScheme (c : Ctx w K mg) : Cls K (cScheme K) := He.cls_ok (c.fact 91)
theorem Ctx.mkScheme (c : Ctx w K mg) : Mk K (cScheme K) (He.ma K (cScheme K) "__init__") := He.mkr_ok (c.fact 92)
theorem Ctx.nScheme_first_values (c : Ctx w K mg) : NoAttr K (cScheme K) "first_values" := He.noat_ok (c.fact 93)
theorem Ctx.nScheme_all_deeds (c : Ctx w K mg) : NoAttr K (cScheme K) "all_deeds" := He.noat_ok (c.fact 94)
theorem Ctx.nScheme_all_labels (c : Ctx w K mg) : NoAttr K (cScheme K) "all_labels" := He.noat_ok (c.fact 95)
theorem Ctx.nScheme_next_kinds (c : Ctx w K mg) : NoAttr K (cScheme K) "next_kinds" := He.noat_ok (c.fact 96)
theorem Ctx.nScheme_first_kinds (c : Ctx w K mg) : NoAttr K (cScheme K) "first_kinds" := He.noat_ok (c.fact 97)
theorem Ctx.clTrial (c : Ctx w K mg) : Cls K (cTrial K) := He.cls_ok (c.fact 98)
theorem Ctx.mkTrial (c : Ctx w K mg) : Mk K (cTrial K) (He.ma K (cTrial K) "__init__") := He.mkr_ok (c.fact 99)
theorem Ctx.nTrial_manuscript (c : Ctx w K mg) : NoAttr K (cTrial K) "manuscript" := He.noat_ok (c.fact 100)
theorem Ctx.nTrial_held (c : Ctx w K mg) : NoAttr K (cTrial K) "held" := He.noat_ok (c.fact 101)
theorem Ctx.clManuscript (c : Ctx w K mg) : Cls K (cManuscript K) := He.cls_ok (c.fact 102)
theorem Ctx.mkManuscript (c : Ctx w K mg) : Mk K (cManuscript K) (He.ma K (cManuscript K) "__init__") := He.mkr_ok (c.fact 103)
theorem Ctx.nManuscript_plan (c : Ctx w K mg) : NoAttr K (cManuscript K) "plan" := He.noat_ok (c.fact 104)
theorem Ctx.nManuscript_past (c : Ctx w K mg) : NoAttr K (cManuscript K) "past" := He.noat_ok (c.fact 105)
theorem Ctx.clAction (c : Ctx w K mg) : Cls K (cAction K) := He.cls_ok (c.fact 106)
theorem Ctx.mkAction (c : Ctx w K mg) : Mk K (cAction K) (He.ma K (cAction K) "__init__") := He.mkr_ok (c.fact 107)
theorem Ctx.nAction_made_of (c : Ctx w K mg) : NoAttr K (cAction K) "made_of" := He.noat_ok (c.fact 108)
theorem Ctx.clReader (c : Ctx w K mg) : Cls K (cReader K) := He.cls_ok (c.fact 109)
theorem Ctx.mkReader (c : Ctx w K mg) : Mk K (cReader K) (He.ma K (cReader K) "__init__") := He.mkr_ok (c.fact 110)
theorem Ctx.nReader_lines (c : Ctx w K mg) : NoAttr K (cReader K) "lines" := He.noat_ok (c.fact 111)
theorem Ctx.nReader_at (c : Ctx w K mg) : NoAttr K (cReader K) "at" := He.noat_ok (c.fact 112)
theorem Ctx.mLabel_eq (c : Ctx w K mg) : Meth K (cLabel K) "__eq__" (He.ma K (cLabel K) "__eq__") := He.meth_ok (c.fact 113)
theorem Ctx.mLabel_same_form (c : Ctx w K mg) : Meth K (cLabel K) "same_form" (He.ma K (cLabel K) "same_form") := He.meth_ok (c.fact 114)
theorem Ctx.mLabel_joined (c : Ctx w K mg) : Meth K (cLabel K) "joined" (He.ma K (cLabel K) "joined") := He.meth_ok (c.fact 115)
theorem Ctx.mLabel_of (c : Ctx w K mg) : Meth K (cLabel K) "of" (He.ma K (cLabel K) "of") := He.meth_ok (c.fact 116)
theorem Ctx.mLabel_read (c : Ctx w K mg) : Meth K (cLabel K) "read" (He.ma K (cLabel K) "read") := He.meth_ok (c.fact 117)
theorem Ctx.mLabel_text (c : Ctx w K mg) : Meth K (cLabel K) "text" (He.ma K (cLabel K) "text") := He.meth_ok (c.fact 118)
theorem Ctx.mScheme_counters (c : Ctx w K mg) : Meth K (cScheme K) "counters" (He.ma K (cScheme K) "counters") := He.meth_ok (c.fact 119)
theorem Ctx.mScheme_kinds (c : Ctx w K mg) : Meth K (cScheme K) "kinds" (He.ma K (cScheme K) "kinds") := He.meth_ok (c.fact 120)
theorem Ctx.mScheme_start (c : Ctx w K mg) : Meth K (cScheme K) "start" (He.ma K (cScheme K) "start") := He.meth_ok (c.fact 121)
theorem Ctx.mScheme_deeds (c : Ctx w K mg) : Meth K (cScheme K) "deeds" (He.ma K (cScheme K) "deeds") := He.meth_ok (c.fact 122)
theorem Ctx.mScheme_label (c : Ctx w K mg) : Meth K (cScheme K) "label" (He.ma K (cScheme K) "label") := He.meth_ok (c.fact 123)
theorem Ctx.mScheme_followers (c : Ctx w K mg) : Meth K (cScheme K) "followers" (He.ma K (cScheme K) "followers") := He.meth_ok (c.fact 124)
theorem Ctx.mScheme_beginners (c : Ctx w K mg) : Meth K (cScheme K) "beginners" (He.ma K (cScheme K) "beginners") := He.meth_ok (c.fact 125)
theorem Ctx.mScheme_may_begin (c : Ctx w K mg) : Meth K (cScheme K) "may_begin" (He.ma K (cScheme K) "may_begin") := He.meth_ok (c.fact 126)
theorem Ctx.mScheme_may_follow (c : Ctx w K mg) : Meth K (cScheme K) "may_follow" (He.ma K (cScheme K) "may_follow") := He.meth_ok (c.fact 127)
theorem Ctx.mScheme_eq (c : Ctx w K mg) : Meth K (cScheme K) "__eq__" (He.ma K (cScheme K) "__eq__") := He.meth_ok (c.fact 128)
theorem Ctx.mTrial_enter (c : Ctx w K mg) : Meth K (cTrial K) "__enter__" (He.ma K (cTrial K) "__enter__") := He.meth_ok (c.fact 129)
theorem Ctx.mTrial_exit (c : Ctx w K mg) : Meth K (cTrial K) "__exit__" (He.ma K (cTrial K) "__exit__") := He.meth_ok (c.fact 130)
theorem Ctx.mManuscript_len (c : Ctx w K mg) : Meth K (cManuscript K) "__len__" (He.ma K (cManuscript K) "__len__") := He.meth_ok (c.fact 131)
theorem Ctx.mManuscript_parts (c : Ctx w K mg) : Meth K (cManuscript K) "parts" (He.ma K (cManuscript K) "parts") := He.meth_ok (c.fact 132)
theorem Ctx.mManuscript_document (c : Ctx w K mg) : Meth K (cManuscript K) "document" (He.ma K (cManuscript K) "document") := He.meth_ok (c.fact 133)
theorem Ctx.mManuscript_label_of (c : Ctx w K mg) : Meth K (cManuscript K) "label_of" (He.ma K (cManuscript K) "label_of") := He.meth_ok (c.fact 134)
theorem Ctx.mManuscript_place_of (c : Ctx w K mg) : Meth K (cManuscript K) "place_of" (He.ma K (cManuscript K) "place_of") := He.meth_ok (c.fact 135)
theorem Ctx.mManuscript_told (c : Ctx w K mg) : Meth K (cManuscript K) "told" (He.ma K (cManuscript K) "told") := He.meth_ok (c.fact 136)
theorem Ctx.mManuscript_need_index (c : Ctx w K mg) : Meth K (cManuscript K) "need_index" (He.ma K (cManuscript K) "need_index") := He.meth_ok (c.fact 137)
theorem Ctx.mManuscript_need_key (c : Ctx w K mg) : Meth K (cManuscript K) "need_key" (He.ma K (cManuscript K) "need_key") := He.meth_ok (c.fact 138)
theorem Ctx.mManuscript_keep (c : Ctx w K mg) : Meth K (cManuscript K) "keep" (He.ma K (cManuscript K) "keep") := He.meth_ok (c.fact 139)
theorem Ctx.mManuscript_put (c : Ctx w K mg) : Meth K (cManuscript K) "put" (He.ma K (cManuscript K) "put") := He.meth_ok (c.fact 140)
theorem Ctx.mManuscript_drop (c : Ctx w K mg) : Meth K (cManuscript K) "drop" (He.ma K (cManuscript K) "drop") := He.meth_ok (c.fact 141)
theorem Ctx.mManuscript_exchange (c : Ctx w K mg) : Meth K (cManuscript K) "exchange" (He.ma K (cManuscript K) "exchange") := He.meth_ok (c.fact 142)
theorem Ctx.mManuscript_move (c : Ctx w K mg) : Meth K (cManuscript K) "move" (He.ma K (cManuscript K) "move") := He.meth_ok (c.fact 143)
theorem Ctx.mManuscript_rekey (c : Ctx w K mg) : Meth K (cManuscript K) "rekey" (He.ma K (cManuscript K) "rekey") := He.meth_ok (c.fact 144)
theorem Ctx.mManuscript_undo (c : Ctx w K mg) : Meth K (cManuscript K) "undo" (He.ma K (cManuscript K) "undo") := He.meth_ok (c.fact 145)
theorem Ctx.mManuscript_trial (c : Ctx w K mg) : Meth K (cManuscript K) "trial" (He.ma K (cManuscript K) "trial") := He.meth_ok (c.fact 146)
theorem Ctx.mManuscript_tried (c : Ctx w K mg) : Meth K (cManuscript K) "tried" (He.ma K (cManuscript K) "tried") := He.meth_ok (c.fact 147)
theorem Ctx.mAction_eq (c : Ctx w K mg) : Meth K (cAction K) "__eq__" (He.ma K (cAction K) "__eq__") := He.meth_ok (c.fact 148)
theorem Ctx.mAction_add (c : Ctx w K mg) : Meth K (cAction K) "__add__" (He.ma K (cAction K) "__add__") := He.meth_ok (c.fact 149)
theorem Ctx.mAction_of (c : Ctx w K mg) : Meth K (cAction K) "of" (He.ma K (cAction K) "of") := He.meth_ok (c.fact 150)
theorem Ctx.mReader_present (c : Ctx w K mg) : Meth K (cReader K) "present" (He.ma K (cReader K) "present") := He.meth_ok (c.fact 151)
theorem Ctx.mReader_need (c : Ctx w K mg) : Meth K (cReader K) "need" (He.ma K (cReader K) "need") := He.meth_ok (c.fact 152)
theorem Ctx.defIsName (c : Ctx w K mg) : ∃ fd, DefAt K mg "is_name" sIsName [] [] (He.ga K "is_name") fd := let ⟨fd, F⟩ := c.d.def_ 0 (d := dIsName) rfl; ⟨fd, c.g_is_name, F⟩
theorem Ctx.defIsInteger (c : Ctx w K mg) : ∃ fd, DefAt K mg "is_integer" sIsInteger (dIsInteger.dvs K) [] (He.ga K "is_integer") fd := let ⟨fd, F⟩ := c.d.def_ 1 (d := dIsInteger) rfl; ⟨fd, c.g_is_integer, F⟩
theorem Ctx.defDigitsOf (c : Ctx w K mg) : ∃ fd, DefAt K mg "digits_of" sDigitsOf [] [] (He.ga K "digits_of") fd := let ⟨fd, F⟩ := c.d.def_ 2 (d := dDigitsOf) rfl; ⟨fd, c.g_digits_of, F⟩
theorem Ctx.defWordOf (c : Ctx w K mg) : ∃ fd, DefAt K mg "word_of" sWordOf [] [] (He.ga K "word_of") fd := let ⟨fd, F⟩ := c.d.def_ 3 (d := dWordOf) rfl; ⟨fd, c.g_word_of, F⟩
theorem Ctx.defNumberText (c : Ctx w K mg) : ∃ fd, DefAt K mg "number_text" sNumberText [] [] (He.ga K "number_text") fd := let ⟨fd, F⟩ := c.d.def_ 4 (d := dNumberText) rfl; ⟨fd, c.g_number_text, F⟩
theorem Ctx.defReadNumber (c : Ctx w K mg) : ∃ fd, DefAt K mg "read_number" sReadNumber [] [] (He.ga K "read_number") fd := let ⟨fd, F⟩ := c.d.def_ 5 (d := dReadNumber) rfl; ⟨fd, c.g_read_number, F⟩
theorem Ctx.defIsHead (c : Ctx w K mg) : ∃ fd, DefAt K mg "is_head" sIsHead [] [] (He.ga K "is_head") fd := let ⟨fd, F⟩ := c.d.def_ 6 (d := dIsHead) rfl; ⟨fd, c.g_is_head, F⟩
theorem Ctx.defWrongItem (c : Ctx w K mg) : ∃ fd, DefAt K mg "wrong_item" sWrongItem [] [] (He.ga K "wrong_item") fd := let ⟨fd, F⟩ := c.d.def_ 7 (d := dWrongItem) rfl; ⟨fd, c.g_wrong_item, F⟩
theorem Ctx.defAreJoints (c : Ctx w K mg) : ∃ fd, DefAt K mg "are_joints" sAreJoints [] [] (He.ga K "are_joints") fd := let ⟨fd, F⟩ := c.d.def_ 8 (d := dAreJoints) rfl; ⟨fd, c.g_are_joints, F⟩
theorem Ctx.defLabelInit (c : Ctx w K mg) : ∃ fd, MakeAt K mg "Label" "Label.__init__" sLabelInit (dLabelInit.dvs K) [] (He.ma K (cLabel K) "__init__") fd := let ⟨fd, F⟩ := c.d.def_ 9 (d := dLabelInit) rfl; ⟨fd, c.g_Label, c.mkLabel, F⟩
theorem Ctx.defLabelEq (c : Ctx w K mg) : ∃ fd, MethAt K (cLabel K) "__eq__" "Label.__eq__" sLabelEq [] [] (He.ma K (cLabel K) "__eq__") fd := let ⟨fd, F⟩ := c.d.def_ 10 (d := dLabelEq) rfl; ⟨fd, c.mLabel_eq, F⟩
theorem Ctx.defLabelSameForm (c : Ctx w K mg) : ∃ fd, MethAt K (cLabel K) "same_form" "Label.same_form" sLabelSameForm [] [] (He.ma K (cLabel K) "same_form") fd := let ⟨fd, F⟩ := c.d.def_ 11 (d := dLabelSameForm) rfl; ⟨fd, c.mLabel_same_form, F⟩
theorem Ctx.defLabelJoined (c : Ctx w K mg) : ∃ fd, MethAt K (cLabel K) "joined" "Label.joined" sLabelJoined [] [] (He.ma K (cLabel K) "joined") fd := let ⟨fd, F⟩ := c.d.def_ 12 (d := dLabelJoined) rfl; ⟨fd, c.mLabel_joined, F⟩
theorem Ctx.defLabelOf (c : Ctx w K mg) : ∃ fd, MethAt K (cLabel K) "of" "Label.of" sLabelOf [] [] (He.ma K (cLabel K) "of") fd := let ⟨fd, F⟩ := c.d.def_ 13 (d := dLabelOf) rfl; ⟨fd, c.mLabel_of, F⟩
theorem Ctx.defLabelRead (c : Ctx w K mg) : ∃ fd, MethAt K (cLabel K) "read" "Label.read" sLabelRead [] [] (He.ma K (cLabel K) "read") fd := let ⟨fd, F⟩ := c.d.def_ 14 (d := dLabelRead) rfl; ⟨fd, c.mLabel_read, F⟩
theorem Ctx.defLabelText (c : Ctx w K mg) : ∃ fd, MethAt K (cLabel K) "text" "Label.text" sLabelText [] [] (He.ma K (cLabel K) "text") fd := let ⟨fd, F⟩ := c.d.def_ 15 (d := dLabelText) rfl; ⟨fd, c.mLabel_text, F⟩
theorem Ctx.defShownIn (c : Ctx w K mg) : ∃ fd, DefAt K mg "shown_in" sShownIn [] [] (He.ga K "shown_in") fd := let ⟨fd, F⟩ := c.d.def_ 16 (d := dShownIn) rfl; ⟨fd, c.g_shown_in, F⟩
theorem Ctx.defReadLabel (c : Ctx w K mg) : ∃ fd, DefAt K mg "read_label" sReadLabel [] [] (He.ga K "read_label") fd := let ⟨fd, F⟩ := c.d.def_ 17 (d := dReadLabel) rfl; ⟨fd, c.g_read_label, F⟩
theorem Ctx.defCheckNames (c : Ctx w K mg) : ∃ fd, DefAt K mg "check_names" sCheckNames [] [] (He.ga K "check_names") fd := let ⟨fd, F⟩ := c.d.def_ 18 (d := dCheckNames) rfl; ⟨fd, c.g_check_names, F⟩
theorem Ctx.defIsDeed (c : Ctx w K mg) : ∃ fd, DefAt K mg "is_deed" sIsDeed [] [] (He.ga K "is_deed") fd := let ⟨fd, F⟩ := c.d.def_ 19 (d := dIsDeed) rfl; ⟨fd, c.g_is_deed, F⟩
theorem Ctx.defCheckKind (c : Ctx w K mg) : ∃ fd, DefAt K mg "check_kind" sCheckKind [] [] (He.ga K "check_kind") fd := let ⟨fd, F⟩ := c.d.def_ 20 (d := dCheckKind) rfl; ⟨fd, c.g_check_kind, F⟩
theorem Ctx.defCheckKnown (c : Ctx w K mg) : ∃ fd, DefAt K mg "check_known" sCheckKnown [] [] (He.ga K "check_known") fd := let ⟨fd, F⟩ := c.d.def_ 21 (d := dCheckKnown) rfl; ⟨fd, c.g_check_known, F⟩
theorem Ctx.defSchemeInit (c : Ctx w K mg) : ∃ fd, MakeAt K mg "Scheme" "Scheme.__init__" sSchemeInit [] (dSchemeInit.kws K) (He.ma K (cScheme K) "__init__") fd := let ⟨fd, F⟩ := c.d.def_ 22 (d := dSchemeInit) rfl; ⟨fd, c.g_Scheme, c.mkScheme, F⟩
theorem Ctx.defSchemeCounters (c : Ctx w K mg) : ∃ fd, MethAt K (cScheme K) "counters" "Scheme.counters" sSchemeCounters [] [] (He.ma K (cScheme K) "counters") fd := let ⟨fd, F⟩ := c.d.def_ 23 (d := dSchemeCounters) rfl; ⟨fd, c.mScheme_counters, F⟩
theorem Ctx.defSchemeKinds (c : Ctx w K mg) : ∃ fd, MethAt K (cScheme K) "kinds" "Scheme.kinds" sSchemeKinds [] [] (He.ma K (cScheme K) "kinds") fd := let ⟨fd, F⟩ := c.d.def_ 24 (d := dSchemeKinds) rfl; ⟨fd, c.mScheme_kinds, F⟩
theorem Ctx.defSchemeStart (c : Ctx w K mg) : ∃ fd, MethAt K (cScheme K) "start" "Scheme.start" sSchemeStart [] [] (He.ma K (cScheme K) "start") fd := let ⟨fd, F⟩ := c.d.def_ 25 (d := dSchemeStart) rfl; ⟨fd, c.mScheme_start, F⟩
theorem Ctx.defSchemeDeeds (c : Ctx w K mg) : ∃ fd, MethAt K (cScheme K) "deeds" "Scheme.deeds" sSchemeDeeds [] [] (He.ma K (cScheme K) "deeds") fd := let ⟨fd, F⟩ := c.d.def_ 26 (d := dSchemeDeeds) rfl; ⟨fd, c.mScheme_deeds, F⟩
theorem Ctx.defSchemeLabel (c : Ctx w K mg) : ∃ fd, MethAt K (cScheme K) "label" "Scheme.label" sSchemeLabel [] [] (He.ma K (cScheme K) "label") fd := let ⟨fd, F⟩ := c.d.def_ 27 (d := dSchemeLabel) rfl; ⟨fd, c.mScheme_label, F⟩
theorem Ctx.defSchemeFollowers (c : Ctx w K mg) : ∃ fd, MethAt K (cScheme K) "followers" "Scheme.followers" sSchemeFollowers [] [] (He.ma K (cScheme K) "followers") fd := let ⟨fd, F⟩ := c.d.def_ 28 (d := dSchemeFollowers) rfl; ⟨fd, c.mScheme_followers, F⟩
theorem Ctx.defSchemeBeginners (c : Ctx w K mg) : ∃ fd, MethAt K (cScheme K) "beginners" "Scheme.beginners" sSchemeBeginners [] [] (He.ma K (cScheme K) "beginners") fd := let ⟨fd, F⟩ := c.d.def_ 29 (d := dSchemeBeginners) rfl; ⟨fd, c.mScheme_beginners, F⟩
theorem Ctx.defSchemeMayBegin (c : Ctx w K mg) : ∃ fd, MethAt K (cScheme K) "may_begin" "Scheme.may_begin" sSchemeMayBegin [] [] (He.ma K (cScheme K) "may_begin") fd := let ⟨fd, F⟩ := c.d.def_ 30 (d := dSchemeMayBegin) rfl; ⟨fd, c.mScheme_may_begin, F⟩
theorem Ctx.defSchemeMayFollow (c : Ctx w K mg) : ∃ fd, MethAt K (cScheme K) "may_follow" "Scheme.may_follow" sSchemeMayFollow [] [] (He.ma K (cScheme K) "may_follow") fd := let ⟨fd, F⟩ := c.d.def_ 31 (d := dSchemeMayFollow) rfl; ⟨fd, c.mScheme_may_follow, F⟩
theorem Ctx.defSchemeEq (c : Ctx w K mg) : ∃ fd, MethAt K (cScheme K) "__eq__" "Scheme.__eq__" sSchemeEq [] [] (He.ma K (cScheme K) "__eq__") fd := let ⟨fd, F⟩ := c.d.def_ 32 (d := dSchemeEq) rfl; ⟨fd, c.mScheme_eq, F⟩
theorem Ctx.defMayStand (c : Ctx w K mg) : ∃ fd, DefAt K mg "may_stand" sMayStand [] [] (He.ga K "may_stand") fd := let ⟨fd, F⟩ := c.d.def_ 33 (d := dMayStand) rfl; ⟨fd, c.g_may_stand, F⟩
theorem Ctx.defWrongIndex (c : Ctx w K mg) : ∃ fd, DefAt K mg "wrong_index" sWrongIndex [] [] (He.ga K "wrong_index") fd := let ⟨fd, F⟩ := c.d.def_ 34 (d := dWrongIndex) rfl; ⟨fd, c.g_wrong_index, F⟩
theorem Ctx.defCheckDocument (c : Ctx w K mg) : ∃ fd, DefAt K mg "check_document" sCheckDocument [] [] (He.ga K "check_document") fd := let ⟨fd, F⟩ := c.d.def_ 35 (d := dCheckDocument) rfl; ⟨fd, c.g_check_document, F⟩
theorem Ctx.defStartsOf (c : Ctx w K mg) : ∃ fd, DefAt K mg "starts_of" sStartsOf [] [] (He.ga K "starts_of") fd := let ⟨fd, F⟩ := c.d.def_ 36 (d := dStartsOf) rfl; ⟨fd, c.g_starts_of, F⟩
theorem Ctx.defCarried (c : Ctx w K mg) : ∃ fd, DefAt K mg "carried" sCarried [] [] (He.ga K "carried") fd := let ⟨fd, F⟩ := c.d.def_ 37 (d := dCarried) rfl; ⟨fd, c.g_carried, F⟩
theorem Ctx.defDocValues (c : Ctx w K mg) : ∃ fd, DefAt K mg "values" sDocValues [] [] (He.ga K "values") fd := let ⟨fd, F⟩ := c.d.def_ 38 (d := dDocValues) rfl; ⟨fd, c.g_values, F⟩
theorem Ctx.defLabelsOf (c : Ctx w K mg) : ∃ fd, DefAt K mg "labels_of" sLabelsOf [] [] (He.ga K "labels_of") fd := let ⟨fd, F⟩ := c.d.def_ 39 (d := dLabelsOf) rfl; ⟨fd, c.g_labels_of, F⟩
theorem Ctx.defLabelsByKey (c : Ctx w K mg) : ∃ fd, DefAt K mg "labels_by_key" sLabelsByKey [] [] (He.ga K "labels_by_key") fd := let ⟨fd, F⟩ := c.d.def_ 40 (d := dLabelsByKey) rfl; ⟨fd, c.g_labels_by_key, F⟩
theorem Ctx.defTrialInit (c : Ctx w K mg) : ∃ fd, MakeAt K mg "Trial" "Trial.__init__" sTrialInit [] [] (He.ma K (cTrial K) "__init__") fd := let ⟨fd, F⟩ := c.d.def_ 41 (d := dTrialInit) rfl; ⟨fd, c.g_Trial, c.mkTrial, F⟩
theorem Ctx.defTrialEnter (c : Ctx w K mg) : ∃ fd, MethAt K (cTrial K) "__enter__" "Trial.__enter__" sTrialEnter [] [] (He.ma K (cTrial K) "__enter__") fd := let ⟨fd, F⟩ := c.d.def_ 42 (d := dTrialEnter) rfl; ⟨fd, c.mTrial_enter, F⟩
theorem Ctx.defTrialExit (c : Ctx w K mg) : ∃ fd, MethAt K (cTrial K) "__exit__" "Trial.__exit__" sTrialExit [] [] (He.ma K (cTrial K) "__exit__") fd := let ⟨fd, F⟩ := c.d.def_ 43 (d := dTrialExit) rfl; ⟨fd, c.mTrial_exit, F⟩
theorem Ctx.defManuscriptInit (c : Ctx w K mg) : ∃ fd, MakeAt K mg "Manuscript" "Manuscript.__init__" sManuscriptInit [] [] (He.ma K (cManuscript K) "__init__") fd := let ⟨fd, F⟩ := c.d.def_ 44 (d := dManuscriptInit) rfl; ⟨fd, c.g_Manuscript, c.mkManuscript, F⟩
theorem Ctx.defManuscriptLen (c : Ctx w K mg) : ∃ fd, MethAt K (cManuscript K) "__len__" "Manuscript.__len__" sManuscriptLen [] [] (He.ma K (cManuscript K) "__len__") fd := let ⟨fd, F⟩ := c.d.def_ 45 (d := dManuscriptLen) rfl; ⟨fd, c.mManuscript_len, F⟩
theorem Ctx.defManuscriptParts (c : Ctx w K mg) : ∃ fd, MethAt K (cManuscript K) "parts" "Manuscript.parts" sManuscriptParts [] [] (He.ma K (cManuscript K) "parts") fd := let ⟨fd, F⟩ := c.d.def_ 46 (d := dManuscriptParts) rfl; ⟨fd, c.mManuscript_parts, F⟩
theorem Ctx.defManuscriptDocument (c : Ctx w K mg) : ∃ fd, MethAt K (cManuscript K) "document" "Manuscript.document" sManuscriptDocument [] [] (He.ma K (cManuscript K) "document") fd := let ⟨fd, F⟩ := c.d.def_ 47 (d := dManuscriptDocument) rfl; ⟨fd, c.mManuscript_document, F⟩
theorem Ctx.defManuscriptLabelOf (c : Ctx w K mg) : ∃ fd, MethAt K (cManuscript K) "label_of" "Manuscript.label_of" sManuscriptLabelOf [] [] (He.ma K (cManuscript K) "label_of") fd := let ⟨fd, F⟩ := c.d.def_ 48 (d := dManuscriptLabelOf) rfl; ⟨fd, c.mManuscript_label_of, F⟩
theorem Ctx.defManuscriptPlaceOf (c : Ctx w K mg) : ∃ fd, MethAt K (cManuscript K) "place_of" "Manuscript.place_of" sManuscriptPlaceOf [] [] (He.ma K (cManuscript K) "place_of") fd := let ⟨fd, F⟩ := c.d.def_ 49 (d := dManuscriptPlaceOf) rfl; ⟨fd, c.mManuscript_place_of, F⟩
theorem Ctx.defManuscriptTold (c : Ctx w K mg) : ∃ fd, MethAt K (cManuscript K) "told" "Manuscript.told" sManuscriptTold [] [] (He.ma K (cManuscript K) "told") fd := let ⟨fd, F⟩ := c.d.def_ 50 (d := dManuscriptTold) rfl; ⟨fd, c.mManuscript_told, F⟩
theorem Ctx.defManuscriptNeedIndex (c : Ctx w K mg) : ∃ fd, MethAt K (cManuscript K) "need_index" "Manuscript.need_index" sManuscriptNeedIndex [] [] (He.ma K (cManuscript K) "need_index") fd := let ⟨fd, F⟩ := c.d.def_ 51 (d := dManuscriptNeedIndex) rfl; ⟨fd, c.mManuscript_need_index, F⟩
theorem Ctx.defManuscriptNeedKey (c : Ctx w K mg) : ∃ fd, MethAt K (cManuscript K) "need_key" "Manuscript.need_key" sManuscriptNeedKey [] [] (He.ma K (cManuscript K) "need_key") fd := let ⟨fd, F⟩ := c.d.def_ 52 (d := dManuscriptNeedKey) rfl; ⟨fd, c.mManuscript_need_key, F⟩
theorem Ctx.defManuscriptKeep (c : Ctx w K mg) : ∃ fd, MethAt K (cManuscript K) "keep" "Manuscript.keep" sManuscriptKeep [] [] (He.ma K (cManuscript K) "keep") fd := let ⟨fd, F⟩ := c.d.def_ 53 (d := dManuscriptKeep) rfl; ⟨fd, c.mManuscript_keep, F⟩
theorem Ctx.defManuscriptPut (c : Ctx w K mg) : ∃ fd, MethAt K (cManuscript K) "put" "Manuscript.put" sManuscriptPut [] (dManuscriptPut.kws K) (He.ma K (cManuscript K) "put") fd := let ⟨fd, F⟩ := c.d.def_ 54 (d := dManuscriptPut) rfl; ⟨fd, c.mManuscript_put, F⟩
theorem Ctx.defManuscriptDrop (c : Ctx w K mg) : ∃ fd, MethAt K (cManuscript K) "drop" "Manuscript.drop" sManuscriptDrop [] [] (He.ma K (cManuscript K) "drop") fd := let ⟨fd, F⟩ := c.d.def_ 55 (d := dManuscriptDrop) rfl; ⟨fd, c.mManuscript_drop, F⟩
theorem Ctx.defManuscriptExchange (c : Ctx w K mg) : ∃ fd, MethAt K (cManuscript K) "exchange" "Manuscript.exchange" sManuscriptExchange [] [] (He.ma K (cManuscript K) "exchange") fd := let ⟨fd, F⟩ := c.d.def_ 56 (d := dManuscriptExchange) rfl; ⟨fd, c.mManuscript_exchange, F⟩
theorem Ctx.defManuscriptMove (c : Ctx w K mg) : ∃ fd, MethAt K (cManuscript K) "move" "Manuscript.move" sManuscriptMove [] [] (He.ma K (cManuscript K) "move") fd := let ⟨fd, F⟩ := c.d.def_ 57 (d := dManuscriptMove) rfl; ⟨fd, c.mManuscript_move, F⟩
theorem Ctx.defManuscriptRekey (c : Ctx w K mg) : ∃ fd, MethAt K (cManuscript K) "rekey" "Manuscript.rekey" sManuscriptRekey [] [] (He.ma K (cManuscript K) "rekey") fd := let ⟨fd, F⟩ := c.d.def_ 58 (d := dManuscriptRekey) rfl; ⟨fd, c.mManuscript_rekey, F⟩
theorem Ctx.defManuscriptUndo (c : Ctx w K mg) : ∃ fd, MethAt K (cManuscript K) "undo" "Manuscript.undo" sManuscriptUndo [] [] (He.ma K (cManuscript K) "undo") fd := let ⟨fd, F⟩ := c.d.def_ 59 (d := dManuscriptUndo) rfl; ⟨fd, c.mManuscript_undo, F⟩
theorem Ctx.defManuscriptTrial (c : Ctx w K mg) : ∃ fd, MethAt K (cManuscript K) "trial" "Manuscript.trial" sManuscriptTrial [] [] (He.ma K (cManuscript K) "trial") fd := let ⟨fd, F⟩ := c.d.def_ 60 (d := dManuscriptTrial) rfl; ⟨fd, c.mManuscript_trial, F⟩
theorem Ctx.defManuscriptTried (c : Ctx w K mg) : ∃ fd, MethAt K (cManuscript K) "tried" "Manuscript.tried" sManuscriptTried [] [] (He.ma K (cManuscript K) "tried") fd := let ⟨fd, F⟩ := c.d.def_ 61 (d := dManuscriptTried) rfl; ⟨fd, c.mManuscript_tried, F⟩
theorem Ctx.defIsChange (c : Ctx w K mg) : ∃ fd, DefAt K mg "is_change" sIsChange [] [] (He.ga K "is_change") fd := let ⟨fd, F⟩ := c.d.def_ 62 (d := dIsChange) rfl; ⟨fd, c.g_is_change, F⟩
theorem Ctx.defBehind (c : Ctx w K mg) : ∃ fd, DefAt K mg "behind" sBehind [] [] (He.ga K "behind") fd := let ⟨fd, F⟩ := c.d.def_ 63 (d := dBehind) rfl; ⟨fd, c.g_behind, F⟩
theorem Ctx.defActionInit (c : Ctx w K mg) : ∃ fd, MakeAt K mg "Action" "Action.__init__" sActionInit [] [] (He.ma K (cAction K) "__init__") fd := let ⟨fd, F⟩ := c.d.def_ 64 (d := dActionInit) rfl; ⟨fd, c.g_Action, c.mkAction, F⟩
theorem Ctx.defActionEq (c : Ctx w K mg) : ∃ fd, MethAt K (cAction K) "__eq__" "Action.__eq__" sActionEq [] [] (He.ma K (cAction K) "__eq__") fd := let ⟨fd, F⟩ := c.d.def_ 65 (d := dActionEq) rfl; ⟨fd, c.mAction_eq, F⟩
theorem Ctx.defActionAdd (c : Ctx w K mg) : ∃ fd, MethAt K (cAction K) "__add__" "Action.__add__" sActionAdd [] [] (He.ma K (cAction K) "__add__") fd := let ⟨fd, F⟩ := c.d.def_ 66 (d := dActionAdd) rfl; ⟨fd, c.mAction_add, F⟩
theorem Ctx.defActionOf (c : Ctx w K mg) : ∃ fd, MethAt K (cAction K) "of" "Action.of" sActionOf [] [] (He.ma K (cAction K) "of") fd := let ⟨fd, F⟩ := c.d.def_ 67 (d := dActionOf) rfl; ⟨fd, c.mAction_of, F⟩
theorem Ctx.defKindAction (c : Ctx w K mg) : ∃ fd, DefAt K mg "kind_action" sKindAction [] [] (He.ga K "kind_action") fd := let ⟨fd, F⟩ := c.d.def_ 68 (d := dKindAction) rfl; ⟨fd, c.g_kind_action, F⟩
theorem Ctx.defActOf (c : Ctx w K mg) : ∃ fd, DefAt K mg "action_of" sActOf [] [] (He.ga K "action_of") fd := let ⟨fd, F⟩ := c.d.def_ 69 (d := dActOf) rfl; ⟨fd, c.g_action_of, F⟩
theorem Ctx.defListed (c : Ctx w K mg) : ∃ fd, DefAt K mg "listed" sListed [] [] (He.ga K "listed") fd := let ⟨fd, F⟩ := c.d.def_ 70 (d := dListed) rfl; ⟨fd, c.g_listed, F⟩
theorem Ctx.defSchemeText (c : Ctx w K mg) : ∃ fd, DefAt K mg "scheme_text" sSchemeText [] [] (He.ga K "scheme_text") fd := let ⟨fd, F⟩ := c.d.def_ 71 (d := dSchemeText) rfl; ⟨fd, c.g_scheme_text, F⟩
theorem Ctx.defReadStarts (c : Ctx w K mg) : ∃ fd, DefAt K mg "read_starts" sReadStarts [] [] (He.ga K "read_starts") fd := let ⟨fd, F⟩ := c.d.def_ 72 (d := dReadStarts) rfl; ⟨fd, c.g_read_starts, F⟩
theorem Ctx.defReadDeed (c : Ctx w K mg) : ∃ fd, DefAt K mg "read_deed" sReadDeed [] [] (He.ga K "read_deed") fd := let ⟨fd, F⟩ := c.d.def_ 73 (d := dReadDeed) rfl; ⟨fd, c.g_read_deed, F⟩
theorem Ctx.defReadDeeds (c : Ctx w K mg) : ∃ fd, DefAt K mg "read_deeds" sReadDeeds [] [] (He.ga K "read_deeds") fd := let ⟨fd, F⟩ := c.d.def_ 74 (d := dReadDeeds) rfl; ⟨fd, c.g_read_deeds, F⟩
theorem Ctx.defReadShown (c : Ctx w K mg) : ∃ fd, DefAt K mg "read_shown" sReadShown [] [] (He.ga K "read_shown") fd := let ⟨fd, F⟩ := c.d.def_ 75 (d := dReadShown) rfl; ⟨fd, c.g_read_shown, F⟩
theorem Ctx.defReadNames (c : Ctx w K mg) : ∃ fd, DefAt K mg "read_names" sReadNames [] [] (He.ga K "read_names") fd := let ⟨fd, F⟩ := c.d.def_ 76 (d := dReadNames) rfl; ⟨fd, c.g_read_names, F⟩
theorem Ctx.defReaderInit (c : Ctx w K mg) : ∃ fd, MakeAt K mg "Reader" "Reader.__init__" sReaderInit [] [] (He.ma K (cReader K) "__init__") fd := let ⟨fd, F⟩ := c.d.def_ 77 (d := dReaderInit) rfl; ⟨fd, c.g_Reader, c.mkReader, F⟩
theorem Ctx.defReaderPresent (c : Ctx w K mg) : ∃ fd, MethAt K (cReader K) "present" "Reader.present" sReaderPresent [] [] (He.ma K (cReader K) "present") fd := let ⟨fd, F⟩ := c.d.def_ 78 (d := dReaderPresent) rfl; ⟨fd, c.mReader_present, F⟩
theorem Ctx.defReaderNeed (c : Ctx w K mg) : ∃ fd, MethAt K (cReader K) "need" "Reader.need" sReaderNeed [] [] (He.ma K (cReader K) "need") fd := let ⟨fd, F⟩ := c.d.def_ 79 (d := dReaderNeed) rfl; ⟨fd, c.mReader_need, F⟩
theorem Ctx.defReadKinds (c : Ctx w K mg) : ∃ fd, DefAt K mg "read_kinds" sReadKinds [] [] (He.ga K "read_kinds") fd := let ⟨fd, F⟩ := c.d.def_ 80 (d := dReadKinds) rfl; ⟨fd, c.g_read_kinds, F⟩
theorem Ctx.defReadScheme (c : Ctx w K mg) : ∃ fd, DefAt K mg "read_scheme" sReadScheme [] [] (He.ga K "read_scheme") fd := let ⟨fd, F⟩ := c.d.def_ 81 (d := dReadScheme) rfl; ⟨fd, c.g_read_scheme, F⟩
theorem Ctx.defLawTape (c : Ctx w K mg) : ∃ fd, DefAt K mg "_law_tape" sLawTape [] [] (He.ga K "_law_tape") fd := let ⟨fd, F⟩ := c.d.def_ 82 (d := dLawTape) rfl; ⟨fd, c.g__law_tape, F⟩
theorem Ctx.defLawPick (c : Ctx w K mg) : ∃ fd, DefAt K mg "_law_pick" sLawPick [] [] (He.ga K "_law_pick") fd := let ⟨fd, F⟩ := c.d.def_ 83 (d := dLawPick) rfl; ⟨fd, c.g__law_pick, F⟩
theorem Ctx.defLawOfLabels (c : Ctx w K mg) : ∃ fd, DefAt K mg "_law_of_labels" sLawOfLabels [] [] (He.ga K "_law_of_labels") fd := let ⟨fd, F⟩ := c.d.def_ 84 (d := dLawOfLabels) rfl; ⟨fd, c.g__law_of_labels, F⟩
theorem Ctx.defLawLength (c : Ctx w K mg) : ∃ fd, DefAt K mg "_law_length" sLawLength [] [] (He.ga K "_law_length") fd := let ⟨fd, F⟩ := c.d.def_ 85 (d := dLawLength) rfl; ⟨fd, c.g__law_length, F⟩
theorem Ctx.defLawOfManuscripts (c : Ctx w K mg) : ∃ fd, DefAt K mg "_law_of_manuscripts" sLawOfManuscripts [] [] (He.ga K "_law_of_manuscripts") fd := let ⟨fd, F⟩ := c.d.def_ 86 (d := dLawOfManuscripts) rfl; ⟨fd, c.g__law_of_manuscripts, F⟩
theorem Ctx.defLaw (c : Ctx w K mg) : ∃ fd, DefAt K mg "law" sLaw [] [] (He.ga K "law") fd := let ⟨fd, F⟩ := c.d.def_ 87 (d := dLaw) rfl; ⟨fd, c.g_law, F⟩
end
end K95

set_option maxRecDepth 100000
set_option maxHeartbeats 0
namespace K95
open PySem PySem.Spec PyProof.Rows L2
abbrev HdR : PySem.W.OpenRow := PySem.W.OpenLaw.row PySem.Challenge.rw_partlabels_k95_whole_labels_by_name

def hdNm0 : List Str := ["_wall", "__name__", "PartError", "BadText", "BadLine", "BadName", "UnknownName", "BadNumber", "BadCount", "BadDeed", "BadLabel", "BadHead", "BadShown", "BadJoints", "BadChange", "BadTimes", "NotDocument", "BadKey", "KeyTaken", "UnknownKey"]
def hdNm1 : List Str := ["NotLet", "NothingToUndo", "LONGEST", "SIGNS_names", "is_name", "FIGURES", "LETTERS", "DIGITS", "NONE", "is_integer", "digits_of", "word_of", "number_text", "read_number", "JOINTS", "SIGNS_labels", "MOST_SHOWN", "LONGEST_HEAD", "ENDING", "is_head"]
def hdNm2 : List Str := ["wrong_item", "are_joints", "Label", "shown_in", "read_label", "MOST_COUNTERS", "MOST_KINDS", "MOST_DEEDS", "MOST", "LEAST", "check_names", "is_deed", "check_kind", "check_known", "Scheme", "may_stand", "wrong_index", "check_document", "starts_of", "carried"]
def hdNm3 : List Str := ["values", "labels_of", "labels_by_key", "Trial", "Manuscript", "ADD", "SET", "is_change", "behind", "repeated", "Action", "kind_action", "action_of", "COUNTERS", "KIND", "LABEL", "BEGINS", "AFTER", "COLON", "listed"]
def hdNm4 : List Str := ["scheme_text", "read_starts", "read_deed", "read_deeds", "read_shown", "read_names", "Reader", "read_kinds", "read_scheme", "_law_tape", "_law_pick", "_law_of_labels", "_law_length", "_law_of_manuscripts"]
def hdNames : List Str := hdNm0 ++ hdNm1 ++ hdNm2 ++ hdNm3 ++ hdNm4
abbrev hdHk : PySem.W.Hook := hookK fa fn ts ex
def hdOb (s : PySem.W.SharedT) : AlK := obsKG fa fn ts ex (HandSHeadRun.getT s)
theorem hdOb_eq (s : PySem.W.SharedT) : hdOb s = hdHk.obs s.abs := obsKG_eq (HandSHeadRun.getT_eq s)
open HandSHeadRun PySem.W PySem.Calls in
theorem hdRun_af (w : World) (os : OsState) : (endF (stepQ (denQ tabQ) HdR.prog (w.withFollow "special-get-raises" false)) 20000 HdR.prog (w.withFollow "special-get-raises" false) os).map (fun s => (looksF HdR.prog (boot_heap (w.withFollow "special-get-raises" false).params) s.abs, seenQ (PySem.W.view HdR.prog [103]) hdNames (importedModules HdR.prog.main.body) (fun s => xlAt (PySem.W.view HdR.prog [103]) [] s && recOk HdR.toRowW.records s) s.abs)) = some (true, openGood (PySem.W.view HdR.prog [103]) hdNames) := by kernel_rfl
open HandSHeadRun PySem.W PySem.Calls in
theorem hdRun_cf (w : World) (os : OsState) : (endF (stepQ (denQ tabQ) HdR.prog (w.withFollow "special-get-raises" false)) 20000 HdR.prog (w.withFollow "special-get-raises" false) os).map (fun s => hdOb s) = some (hdHk.val (w.withFollow "special-get-raises" false)) := by kernel_rfl
open HandSHeadRun PySem.W PySem.Calls in
theorem hdRun_at (w : World) (os : OsState) : (endF (stepQ (denQ tabQ) HdR.prog (w.withFollow "special-get-raises" true)) 20000 HdR.prog (w.withFollow "special-get-raises" true) os).map (fun s => (looksF HdR.prog (boot_heap (w.withFollow "special-get-raises" true).params) s.abs, seenQ (PySem.W.view HdR.prog [103]) hdNames (importedModules HdR.prog.main.body) (fun s => xlAt (PySem.W.view HdR.prog [103]) [] s && recOk HdR.toRowW.records s) s.abs)) = some (true, openGood (PySem.W.view HdR.prog [103]) hdNames) := by kernel_rfl
open HandSHeadRun PySem.W PySem.Calls in
theorem hdRun_ct (w : World) (os : OsState) : (endF (stepQ (denQ tabQ) HdR.prog (w.withFollow "special-get-raises" true)) 20000 HdR.prog (w.withFollow "special-get-raises" true) os).map (fun s => hdOb s) = some (hdHk.val (w.withFollow "special-get-raises" true)) := by kernel_rfl
open HandSHeadRun PySem.W PySem.Calls in
theorem hdRun_f (w : World) : HandSHeadRun.RunEq HdR (PySem.W.view HdR.prog [103]) hdHk hdOb 20000 hdNames (w.withFollow "special-get-raises" false) := fun os =>
  map3 (endF (stepQ (denQ tabQ) HdR.prog (w.withFollow "special-get-raises" false)) 20000 HdR.prog (w.withFollow "special-get-raises" false) os) (fun s => looksF HdR.prog (boot_heap (w.withFollow "special-get-raises" false).params) s.abs) (fun s => seenQ (PySem.W.view HdR.prog [103]) hdNames (importedModules HdR.prog.main.body) (fun s => xlAt (PySem.W.view HdR.prog [103]) [] s && recOk HdR.toRowW.records s) s.abs) (fun s => hdOb s) true (openGood (PySem.W.view HdR.prog [103]) hdNames) (hdHk.val (w.withFollow "special-get-raises" false))
    (hdRun_af w os) (hdRun_cf w os)
open HandSHeadRun PySem.W PySem.Calls in
theorem hdRun_t (w : World) : HandSHeadRun.RunEq HdR (PySem.W.view HdR.prog [103]) hdHk hdOb 20000 hdNames (w.withFollow "special-get-raises" true) := fun os =>
  map3 (endF (stepQ (denQ tabQ) HdR.prog (w.withFollow "special-get-raises" true)) 20000 HdR.prog (w.withFollow "special-get-raises" true) os) (fun s => looksF HdR.prog (boot_heap (w.withFollow "special-get-raises" true).params) s.abs) (fun s => seenQ (PySem.W.view HdR.prog [103]) hdNames (importedModules HdR.prog.main.body) (fun s => xlAt (PySem.W.view HdR.prog [103]) [] s && recOk HdR.toRowW.records s) s.abs) (fun s => hdOb s) true (openGood (PySem.W.view HdR.prog [103]) hdNames) (hdHk.val (w.withFollow "special-get-raises" true))
    (hdRun_at w os) (hdRun_ct w os)
theorem hdRun (w : World) : HandSHeadRun.RunEq HdR (PySem.W.view HdR.prog [103]) hdHk hdOb 20000 hdNames w :=
  PySem.W.byRow2 "special-get-raises" (P := fun w => HandSHeadRun.RunEq HdR (PySem.W.view HdR.prog [103]) hdHk hdOb 20000 hdNames w) hdRun_f hdRun_t w
end K95

set_option maxRecDepth 100000
set_option maxHeartbeats 4000000
namespace K95
open PySem PySem.Spec PyProof.Rows L2
/-! ### a def, a method, a class, as their callers take them -/
structure DefOk (P : Program) (w : World) (K : PySem.W.Frag) (mg : Str → Option Value) (base : Heap) (k : Nat) (x : Str) (dvs : List V) (sp : Sp) : Prop where
  ex : ∃ (f : Addr) (fd : FuncData) (ps : List Str) (ds : List Value), mg x = some (.ref f) ∧ PySem.W.keepIn K (.ref f) = true ∧ FnOk P w K mg base CX0 k f fd ps sp ∧ Binds K fd ps ds ∧ Vals dvs ds
structure MethOk (P : Program) (w : World) (K : PySem.W.Frag) (mg : Str → Option Value) (base : Heap) (k : Nat) (C : Addr) (m : Str) (dvs : List V) (sp : Sp) : Prop where
  cl : Cls K C
  ex : ∃ (f : Addr) (fd : FuncData) (ps : List Str) (ds : List Value), Meth K C m f ∧ FnOk P w K mg base CX0 k f fd ps sp ∧ Binds K fd ps ds ∧ Vals dvs ds
structure MakeOk (P : Program) (w : World) (K : PySem.W.Frag) (mg : Str → Option Value) (base : Heap) (k : Nat) (x : Str) (C : Addr) (dvs : List V) (sp : Sp) : Prop where
  ex : ∃ (f : Addr) (fd : FuncData) (ps : List Str) (ds : List Value), mg x = some (.ref C) ∧ Mk K C f ∧ FnOk P w K mg base CX0 k f fd ps sp ∧ Binds K fd ps ds ∧ Vals dvs ds
section
variable {X : Cx} {k : Nat} {x m : Str} {C : Addr} {dvs : List V} {sp : Sp} {p pos apos : Pos} {e o : Expr} {es : List Expr} {t tk : TA} {ta : TE} {kws : List Keyword}
theorem pe_f (D : DefOk X.prog X.w X.K X.mg X.base k x dvs sp) (hr : Room k X.A) (ha : PA X (e :: es) t) (hg : Gl X x := by rfl) (hdb : (x == ("__debug__" : Str)) = false := by decide)
    (he : starEach (e :: es) X.env = (false, eval e X.env) :: starEach es X.env := by rfl) (hpl : (backTo pos (starEach es X.env)).any (·.1) = false := by rfl) :
    PE X (.Call (.Name x p) (e :: es) [] pos) (tCall sp dvs E0 t) := by
  obtain ⟨f, fd, ps, ds, hm, hk, F, b, v⟩ := D.ex
  exact pe_call F hr hg hm hk b v pass0 ha hdb he hpl
theorem pe_m {pl : Sem Bool} (D : MethOk X.prog X.w X.K X.mg X.base k C m dvs sp) (hr : Room k X.A) (ho : PE X o ta) (ha : PA X (e :: es) t)
    (hst : starEach (e :: es) X.env = (false, eval e X.env) :: starEach es X.env := by rfl) (hpl : (backTo pos (starEach es X.env)).any (·.1) = false := by rfl)
    (ht : eval (.Call (.Attribute o m apos) (e :: es) [] pos) X.env = (do
      let ov ← eval o X.env
      standAt apos.atName
      let (f, first) ← holding [ov] (getMethod ov m pl)
      callWith pos f first (backTo pos (starEach (e :: es) X.env)) (backToKw pos (keywordEach [] X.env))) := by rfl) :
    PE X (.Call (.Attribute o m apos) (e :: es) [] pos) (tMeth C m sp dvs E0 ta t) := by
  obtain ⟨f, fd, ps, ds, hm, F, b, v⟩ := D.ex
  exact pe_meth ho D.cl hm F hr b v pass0 ha hst hpl ht
theorem pe_m0 {pl : Sem Bool} (D : MethOk X.prog X.w X.K X.mg X.base k C m dvs sp) (hr : Room k X.A) (ho : PE X o ta)
    (ht : eval (.Call (.Attribute o m apos) [] [] pos) X.env = (do
      let ov ← eval o X.env
      standAt apos.atName
      let (f, first) ← holding [ov] (getMethod ov m pl)
      callWith pos f first (backTo pos (starEach [] X.env)) (backToKw pos (keywordEach [] X.env))) := by rfl) :
    PE X (.Call (.Attribute o m apos) [] [] pos) (tMeth C m sp dvs E0 ta tNil) := by
  obtain ⟨f, fd, ps, ds, hm, F, b, v⟩ := D.ex
  exact pe_meth0 ho D.cl hm F hr b v pass0 ht
theorem pe_mk (D : MakeOk X.prog X.w X.K X.mg X.base k x C dvs sp) (hr : Room (k + 1) X.A) (ha : PA X (e :: es) t) (hg : Gl X x := by rfl) (hdb : (x == ("__debug__" : Str)) = false := by decide)
    (he : starEach (e :: es) X.env = (false, eval e X.env) :: starEach es X.env := by rfl) (hpl : (backTo pos (starEach es X.env)).any (·.1) = false := by rfl) :
    PE X (.Call (.Name x p) (e :: es) [] pos) (tMake C sp dvs E0 t) := by
  obtain ⟨f, fd, ps, ds, hm, M, F, b, v⟩ := D.ex
  exact pe_make M F hr hg hm b v pass0 ha hdb he hpl
end
theorem DefOk.imp {P : Program} {w : World} {K : PySem.W.Frag} {mg : Str → Option Value} {base : Heap} {k j : Nat} {x : Str} {dvs : List V} {sp : Sp} (D : DefOk P w K mg base j x dvs sp) (h : j ≤ k) : DefOk P w K mg base k x dvs sp := by
  obtain ⟨f, fd, ps, ds, hm, hk, F, b, v⟩ := D.ex
  exact ⟨f, fd, ps, ds, hm, hk, F.mono h, b, v⟩
/-! ### a def's body -/
section
variable {P : Program} {w : World} {K : PySem.W.Frag} {mg : Str → Option Value} {base : Heap} {x qual : Str} {params : Arguments} {body : List Stmt} {scope : Scope} {dvs : List V} {kws : List (Str × V)} {f C : Addr} {fd : FuncData} {N ps : List Str} {k : Nat} {sp : Sp} {st : Stmt} {m q : Str}
theorem ok0 (F : FunD K x qual params body scope dvs kws f fd) (S : FnScope N ps scope) (len : ∀ vs H Q E, sp vs H Q E → vs.length = ps.length)
    (hbody : ∀ (cdv : Value) (A : Around) (outer : List Env) (s : Shared) (H : Hp) (vs : List V) (Q : VK) (E : XK), Room k (A.deeper (envOfC qual scope s.heap.objs.size f cdv)) → sp vs H Q E →
      ∃ t, PSs (cxOf CX0 P w K mg base N qual scope f cdv A outer s H E).nox body t ∧ t { nx := fun _ H' => Q .non H', rt := Q } (L2.start N vs) H) : FnOk P w K mg base CX0 (k + 1) f fd ps sp :=
  F.ok S len fun cdv A outer s H vs Q E hr h => let ⟨t, h1, h2⟩ := hbody cdv A outer s H vs Q E hr h; ⟨t, h1.nox, h2⟩
theorem DefAt.ok (D : DefAt K mg x st [] kws f fd) (F : FnOk P w K mg base CX0 k f fd ps sp) (b : Binds K fd ps []) : DefOk P w K mg base k x [] sp := ⟨f, fd, ps, [], D.g, D.F.kp, F, b, .nil⟩
theorem MethAt.ok (c : Cls K C) (D : MethAt K C m q st [] kws f fd) (F : FnOk P w K mg base CX0 k f fd ps sp) (b : Binds K fd ps []) : MethOk P w K mg base k C m [] sp := ⟨c, f, fd, ps, [], D.me, F, b, .nil⟩
theorem MakeAt.ok (D : MakeAt K mg x q st [] kws f fd) (F : FnOk P w K mg base CX0 k f fd ps sp) (b : Binds K fd ps []) : MakeOk P w K mg base k x (He.ga K x) [] sp := ⟨f, fd, ps, [], D.g, D.M, F, b, .nil⟩
end
/-! ### constants of the module -/
section
variable {X : Cx} {x z : Str} {i : Int} {pos : Pos} {a : Addr}
theorem pe_gi (h : ∃ t, X.mg x = some (.int i t)) (hg : Gl X x := by rfl) (hd : (x == ("__debug__" : Str)) = false := by decide) : PE X (.Name x pos) (tC (.int i)) := by
  obtain ⟨t, e⟩ := h
  exact pe_glob hg e ⟨t, rfl⟩ hd
theorem pe_gs (h : ∃ t, X.mg x = some (.str z t)) (hg : Gl X x := by rfl) (hd : (x == ("__debug__" : Str)) = false := by decide) : PE X (.Name x pos) (tC (.str z)) := by
  obtain ⟨t, e⟩ := h
  exact pe_glob hg e ⟨t, rfl⟩ hd
theorem pe_gr (h : X.mg x = some (.ref a)) (hg : Gl X x := by rfl) (hd : (x == ("__debug__" : Str)) = false := by decide) : PE X (.Name x pos) (tC (.ref a)) := pe_glob hg h rfl hd
end
/-! ### the heap grows -/
theorem Same.at_ {H H' : Hp} {a : Addr} {o : HO} (s : Same H H') (h : H a = some o) : H' a = some o := s _ _ h
theorem Same.seqT {K : PySem.W.Frag} {H H' : Hp} {a : Addr} {xs : List V} (e : Same H H') (h : SqT K H a xs) : SqT K H' a xs := SqT.ext h e
theorem Same.upd_ {H : Hp} {p : Addr} {o : HO} (h : H p = none) : Same H (upd H p o) := Ext.upd h
end K95

set_option maxRecDepth 100000
set_option maxHeartbeats 4000000
namespace K95
open PySem PySem.Spec PyProof.Rows L2
/-! ### heaps without dicts of tuple keys: what is new may be forgotten -/
def noT : HO → Prop
  | .dT _ => False
  | .frz _ u => noT u
  | _ => True
def NoT (H : Hp) : Prop := ∀ a o, H a = some o → noT o
theorem ObjOk.forget {P : Program} {w : World} {H H1 : Hp} {h h' : Heap} {a : Addr} {o : HO} (x : ObjOk P w H1 h' a o) (x0 : ObjOk P w H h a o) (n : noT o) : ObjOk P w H h' a o := by
  induction o with
  | dT kvs => exact n.elim
  | frz ob u ih =>
    obtain ⟨e, q⟩ := x
    obtain ⟨_, q0⟩ := x0
    exact ⟨e, ih q q0 n⟩
  | ins C dx fs =>
    obtain ⟨_, q⟩ := x
    obtain ⟨d, _⟩ := x0
    exact ⟨d, q⟩
  | lst xs => exact x
  | tup xs => exact x
  | dK kvs => exact x
  | set S n => exact x
  | own y => exact x
  | xd fs => exact x
  | rng lo hi => exact x
  | tbl ps => exact x
  | met f y => exact x
  | ext φ => exact x
theorem HOk.forget {P : Program} {w : World} {H H1 : Hp} {h h' : Heap} (x1 : HOk P w H1 h') (x0 : HOk P w H h) (s : Same H H1) (n : NoT H) : HOk P w H h' := fun a o e => ObjOk.forget (x1 a o (s a o e)) (x0 a o e) (n a o e)
theorem Inv.forget {X : Cx} {pins : List (Addr × Obj)} {σ : List (Option V)} {H H1 : Hp} {s s' : Shared} (I1 : Inv X pins σ H1 s') (I : Inv X pins σ H s) (g : Same H H1) (n : NoT H) : Inv X pins σ H s' where
  ok := I1.ok
  os := I1.os
  bare := I1.bare
  base := ⟨I1.base.keep, I1.base.slot, fun b o q z hx => g.free (I1.base.free b o q z hx), I1.base.there, I.base.tups, I.base.frzs, I.base.tbls⟩
  loc := I1.loc
  cell := I1.cell
  free := I.free
  freeC := I.freeC
  pin := fun p hp => let ⟨a, b, c⟩ := I1.pin p hp; ⟨a, g.free b, c⟩
  hok := HOk.forget I1.hok I.hok g n
  len := I1.len
/-- what the expression made is forgotten -/
def tFg (t : TE) : TE := fun σ H Q => NoT H ∧ t σ H fun v H1 => Same H H1 ∧ Q v H
theorem pe_fg {X : Cx} {e : Expr} {t : TE} (h : PE X e t) : PE X e (tFg t) := by
  refine ⟨fun pins s σ H Q I q => ?_⟩
  obtain ⟨n, q⟩ := q
  refine thn (h.run pins s σ H _ I q) fun u s1 ⟨v, H1, I1, r, g, q1⟩ => ?_
  exact ⟨v, H, Inv.forget I1 I g n, r, q1⟩
/-- a def that hands back a scalar: what it made is forgotten -/
theorem FnOk.fg {P : Program} {w : World} {K : PySem.W.Frag} {mg : Str → Option Value} {base : Heap} {k : Nat} {f : Addr} {fd : FuncData} {ps : List Str} {sp sp' : Sp} (F : FnOk P w K mg base CX0 k f fd ps sp)
    (h : ∀ vs H Q E, sp' vs H Q E → NoT H ∧ sp vs H (fun v H1 => Same H H1 ∧ Q v H) E) : FnOk P w K mg base CX0 k f fd ps sp' := by
  refine ⟨fun vs H Q E q => F.len vs H _ E (h _ _ _ _ q).2, fun A outer s H args us vs Q E hr he hb hv hs => ?_⟩
  obtain ⟨n, q⟩ := h _ _ _ _ hs
  refine codeAny_mono (F.run A outer s H args us vs _ E hr he hb hv q) fun r s' z => ?_
  cases r with
  | error e => exact z
  | ok fl =>
    cases fl with
    | ret u =>
      obtain ⟨v, H1, a, b, un, hok, rv, g, q1⟩ := z
      exact ⟨v, H, a, b, ⟨un.keep, un.slot, fun b o q z hx => z, un.there, fun _ _ z => z, fun _ _ _ z => z, fun _ ps z => ⟨#[], by rw [z]; simp⟩⟩, HOk.forget hok he.hok g n, rv, q1⟩
    | next => exact z
    | brk => exact z
    | cont => exact z
/-! ### grown heaps -/
structure Gr (H H' : Hp) : Prop where
  s : Same H H'
  n : NoT H → NoT H'
theorem Gr.refl (H : Hp) : Gr H H := ⟨Same.refl H, id⟩
theorem Gr.trans {H H1 H2 : Hp} (a : Gr H H1) (b : Gr H1 H2) : Gr H H2 := ⟨a.s.trans b.s, fun n => b.n (a.n n)⟩
theorem NoT.upd {H : Hp} {p : Addr} {o : HO} (n : NoT H) (h : noT o) : NoT (upd H p o) := fun a u e => by
  by_cases q : a = p
  · rw [q, upd_same] at e
    cases e
    exact h
  · rw [upd_ne q] at e
    exact n a u e
theorem Gr.upd {H : Hp} {p : Addr} {o : HO} (h : H p = none) (t : noT o) : Gr H (upd H p o) := ⟨Same.upd_ h, fun n => n.upd t⟩
/-- a new object at p: what follows holds of every grown heap that has it -/
theorem grow {H : Hp} {o : HO} {G : V → Hp → Prop} (t : noT o) (h : ∀ p H', Gr H H' → H p = none → H' p = some o → G (.ref p) H') : ∀ p, H p = none → G (.ref p) (upd H p o) := fun p np => h p _ (Gr.upd np t) np upd_same
end K95

set_option maxRecDepth 100000
set_option maxHeartbeats 4000000
namespace K95
universe u
open PySem PySem.Spec PyProof.Rows L2
/-! ### what is looked up, by its kind; k stays as it is while o is reckoned (Fx) -/
inductive Fx {α : Sort u} (a : α) : Type where
  | mk
def oI (k : Addr → Addr → List (Str × V) → Prop) (o : Option HO) (_ : Fx k) : Prop := match o with
  | some (.ins C dx fs) => k C dx fs
  | _ => False
def oL (k : List V → Prop) (o : Option HO) (_ : Fx k) : Prop := match o with
  | some (.lst xs) => k xs
  | _ => False
def oT (k : List V → Prop) (o : Option HO) (_ : Fx k) : Prop := match o with
  | some (.tup xs) => k xs
  | _ => False
def oD (k : List (Key × V) → Prop) (o : Option HO) (_ : Fx k) : Prop := match o with
  | some (.dK kvs) => k kvs
  | _ => False
def oV {α : Type} (k : α → Prop) (o : Option α) (_ : Fx k) : Prop := match o with
  | some v => k v
  | none => False
/-- a choice; a condition and what follows -/
def cIf (A B : Prop) (b : Bool) (_ : Fx A) (_ : Fx B) : Prop := if b = true then A else B
def cAnd (B A : Prop) (_ : Fx B) : Prop := A ∧ B
/-- an allocation -/
def Al (G : V → Hp → Prop) (H : Hp) (o : HO) (_ : Fx G) : Prop := ∀ p, H p = none → G (.ref p) (upd H p o)
/-- a call -/
def cCall (Q : VK) (E : XK) (sp : Sp) (vs : List V) (H : Hp) (_ : Fx Q) : Prop := sp vs H Q E
/-- a bool; a reference; an int -/
def bR (k : Bool → Prop) (x : V) (_ : Fx k) : Prop := match x with
  | .bl b => k b
  | _ => False
def rR (k : Addr → Prop) (x : V) (_ : Fx k) : Prop := match x with
  | .ref a => k a
  | _ => False
def iR (k : Int → Prop) (x : V) (_ : Fx k) : Prop := match x with
  | .int i => k i
  | _ => False
section
variable {C dx : Addr} {fs : List (Str × V)} {xs : List V} {kvs : List (Key × V)} {A B : Prop} {fa : Fx A} {fb : Fx B}
@[simp] theorem f_oI {k : Addr → Addr → List (Str × V) → Prop} {f : Fx k} : oI k (some (.ins C dx fs)) f = k C dx fs := propext Iff.rfl
@[simp] theorem f_oL {k : List V → Prop} {f : Fx k} : oL k (some (.lst xs)) f = k xs := propext Iff.rfl
@[simp] theorem f_oT {k : List V → Prop} {f : Fx k} : oT k (some (.tup xs)) f = k xs := propext Iff.rfl
@[simp] theorem f_oD {k : List (Key × V) → Prop} {f : Fx k} : oD k (some (.dK kvs)) f = k kvs := propext Iff.rfl
@[simp] theorem f_oV {α : Type} {v : α} {k : α → Prop} {f : Fx k} : oV k (some v) f = k v := propext Iff.rfl
@[simp] theorem f_cIft : cIf A B true fa fb = A := by simp [cIf]
@[simp] theorem f_cIff : cIf A B false fa fb = B := by simp [cIf]
@[simp] theorem f_cAnd : cAnd B True fb = B := by simp [cAnd]
@[simp] theorem f_cAnd0 : cAnd B False fb = False := by simp [cAnd]
@[simp ↓] theorem f_bR {b : Bool} {k : Bool → Prop} {f : Fx k} : bR k (.bl b) f = k b := propext Iff.rfl
@[simp ↓] theorem f_rR {a : Addr} {k : Addr → Prop} {f : Fx k} : rR k (.ref a) f = k a := propext Iff.rfl
@[simp ↓] theorem f_iR {i : Int} {k : Int → Prop} {f : Fx k} : iR k (.int i) f = k i := propext Iff.rfl
theorem oI_inv {o : Option HO} {k : Addr → Addr → List (Str × V) → Prop} {f : Fx k} (h : oI k o f) : ∃ C dx fs, o = some (.ins C dx fs) ∧ k C dx fs := by
  unfold oI at h
  split at h
  · exact ⟨_, _, _, rfl, h⟩
  · exact h.elim
theorem oL_inv {o : Option HO} {k : List V → Prop} {f : Fx k} (h : oL k o f) : ∃ xs, o = some (.lst xs) ∧ k xs := by
  unfold oL at h
  split at h
  · exact ⟨_, rfl, h⟩
  · exact h.elim
theorem oT_inv {o : Option HO} {k : List V → Prop} {f : Fx k} (h : oT k o f) : ∃ xs, o = some (.tup xs) ∧ k xs := by
  unfold oT at h
  split at h
  · exact ⟨_, rfl, h⟩
  · exact h.elim
theorem oD_inv {o : Option HO} {k : List (Key × V) → Prop} {f : Fx k} (h : oD k o f) : ∃ kvs, o = some (.dK kvs) ∧ k kvs := by
  unfold oD at h
  split at h
  · exact ⟨_, rfl, h⟩
  · exact h.elim
theorem oV_inv {α : Type} {o : Option α} {k : α → Prop} {f : Fx k} (h : oV k o f) : ∃ v, o = some v ∧ k v := by
  cases o with
  | none => exact h.elim
  | some v => exact ⟨v, rfl, h⟩
theorem bR_inv {x : V} {k : Bool → Prop} {f : Fx k} (h : bR k x f) : ∃ b, x = .bl b ∧ k b := by
  cases x <;> first | exact ⟨_, rfl, h⟩ | exact h.elim
theorem rR_inv {x : V} {k : Addr → Prop} {f : Fx k} (h : rR k x f) : ∃ b, x = .ref b ∧ k b := by
  cases x <;> first | exact ⟨_, rfl, h⟩ | exact h.elim
theorem iR_inv {x : V} {k : Int → Prop} {f : Fx k} (h : iR k x f) : ∃ b, x = .int b ∧ k b := by
  cases x <;> first | exact ⟨_, rfl, h⟩ | exact h.elim
theorem bR_eq (x : V) (k : Bool → Prop) : (∃ c, x = .bl c ∧ k c) = bR k x .mk := propext ⟨fun ⟨c, e, q⟩ => by subst e; exact q, bR_inv⟩
end
theorem al {H : Hp} {o : HO} {G : V → Hp → Prop} {f : Fx G} (h : ∀ p H', Gr H H' → H p = none → H' p = some o → G (.ref p) H') (t : noT o := by exact True.intro) : Al G H o f := grow t h
theorem cl {Q : VK} {E : XK} {sp : Sp} {vs : List V} {H : Hp} {f : Fx Q} (h : sp vs H Q E) : cCall Q E sp vs H f := h
theorem ca {A B : Prop} {f : Fx B} (a : A) (b : B) : cAnd B A f := ⟨a, b⟩
theorem ci {A B : Prop} {b : Bool} {f : Fx A} {g : Fx B} (h1 : b = true → A) (h2 : b = false → B) : cIf A B b f g := by
  cases b with
  | true => simpa using h1 rfl
  | false => simpa using h2 rfl
/-! ### readings, as rules for simp: from the outside -/
section
variable {K : PySem.W.Frag} {D : Ends} {σ : List (Option V)} {H : Hp} {Q : VK} {QB : Bool → Hp → Prop} {QL : List V → Hp → Prop} {te ta tb tc td ty tv tx : TE} {t u : TS} {tA tB' : TT} {al tr : TA} {g g' : TG} {gs : TGs} {v x y : V} {n : Nat} {sp : Sp} {dvs : List V} {E : XK} {s0 s1 s2 s3 s4 s5 s6 s7 s8 s9 : Option V} {R : List (Option V) → Hp → Prop}
@[simp ↓] theorem e_tNext : tNext D σ H = D.nx σ H := propext Iff.rfl
@[simp ↓] theorem e_tSeq : tSeq t u D σ H = t ⟨u D, D.rt, D.bk, D.ct⟩ σ H := propext Iff.rfl
@[simp ↓] theorem e_tDrop : tDrop te D σ H = te σ H fun _ H1 => D.nx σ H1 := propext Iff.rfl
@[simp ↓] theorem e_tRet : tRet te D σ H = te σ H D.rt := propext Iff.rfl
@[simp ↓] theorem e_tRetN : tRetN D σ H = D.rt .non H := propext Iff.rfl
@[simp ↓] theorem e_tBreak : tBreak D σ H = D.bk σ H := propext Iff.rfl
@[simp ↓] theorem e_tCont : tCont D σ H = D.ct σ H := propext Iff.rfl
@[simp ↓] theorem e_tNever : tNever D σ H = False := propext Iff.rfl
@[simp ↓] theorem e_tIfS : tIfS tA t u D σ H = tA σ H fun b H1 => cIf (t D σ H1) (u D σ H1) b .mk .mk := propext Iff.rfl
@[simp ↓] theorem e_tAsg : tAsg te g D σ H = te σ H fun x H1 => g x σ H1 D.nx := propext Iff.rfl
@[simp ↓] theorem e_gName0 : gName 0 v (s0 :: σ) H R = R (some v :: σ) H := propext Iff.rfl
@[simp ↓] theorem e_gName1 : gName 1 v (s0 :: s1 :: σ) H R = R (s0 :: some v :: σ) H := propext Iff.rfl
@[simp ↓] theorem e_gName2 : gName 2 v (s0 :: s1 :: s2 :: σ) H R = R (s0 :: s1 :: some v :: σ) H := propext Iff.rfl
@[simp ↓] theorem e_gName3 : gName 3 v (s0 :: s1 :: s2 :: s3 :: σ) H R = R (s0 :: s1 :: s2 :: some v :: σ) H := propext Iff.rfl
@[simp ↓] theorem e_gName4 : gName 4 v (s0 :: s1 :: s2 :: s3 :: s4 :: σ) H R = R (s0 :: s1 :: s2 :: s3 :: some v :: σ) H := propext Iff.rfl
@[simp ↓] theorem e_gName5 : gName 5 v (s0 :: s1 :: s2 :: s3 :: s4 :: s5 :: σ) H R = R (s0 :: s1 :: s2 :: s3 :: s4 :: some v :: σ) H := propext Iff.rfl
@[simp ↓] theorem e_gName6 : gName 6 v (s0 :: s1 :: s2 :: s3 :: s4 :: s5 :: s6 :: σ) H R = R (s0 :: s1 :: s2 :: s3 :: s4 :: s5 :: some v :: σ) H := propext Iff.rfl
@[simp ↓] theorem e_gName7 : gName 7 v (s0 :: s1 :: s2 :: s3 :: s4 :: s5 :: s6 :: s7 :: σ) H R = R (s0 :: s1 :: s2 :: s3 :: s4 :: s5 :: s6 :: some v :: σ) H := propext Iff.rfl
@[simp ↓] theorem e_gName8 : gName 8 v (s0 :: s1 :: s2 :: s3 :: s4 :: s5 :: s6 :: s7 :: s8 :: σ) H R = R (s0 :: s1 :: s2 :: s3 :: s4 :: s5 :: s6 :: s7 :: some v :: σ) H := propext Iff.rfl
@[simp ↓] theorem e_gName9 : gName 9 v (s0 :: s1 :: s2 :: s3 :: s4 :: s5 :: s6 :: s7 :: s8 :: s9 :: σ) H R = R (s0 :: s1 :: s2 :: s3 :: s4 :: s5 :: s6 :: s7 :: s8 :: some v :: σ) H := propext Iff.rfl
@[simp ↓] theorem e_gNil : gNil [] σ H R = R σ H := by simp [gNil]
@[simp ↓] theorem e_gCons {vs : List V} : gCons g gs (v :: vs) σ H R = g v σ H fun σ' H' => gs vs σ' H' R := by
  unfold gCons
  exact propext ⟨fun ⟨v', r, e, q⟩ => by cases e; exact q, fun q => ⟨v, vs, rfl, q⟩⟩
/-- a target of several names, of a tracked tuple -/
def gTupH (n : Nat) (t : TGs) : TG := fun v σ H Q => rR (fun a => oT (fun xs => cAnd (t xs σ H Q) (xs.length = n) .mk) (H a) .mk) v .mk
@[simp ↓] theorem e_gTupH {gs : TGs} : gTupH n gs v σ H R = rR (fun a => oT (fun xs => cAnd (gs xs σ H R) (xs.length = n) .mk) (H a) .mk) v .mk := propext Iff.rfl
@[simp ↓] theorem e_tAug0 {ti : TIp} : tAug 0 te ti D (some v :: σ) H = te (some v :: σ) H fun y H1 => ti v y H1 fun z H2 => D.nx (some z :: σ) H2 := by simp [tAug]
@[simp ↓] theorem e_tAug2 {ti : TIp} : tAug 2 te ti D (s0 :: s1 :: some v :: σ) H = te (s0 :: s1 :: some v :: σ) H fun y H1 => ti v y H1 fun z H2 => D.nx (s0 :: s1 :: some z :: σ) H2 := by simp [tAug]
@[simp ↓] theorem e_tAug4 {ti : TIp} : tAug 4 te ti D (s0 :: s1 :: s2 :: s3 :: some v :: σ) H = te (s0 :: s1 :: s2 :: s3 :: some v :: σ) H fun y H1 => ti v y H1 fun z H2 => D.nx (s0 :: s1 :: s2 :: s3 :: some z :: σ) H2 := by simp [tAug]
@[simp ↓] theorem e_v0 : tVar 0 (some v :: σ) H Q = Q v H := by simp [tVar]
@[simp ↓] theorem e_v1 : tVar 1 (s0 :: some v :: σ) H Q = Q v H := by simp [tVar]
@[simp ↓] theorem e_v2 : tVar 2 (s0 :: s1 :: some v :: σ) H Q = Q v H := by simp [tVar]
@[simp ↓] theorem e_v3 : tVar 3 (s0 :: s1 :: s2 :: some v :: σ) H Q = Q v H := by simp [tVar]
@[simp ↓] theorem e_v4 : tVar 4 (s0 :: s1 :: s2 :: s3 :: some v :: σ) H Q = Q v H := by simp [tVar]
@[simp ↓] theorem e_v5 : tVar 5 (s0 :: s1 :: s2 :: s3 :: s4 :: some v :: σ) H Q = Q v H := by simp [tVar]
@[simp ↓] theorem e_v6 : tVar 6 (s0 :: s1 :: s2 :: s3 :: s4 :: s5 :: some v :: σ) H Q = Q v H := by simp [tVar]
@[simp ↓] theorem e_v7 : tVar 7 (s0 :: s1 :: s2 :: s3 :: s4 :: s5 :: s6 :: some v :: σ) H Q = Q v H := by simp [tVar]
@[simp ↓] theorem e_v8 : tVar 8 (s0 :: s1 :: s2 :: s3 :: s4 :: s5 :: s6 :: s7 :: some v :: σ) H Q = Q v H := by simp [tVar]
@[simp ↓] theorem e_v9 : tVar 9 (s0 :: s1 :: s2 :: s3 :: s4 :: s5 :: s6 :: s7 :: s8 :: some v :: σ) H Q = Q v H := by simp [tVar]
@[simp ↓] theorem e_tC : tC v σ H Q = Q v H := propext Iff.rfl
@[simp ↓] theorem e_tOp {r : R2} : tOp r ta tb σ H Q = ta σ H fun x H1 => tb σ H1 fun y H2 => r x y H2 Q := propext Iff.rfl
@[simp ↓] theorem e_tUn {r : V → Hp → VK → Prop} : tUn r ta σ H Q = ta σ H fun x H1 => r x H1 Q := propext Iff.rfl
@[simp ↓] theorem e_rI {C : Int → Int → Prop} {f : Int → Int → V} {i j : Int} : rI C f (.int i) (.int j) H Q = cAnd (Q (f i j) H) (C i j) .mk := by
  unfold rI cAnd
  exact propext ⟨fun ⟨a, b, e1, e2, q⟩ => by cases e1; cases e2; exact q, fun q => ⟨i, j, rfl, rfl, q⟩⟩
@[simp ↓] theorem e_rI0 {f : Int → Int → V} {i j : Int} : rI0 f (.int i) (.int j) H Q = Q (f i j) H := by
  unfold rI0
  exact propext ⟨fun ⟨a, b, e1, e2, q⟩ => by cases e1; cases e2; exact q, fun q => ⟨i, j, rfl, rfl, q⟩⟩
@[simp ↓] theorem e_rU {f : Int → V} {i : Int} : rU f (.int i) H Q = Q (f i) H := by simp [rU]
@[simp ↓] theorem e_tIsN : tIsN ta σ H Q = ta σ H fun x H1 => Q (.bl (decide (x = .non))) H1 := propext Iff.rfl
@[simp ↓] theorem e_tNotN : tNotN ta σ H Q = ta σ H fun x H1 => Q (.bl (!decide (x = .non))) H1 := propext Iff.rfl
@[simp ↓] theorem e_tB : tB te σ H QB = te σ H fun x H1 => bR (fun c => QB c H1) x .mk := by
  unfold tB
  congr
  funext x H1
  exact bR_eq x _
@[simp ↓] theorem e_tTest : tTest te σ H QB = te σ H fun x H1 => bR (fun c => QB c H1) x .mk := by
  unfold tTest
  congr
  funext x H1
  exact bR_eq x _
@[simp ↓] theorem e_tAnd : tAnd tA tB' σ H QB = tA σ H fun c H1 => cIf (tB' σ H1 QB) (QB false H1) c .mk .mk := propext Iff.rfl
@[simp ↓] theorem e_tOr : tOr tA tB' σ H QB = tA σ H fun c H1 => cIf (QB true H1) (tB' σ H1 QB) c .mk .mk := propext Iff.rfl
@[simp ↓] theorem e_tNot : tNot tA σ H QB = tA σ H fun c H1 => QB (!c) H1 := propext Iff.rfl
@[simp ↓] theorem e_tAndV : tAndV ta tb σ H Q = ta σ H fun x H1 => bR (fun c => cIf (tb σ H1 Q) (Q (.bl false) H1) c .mk .mk) x .mk := by
  unfold tAndV
  congr
  funext x H1
  exact bR_eq x _
@[simp ↓] theorem e_tOrV : tOrV ta tb σ H Q = ta σ H fun x H1 => bR (fun c => cIf (Q (.bl true) H1) (tb σ H1 Q) c .mk .mk) x .mk := by
  unfold tOrV
  congr
  funext x H1
  exact bR_eq x _
@[simp ↓] theorem e_tNotV : tNotV ta σ H Q = ta σ H fun x H1 => bR (fun c => Q (.bl (!c)) H1) x .mk := by
  unfold tNotV
  congr
  funext x H1
  exact bR_eq x _
@[simp ↓] theorem e_tIf : tIf tA ta tb σ H Q = tA σ H fun c H1 => cIf (ta σ H1 Q) (tb σ H1 Q) c .mk .mk := propext Iff.rfl
@[simp ↓] theorem e_tChain {r r' : R2} : tChain r r' ta tb tc σ H Q = ta σ H fun x H1 => tb σ H1 fun y H2 => r x y H2 fun z H3 => bR (fun k => cIf (tc σ H3 fun w' H4 => r' y w' H4 Q) (Q (.bl false) H3) k .mk .mk) z .mk := by
  unfold tChain
  congr
  funext x H1
  congr
  funext y H2
  congr
  funext z H3
  exact bR_eq z _
@[simp ↓] theorem e_tCB {r : List V → Hp → VK → Prop} : tCB r al σ H Q = al σ H fun vs H1 => r vs H1 Q := propext Iff.rfl
@[simp ↓] theorem e_tNil : tNil σ H QL = QL [] H := propext Iff.rfl
@[simp ↓] theorem e_tCons : tCons ta tr σ H QL = ta σ H fun x H1 => tr σ H1 fun xs H2 => QL (x :: xs) H2 := propext Iff.rfl
@[simp ↓] theorem e_tCall : tCall sp [] E al σ H Q = al σ H fun vs H1 => cCall Q E sp vs H1 .mk := by simp [tCall, cCall]
@[simp ↓] theorem e_tCall1 : tCall sp [v] E al σ H Q = al σ H fun vs H1 => cCall Q E sp (vs ++ [v]) H1 .mk := propext Iff.rfl
@[simp ↓] theorem e_tFg : tFg te σ H Q = cAnd (te σ H fun v H1 => cAnd (Q v H) (Same H H1) .mk) (NoT H) .mk := propext Iff.rfl
@[simp ↓] theorem e_tTup : tTup al σ H Q = al σ H fun xs H1 => cAnd (Al Q H1 (.tup xs) .mk) (xs.length ≤ sizeLine) .mk := propext Iff.rfl
@[simp ↓] theorem e_tLst : tLst al σ H Q = al σ H fun xs H1 => cAnd (Al Q H1 (.lst xs) .mk) (xs.length ≤ sizeLine) .mk := propext Iff.rfl
@[simp ↓] theorem e_tBM0 {T : String} {r : V → List V → Hp → VK → Prop} : tBM0 K T r ta σ H Q = ta σ H fun x H1 => cAnd (r x [] H1 Q) (tyV K T x H1) .mk := propext Iff.rfl
@[simp ↓] theorem e_tBM {T : String} {r : V → List V → Hp → VK → Prop} : tBM K T r ta al σ H Q = ta σ H fun x H1 => cAnd (al σ H1 fun xs H2 => r x xs H2 Q) (tyV K T x H1) .mk := propext Iff.rfl
@[simp] theorem e_tyV_str {z : Str} : tyV K "str" (.str z) H = True := by simp [tyV]
@[simp ↓] theorem e_rEq_ii {i j : Int} : rEq (.int i) (.int j) H Q = Q (.bl (decide (i = j))) H := by simp [rEq, scal]
@[simp ↓] theorem e_rEq_ss {i j : Str} : rEq (.str i) (.str j) H Q = Q (.bl (decide (i = j))) H := by simp [rEq, scal]
@[simp ↓] theorem e_rNe_ii {i j : Int} : rNe (.int i) (.int j) H Q = Q (.bl (!decide (i = j))) H := by simp [rNe, scal]
@[simp ↓] theorem e_rNe_ss {i j : Str} : rNe (.str i) (.str j) H Q = Q (.bl (!decide (i = j))) H := by simp [rNe, scal]
@[simp ↓] theorem e_tNoPart {RO : Option Int → Hp → Prop} : tNoPart σ H RO = RO none H := propext Iff.rfl
@[simp ↓] theorem e_tPart {RO : Option Int → Hp → Prop} : tPart te σ H RO = te σ H fun x H1 => iR (fun i => RO (some i) H1) x .mk := by
  unfold tPart
  congr
  funext x H1
  exact propext ⟨fun ⟨i, e, q⟩ => by subst e; exact q, iR_inv⟩
@[simp ↓] theorem e_tSl {r : V → Option Int → Option Int → Hp → VK → Prop} {tl th : TO} : tSl r te tl th σ H Q = te σ H fun x H1 => tl σ H1 fun l H2 => th σ H2 fun u H3 => r x l u H3 Q := propext Iff.rfl
@[simp ↓] theorem e_rSlS {z : Str} {lo hi : Option Int} : rSlS (.str z) lo hi H Q = cAnd (Q (.str (cutS z lo hi)) H) (z.length ≤ sizeLine) .mk := by
  unfold rSlS cAnd
  exact propext ⟨fun ⟨z', e, q⟩ => by cases e; exact q, fun q => ⟨z, rfl, q⟩⟩
@[simp ↓] theorem e_rIxS {z : Str} {i : Int} : rIxS (.str z) (.int i) H Q = cAnd (oV (fun c => Q (.str ⟨#[c]⟩) H) (atI z.cps.toList i) .mk) (z.length ≤ sizeLine) .mk := by
  unfold rIxS
  refine propext ⟨?_, ?_⟩
  · rintro ⟨z', i', c, e1, e2, l, e3, q⟩
    cases e1
    cases e2
    exact ⟨l, by rw [e3]; exact q⟩
  · rintro ⟨l, q⟩
    obtain ⟨c, e, q⟩ := oV_inv q
    exact ⟨z, i, c, rfl, rfl, l, e, q⟩
end
/-- the slots at the entry -/
@[simp ↓] theorem start_cc {n : Str} {N : List Str} {v : V} {vs : List V} : L2.start (n :: N) (v :: vs) = some v :: L2.start N vs := by simp [L2.start]
@[simp ↓] theorem start_cn {n : Str} {N : List Str} : L2.start (n :: N) [] = none :: L2.start N [] := by simp [L2.start, List.replicate_succ]
@[simp ↓] theorem start_nn : L2.start [] [] = [] := rfl
/-! ### isinstance with the built-in types -/
def rIsT (K : PySem.W.Frag) : List V → Hp → VK → Prop := fun xs H Q => match xs with
  | [.int _, .ty T] => (T = "int" ∧ Q (.bl true) H) ∨ ((T = "bool" ∨ T = "str") ∧ Q (.bl false) H)
  | [.str _, .ty T] => (T = "str" ∧ Q (.bl true) H) ∨ (T = "int" ∧ Q (.bl false) H)
  | [.ref a, .ty T] => T = "tuple" ∧ oT (fun _ => Q (.bl true) H) (H a) .mk
  | _ => False
section
variable {K : PySem.W.Frag} {H : Hp} {Q : VK} {x : V} {T : String} {i : Int} {z : Str} {a : Addr}
@[simp ↓] theorem e_rIsT_ii : rIsT K [.int i, .ty "int"] H Q = Q (.bl true) H := by simp [rIsT]
@[simp ↓] theorem e_rIsT_ib : rIsT K [.int i, .ty "bool"] H Q = Q (.bl false) H := by simp [rIsT]
@[simp ↓] theorem e_rIsT_ss : rIsT K [.str z, .ty "str"] H Q = Q (.bl true) H := by simp [rIsT]
@[simp ↓] theorem e_rIsT_t : rIsT K [.ref a, .ty "tuple"] H Q = oT (fun _ => Q (.bl true) H) (H a) .mk := by simp [rIsT]
end
theorem kb_ii : kitB "int" "int" = some true := by decide +kernel
theorem kb_ib : kitB "int" "bool" = some false := by decide +kernel
theorem kb_is : kitB "int" "str" = some false := by decide +kernel
theorem kb_ss : kitB "str" "str" = some true := by decide +kernel
theorem kb_si : kitB "str" "int" = some false := by decide +kernel
theorem kb_tt : kitB "tuple" "tuple" = some true := by decide +kernel
theorem call_isT {X : Cx} : CallR X (.builtin "isinstance") (rIsT X.K) := by
  intro pins s σ H xs us Q I r h
  refine call_isi pins s σ H xs us Q I r ?_
  unfold rIsT at h
  split at h
  · rcases h with ⟨rfl, q⟩ | ⟨rfl | rfl, q⟩
    · exact ⟨_, _, _, _, _, rfl, .ty _, .base (.int _), kit_ty kb_ii, q⟩
    · exact ⟨_, _, _, _, _, rfl, .ty _, .base (.int _), kit_ty kb_ib, q⟩
    · exact ⟨_, _, _, _, _, rfl, .ty _, .base (.int _), kit_ty kb_is, q⟩
  · rcases h with ⟨rfl, q⟩ | ⟨rfl, q⟩
    · exact ⟨_, _, _, _, _, rfl, .ty _, .base (.str _), kit_ty kb_ss, q⟩
    · exact ⟨_, _, _, _, _, rfl, .ty _, .base (.str _), kit_ty kb_si, q⟩
  · obtain ⟨rfl, q⟩ := h
    obtain ⟨ys, e, q⟩ := oT_inv q
    exact ⟨_, _, _, _, _, rfl, .ty _, .base (.tup e), kit_ty kb_tt, q⟩
  · exact h.elim
theorem bt_int : bootBuiltins "int" = some (.type "int") := by decide +kernel
theorem bt_bool : bootBuiltins "bool" = some (.type "bool") := by decide +kernel
theorem bt_str : bootBuiltins "str" = some (.type "str") := by decide +kernel
theorem bt_tuple : bootBuiltins "tuple" = some (.type "tuple") := by decide +kernel
theorem bt_list : bootBuiltins "list" = some (.type "list") := by decide +kernel
theorem bt_dict : bootBuiltins "dict" = some (.type "dict") := by decide +kernel
theorem bt_isinstance : bootBuiltins "isinstance" = some (.builtin "isinstance") := by decide +kernel
theorem bt_sorted : bootBuiltins "sorted" = some (.builtin "sorted") := by decide +kernel
theorem bt_all : bootBuiltins "all" = some (.builtin "all") := by decide +kernel
theorem bt_abs : bootBuiltins "abs" = some (.builtin "abs") := by decide +kernel
/-- isinstance(e, T), T a built-in type -/
theorem pe_isT {X : Cx} {e : Expr} {te : TE} {T : Str} {n : String} {p p2 pos : Pos} (he : PE X e te) (hi : X.mg "isinstance" = none) (ht : X.mg T = none) (hb : bootBuiltins T = some (.type n)) (hg : Gl X "isinstance" := by rfl) (hg2 : Gl X T := by rfl)
    (hn : T ≠ "__name__" := by decide) (hd : (T == ("__debug__" : Str)) = false := by decide) (hs : starEach [e, .Name T p2] X.env = (false, eval e X.env) :: starEach [.Name T p2] X.env := by rfl) :
    PE X (.Call (.Name "isinstance" p) [e, .Name T p2] [] pos) (tCB (rIsT X.K) (tCons te (tCons (tC (.ty n)) tNil))) :=
  pe_callB call_isT hg hi bt_isinstance (pa_cons he (pa_cons (pe_bltn hg2 ht hb rfl hn hd) pa_nil) hs) (he := hs)
/-! ### rules by kinds -/
section
variable {X : Cx} {e o b i : Expr} {te ta tb td ty tv : TE} {pos p apos pos' : Pos} {f x : Str} {C : Addr} {t : TA} {es : List Expr} {K : PySem.W.Frag} {H : Hp} {Q : VK} {σ : List (Option V)} {D : Ends}
theorem PE.imp {t t' : TE} (h : PE X e t) (g : ∀ σ H Q, t' σ H Q → t σ H Q) : PE X e t' := ⟨fun pins s σ H Q I q => h.run pins s σ H Q I (g σ H Q q)⟩
theorem PS.imp {st : Stmt} {t t' : TS} (h : PS X st t) (g : ∀ D σ H, t' D σ H → t D σ H) : PS X st t' := ⟨fun pins s σ H D I q => h.run pins s σ H D I (g D σ H q)⟩
theorem PG.imp {tg : Expr} {t t' : TG} (h : PG X tg t) (g : ∀ v σ H Q, t' v σ H Q → t v σ H Q) : PG X tg t' :=
  ⟨by
    intro pins s σ H v u Q I r q
    exact h.run pins s σ H v u Q I r (g _ _ _ _ q)⟩
end
end K95

set_option maxRecDepth 100000
set_option maxHeartbeats 4000000
namespace K95
open PySem PySem.Spec PyProof.Rows L2
/-! ### loops turn by turn -/
def whR (c : TT) (tb : TS) (D : Ends) : Nat → List (Option V) → Hp → Prop
  | 0, _, _ => False
  | n + 1, σ, H => c σ H fun b H1 => cIf (tb ⟨whR c tb D n, D.rt, D.nx, whR c tb D n⟩ σ H1) (D.nx σ H1) b .mk .mk
/-- a while of fewer than n turns -/
def tWhU (n : Nat) (c : TT) (tb : TS) : TS := fun D σ H => whR c tb D n σ H
theorem ps_whU {X : Cx} {pos : Pos} {c : Expr} {body : List Stmt} {tc : TT} {tb : TS} (n : Nat) (hp : PassesOwn (model X.prog X.w) X.A X.env X.xe) (hc : PT X c tc) (hb : PSs X body tb) : PS X (.While c body [] pos) (tWhU n tc tb) := by
  refine ⟨fun pins s σ H D I h => ?_⟩
  refine wpAny_While (codeAny_whileLoop (fun n s' => ∃ σ' H', Inv X pins σ' H' s' ∧ whR tc tb D n σ' H') ?_ n ⟨σ, H, I, h⟩)
  rintro n s1 ⟨σ1, H1, I1, w1⟩
  cases n with
  | zero => exact w1.elim
  | succ n =>
    refine wpAny_passesOwn hp (thn (hc.run pins s1 σ1 H1 _ I1 w1) fun b s2 ⟨H2, I2, q2⟩ => ?_)
    cases b with
    | true =>
      rw [if_pos rfl]
      rw [f_cIft] at q2
      refine wpAny_passesOwn hp (thn (hb.run pins s2 σ1 H2 _ I2 q2) fun f s3 q3 => ?_)
      cases f with
      | next =>
        obtain ⟨σ3, H3, I3, n3⟩ := q3
        exact ⟨n, Nat.lt_succ_self n, σ3, H3, I3, n3⟩
      | cont =>
        obtain ⟨σ3, H3, I3, n3⟩ := q3
        exact ⟨n, Nat.lt_succ_self n, σ3, H3, I3, n3⟩
      | brk => exact q3
      | ret v => exact q3
    | false =>
      rw [if_neg Bool.false_ne_true]
      rw [f_cIff] at q2
      exact wpAny_execs_nil ⟨σ1, H2, I2, q2⟩
section
variable {c : TT} {tb : TS} {D : Ends} {σ : List (Option V)} {H : Hp}
@[simp ↓] theorem e_whR0 : whR c tb D 0 σ H = False := propext Iff.rfl
@[simp ↓] theorem e_whR1 : whR c tb D 1 σ H = c σ H fun b H1 => cIf (tb ⟨whR c tb D 0, D.rt, D.nx, whR c tb D 0⟩ σ H1) (D.nx σ H1) b .mk .mk := propext Iff.rfl
@[simp ↓] theorem e_whR2 : whR c tb D 2 σ H = c σ H fun b H1 => cIf (tb ⟨whR c tb D 1, D.rt, D.nx, whR c tb D 1⟩ σ H1) (D.nx σ H1) b .mk .mk := propext Iff.rfl
@[simp ↓] theorem e_whR3 : whR c tb D 3 σ H = c σ H fun b H1 => cIf (tb ⟨whR c tb D 2, D.rt, D.nx, whR c tb D 2⟩ σ H1) (D.nx σ H1) b .mk .mk := propext Iff.rfl
@[simp ↓] theorem e_tWhU {n : Nat} : tWhU n c tb D σ H = whR c tb D n σ H := propext Iff.rfl
end
/-- what a walk hands on at turn i -/
abbrev Yld : Type := Nat → Hp → (V → Hp → Prop) → Prop
def yL (xs : List V) : Yld := fun i H k => oV (fun x => k x H) xs[i]? .mk
def yP (xs ys : List V) : Yld := fun i H k => oV (fun x => oV (fun y => Al k H (.tup [x, y]) .mk) ys[i]? .mk) xs[i]? .mk
def yE (xs : List V) : Yld := fun i H k => oV (fun x => Al k H (.tup [.int (i : Nat), x]) .mk) xs[i]? .mk
def yS (z : Str) : Yld := fun i H k => oV (fun c => k (.str ⟨#[c]⟩) H) z.cps[i]? .mk
def yK (kvs : List (Key × V)) : Yld := fun i H k => oV (fun kv => k (kV kv.1) H) kvs[i]? .mk
def yI (kvs : List (Key × V)) : Yld := fun i H k => oV (fun kv => Al k H (.tup [kV kv.1, kv.2]) .mk) kvs[i]? .mk
/-- it is a walk that hands this on -/
structure WalkY (J : It) (n : Nat) (G : Hp → Prop) (Y : Yld) : Prop where
  goes : ∀ i H, i < n → G H → J.go i H
  stops : ∀ H, G H → J.stop n H
  yields : ∀ i H x H' k, i < n → G H → J.yld i H x H' → Y i H k → k x H'
theorem walkY {J : It} {n : Nat} {G : Hp → Prop} {Y : Nat → Hp → V → Hp → Prop} {Z : Yld} (w : Walk J n G Y) (h : ∀ i H x H' k, i < n → Y i H x H' → Z i H k → k x H') : WalkY J n G Z :=
  ⟨w.goes, w.stops, fun i H x H' k hi g y z => h i H x H' k hi (w.yields i H x H' hi g y) z⟩
section
variable {K : PySem.W.Frag} {a b d : Addr} {xs ys : List V} {o : Obj} {kvs : List (Key × V)} {z : Str}
theorem yat {i : Nat} {H H' : Hp} {x : V} {k : V → Hp → Prop} (y : YAt xs i H x H') (q : yL xs i H k) : k x H' := by
  obtain ⟨rfl, e⟩ := y
  obtain ⟨v, e2, q⟩ := oV_inv q
  rw [e] at e2
  cases e2
  exact q
theorem wy_list : WalkY (Itl K a) xs.length (fun H => SqL K H a xs) (yL xs) := walkY walk_list fun _ _ _ _ _ _ y q => yat y q
theorem wy_tup : WalkY (Itt K a) xs.length (fun H => SqT K H a xs) (yL xs) := walkY walk_tup fun _ _ _ _ _ _ y q => yat y q
theorem wy_str : WalkY (Its z) z.cps.size (fun _ => True) (yS z) := walkY walk_str fun i H x H' k _ y q => by
  obtain ⟨rfl, c, e, rfl⟩ := y
  obtain ⟨v, e2, q⟩ := oV_inv q
  rw [e] at e2
  cases e2
  exact q
theorem wy_keys : WalkY (Itk d o kvs) kvs.length (fun H => H d = some (.frz o (.dK kvs))) (yK kvs) := walkY walk_keys fun i H x H' k _ y q => by
  obtain ⟨rfl, k', v, e, rfl⟩ := y
  obtain ⟨p, e2, q⟩ := oV_inv q
  rw [e] at e2
  cases e2
  exact q
theorem wy_enum : WalkY (Ite K a) xs.length (fun H => SqL K H a xs) (yE xs) := walkY walk_enum fun i H v H' k _ y q => by
  obtain ⟨T, x, y, rfl, hn, rfl, e1, e2⟩ := y
  cases e1
  have e2 : xs[i]? = some y := e2
  obtain ⟨x', e3, q⟩ := oV_inv q
  rw [e2] at e3
  cases e3
  exact q T hn
theorem wy_items : WalkY (Iti d o kvs) kvs.length (fun H => H d = some (.frz o (.dK kvs))) (yI kvs) := walkY walk_items fun i H v H' k _ y q => by
  obtain ⟨T, x, y, rfl, hn, rfl, e1, e2⟩ := y
  obtain ⟨kv, e3, q⟩ := oV_inv q
  have e1 : kvs[i]?.map (fun kv => kV kv.1) = some x := e1
  have e2 : kvs[i]?.map Prod.snd = some y := e2
  rw [e3] at e1 e2
  cases e1
  cases e2
  exact q T hn
theorem wy_zip {n : Nat} (hn : n = min xs.length ys.length) : WalkY (Itz K a b) n (fun H => SqL K H a xs ∧ SqL K H b ys) (yP xs ys) := walkY (walk_zip hn) fun i H v H' k _ y q => by
  obtain ⟨T, x, y, rfl, hn, rfl, e1, e2⟩ := y
  have e1 : xs[i]? = some x := e1
  have e2 : ys[i]? = some y := e2
  obtain ⟨x', e3, q⟩ := oV_inv q
  rw [e1] at e3
  cases e3
  obtain ⟨y', e3, q⟩ := oV_inv q
  rw [e2] at e3
  cases e3
  exact q T hn
end
/-- a for, turn by turn: n turns in all, r of them left -/
def foR (Y : Yld) (G : Hp → Prop) (g : TG) (tb : TS) (D : Ends) (n : Nat) : Nat → List (Option V) → Hp → Prop
  | 0, σ, H => cAnd (D.nx σ H) (G H) .mk
  | r + 1, σ, H => cAnd (Y (n - (r + 1)) H fun x H' => g x σ H' fun σ2 H2 => tb ⟨foR Y G g tb D n r, D.rt, D.nx, foR Y G g tb D n r⟩ σ2 H2) (G H) .mk
theorem for_unr {J : It} {n : Nat} {G : Hp → Prop} {Y : Yld} (w : WalkY J n G Y) {g : TG} {tb : TS} {D : Ends} {σ : List (Option V)} {H : Hp} (h : foR Y G g tb D n n σ H) :
    ∃ W : Nat → Nat → List (Option V) → Hp → Prop, (∃ m, W 0 m σ H) ∧ ∀ i m σ H, W i m σ H →
      (J.stop i H ∧ D.nx σ H) ∨ (J.go i H ∧ ∃ N : List (Option V) → Hp → Prop, (∀ σ' H', N σ' H' → ∃ m', m' < m ∧ W (i + 1) m' σ' H') ∧ ∀ x H', J.yld i H x H' → g x σ H' fun σ2 H2 => tb { D with nx := N, ct := N, bk := D.nx } σ2 H2) := by
  refine ⟨fun i m σ H => i + m = n ∧ foR Y G g tb D n m σ H, ⟨n, Nat.zero_add n, h⟩, ?_⟩
  rintro i m σ H ⟨e, q⟩
  cases m with
  | zero =>
    obtain ⟨q1, q2⟩ := q
    have e : i = n := e
    subst e
    exact .inl ⟨w.stops H q1, q2⟩
  | succ m =>
    obtain ⟨q1, q2⟩ := q
    have lt : i < n := by omega
    have ei : n - (m + 1) = i := by omega
    rw [ei] at q2
    exact .inr ⟨w.goes i H lt q1, foR Y G g tb D n m, fun σ' H' p => ⟨m, Nat.lt_succ_self m, by omega, p⟩, fun x H' y => w.yields i H x H' _ lt q1 y q2⟩
/-! ### readings made monotone -/
def tM (t : TE) : TE := fun σ H Q => ∃ Q0 : VK, t σ H Q0 ∧ ∀ v H', Q0 v H' → Q v H'
theorem pe_M {X : Cx} {e : Expr} {t : TE} (h : PE X e t) : PE X e (tM t) := by
  refine ⟨fun pins s σ H Q I q => ?_⟩
  obtain ⟨Q0, q, m⟩ := q
  exact thn (h.run pins s σ H Q0 I q) fun u s1 ⟨v, H1, I1, r, z⟩ => ⟨v, H1, I1, r, m v H1 z⟩
def taM (t : TA) : TA := fun σ H Q => ∃ Q0 : List V → Hp → Prop, t σ H Q0 ∧ ∀ v H', Q0 v H' → Q v H'
theorem pa_M {X : Cx} {e : List Expr} {t : TA} (h : PA X e t) : PA X e (taM t) := by
  refine ⟨fun pos pins s σ H Q I q => ?_⟩
  obtain ⟨Q0, q, m⟩ := q
  exact thn (h.run pos pins s σ H Q0 I q) fun u s1 ⟨v, H1, I1, r, z⟩ => ⟨v, H1, I1, r, m v H1 z⟩
def ttM (t : TT) : TT := fun σ H Q => ∃ Q0 : Bool → Hp → Prop, t σ H Q0 ∧ ∀ v H', Q0 v H' → Q v H'
theorem pts_M {X : Cx} {e : List Expr} {t : TT} (h : PTs X e t) : PTs X e (ttM t) := by
  refine ⟨fun pins s σ H Q I q => ?_⟩
  obtain ⟨Q0, q, m⟩ := q
  exact thn (h.run pins s σ H Q0 I q) fun u s1 ⟨H1, I1, z⟩ => ⟨H1, I1, m u H1 z⟩
def gM (g : TG) : TG := fun v σ H Q => ∃ Q0 : List (Option V) → Hp → Prop, g v σ H Q0 ∧ ∀ σ' H', Q0 σ' H' → Q σ' H'
theorem pg_M {X : Cx} {tg : Expr} {g : TG} (h : PG X tg g) : PG X tg (gM g) :=
  ⟨by
    intro pins s σ H v u Q I r q
    obtain ⟨Q0, q, m⟩ := q
    exact thn (h.run pins s σ H v u Q0 I r q) fun _ s1 ⟨σ', H1, I1, z⟩ => ⟨σ', H1, I1, m σ' H1 z⟩⟩
/-! ### what is walked: how many turns, what must stand, what is handed on -/
abbrev TIY : Type := List (Option V) → Hp → ((n : Nat) → (Hp → Prop) → Yld → Hp → Prop) → Prop
def PIY (X : Cx) (tg iter : Expr) (wy : TIY) : Prop := PI X tg iter fun σ H R => ∃ R0 : (n : Nat) → (Hp → Prop) → Yld → Hp → Prop, wy σ H R0 ∧ ∀ n G Y H1, R0 n G Y H1 → ∀ J, WalkY J n G Y → R J H1
theorem PI.imp {X : Cx} {tg iter : Expr} {w w' : TI} (h : PI X tg iter w) (g : ∀ σ H R, w' σ H R → w σ H R) : PI X tg iter w' := ⟨fun pins s σ H R I q => h.run pins s σ H R I (g σ H R q)⟩
section
variable {X : Cx} {tg e e2 : Expr} {te : TE} {ta : TA} {p pos tpos apos cpos : Pos} {elts : List Expr} {kk : Nat}
def wL (K : PySem.W.Frag) (te : TE) : TIY := fun σ H k => te σ H fun x H1 => rR (fun a => oL (fun xs => k xs.length (fun H => SqL K H a xs) (yL xs) H1) (H1 a) .mk) x .mk
theorem piy_list (h : PE X e te) : PIY X tg e (wL X.K te) := PI.imp (pi_list (pe_M h)) fun σ H R ⟨R0, q, m⟩ => ⟨_, q, fun x H1 q => by
  obtain ⟨a, rfl, q⟩ := rR_inv (f := .mk) q
  obtain ⟨xs, e, q⟩ := oL_inv (f := .mk) q
  exact ⟨a, rfl, ⟨xs, SqL.of e⟩, m _ _ _ _ q _ wy_list⟩⟩
def wT (K : PySem.W.Frag) (te : TE) : TIY := fun σ H k => te σ H fun x H1 => rR (fun a => oT (fun xs => k xs.length (fun H => SqT K H a xs) (yL xs) H1) (H1 a) .mk) x .mk
theorem piy_tup (h : PE X e te) : PIY X tg e (wT X.K te) := PI.imp (pi_tup (pe_M h)) fun σ H R ⟨R0, q, m⟩ => ⟨_, q, fun x H1 q => by
  obtain ⟨a, rfl, q⟩ := rR_inv (f := .mk) q
  obtain ⟨xs, e, q⟩ := oT_inv (f := .mk) q
  exact ⟨a, rfl, ⟨xs, SqT.of e⟩, m _ _ _ _ q _ wy_tup⟩⟩
/-- a text -/
def sR (k : Str → Prop) (x : V) (_ : Fx k) : Prop := match x with
  | .str z => k z
  | _ => False
@[simp ↓] theorem f_sR {z : Str} {k : Str → Prop} {f : Fx k} : sR k (.str z) f = k z := propext Iff.rfl
theorem sR_inv {x : V} {k : Str → Prop} {f : Fx k} (h : sR k x f) : ∃ b, x = .str b ∧ k b := by
  cases x <;> first | exact ⟨_, rfl, h⟩ | exact h.elim
def wS (te : TE) : TIY := fun σ H k => te σ H fun x H1 => sR (fun z => k z.cps.size (fun _ => True) (yS z) H1) x .mk
theorem piy_str (h : PE X e te) : PIY X tg e (wS te) := PI.imp (pi_str (pe_M h)) fun σ H R ⟨R0, q, m⟩ => ⟨_, q, fun x H1 q => by
  obtain ⟨z, rfl, q⟩ := sR_inv (f := .mk) q
  exact ⟨z, rfl, m _ _ _ _ q _ wy_str⟩⟩
/-- what is locked -/
def oF (k : Obj → List (Key × V) → Prop) (o : Option HO) (_ : Fx k) : Prop := match o with
  | some (.frz o (.dK kvs)) => k o kvs
  | _ => False
@[simp] theorem f_oF {k : Obj → List (Key × V) → Prop} {o : Obj} {kvs : List (Key × V)} {f : Fx k} : oF k (some (.frz o (.dK kvs))) f = k o kvs := propext Iff.rfl
theorem oF_inv {o : Option HO} {k : Obj → List (Key × V) → Prop} {f : Fx k} (h : oF k o f) : ∃ ob kvs, o = some (.frz ob (.dK kvs)) ∧ k ob kvs := by
  unfold oF at h
  split at h
  · exact ⟨_, _, rfl, h⟩
  · exact h.elim
def wK (te : TE) : TIY := fun σ H k => te σ H fun x H1 => rR (fun d => oF (fun o kvs => k kvs.length (fun H => H d = some (.frz o (.dK kvs))) (yK kvs) H1) (H1 d) .mk) x .mk
theorem piy_keys (h : PE X e te) : PIY X tg e (wK te) := PI.imp (pi_keys (pe_M h)) fun σ H R ⟨R0, q, m⟩ => ⟨_, q, fun x H1 q => by
  obtain ⟨d, rfl, q⟩ := rR_inv (f := .mk) q
  obtain ⟨o, kvs, e, q⟩ := oF_inv (f := .mk) q
  exact ⟨d, o, rfl, .inl ⟨kvs, e, m _ _ _ _ q _ wy_keys⟩⟩⟩
def wI (te : TE) : TIY := fun σ H k => te σ H fun x H1 => rR (fun d => oF (fun o kvs => k kvs.length (fun H => H d = some (.frz o (.dK kvs))) (yI kvs) H1) (H1 d) .mk) x .mk
theorem piy_items (h : PE X e te) (hbase : attributeBase e "items" X.env (eval e X.env) = eval e X.env := by rfl) (hline : (apos.endLine == cpos.line) = true := by rfl) :
    PIY X (.Tuple elts kk tpos) (.Call (.Attribute e "items" apos) [] [] cpos) (wI te) := PI.imp (pi_items (pe_M h) hbase hline) fun σ H R ⟨R0, q, m⟩ => ⟨_, q, fun x H1 q => by
  obtain ⟨d, rfl, q⟩ := rR_inv (f := .mk) q
  obtain ⟨o, kvs, e, q⟩ := oF_inv (f := .mk) q
  exact ⟨d, o, kvs, rfl, e, m _ _ _ _ q _ wy_items⟩⟩
/-- the arguments, one or two references -/
def r1R (k : Addr → Prop) (vs : List V) (_ : Fx k) : Prop := match vs with
  | [.ref a] => k a
  | _ => False
def r2R (k : Addr → Addr → Prop) (vs : List V) (_ : Fx k) : Prop := match vs with
  | [.ref a, .ref b] => k a b
  | _ => False
@[simp ↓] theorem f_r1R {a : Addr} {k : Addr → Prop} {f : Fx k} : r1R k [.ref a] f = k a := propext Iff.rfl
@[simp ↓] theorem f_r2R {a b : Addr} {k : Addr → Addr → Prop} {f : Fx k} : r2R k [.ref a, .ref b] f = k a b := propext Iff.rfl
theorem r1R_inv {vs : List V} {k : Addr → Prop} {f : Fx k} (h : r1R k vs f) : ∃ a, vs = [.ref a] ∧ k a := by
  unfold r1R at h
  split at h
  · exact ⟨_, rfl, h⟩
  · exact h.elim
theorem r2R_inv {vs : List V} {k : Addr → Addr → Prop} {f : Fx k} (h : r2R k vs f) : ∃ a b, vs = [.ref a, .ref b] ∧ k a b := by
  unfold r2R at h
  split at h
  · exact ⟨_, _, rfl, h⟩
  · exact h.elim
def wE (K : PySem.W.Frag) (ta : TA) : TIY := fun σ H k => ta σ H fun vs H1 => r1R (fun a => oL (fun xs => k xs.length (fun H => SqL K H a xs) (yE xs) H1) (H1 a) .mk) vs .mk
theorem piy_enum (hm : X.mg "enumerate" = none) (ha : PA X [e] ta) (hg : Gl X "enumerate" := by rfl) (hs : starEach [e] X.env = [(false, eval e X.env)] := by rfl) :
    PIY X (.Tuple elts kk tpos) (.Call (.Name "enumerate" p) [e] [] pos) (wE X.K ta) := PI.imp (pi_enum hg hm (pa_M ha) hs) fun σ H R ⟨R0, q, m⟩ => ⟨_, q, fun x H1 q => by
  obtain ⟨a, rfl, q⟩ := r1R_inv (f := .mk) q
  obtain ⟨xs, e, q⟩ := oL_inv (f := .mk) q
  exact ⟨a, xs, rfl, SqL.of e, m _ _ _ _ q _ wy_enum⟩⟩
def wZ (K : PySem.W.Frag) (ta : TA) : TIY := fun σ H k => ta σ H fun vs H1 => r2R (fun a b => oL (fun xs => oL (fun ys => k (min xs.length ys.length) (fun H => SqL K H a xs ∧ SqL K H b ys) (yP xs ys) H1) (H1 b) .mk) (H1 a) .mk) vs .mk
theorem piy_zip (hm : X.mg "zip" = none) (ha : PA X [e, e2] ta) (hg : Gl X "zip" := by rfl) (hs : starEach [e, e2] X.env = (false, eval e X.env) :: starEach [e2] X.env := by rfl) (hpl : (backTo pos (starEach [e2] X.env)).any (·.1) = false := by rfl) :
    PIY X (.Tuple elts kk tpos) (.Call (.Name "zip" p) [e, e2] [] pos) (wZ X.K ta) := PI.imp (pi_zip hg hm (pa_M ha) hs hpl) fun σ H R ⟨R0, q, m⟩ => ⟨_, q, fun x H1 q => by
  obtain ⟨a, b, rfl, q⟩ := r2R_inv (f := .mk) q
  obtain ⟨xs, e, q⟩ := oL_inv (f := .mk) q
  obtain ⟨ys, e2, q⟩ := oL_inv (f := .mk) q
  exact ⟨a, b, xs, ys, rfl, SqL.of e, SqL.of e2, m _ _ _ _ q _ (wy_zip rfl)⟩⟩
end
/-! ### a for, turn by turn -/
def tFoY (wy : TIY) (g : TG) (tb : TS) : TS := fun D σ H => wy σ H fun n G Y H1 => foR Y G g tb D n n σ H1
theorem ps_foY {X : Cx} {pos : Pos} {tg iter : Expr} {body : List Stmt} {wy : TIY} {g : TG} {tb : TS} (hp : PassesOwn (model X.prog X.w) X.A X.env X.xe) (hc : X.calm = true) (hi : PIY X tg iter wy) (hg : PG X tg g) (hb : PSs X body tb) (hs : ∀ x, foldedSetIterable iter X.env x = pure x := by intro _; rfl) : PS X (.For tg iter body [] pos) (tFoY wy g tb) :=
  PS.imp (ps_for hp hc hi hg hb hs) fun D σ H q => ⟨_, q, fun n G Y H1 q J w => for_unr w q⟩
/-! ### comprehensions, turn by turn -/
/-- a new place -/
def ND (k : Addr → Prop) (H : Hp) (_ : Fx k) : Prop := ∀ D, H D = none → k D
theorem newD {k : Addr → Prop} {H : Hp} {f : Fx k} (h : ∀ D, H D = none → k D) : ND k H f := h
def lcR (Y : Yld) (G : Hp → Prop) (g : TG) (tt : TT) (te : TE) (vs : List Nat) (σ : List (Option V)) (D : Addr) (Qd : Hp → Prop) (n : Nat) : Nat → Hp → Prop
  | 0, H => cAnd (Qd H) (G H) .mk
  | r + 1, H => cAnd (Y (n - (r + 1)) H fun x H' => g x (wipe σ vs) H' fun σ2 H2 => cAnd (tt σ2 H2 fun b H3 =>
      cIf (te σ2 H3 fun y H4 => oL (fun acc => cAnd (lcR Y G g tt te vs σ D Qd n r (upd H4 D (.lst (acc ++ [y])))) (acc.length < sizeLine) .mk) (H4 D) .mk) (lcR Y G g tt te vs σ D Qd n r H3) b .mk .mk) (wipe σ2 vs = wipe σ vs) .mk) (G H) .mk
theorem lc_unr {J : It} {n : Nat} {G : Hp → Prop} {Y : Yld} (w : WalkY J n G Y) {g : TG} {tt : TT} {te : TE} {vs : List Nat} {σ : List (Option V)} {H1 : Hp} {D : Addr} {Qd : Hp → Prop} (h : lcR Y G g tt te vs σ D Qd n n (upd H1 D (.lst []))) :
    ∃ W : Nat → Nat → Hp → Prop, (∃ m, W 0 m (upd H1 D (.lst []))) ∧ ∀ i m H, W i m H →
      (J.stop i H ∧ Qd H) ∨ (J.go i H ∧ ∃ Nx : Hp → Prop, (∀ H', Nx H' → ∃ m', m' < m ∧ W (i + 1) m' H') ∧ ∀ x H', J.yld i H x H' → gM g x (wipe σ vs) H' fun σ2 H2 => wipe σ2 vs = wipe σ vs ∧ ttM tt σ2 H2 fun b H3 =>
        if b = true then tM te σ2 H3 fun y H4 => ∃ acc, H4 D = some (.lst acc) ∧ acc.length < sizeLine ∧ Nx (upd H4 D (.lst (acc ++ [y]))) else Nx H3) := by
  refine ⟨fun i m H => i + m = n ∧ lcR Y G g tt te vs σ D Qd n m H, ⟨n, Nat.zero_add n, h⟩, ?_⟩
  rintro i m H ⟨e, q⟩
  cases m with
  | zero =>
    obtain ⟨q1, q2⟩ := q
    have e : i = n := e
    subst e
    exact .inl ⟨w.stops H q1, q2⟩
  | succ m =>
    obtain ⟨q1, q2⟩ := q
    have lt : i < n := by omega
    have ei : n - (m + 1) = i := by omega
    rw [ei] at q2
    refine .inr ⟨w.goes i H lt q1, lcR Y G g tt te vs σ D Qd n m, fun H' p => ⟨m, Nat.lt_succ_self m, by omega, p⟩, fun x H' y => ?_⟩
    refine ⟨_, w.yields i H x H' _ lt q1 y q2, fun σ2 H2 q3 => ?_⟩
    obtain ⟨ew, q3⟩ := q3
    refine ⟨ew, _, q3, fun b H3 q4 => ?_⟩
    cases b with
    | false => simpa using q4
    | true =>
      rw [f_cIft] at q4
      rw [if_pos rfl]
      refine ⟨_, q4, fun y H4 q5 => ?_⟩
      obtain ⟨acc, e5, q6, q7⟩ := oL_inv (f := .mk) q5
      exact ⟨acc, e5, q6, q7⟩
def tLcY (wy : TIY) (g : TG) (tt : TT) (te : TE) (vs : List Nat) : TE := fun σ H Q => wy σ H fun n G Y H1 => ∀ D, H1 D = none → lcR Y G g tt te vs σ D (fun H => Q (.ref D) H) n n (upd H1 D (.lst []))
theorem pe_lcY {X : Cx} {elt tg iter : Expr} {ifs : List Expr} {scope : Scope} {own : List (Str × Nat)} {pos : Pos} {wy : TIY} {g : TG} {tt : TT} {te : TE} (hc : X.calm = true) (hN : X.N.Nodup) (hi : PIY X tg iter wy) (ok : BlkOk X.N X.env.scope scope own)
    (hg : ∀ (s : Shared) (H : Hp) (C : Addr) (cl : List (Str × Addr)) (fp : List Addr), PG (X.blk s H scope (compEnvC scope cl C X.env) fp) tg g) (ht : ∀ (s : Shared) (H : Hp) (C : Addr) (cl : List (Str × Addr)) (fp : List Addr), PTs (X.blk s H scope (compEnvC scope cl C X.env) fp) ifs tt)
    (he : ∀ (s : Shared) (H : Hp) (C : Addr) (cl : List (Str × Addr)) (fp : List Addr), PE (X.blk s H scope (compEnvC scope cl C X.env) fp) elt te) (hs : ∀ x, foldedSetIterable iter X.env x = pure x := by intro _; rfl) :
    PE X (.ListComp elt [⟨tg, iter, ifs, 0⟩] scope pos) (tLcY wy g tt te (own.map (·.2))) :=
  PE.imp (pe_lc hc hN hi ok (fun s H C cl fp => pg_M (hg s H C cl fp)) (fun s H C cl fp => pts_M (ht s H C cl fp)) (fun s H C cl fp => pe_M (he s H C cl fp)) hs) fun σ H Q q =>
    ⟨_, q, fun n G Y H1 q J w D nD => lc_unr w (q D nD)⟩
section
variable {Y : Yld} {G : Hp → Prop} {g : TG} {tb : TS} {D : Ends} {n : Nat} {σ : List (Option V)} {H : Hp} {tt : TT} {te : TE} {vs : List Nat} {d : Addr} {Qd : Hp → Prop} {wy : TIY} {Q : VK} {K : PySem.W.Frag} {ta : TA} {k : (n : Nat) → (Hp → Prop) → Yld → Hp → Prop}
@[simp ↓] theorem e_wL : wL K te σ H k = te σ H fun x H1 => rR (fun a => oL (fun xs => k xs.length (fun H => SqL K H a xs) (yL xs) H1) (H1 a) .mk) x .mk := propext Iff.rfl
@[simp ↓] theorem e_wT : wT K te σ H k = te σ H fun x H1 => rR (fun a => oT (fun xs => k xs.length (fun H => SqT K H a xs) (yL xs) H1) (H1 a) .mk) x .mk := propext Iff.rfl
@[simp ↓] theorem e_wS : wS te σ H k = te σ H fun x H1 => sR (fun z => k z.cps.size (fun _ => True) (yS z) H1) x .mk := propext Iff.rfl
@[simp ↓] theorem e_wK : wK te σ H k = te σ H fun x H1 => rR (fun d => oF (fun o kvs => k kvs.length (fun H => H d = some (.frz o (.dK kvs))) (yK kvs) H1) (H1 d) .mk) x .mk := propext Iff.rfl
@[simp ↓] theorem e_wI : wI te σ H k = te σ H fun x H1 => rR (fun d => oF (fun o kvs => k kvs.length (fun H => H d = some (.frz o (.dK kvs))) (yI kvs) H1) (H1 d) .mk) x .mk := propext Iff.rfl
@[simp ↓] theorem e_wE : wE K ta σ H k = ta σ H fun vs H1 => r1R (fun a => oL (fun xs => k xs.length (fun H => SqL K H a xs) (yE xs) H1) (H1 a) .mk) vs .mk := propext Iff.rfl
@[simp ↓] theorem e_wZ : wZ K ta σ H k = ta σ H fun vs H1 => r2R (fun a b => oL (fun xs => oL (fun ys => k (min xs.length ys.length) (fun H => SqL K H a xs ∧ SqL K H b ys) (yP xs ys) H1) (H1 b) .mk) (H1 a) .mk) vs .mk := propext Iff.rfl
@[simp ↓] theorem e_yL {xs : List V} {i : Nat} {k : V → Hp → Prop} : yL xs i H k = oV (fun x => k x H) xs[i]? .mk := propext Iff.rfl
@[simp ↓] theorem e_yP {xs ys : List V} {i : Nat} {k : V → Hp → Prop} : yP xs ys i H k = oV (fun x => oV (fun y => Al k H (.tup [x, y]) .mk) ys[i]? .mk) xs[i]? .mk := propext Iff.rfl
@[simp ↓] theorem e_yE {xs : List V} {i : Nat} {k : V → Hp → Prop} : yE xs i H k = oV (fun x => Al k H (.tup [.int (i : Nat), x]) .mk) xs[i]? .mk := propext Iff.rfl
@[simp ↓] theorem e_yS {z : Str} {i : Nat} {k : V → Hp → Prop} : yS z i H k = oV (fun c => k (.str ⟨#[c]⟩) H) z.cps[i]? .mk := propext Iff.rfl
@[simp ↓] theorem e_yK {kvs : List (Key × V)} {i : Nat} {k : V → Hp → Prop} : yK kvs i H k = oV (fun kv => k (kV kv.1) H) kvs[i]? .mk := propext Iff.rfl
@[simp ↓] theorem e_yI {kvs : List (Key × V)} {i : Nat} {k : V → Hp → Prop} : yI kvs i H k = oV (fun kv => Al k H (.tup [kV kv.1, kv.2]) .mk) kvs[i]? .mk := propext Iff.rfl
@[simp ↓] theorem e_tFoY : tFoY wy g tb D σ H = wy σ H fun n G Y H1 => foR Y G g tb D n n σ H1 := propext Iff.rfl
@[simp ↓] theorem e_tLcY : tLcY wy g tt te vs σ H Q = wy σ H fun n G Y H1 => ND (fun D => lcR Y G g tt te vs σ D (fun H => Q (.ref D) H) n n (upd H1 D (.lst []))) H1 .mk := propext Iff.rfl
@[simp ↓] theorem e_tYes {QB : Bool → Hp → Prop} : tYes σ H QB = QB true H := propext Iff.rfl
theorem e_foRs {r : Nat} : foR Y G g tb D n (r + 1) σ H = cAnd (Y (n - (r + 1)) H fun x H' => g x σ H' fun σ2 H2 => tb ⟨foR Y G g tb D n r, D.rt, D.nx, foR Y G g tb D n r⟩ σ2 H2) (G H) .mk := propext Iff.rfl
theorem e_lcRs {r : Nat} : lcR Y G g tt te vs σ d Qd n (r + 1) H = cAnd (Y (n - (r + 1)) H fun x H' => g x (wipe σ vs) H' fun σ2 H2 => cAnd (tt σ2 H2 fun b H3 =>
      cIf (te σ2 H3 fun y H4 => oL (fun acc => cAnd (lcR Y G g tt te vs σ d Qd n r (upd H4 d (.lst (acc ++ [y])))) (acc.length < sizeLine) .mk) (H4 d) .mk) (lcR Y G g tt te vs σ d Qd n r H3) b .mk .mk) (wipe σ2 vs = wipe σ vs) .mk) (G H) .mk := propext Iff.rfl
@[simp ↓] theorem e_foR0 : foR Y G g tb D n 0 σ H = cAnd (D.nx σ H) (G H) .mk := propext Iff.rfl
@[simp ↓] theorem e_foR1 : foR Y G g tb D n 1 σ H = cAnd (Y (n - 1) H fun x H' => g x σ H' fun σ2 H2 => tb ⟨foR Y G g tb D n 0, D.rt, D.nx, foR Y G g tb D n 0⟩ σ2 H2) (G H) .mk := propext Iff.rfl
@[simp ↓] theorem e_foR2 : foR Y G g tb D n 2 σ H = cAnd (Y (n - 2) H fun x H' => g x σ H' fun σ2 H2 => tb ⟨foR Y G g tb D n 1, D.rt, D.nx, foR Y G g tb D n 1⟩ σ2 H2) (G H) .mk := propext Iff.rfl
@[simp ↓] theorem e_foR3 : foR Y G g tb D n 3 σ H = cAnd (Y (n - 3) H fun x H' => g x σ H' fun σ2 H2 => tb ⟨foR Y G g tb D n 2, D.rt, D.nx, foR Y G g tb D n 2⟩ σ2 H2) (G H) .mk := propext Iff.rfl
@[simp ↓] theorem e_lcR0 : lcR Y G g tt te vs σ d Qd n 0 H = cAnd (Qd H) (G H) .mk := propext Iff.rfl
@[simp ↓] theorem e_lcR1 : lcR Y G g tt te vs σ d Qd n 1 H = cAnd (Y (n - 1) H fun x H' => g x (wipe σ vs) H' fun σ2 H2 => cAnd (tt σ2 H2 fun b H3 => cIf (te σ2 H3 fun y H4 => oL (fun acc => cAnd (lcR Y G g tt te vs σ d Qd n 0 (upd H4 d (.lst (acc ++ [y])))) (acc.length < sizeLine) .mk) (H4 d) .mk) (lcR Y G g tt te vs σ d Qd n 0 H3) b .mk .mk) (wipe σ2 vs = wipe σ vs) .mk) (G H) .mk := propext Iff.rfl
@[simp ↓] theorem e_lcR2 : lcR Y G g tt te vs σ d Qd n 2 H = cAnd (Y (n - 2) H fun x H' => g x (wipe σ vs) H' fun σ2 H2 => cAnd (tt σ2 H2 fun b H3 => cIf (te σ2 H3 fun y H4 => oL (fun acc => cAnd (lcR Y G g tt te vs σ d Qd n 1 (upd H4 d (.lst (acc ++ [y])))) (acc.length < sizeLine) .mk) (H4 d) .mk) (lcR Y G g tt te vs σ d Qd n 1 H3) b .mk .mk) (wipe σ2 vs = wipe σ vs) .mk) (G H) .mk := propext Iff.rfl
@[simp ↓] theorem e_lcR3 : lcR Y G g tt te vs σ d Qd n 3 H = cAnd (Y (n - 3) H fun x H' => g x (wipe σ vs) H' fun σ2 H2 => cAnd (tt σ2 H2 fun b H3 => cIf (te σ2 H3 fun y H4 => oL (fun acc => cAnd (lcR Y G g tt te vs σ d Qd n 2 (upd H4 d (.lst (acc ++ [y])))) (acc.length < sizeLine) .mk) (H4 d) .mk) (lcR Y G g tt te vs σ d Qd n 2 H3) b .mk .mk) (wipe σ2 vs = wipe σ vs) .mk) (G H) .mk := propext Iff.rfl
@[simp] theorem e_wipe0 : wipe σ [] = σ := rfl
@[simp] theorem e_wipe1 {v : Nat} {vs : List Nat} : wipe σ (v :: vs) = (wipe σ vs).set v none := rfl
end
theorem pip {X : Cx} {op : Operator} {r : R2} (h : OpR X (inplaceOp op) r) : PIp X op r := fun pins s σ H x y v u Q I rx ry q => h pins s σ H x y v u Q I rx ry q
end K95

set_option maxRecDepth 100000
set_option maxHeartbeats 4000000
namespace K95
open PySem PySem.Spec PyProof.Rows L2
/-! ### heaps, for simp -/
@[simp] theorem upd_sm {H : Hp} {a : Addr} {o : HO} : upd H a o a = some o := upd_same
@[simp] theorem upd_up {H : Hp} {a : Addr} {o u : HO} : upd (upd H a o) a u = upd H a u := upd_upd
@[simp] theorem upd_kp {H : Hp} {a p : Addr} {o : HO} (n : H p = none) (h : (H a).isSome = true) : upd H p o a = H a := by
  refine upd_ne ?_
  rintro rfl
  rw [n] at h
  cases h
@[simp] theorem sqL_of {K : PySem.W.Frag} {H : Hp} {a : Addr} {xs : List V} (h : H a = some (.lst xs)) : SqL K H a xs = True := eq_true (SqL.of h)
@[simp] theorem sqT_of {K : PySem.W.Frag} {H : Hp} {a : Addr} {xs : List V} (h : H a = some (.tup xs)) : SqT K H a xs = True := eq_true (SqT.of h)
/-! ### items of written lists -/
section
variable {α : Type} {a b c d : α} {l : List α}
@[simp] theorem e_at0 : atI (a :: l) 0 = some a := atI_nat (j := 0) rfl
@[simp] theorem e_at1 : atI (a :: b :: l) 1 = some b := atI_nat (j := 1) rfl
@[simp] theorem e_at2 : atI (a :: b :: c :: l) 2 = some c := atI_nat (j := 2) rfl
@[simp] theorem e_at3 : atI (a :: b :: c :: d :: l) 3 = some d := atI_nat (j := 3) rfl
@[simp] theorem e_atm1 : atI [a] (-1) = some a := rfl
@[simp] theorem e_atm2 : atI [a, b] (-1) = some b := rfl
@[simp] theorem e_atm3 : atI [a, b, c] (-1) = some c := rfl
@[simp] theorem e_atm4 : atI [a, b, c, d] (-1) = some d := rfl
theorem e_atl {xs : List α} : atI (xs ++ [a]) (-1) = some a := atI_last xs a
end
/-! ### texts -/
def s2R (k : Str → Str → Prop) (x y : V) (_ : Fx k) : Prop := match x, y with
  | .str i, .str j => k i j
  | _, _ => False
@[simp ↓] theorem f_s2R {i j : Str} {k : Str → Str → Prop} {f : Fx k} : s2R k (.str i) (.str j) f = k i j := propext Iff.rfl
theorem s2R_inv {x y : V} {k : Str → Str → Prop} {f : Fx k} (h : s2R k x y f) : ∃ i j, x = .str i ∧ y = .str j ∧ k i j := by
  unfold s2R at h
  split at h
  · exact ⟨_, _, rfl, rfl, h⟩
  · exact h.elim
/-- one text as an argument -/
def sa1 (k : Str → Prop) (vs : List V) (_ : Fx k) : Prop := match vs with
  | [.str i] => k i
  | _ => False
@[simp ↓] theorem f_sa1 {i : Str} {k : Str → Prop} {f : Fx k} : sa1 k [.str i] f = k i := propext Iff.rfl
theorem sa1_inv {vs : List V} {k : Str → Prop} {f : Fx k} (h : sa1 k vs f) : ∃ i, vs = [.str i] ∧ k i := by
  unfold sa1 at h
  split at h
  · exact ⟨_, rfl, h⟩
  · exact h.elim
/-- a dict to be read: as it is, or locked -/
def oR (k : List (Key × V) → Prop) (o : Option HO) (_ : Fx k) : Prop := match o with
  | some (.dK kvs) => k kvs
  | some (.frz _ (.dK kvs)) => k kvs
  | _ => False
@[simp] theorem f_oR {kvs : List (Key × V)} {k : List (Key × V) → Prop} {f : Fx k} : oR k (some (.dK kvs)) f = k kvs := propext Iff.rfl
@[simp] theorem f_oRf {ob : Obj} {kvs : List (Key × V)} {k : List (Key × V) → Prop} {f : Fx k} : oR k (some (.frz ob (.dK kvs))) f = k kvs := propext Iff.rfl
theorem oR_inv {H : Hp} {a : Addr} {k : List (Key × V) → Prop} {f : Fx k} (h : oR k (H a) f) : ∃ kvs, Rd H a (.dK kvs) ∧ k kvs := by
  unfold oR at h
  split at h
  · rename_i e; exact ⟨_, .inl e, h⟩
  · rename_i e; exact ⟨_, .inr ⟨_, e⟩, h⟩
  · exact h.elim
/-- a list or a tuple -/
def oS (k : List V → Prop) (o : Option HO) (_ : Fx k) : Prop := match o with
  | some (.lst xs) => k xs
  | some (.tup xs) => k xs
  | _ => False
@[simp] theorem f_oSl {xs : List V} {k : List V → Prop} {f : Fx k} : oS k (some (.lst xs)) f = k xs := propext Iff.rfl
@[simp] theorem f_oSt {xs : List V} {k : List V → Prop} {f : Fx k} : oS k (some (.tup xs)) f = k xs := propext Iff.rfl
theorem oS_inv {K : PySem.W.Frag} {H : Hp} {a : Addr} {k : List V → Prop} {f : Fx k} (h : oS k (H a) f) : ∃ xs, (SqL K H a xs ∨ SqT K H a xs) ∧ k xs := by
  unfold oS at h
  split at h
  · rename_i e; exact ⟨_, .inl (SqL.of e), h⟩
  · rename_i e; exact ⟨_, .inr (SqT.of e), h⟩
  · exact h.elim
/-- a key: a text -/
def kR (k : Str → Prop) (x : V) (f : Fx k) : Prop := sR k x f
section
variable {X : Cx} {K : PySem.W.Frag} {H : Hp} {Q : VK} {x y v : V} {i j z : Str} {a b : Addr} {σ : List (Option V)} {D : Ends} {te ta tb td ty tv tx : TE} {C : Addr} {f m : Str} {e o e2 value : Expr} {es : List Expr} {al : TA} {sp : Sp} {dvs : List V} {E : XK} {n k : Nat} {pos p p2 apos cpos pos' tpos : Pos} {xs : List V}
def rAdd1 : R2 := fun x y H Q => s2R (fun i j => cAnd (Q (.str (i ++ j)) H) (i.length + j.length ≤ sizeLine) .mk) x y .mk
@[simp ↓] theorem e_rAdd1 : rAdd1 x y H Q = s2R (fun i j => cAnd (Q (.str (i ++ j)) H) (i.length + j.length ≤ sizeLine) .mk) x y .mk := propext Iff.rfl
theorem op_addS : OpR X (binaryOp .Add) rAdd1 := fun pins s σ H x y v u Q I rx ry q => op_add_str pins s σ H x y v u Q I rx ry (s2R_inv (f := .mk) q)
theorem iop_addS : OpR X (inplaceOp .Add) rAdd1 := fun pins s σ H x y v u Q I rx ry q => iop_add_str pins s σ H x y v u Q I rx ry (s2R_inv (f := .mk) q)
def rLeS : R2 := fun x y H Q => s2R (fun i j => Q (.bl (!decide (j.cps.toList < i.cps.toList))) H) x y .mk
@[simp ↓] theorem e_rLeS : rLeS x y H Q = s2R (fun i j => Q (.bl (!decide (j.cps.toList < i.cps.toList))) H) x y .mk := propext Iff.rfl
theorem op_leS : OpR X (compareOp .LtE) rLeS := fun pins s σ H x y v u Q I rx ry q => op_le_str pins s σ H x y v u Q I rx ry (s2R_inv (f := .mk) q)
/-- one sign in a text -/
def rInC : R2 := fun x y H Q => s2R (fun i j => oV (fun c => cAnd (Q (.bl (decide (c ∈ j.cps.toList))) H) (i = ⟨#[c]⟩) .mk) i.cps[0]? .mk) x y .mk
@[simp ↓] theorem e_rInC : rInC x y H Q = s2R (fun i j => oV (fun c => cAnd (Q (.bl (decide (c ∈ j.cps.toList))) H) (i = ⟨#[c]⟩) .mk) i.cps[0]? .mk) x y .mk := propext Iff.rfl
theorem op_inC : OpR X (compareOp .In) rInC := fun pins s σ H x y v u Q I rx ry q => op_in_sign pins s σ H x y v u Q I rx ry (by
  obtain ⟨i, j, rfl, rfl, q1⟩ := s2R_inv (f := .mk) q
  obtain ⟨c, _, ei, q2⟩ := oV_inv (f := .mk) q1
  exact ⟨c, j, by rw [ei], rfl, q2⟩)
/-! methods of texts -/
def rStrip : V → List V → Hp → VK → Prop := fun x xs H Q => sR (fun a => sa1 (fun b => cAnd (Q (.str (Txt.stripChars a b)) H) (a.length ≤ sizeLine) .mk) xs .mk) x .mk
@[simp ↓] theorem e_rStrip : rStrip x xs H Q = sR (fun a => sa1 (fun b => cAnd (Q (.str (Txt.stripChars a b)) H) (a.length ≤ sizeLine) .mk) xs .mk) x .mk := propext Iff.rfl
theorem mt_strip1 : MtR X "str.strip" rStrip := fun pins s σ H x xs v us Q I rx rv q => mt_stripChars pins s σ H x xs v us Q I rx rv (by
  obtain ⟨i, rfl, q⟩ := sR_inv (f := .mk) q
  obtain ⟨j, rfl, q⟩ := sa1_inv (f := .mk) q
  exact ⟨i, j, rfl, rfl, q⟩)
def rStarts : V → List V → Hp → VK → Prop := fun x xs H Q => sR (fun a => sa1 (fun b => Q (.bl (Txt.startswith a b)) H) xs .mk) x .mk
@[simp ↓] theorem e_rStarts : rStarts x xs H Q = sR (fun a => sa1 (fun b => Q (.bl (Txt.startswith a b)) H) xs .mk) x .mk := propext Iff.rfl
theorem mt_starts1 : MtR X "str.startswith" rStarts := fun pins s σ H x xs v us Q I rx rv q => mt_startswith pins s σ H x xs v us Q I rx rv (by
  obtain ⟨i, rfl, q⟩ := sR_inv (f := .mk) q
  obtain ⟨j, rfl, q⟩ := sa1_inv (f := .mk) q
  exact ⟨i, j, rfl, rfl, q⟩)
def rEnds : V → List V → Hp → VK → Prop := fun x xs H Q => sR (fun a => sa1 (fun b => Q (.bl (Txt.endswith a b)) H) xs .mk) x .mk
@[simp ↓] theorem e_rEnds : rEnds x xs H Q = sR (fun a => sa1 (fun b => Q (.bl (Txt.endswith a b)) H) xs .mk) x .mk := propext Iff.rfl
theorem mt_ends1 : MtR X "str.endswith" rEnds := fun pins s σ H x xs v us Q I rx rv q => mt_endswith pins s σ H x xs v us Q I rx rv (by
  obtain ⟨i, rfl, q⟩ := sR_inv (f := .mk) q
  obtain ⟨j, rfl, q⟩ := sa1_inv (f := .mk) q
  exact ⟨i, j, rfl, rfl, q⟩)
/-- index of a part that is there -/
def rIdx : V → List V → Hp → VK → Prop := fun x xs H Q => sR (fun a => sa1 (fun b => oV (fun i => Q (.int (i : Nat)) H) (Builtin.Str.occurrences a b 0 a.length 1).head? .mk) xs .mk) x .mk
@[simp ↓] theorem e_rIdx : rIdx x xs H Q = sR (fun a => sa1 (fun b => oV (fun i => Q (.int (i : Nat)) H) (Builtin.Str.occurrences a b 0 a.length 1).head? .mk) xs .mk) x .mk := propext Iff.rfl
theorem mt_idx1 : MtR X "str.index" rIdx := fun pins s σ H x xs v us Q I rx rv q => mt_sindex pins s σ H x xs v us Q I rx rv (by
  obtain ⟨i, rfl, q⟩ := sR_inv (f := .mk) q
  obtain ⟨j, rfl, q⟩ := sa1_inv (f := .mk) q
  obtain ⟨n, e, q⟩ := oV_inv (f := .mk) q
  obtain ⟨r, e⟩ : ∃ r, Builtin.Str.occurrences i j 0 i.length 1 = n :: r := by
    cases h : Builtin.Str.occurrences i j 0 i.length 1 with
    | nil => rw [h] at e; cases e
    | cons b r => rw [h] at e; cases e; exact ⟨r, rfl⟩
  exact ⟨i, j, n, r, rfl, rfl, e, q⟩)
def rSplit : V → List V → Hp → VK → Prop := fun x xs H Q => sR (fun a => sa1 (fun b => cAnd (Al Q H (.lst ((Txt.split a b).map V.str)) .mk) ((b.length == 0) = false ∧ a.length + 2 ≤ sizeLine) .mk) xs .mk) x .mk
@[simp ↓] theorem e_rSplit : rSplit x xs H Q = sR (fun a => sa1 (fun b => cAnd (Al Q H (.lst ((Txt.split a b).map V.str)) .mk) ((b.length == 0) = false ∧ a.length + 2 ≤ sizeLine) .mk) xs .mk) x .mk := propext Iff.rfl
theorem mt_split1 : MtR X "str.split" rSplit := fun pins s σ H x xs v us Q I rx rv q => mt_split pins s σ H x xs v us Q I rx rv (by
  obtain ⟨i, rfl, q⟩ := sR_inv (f := .mk) q
  obtain ⟨j, rfl, ⟨q1, q2⟩, q⟩ := sa1_inv (f := .mk) q
  exact ⟨i, j, rfl, rfl, q1, q2, q⟩)
def rPart : V → List V → Hp → VK → Prop := fun x xs H Q => sR (fun a => sa1 (fun b => cAnd (Al Q H (.tup [.str (Txt.partition a b).1, .str (Txt.partition a b).2.1, .str (Txt.partition a b).2.2]) .mk) ((b.length == 0) = false ∧ a.length ≤ sizeLine) .mk) xs .mk) x .mk
@[simp ↓] theorem e_rPart : rPart x xs H Q = sR (fun a => sa1 (fun b => cAnd (Al Q H (.tup [.str (Txt.partition a b).1, .str (Txt.partition a b).2.1, .str (Txt.partition a b).2.2]) .mk) ((b.length == 0) = false ∧ a.length ≤ sizeLine) .mk) xs .mk) x .mk := propext Iff.rfl
theorem mt_part1 : MtR X "str.partition" rPart := fun pins s σ H x xs v us Q I rx rv q => mt_partition pins s σ H x xs v us Q I rx rv (by
  obtain ⟨i, rfl, q⟩ := sR_inv (f := .mk) q
  obtain ⟨j, rfl, ⟨q1, q2⟩, q⟩ := sa1_inv (f := .mk) q
  exact ⟨i, j, rfl, rfl, q1, q2, q⟩)
/-- the texts of a list -/
def txs : List V → Option (List Str)
  | [] => some []
  | .str z :: r => (txs r).map (z :: ·)
  | _ => none
theorem txs_ok : ∀ {xs : List V} {ys : List Str}, txs xs = some ys → xs = ys.map V.str
  | [], ys, h => by cases h; rfl
  | .str z :: r, ys, h => by
    unfold txs at h
    cases e : txs r with
    | none => rw [e] at h; cases h
    | some zs => rw [e] at h; cases h; rw [txs_ok e]; rfl
  | .non :: _, _, h => nomatch h
  | .bl _ :: _, _, h => nomatch h
  | .int _ :: _, _, h => nomatch h
  | .byt _ :: _, _, h => nomatch h
  | .flt _ :: _, _, h => nomatch h
  | .ref _ :: _, _, h => nomatch h
  | .ty _ :: _, _, h => nomatch h
@[simp] theorem e_txs0 : txs [] = some [] := rfl
@[simp] theorem e_txs1 {r : List V} : txs (.str z :: r) = (txs r).map (z :: ·) := rfl
@[simp] theorem e_txsm : ∀ {ys : List Str}, txs (ys.map V.str) = some ys
  | [] => rfl
  | y :: r => by show (txs (r.map V.str)).map (y :: ·) = _; rw [e_txsm]; rfl
def rJoin : V → List V → Hp → VK → Prop := fun x xs H Q => sR (fun a => r1R (fun p => oS (fun vs => oV (fun ys => cAnd (Q (.str (Txt.join a ys)) H) ((ys.map (·.length)).sum + ys.length * a.length ≤ 16777216) .mk) (txs vs) .mk) (H p) .mk) xs .mk) x .mk
@[simp ↓] theorem e_rJoin : rJoin x xs H Q = sR (fun a => r1R (fun p => oS (fun vs => oV (fun ys => cAnd (Q (.str (Txt.join a ys)) H) ((ys.map (·.length)).sum + ys.length * a.length ≤ 16777216) .mk) (txs vs) .mk) (H p) .mk) xs .mk) x .mk := propext Iff.rfl
theorem mt_join1 : MtR X "str.join" rJoin := fun pins s σ H x xs v us Q I rx rv q => mt_join pins s σ H x xs v us Q I rx rv (by
  obtain ⟨i, rfl, q⟩ := sR_inv (f := .mk) q
  obtain ⟨p, rfl, q⟩ := r1R_inv (f := .mk) q
  obtain ⟨vs, h, q⟩ := oS_inv (K := X.K) (f := .mk) q
  obtain ⟨ys, e, q1, q⟩ := oV_inv (f := .mk) q
  rw [txs_ok e] at h
  exact ⟨i, p, ys, rfl, rfl, h, q1, q⟩)
/-! ### fields -/
def tFd (C : Addr) (ta : TE) (f : Str) : TE := fun σ H Q => ta σ H fun x H1 => rR (fun a => oI (fun C' _ fs => cAnd (oV (fun v => Q v H1) (fs.lookup f) .mk) (C' = C) .mk) (H1 a) .mk) x .mk
@[simp ↓] theorem e_tFd : tFd C ta f σ H Q = ta σ H fun x H1 => rR (fun a => oI (fun C' _ fs => cAnd (oV (fun v => Q v H1) (fs.lookup f) .mk) (C' = C) .mk) (H1 a) .mk) x .mk := propext Iff.rfl
theorem pe_fd (c : Cls X.K C) (n : NoAttr X.K C f) (he : PE X e ta) (hb : attributeBase e f X.env (eval e X.env) = eval e X.env := by rfl) : PE X (.Attribute e f pos) (tFd C ta f) :=
  PE.imp (pe_fld (pe_M he) hb) fun σ H Q q => ⟨_, q, fun x H1 q => by
    obtain ⟨a, ea, q1⟩ := rR_inv (f := .mk) q
    obtain ⟨C', dx, fs, e, ec, q2⟩ := oI_inv (f := .mk) q1
    obtain ⟨v, el, q3⟩ := oV_inv (f := .mk) q2
    exact ⟨a, C, dx, fs, v, ea, ec ▸ e, c, n, el, q3⟩⟩
def sFd (C : Addr) (ta tv : TE) (f : Str) : TS := fun D σ H => tv σ H fun y H1 => ta σ H1 fun x H2 => rR (fun a => oI (fun C' dx fs => cAnd (D.nx σ (upd H2 a (.ins C dx (putF f y fs)))) (C' = C ∧ fs.length < 1000) .mk) (H2 a) .mk) x .mk
@[simp ↓] theorem e_sFd : sFd C ta tv f D σ H = tv σ H fun y H1 => ta σ H1 fun x H2 => rR (fun a => oI (fun C' dx fs => cAnd (D.nx σ (upd H2 a (.ins C dx (putF f y fs)))) (C' = C ∧ fs.length < 1000) .mk) (H2 a) .mk) x .mk := propext Iff.rfl
theorem ps_fd (c : Cls X.K C) (n : NoAttr X.K C f) (ho : PE X o ta) (hv : PE X value tv) (hs : swapsWith value (some (.Attribute o f pos')) pos.line X.env = pure false := by rfl) : PS X (.Assign [.Attribute o f pos'] value pos) (sFd C ta tv f) :=
  PS.imp (ps_fld (pe_M ho) (pe_M hv) hs) fun D σ H q => ⟨_, q, fun y H1 q => ⟨_, q, fun x H2 q => by
    obtain ⟨a, ea, q1⟩ := rR_inv (f := .mk) q
    obtain ⟨C', dx, fs, e, ⟨ec, l⟩, q2⟩ := oI_inv (f := .mk) q1
    exact ⟨a, C, dx, fs, ea, ec ▸ e, c, n, l, q2⟩⟩⟩
/-! ### calls of methods -/
def tMt (C : Addr) (m : Str) (sp : Sp) (ta : TE) (al : TA) : TE := fun σ H Q => ta σ H fun x H1 => rR (fun a => oI (fun C' _ fs => cAnd (al σ H1 fun vs H2 => cCall Q E0 sp (.ref a :: vs) H2 .mk) (C' = C ∧ fs.lookup m = none) .mk) (H1 a) .mk) x .mk
@[simp ↓] theorem e_tMt : tMt C m sp ta al σ H Q = ta σ H fun x H1 => rR (fun a => oI (fun C' _ fs => cAnd (al σ H1 fun vs H2 => cCall Q E0 sp (.ref a :: vs) H2 .mk) (C' = C ∧ fs.lookup m = none) .mk) (H1 a) .mk) x .mk := propext Iff.rfl
theorem tMt_ok (h : tMt C m sp ta al σ H Q) : tMeth C m sp [] E0 (tM ta) al σ H Q := ⟨_, h, fun x H1 q => by
    obtain ⟨a, ea, q1⟩ := rR_inv (f := .mk) q
    obtain ⟨C', dx, fs, e, ⟨ec, l⟩, q2⟩ := oI_inv (f := .mk) q1
    subst ea
    have ee : (fun vs H2 => sp (V.ref a :: (vs ++ [])) H2 Q E0) = fun vs H2 => cCall Q E0 sp (.ref a :: vs) H2 .mk := by
      funext vs H2
      rw [List.append_nil]
      rfl
    exact ⟨a, dx, fs, rfl, ec ▸ e, l, by rw [ee]; exact q2⟩⟩
theorem pe_mt' {pl : Sem Bool} (Dm : MethOk X.prog X.w X.K X.mg X.base k C m [] sp) (hr : Room k X.A) (ho : PE X o ta) (ha : PA X (e :: es) al)
    (hst : starEach (e :: es) X.env = (false, eval e X.env) :: starEach es X.env := by rfl) (hpl : (backTo pos (starEach es X.env)).any (·.1) = false := by rfl)
    (ht : eval (.Call (.Attribute o m apos) (e :: es) [] pos) X.env = (do
      let ov ← eval o X.env
      standAt apos.atName
      let (f, first) ← holding [ov] (getMethod ov m pl)
      callWith pos f first (backTo pos (starEach (e :: es) X.env)) (backToKw pos (keywordEach [] X.env))) := by rfl) :
    PE X (.Call (.Attribute o m apos) (e :: es) [] pos) (tMt C m sp ta al) := PE.imp (pe_m (pl := pl) Dm hr (pe_M ho) ha hst hpl ht) fun _ _ _ q => tMt_ok q
theorem pe_mt0' {pl : Sem Bool} (Dm : MethOk X.prog X.w X.K X.mg X.base k C m [] sp) (hr : Room k X.A) (ho : PE X o ta)
    (ht : eval (.Call (.Attribute o m apos) [] [] pos) X.env = (do
      let ov ← eval o X.env
      standAt apos.atName
      let (f, first) ← holding [ov] (getMethod ov m pl)
      callWith pos f first (backTo pos (starEach [] X.env)) (backToKw pos (keywordEach [] X.env))) := by rfl) :
    PE X (.Call (.Attribute o m apos) [] [] pos) (tMt C m sp ta tNil) := PE.imp (pe_m0 (pl := pl) Dm hr (pe_M ho) ht) fun _ _ _ q => tMt_ok q
/-! ### subscripts, slices -/
def rIq : R2 := fun x y H Q => rR (fun p => iR (fun i => oS (fun xs => oV (fun v => Q v H) (atI xs i) .mk) (H p) .mk) y .mk) x .mk
@[simp ↓] theorem e_rIq : rIq x y H Q = rR (fun p => iR (fun i => oS (fun xs => oV (fun v => Q v H) (atI xs i) .mk) (H p) .mk) y .mk) x .mk := propext Iff.rfl
theorem ix_sq : IxR X rIq := fun value slice pins s σ H x y v u Q I rx ry h hs => by
  obtain ⟨p, ea, q1⟩ := rR_inv (f := .mk) h
  obtain ⟨i, ei, q2⟩ := iR_inv (f := .mk) q1
  obtain ⟨ys, e, q3⟩ := oS_inv (K := X.K) (f := .mk) q2
  obtain ⟨z, ez, q4⟩ := oV_inv (f := .mk) q3
  rcases e with e | e
  · exact ix_list value slice pins s σ H x y v u Q I rx ry ⟨p, ys, i, z, ea, ei, e, ez, q4⟩ hs
  · exact ix_tup value slice pins s σ H x y v u Q I rx ry ⟨p, ys, i, z, ea, ei, e, ez, q4⟩ hs
def rSlq : V → Option Int → Option Int → Hp → VK → Prop := fun x lo hi H Q => rR (fun a => oL (fun xs => Al Q H (.lst (cutV xs lo hi)) .mk) (H a) .mk) x .mk
@[simp ↓] theorem e_rSlq {lo hi : Option Int} : rSlq x lo hi H Q = rR (fun a => oL (fun xs => Al Q H (.lst (cutV xs lo hi)) .mk) (H a) .mk) x .mk := propext Iff.rfl
theorem sl_lq : SlR X rSlq := fun pins s σ H x v vl vu lo hi sl Q I rx hs pl pu h => sl_list pins s σ H x v vl vu lo hi sl Q I rx hs pl pu (by
  obtain ⟨a, ea, q1⟩ := rR_inv (f := .mk) h
  obtain ⟨ys, e, q2⟩ := oL_inv (f := .mk) q1
  exact ⟨a, ys, ea, SqL.of e, q2⟩)
def rSlt : V → Option Int → Option Int → Hp → VK → Prop := fun x lo hi H Q => rR (fun a => oT (fun xs => cAnd (Al Q H (.tup (cutV xs lo hi)) .mk) (¬ (HT.sIx xs.length 0 lo = 0 ∧ HT.sIx xs.length xs.length hi = xs.length)) .mk) (H a) .mk) x .mk
@[simp ↓] theorem e_rSlt {lo hi : Option Int} : rSlt x lo hi H Q = rR (fun a => oT (fun xs => cAnd (Al Q H (.tup (cutV xs lo hi)) .mk) (¬ (HT.sIx xs.length 0 lo = 0 ∧ HT.sIx xs.length xs.length hi = xs.length)) .mk) (H a) .mk) x .mk := propext Iff.rfl
theorem sl_tq : SlR X rSlt := fun pins s σ H x v vl vu lo hi sl Q I rx hs pl pu h => sl_tup pins s σ H x v vl vu lo hi sl Q I rx hs pl pu (by
  obtain ⟨a, ea, q1⟩ := rR_inv (f := .mk) h
  obtain ⟨ys, e, l, q2⟩ := oT_inv (f := .mk) q1
  exact ⟨a, ys, ea, SqT.of e, l, q2⟩)
/-! ### lists, tuples -/
def rLen1 : List V → Hp → VK → Prop := fun xs H Q => r1R (fun p => oS (fun ys => Q (.int ys.length) H) (H p) .mk) xs .mk
@[simp ↓] theorem e_rLen1 : rLen1 xs H Q = r1R (fun p => oS (fun ys => Q (.int ys.length) H) (H p) .mk) xs .mk := propext Iff.rfl
theorem call_len1 : CallR X (.builtin "len") rLen1 := fun pins s σ H xs us Q I r h => call_len_seq pins s σ H xs us Q I r (by
  obtain ⟨p, ep, q1⟩ := r1R_inv (f := .mk) h
  obtain ⟨ys, e, q2⟩ := oS_inv (K := X.K) (f := .mk) q1
  exact ⟨p, ys, ep, e, q2⟩)
def rLenD : List V → Hp → VK → Prop := fun xs H Q => r1R (fun p => oD (fun ys => Q (.int ys.length) H) (H p) .mk) xs .mk
@[simp ↓] theorem e_rLenD : rLenD xs H Q = r1R (fun p => oD (fun ys => Q (.int ys.length) H) (H p) .mk) xs .mk := propext Iff.rfl
theorem call_lenD1 : CallR X (.builtin "len") rLenD := fun pins s σ H xs us Q I r h => call_lenD pins s σ H xs us Q I r (by
  obtain ⟨p, ep, q1⟩ := r1R_inv (f := .mk) h
  obtain ⟨ys, e, q2⟩ := oD_inv (f := .mk) q1
  exact ⟨p, ys, ep, e, q2⟩)
def rLenS : List V → Hp → VK → Prop := fun xs H Q => sa1 (fun z => cAnd (Q (.int z.length) H) (z.length ≤ sizeLine) .mk) xs .mk
@[simp ↓] theorem e_rLenS : rLenS xs H Q = sa1 (fun z => cAnd (Q (.int z.length) H) (z.length ≤ sizeLine) .mk) xs .mk := propext Iff.rfl
theorem call_lenS1 : CallR X (.builtin "len") rLenS := fun pins s σ H xs us Q I r h => call_len_str pins s σ H xs us Q I r (by
  obtain ⟨z, ez, q1⟩ := sa1_inv (f := .mk) h
  exact ⟨z, ez, q1⟩)
def rApp : V → List V → Hp → VK → Prop := fun x vs H Q => rR (fun l => match vs with
  | [y] => oL (fun xs => cAnd (Q .non (upd H l (.lst (xs ++ [y])))) (xs.length < sizeLine) .mk) (H l) .mk
  | _ => False) x .mk
@[simp ↓] theorem e_rApp : rApp x [y] H Q = rR (fun l => oL (fun xs => cAnd (Q .non (upd H l (.lst (xs ++ [y])))) (xs.length < sizeLine) .mk) (H l) .mk) x .mk := propext Iff.rfl
theorem mt_app1 : MtM X "list.append" rApp := fun pins s σ H x xs v us Q I rx rv q => mt_append pins s σ H x xs v us Q I rx rv (by
  obtain ⟨l, el, q1⟩ := rR_inv (f := .mk) q
  split at q1
  · obtain ⟨ys, e, q2, q3⟩ := oL_inv (f := .mk) q1
    exact ⟨l, ys, _, el, rfl, e, q2, q3⟩
  · exact q1.elim)
theorem tyV_l (h : H a = some (.lst xs)) : tyV K "list" (.ref a) H := Or.inl ⟨rfl, xs, SqL.of h⟩
/-- tuple(list): a new tuple; tuple(tuple): itself -/
def rTup : List V → Hp → VK → Prop := fun vs H Q => r1R (fun p => (match H p with
  | some (.lst xs) => Al Q H (.tup xs) .mk
  | some (.tup _) => Q (.ref p) H
  | _ => False)) vs .mk
theorem call_tup1 : CallR X (.type "tuple") rTup := fun pins s σ H xs us Q I r h => call_tuple_of pins s σ H xs us Q I r (by
  obtain ⟨p, ep, q1⟩ := r1R_inv (f := .mk) h
  split at q1
  · rename_i e; exact ⟨p, _, ep, .inl ⟨SqL.of e, q1⟩⟩
  · rename_i e; exact ⟨p, _, ep, .inr ⟨SqT.of e, q1⟩⟩
  · exact q1.elim)
theorem e_rTupl (h : H a = some (.lst xs)) : rTup [.ref a] H Q = Al Q H (.tup xs) .mk := by simp [rTup, h]
theorem e_rTupt (h : H a = some (.tup xs)) : rTup [.ref a] H Q = Q (.ref a) H := by simp [rTup, h]
def rLst1 : List V → Hp → VK → Prop := fun vs H Q => r1R (fun p => oS (fun xs => Al Q H (.lst xs) .mk) (H p) .mk) vs .mk
@[simp ↓] theorem e_rLst1 : rLst1 xs H Q = r1R (fun p => oS (fun xs => Al Q H (.lst xs) .mk) (H p) .mk) xs .mk := propext Iff.rfl
theorem call_lst1 : CallR X (.type "list") rLst1 := fun pins s σ H xs us Q I r h => call_list_of pins s σ H xs us Q I r (by
  obtain ⟨p, ep, q1⟩ := r1R_inv (f := .mk) h
  obtain ⟨ys, e, q2⟩ := oS_inv (K := X.K) (f := .mk) q1
  exact ⟨p, ys, ep, e, q2⟩)
/-- list(dict): its keys -/
def rLstD : List V → Hp → VK → Prop := fun vs H Q => r1R (fun p => oR (fun kvs => Al Q H (.lst (kvs.map fun kv => kV kv.1)) .mk) (H p) .mk) vs .mk
@[simp ↓] theorem e_rLstD : rLstD xs H Q = r1R (fun p => oR (fun kvs => Al Q H (.lst (kvs.map fun kv => kV kv.1)) .mk) (H p) .mk) xs .mk := propext Iff.rfl
theorem call_lstD1 (hc : X.calm = true) : CallR X (.type "list") rLstD := fun pins s σ H xs us Q I r h => call_listD hc pins s σ H xs us Q I r (by
  obtain ⟨p, ep, q1⟩ := r1R_inv (f := .mk) h
  obtain ⟨ys, e, q2⟩ := oR_inv (f := .mk) q1
  exact ⟨p, ys, ep, e, q2⟩)
def rDct : List V → Hp → VK → Prop := fun vs H Q => r1R (fun p => oR (fun kvs => Al Q H (.dK kvs) .mk) (H p) .mk) vs .mk
@[simp ↓] theorem e_rDct : rDct xs H Q = r1R (fun p => oR (fun kvs => Al Q H (.dK kvs) .mk) (H p) .mk) xs .mk := propext Iff.rfl
theorem call_dct1 : CallR X (.type "dict") rDct := fun pins s σ H xs us Q I r h => call_dictD pins s σ H xs us Q I r (by
  obtain ⟨p, ep, q1⟩ := r1R_inv (f := .mk) h
  obtain ⟨ys, e, q2⟩ := oR_inv (f := .mk) q1
  exact ⟨p, ys, ep, e, q2⟩)
/-- x in a list or a tuple of flat things -/
def rInq (neg : Bool) : R2 := fun x y H Q => rR (fun p => oS (fun xs => cAnd (Q (.bl (if neg then !inV x xs else inV x xs)) H) (flatV x = true ∧ xs.all flatV = true) .mk) (H p) .mk) y .mk
@[simp ↓] theorem e_rInq {neg : Bool} : rInq neg x y H Q = rR (fun p => oS (fun xs => cAnd (Q (.bl (if neg then !inV x xs else inV x xs)) H) (flatV x = true ∧ xs.all flatV = true) .mk) (H p) .mk) y .mk := propext Iff.rfl
theorem op_inq : OpR X (compareOp .In) (rInq false) := fun pins s σ H x y v u Q I rx ry q => op_in_seq pins s σ H x y v u Q I rx ry (by
  obtain ⟨p, ep, q1⟩ := rR_inv (f := .mk) q
  obtain ⟨ys, e, ⟨q2, q3⟩, q4⟩ := oS_inv (K := X.K) (f := .mk) q1
  exact ⟨p, ys, ep, e, q2, q3, q4⟩)
theorem op_ninq : OpR X (compareOp .NotIn) (rInq true) := fun pins s σ H x y v u Q I rx ry q => op_notIn_seq pins s σ H x y v u Q I rx ry (by
  obtain ⟨p, ep, q1⟩ := rR_inv (f := .mk) q
  obtain ⟨ys, e, ⟨q2, q3⟩, q4⟩ := oS_inv (K := X.K) (f := .mk) q1
  exact ⟨p, ys, ep, e, q2, q3, q4⟩)
/-- x in a tuple of the module -/
def rInk (a : Addr) (xs : List V) : R2 := fun x y H Q => cAnd (Q (.bl (inV x xs)) H) (y = .ref a ∧ flatV x = true) .mk
@[simp ↓] theorem e_rInk : rInk a xs x y H Q = cAnd (Q (.bl (inV x xs)) H) (y = .ref a ∧ flatV x = true) .mk := propext Iff.rfl
theorem op_ink (h : ∀ H, SqT X.K H a xs) (hf : xs.all flatV = true) : OpR X (compareOp .In) (rInk a xs) := fun pins s σ H x y v u Q I rx ry q => op_in_seq pins s σ H x y v u Q I rx ry (by
  obtain ⟨⟨q1, q2⟩, q3⟩ := q
  exact ⟨a, xs, q1, .inr (h H), q2, hf, q3⟩)
/-! ### dicts -/
def tDg (td ty : TE) : TE := fun σ H Q => td σ H fun x H1 => ty σ H1 fun y H2 => rR (fun a => sR (fun z => oR (fun kvs => oV (fun v => Q v H2) (valV kvs (Sum.inr z)) .mk) (H2 a) .mk) y .mk) x .mk
@[simp ↓] theorem e_tDg : tDg td ty σ H Q = td σ H fun x H1 => ty σ H1 fun y H2 => rR (fun a => sR (fun z => oR (fun kvs => oV (fun v => Q v H2) (valV kvs (Sum.inr z)) .mk) (H2 a) .mk) y .mk) x .mk := propext Iff.rfl
theorem dget_of {kvs : List (Key × V)} (h : Rd H a (.dK kvs)) : DGet H a (.str z) (valV kvs (Sum.inr z)) := .inl ⟨kvs, .inr z, h, rfl, rfl⟩
theorem pe_dg (hu : X.A.units + 1 < cLine) (ho : PE X o td) (hi : PE X e ty) (hs : NoSl e := by first | rfl | exact fun _ _ => rfl) : PE X (.Subscript o e pos) (tDg td ty) :=
  PE.imp (pe_dget hu (pe_M ho) (pe_M hi) hs) fun σ H Q q => ⟨_, q, fun x H1 q => ⟨_, q, fun y H2 q => by
    obtain ⟨a, ea, q1⟩ := rR_inv (f := .mk) q
    obtain ⟨z, ez, q2⟩ := sR_inv (f := .mk) q1
    obtain ⟨kvs, e, q3⟩ := oR_inv (f := .mk) q2
    obtain ⟨v, ev, q4⟩ := oV_inv (f := .mk) q3
    exact ⟨a, v, ea, by rw [ez, ← ev]; exact dget_of e, q4⟩⟩⟩
def tDi (neg : Bool) (ty td : TE) : TE := fun σ H Q => ty σ H fun y H1 => td σ H1 fun x H2 => rR (fun a => sR (fun z => oR (fun kvs => Q (.bl (if neg then !(valV kvs (Sum.inr z)).isSome else (valV kvs (Sum.inr z)).isSome)) H2) (H2 a) .mk) y .mk) x .mk
@[simp ↓] theorem e_tDi {neg : Bool} : tDi neg ty td σ H Q = ty σ H fun y H1 => td σ H1 fun x H2 => rR (fun a => sR (fun z => oR (fun kvs => Q (.bl (if neg then !(valV kvs (Sum.inr z)).isSome else (valV kvs (Sum.inr z)).isSome)) H2) (H2 a) .mk) y .mk) x .mk := propext Iff.rfl
theorem PC.imp {op : CmpOp} {t t' : TE} (h : PC X op e o t) (g : ∀ σ H Q, t' σ H Q → t σ H Q) : PC X op e o t' := ⟨fun pins s σ H Q I q => h.run pins s σ H Q I (g σ H Q q)⟩
theorem pc_di (hu : X.A.units + 1 < cLine) (hi : PE X e ty) (ho : PE X o td) : PC X .In e o (tDi false ty td) :=
  PC.imp (pc_din hu (pe_M hi) (pe_M ho)) fun σ H Q q => ⟨_, q, fun y H1 q => ⟨_, q, fun x H2 q => by
    obtain ⟨a, ea, q1⟩ := rR_inv (f := .mk) q
    obtain ⟨z, ez, q2⟩ := sR_inv (f := .mk) q1
    obtain ⟨kvs, e, q3⟩ := oR_inv (f := .mk) q2
    exact ⟨a, _, ea, by rw [ez]; exact dget_of e, q3⟩⟩⟩
theorem pc_dni (hu : X.A.units + 1 < cLine) (hi : PE X e ty) (ho : PE X o td) : PC X .NotIn e o (tDi true ty td) :=
  PC.imp (pc_dnotin hu (pe_M hi) (pe_M ho)) fun σ H Q q => ⟨_, q, fun y H1 q => ⟨_, q, fun x H2 q => by
    obtain ⟨a, ea, q1⟩ := rR_inv (f := .mk) q
    obtain ⟨z, ez, q2⟩ := sR_inv (f := .mk) q1
    obtain ⟨kvs, e, q3⟩ := oR_inv (f := .mk) q2
    exact ⟨a, _, ea, by rw [ez]; exact dget_of e, q3⟩⟩⟩
def sDp (td ty tv : TE) : TS := fun D σ H => tv σ H fun v H1 => td σ H1 fun x H2 => ty σ H2 fun y H3 => rR (fun a => sR (fun z => oD (fun kvs => cAnd (D.nx σ (upd H3 a (.dK (putK kvs (Sum.inr z) v)))) (kvs.length < sizeLine) .mk) (H3 a) .mk) y .mk) x .mk
@[simp ↓] theorem e_sDp : sDp td ty tv D σ H = tv σ H fun v H1 => td σ H1 fun x H2 => ty σ H2 fun y H3 => rR (fun a => sR (fun z => oD (fun kvs => cAnd (D.nx σ (upd H3 a (.dK (putK kvs (Sum.inr z) v)))) (kvs.length < sizeLine) .mk) (H3 a) .mk) y .mk) x .mk := propext Iff.rfl
theorem ps_dp (hu : X.A.units + 1 < cLine) (ho : PE X o td) (hi : PE X e ty) (hv : PE X value tv) (hs : swapsWith value (some (.Subscript o e pos')) pos.line X.env = pure false := by rfl) : PS X (.Assign [.Subscript o e pos'] value pos) (sDp td ty tv) :=
  PS.imp (ps_dput hu (pe_M ho) (pe_M hi) (pe_M hv) hs) fun D σ H q => ⟨_, q, fun v H1 q => ⟨_, q, fun x H2 q => ⟨_, q, fun y H3 q => by
    obtain ⟨a, ea, q1⟩ := rR_inv (f := .mk) q
    obtain ⟨z, ez, q2⟩ := sR_inv (f := .mk) q1
    obtain ⟨kvs, e, l, q3⟩ := oD_inv (f := .mk) q2
    exact ⟨a, _, ea, by rw [ez]; exact DPut.k (k := .inr z) e l, q3⟩⟩⟩⟩
/-! ### targets -/
theorem pg_tp {es : List Expr} {kk : Nat} {gs : TGs} {n : Nat} (hc : X.calm = true) (h : PGs X es gs) (hn : (assignEach es X.env).length = n := by rfl) (hst : (assignEach es X.env).findIdx? (·.1) = none := by rfl) : PG X (.Tuple es kk pos) (gTupH n gs) :=
  PG.imp (pg_tup hc h hn hst) fun v σ H Q q => by
    obtain ⟨a, ea, q1⟩ := rR_inv (f := .mk) q
    obtain ⟨xs, e, l, q2⟩ := oT_inv (f := .mk) q1
    exact ⟨a, xs, ea, SqT.of e, l, q2⟩
/-! ### all -/
def bls : List V → Option (List Bool)
  | [] => some []
  | .bl z :: r => (bls r).map (z :: ·)
  | _ => none
theorem bls_ok : ∀ {xs : List V} {ys : List Bool}, bls xs = some ys → xs = ys.map V.bl
  | [], ys, h => by cases h; rfl
  | .bl z :: r, ys, h => by
    unfold bls at h
    cases e : bls r with
    | none => rw [e] at h; cases h
    | some zs => rw [e] at h; cases h; rw [bls_ok e]; rfl
  | .non :: _, _, h => nomatch h
  | .str _ :: _, _, h => nomatch h
  | .int _ :: _, _, h => nomatch h
  | .byt _ :: _, _, h => nomatch h
  | .flt _ :: _, _, h => nomatch h
  | .ref _ :: _, _, h => nomatch h
  | .ty _ :: _, _, h => nomatch h
@[simp] theorem e_bls0 : bls [] = some [] := rfl
@[simp] theorem e_bls1 {z : Bool} {r : List V} : bls (.bl z :: r) = (bls r).map (z :: ·) := rfl
def rAll1 : List V → Hp → VK → Prop := fun vs H Q => r1R (fun p => oL (fun xs => oV (fun bs => Q (.bl (bs.all id)) H) (bls xs) .mk) (H p) .mk) vs .mk
@[simp ↓] theorem e_rAll1 : rAll1 xs H Q = r1R (fun p => oL (fun xs => oV (fun bs => Q (.bl (bs.all id)) H) (bls xs) .mk) (H p) .mk) xs .mk := propext Iff.rfl
theorem call_all1 (hc : X.calm = true) : CallR X (.builtin "all") rAll1 := fun pins s σ H xs us Q I r h => cr_all hc pins s σ H xs us Q I r (by
  obtain ⟨p, ep, q1⟩ := r1R_inv (f := .mk) h
  obtain ⟨ys, e, q2⟩ := oL_inv (f := .mk) q1
  obtain ⟨bs, eb, q3⟩ := oV_inv (f := .mk) q2
  exact ⟨p, bs, ep, by rw [bls_ok eb] at e; exact SqL.of e, q3⟩)
/-! ### == of data -/
def rEq1 : R2 := fun x y H Q => ∃ d e, Dp X.K H x d ∧ Dp X.K H y e ∧ SeqAt.shaped d = true ∧ SeqAt.shaped e = true ∧ Q (.bl (PyData.eqv d e)) H
end
end K95

set_option maxRecDepth 100000
set_option maxHeartbeats 4000000
namespace K95
open PySem PySem.Spec PyProof.Rows L2
abbrev ABC : Str := "abcdefghijklmnopqrstuvwxyz"
abbrev DGS : Str := "0123456789"
/-- a name -/
def NameOk (z : Str) : Prop := 1 ≤ z.length ∧ z.length ≤ 8 ∧ Txt.stripChars z ABC = ""
instance (z : Str) : Decidable (NameOk z) := by unfold NameOk; infer_instance
theorem line8 {n : Nat} (h : n ≤ 1000) : n ≤ sizeLine := Nat.le_trans h (by decide)
def spIsName : Sp := fun vs H Q _ => ∃ z, vs = [.str z] ∧ NameOk z ∧ Q (.bl true) H
@[simp ↓] theorem e_spIsName {z : Str} {H : Hp} {Q : VK} {E : XK} : spIsName [.str z] H Q E = (NameOk z ∧ Q (.bl true) H) := by simp [spIsName]
/-- an int in bounds; high may be None -/
def spIsInt : Sp := fun vs H Q _ => (∃ i l : Int, vs = [.int i, .int l, .non] ∧ Q (.bl (decide (l ≤ i))) H) ∨ ∃ i l h : Int, vs = [.int i, .int l, .int h] ∧ Q (.bl (decide (l ≤ i) && decide (i ≤ h))) H
@[simp ↓] theorem e_spIsInt2 {i l : Int} {H : Hp} {Q : VK} {E : XK} : spIsInt ([.int i, .int l] ++ [.non]) H Q E = Q (.bl (decide (l ≤ i))) H := by
  refine propext ⟨?_, fun q => .inl ⟨i, l, rfl, q⟩⟩
  rintro (⟨_, _, e, q⟩ | ⟨_, _, _, e, q⟩)
  · cases e; exact q
  · cases e
@[simp ↓] theorem e_spIsInt3 {i l h : Int} {H : Hp} {Q : VK} {E : XK} : spIsInt [.int i, .int l, .int h] H Q E = Q (.bl (decide (l ≤ i) && decide (i ≤ h))) H := by
  refine propext ⟨?_, fun q => .inr ⟨i, l, h, rfl, q⟩⟩
  rintro (⟨_, _, e, q⟩ | ⟨_, _, _, e, q⟩)
  · cases e
  · cases e; exact q
/-- the decimal text of an int below a hundred -/
def digs (n : Nat) : Str := if n < 10 then ⟨#[48 + n]⟩ else ⟨#[48 + n / 10]⟩ ++ ⟨#[48 + n % 10]⟩
def spDigits : Sp := fun vs H Q _ => ∃ n : Nat, vs = [.int (n : Int)] ∧ n < 100 ∧ Q (.str (digs n)) H
/-- one letter -/
def lett (n : Nat) : Str := ⟨#[96 + n]⟩
def spWord : Sp := fun vs H Q _ => ∃ n : Nat, vs = [.int (n : Int)] ∧ 1 ≤ n ∧ n ≤ 26 ∧ Q (.str (lett n)) H
/-- the text of a number in a format: figures or letters -/
def numT (fig : Bool) (n : Nat) : Str := if fig then digs n else if n = 0 then "-" else lett n
def formS (fig : Bool) : Str := if fig then "figures" else "letters"
def spNumText : Sp := fun vs H Q _ => ∃ (f : Bool) (n : Nat), vs = [.str (formS f), .int (n : Int)] ∧ (if f then n < 100 else n ≤ 26) ∧ Q (.str (numT f n)) H
section
variable {P : Program} {w : World} {K : PySem.W.Frag} {mg : Str → Option Value} {base : Heap}
theorem ok_isName (c : Ctx w K mg) : DefOk P w K mg base 1 "is_name" [] spIsName := by
  obtain ⟨fd, D⟩ := c.defIsName
  refine ⟨_, fd, ["text"], [], D.g, D.F.kp, ?_, D.F.bindsN fun _ _ _ _ _ _ us hl => match us, hl with | [_], _ => rfl, .nil⟩
  refine ok0 D.F scIsName (fun vs H Q E h => ?_) (fun cdv A outer s H vs Q E hr h => ?_)
  · obtain ⟨z, rfl, _⟩ := h
    rfl
  · obtain ⟨z, rfl, ⟨h1, h2, h3⟩, q⟩ := h
    refine ⟨_, pss_one (ps_ret (pe_and (pe_chain op_le op_le pe_int (pe_callB call_len_str (by rfl) c.f_len PySem.boot_len (pa_cons (pv 0) pa_nil)) (pe_gi c.i_LONGEST))
      (pe_one (pe_cmpR op_eq (pe_bm PySem.F.plainAttrs_str PySem.F.slot_str_strip PySem.F.type_str_strip mt_stripChars (pv 0) (pa_cons (pe_gs c.s_SIGNS_names) pa_nil)) pe_str (nomark _))))), ?_⟩
    have e1 : z.length ≤ sizeLine := line8 (by omega)
    have e2 : (1 : Int) ≤ (z.length : Int) := by omega
    have e3 : (z.length : Int) ≤ 8 := by omega
    simp [e1, e2, e3, h1, h2, h3, q]
theorem ok_isInteger0 (c : Ctx w K mg) : ∃ fd, FnOk P w K mg base CX0 1 (He.ga K "is_integer") fd ["value", "low", "high"] spIsInt ∧ DefAt K mg "is_integer" sIsInteger (dIsInteger.dvs K) [] (He.ga K "is_integer") fd := by
  obtain ⟨fd, D⟩ := c.defIsInteger
  refine ⟨fd, ?_, D⟩
  refine ok0 D.F scIsInteger (fun vs H Q E h => ?_) (fun cdv A outer s H vs Q E hr h => ?_)
  · rcases h with ⟨_, _, rfl, _⟩ | ⟨_, _, _, rfl, _⟩ <;> rfl
  · refine ⟨_, pss_one (ps_ret (pe_and (pe_isT (pv 0) c.f_isinstance c.f_int bt_int) (pe_and (pe_not (pe_isT (pv 0) c.f_isinstance c.f_bool bt_bool)) (pe_and (pe_cmpR op_le (pv 1) (pv 0) (nomark _))
      (pe_one (pe_or (pe_cmpR op_isN (pv 2) pe_non (nomark _)) (pe_one (pe_cmpR op_le (pv 0) (pv 2) (nomark _))))))))), ?_⟩
    rcases h with ⟨i, l, rfl, q⟩ | ⟨i, l, h, rfl, q⟩
    · by_cases e : l ≤ i
      · have e' := decide_eq_true e
        rw [e'] at q
        simp [e', q]
      · have e' := decide_eq_false e
        rw [e'] at q
        simp [e', q]
    · by_cases e : l ≤ i
      · have e' := decide_eq_true e
        rw [e', Bool.true_and] at q
        simp [e', q]
      · have e' := decide_eq_false e
        rw [e', Bool.false_and] at q
        simp [e', q]
theorem ok_isInteger2 (c : Ctx w K mg) : DefOk P w K mg base 1 "is_integer" [.non] spIsInt := by
  obtain ⟨fd, F, D⟩ := ok_isInteger0 (P := P) (base := base) c
  obtain ⟨ds, v, b⟩ := D.F.binds1 (ps := ["value", "low", "high"]) 2 0 (List.cons_ne_nil _ _) rfl fun T kV doc pm an cdv ct us its l1 l2 => match us, its, l1, l2 with | [_, _], [_], _, _ => ⟨_, rfl, rfl⟩
  exact ⟨_, fd, _, ds, D.g, D.F.kp, F, b, v⟩
theorem ok_isInteger3 (c : Ctx w K mg) : DefOk P w K mg base 1 "is_integer" [] spIsInt := by
  obtain ⟨fd, F, D⟩ := ok_isInteger0 (P := P) (base := base) c
  obtain ⟨ds, v, b⟩ := D.F.binds1 (ps := ["value", "low", "high"]) 3 1 (List.cons_ne_nil _ _) rfl fun T kV doc pm an cdv ct us its l1 l2 => match us, its, l1, l2 with | [_, _, _], [_], _, _ => ⟨_, rfl, rfl⟩
  exact ⟨_, fd, _, ds, D.g, D.F.kp, F, b, v⟩
theorem dg_at {n : Nat} (h : n < 10) : atI DGS.cps.toList (n : Int) = some (48 + n) := by
  have h' : n = 0 ∨ n = 1 ∨ n = 2 ∨ n = 3 ∨ n = 4 ∨ n = 5 ∨ n = 6 ∨ n = 7 ∨ n = 8 ∨ n = 9 := by omega
  rcases h' with rfl | rfl | rfl | rfl | rfl | rfl | rfl | rfl | rfl | rfl <;> decide +kernel
theorem dg_len : DGS.length ≤ sizeLine := by decide +kernel
theorem ok_digitsOf (c : Ctx w K mg) : DefOk P w K mg base 1 "digits_of" [] spDigits := by
  obtain ⟨fd, D⟩ := c.defDigitsOf
  refine ⟨_, fd, ["number"], [], D.g, D.F.kp, ?_, D.F.bindsN fun _ _ _ _ _ _ us hl => match us, hl with | [_], _ => rfl, .nil⟩
  refine ok0 D.F scDigitsOf (fun vs H Q E h => ?_) (fun cdv A outer s H vs Q E hr h => ?_)
  · obtain ⟨z, rfl, _⟩ := h
    rfl
  · obtain ⟨n, rfl, h1, q⟩ := h
    have nd := scDigitsOf.nd
    refine ⟨_, pss_cons (ps_set (i := 1) nd rfl (.inl rfl) (pe_ix ix_str (pe_gs c.s_DIGITS) (pe_op op_mod (pv 0) pe_int) (fun _ _ => rfl)))
      (pss_cons (ps_whU 2 PassesOwn.never (pt_cmpR op_ge (pv 0) pe_int (nomark _)) (pss_cons (ps_aug (i := 0) nd rfl (.inl rfl) pe_int (pip iop_fdiv))
        (pss_one (ps_set (i := 1) nd rfl (.inl rfl) (pe_op op_addS (pe_ix ix_str (pe_gs c.s_DIGITS) (pe_op op_mod (pv 0) pe_int) (fun _ _ => rfl)) (pv 1))))))
      (pss_one (ps_ret (pv 1)))), ?_⟩
    have f1 : atI DGS.cps.toList ((n : Int) % 10) = some (48 + n % 10) := by
      have e : (n : Int) % 10 = ((n % 10 : Nat) : Int) := by omega
      rw [e]
      exact dg_at (by omega)
    have l1 := dg_len
    by_cases hn : n < 10
    · have e5 : n % 10 = n := by omega
      rw [e5] at f1
      simp only [digs, if_pos hn] at q
      have l2 : ¬ (10 : Int) ≤ (n : Int) := by omega
      simp [f1, l1, l2, q]
    · have f2 : atI DGS.cps.toList ((n : Int) / 10 % 10) = some (48 + n / 10) := by
        have e : (n : Int) / 10 % 10 = ((n / 10 : Nat) : Int) := by omega
        rw [e]
        exact dg_at (by omega)
      have cd : CDiv (n : Int) 10 := ⟨by decide, by decide⟩
      have l2 : (⟨#[48 + n / 10]⟩ : Str).length + (⟨#[48 + n % 10]⟩ : Str).length ≤ sizeLine := line8 (by show 2 ≤ 1000; decide)
      have l3 : (10 : Int) ≤ (n : Int) := by omega
      have l4 : ¬ (10 : Int) ≤ (n : Int) / 10 := by omega
      simp only [digs, if_neg hn] at q
      simp [f1, f2, l1, l2, l3, l4, cd, q]
theorem ab_at {n : Nat} (h : n < 26) : atI ABC.cps.toList (n : Int) = some (97 + n) := by
  have h' : ∀ m : Fin 26, atI ABC.cps.toList ((m.val : Nat) : Int) = some (97 + m.val) := by decide +kernel
  exact h' ⟨n, h⟩
theorem ab_len : ABC.length = 26 := by decide +kernel
theorem ok_wordOf (c : Ctx w K mg) : DefOk P w K mg base 1 "word_of" [] spWord := by
  obtain ⟨fd, D⟩ := c.defWordOf
  refine ⟨_, fd, ["number"], [], D.g, D.F.kp, ?_, D.F.bindsN fun _ _ _ _ _ _ us hl => match us, hl with | [_], _ => rfl, .nil⟩
  refine ok0 D.F scWordOf (fun vs H Q E h => ?_) (fun cdv A outer s H vs Q E hr h => ?_)
  · obtain ⟨z, rfl, _⟩ := h
    rfl
  · obtain ⟨n, rfl, h1, h2, q⟩ := h
    have nd := scWordOf.nd
    have L : ∀ {X : Cx}, CallR X (.builtin "len") rLenS := call_lenS1
    refine ⟨_, pss_cons (ps_set (i := 1) nd rfl (.inl rfl) pe_str)
      (pss_cons (ps_whU 2 PassesOwn.never (pt_cmpR op_gt (pv 0) pe_int (nomark _)) (pss_cons (ps_aug (i := 0) nd rfl (.inl rfl) pe_int (pip iop_sub))
        (pss_cons (ps_set (i := 1) nd rfl (.inl rfl) (pe_op op_addS (pe_ix ix_str (pe_gs c.s_SIGNS_names) (pe_op op_mod (pv 0) (pe_callB L (by rfl) c.f_len PySem.boot_len (pa_cons (pe_gs c.s_SIGNS_names) pa_nil))) (fun _ _ => rfl)) (pv 1)))
        (pss_one (ps_aug (i := 0) nd rfl (.inl rfl) (pe_callB L (by rfl) c.f_len PySem.boot_len (pa_cons (pe_gs c.s_SIGNS_names) pa_nil)) (pip iop_fdiv))))))
      (pss_one (ps_ret (pv 1)))), ?_⟩
    have a0 : (ABC.length : Int) = 26 := by rw [ab_len]; rfl
    have a1 : ABC.length ≤ sizeLine := by rw [ab_len]; decide
    have a2 : (0 : Int) < 26 := by decide
    have f1 : atI ABC.cps.toList (((n : Int) - 1) % 26) = some (96 + n) := by
      have e : ((n : Int) - 1) % 26 = ((n - 1 : Nat) : Int) := by omega
      rw [e, ab_at (by omega)]
      congr 1
      omega
    have cd : CDiv ((n : Int) - 1) 26 := ⟨by decide, by decide⟩
    have t0 : decide ((0 : Int) < (n : Int)) = true := decide_eq_true (by omega)
    have t1 : decide ((0 : Int) < ((n : Int) - 1) / 26) = false := decide_eq_false (by omega)
    have l2 : (⟨#[96 + n]⟩ : Str).length + (Str.ofString "").length ≤ sizeLine := line8 (by show 1 ≤ 1000; decide)
    have l3 : (⟨#[96 + n]⟩ : Str) ++ (Str.ofString "") = ⟨#[96 + n]⟩ := rfl
    simp only [lett] at q
    have t2 : 0 < n := h1
    simp [a0, a1, a2, f1, cd, t0, t1, t2, l2, l3, q]
theorem ok_numberText (c : Ctx w K mg) : DefOk P w K mg base 2 "number_text" [] spNumText := by
  obtain ⟨fd, D⟩ := c.defNumberText
  refine ⟨_, fd, ["form", "number"], [], D.g, D.F.kp, ?_, D.F.bindsN fun _ _ _ _ _ _ us hl => match us, hl with | [_, _], _ => rfl, .nil⟩
  have F1 := ok_digitsOf (P := P) (base := base) c
  have F2 := ok_wordOf (P := P) (base := base) c
  refine ok0 D.F scNumberText (fun vs H Q E h => ?_) (fun cdv A outer s H vs Q E hr h => ?_)
  · obtain ⟨f, z, rfl, _⟩ := h
    rfl
  · obtain ⟨f, n, rfl, h1, q⟩ := h
    refine ⟨_, pss_cons (ps_if (pt_cmpR op_eq (pv 0) (pe_gs c.s_FIGURES) (nomark _)) (pss_one (ps_ret (pe_f F1 hr (pa_cons (pv 1) pa_nil)))) pss_nil)
      (pss_one (ps_ret (pe_ifExp (pt_cmpR op_eq (pv 1) pe_int (nomark _)) (pe_gs c.s_NONE) (pe_f F2 hr (pa_cons (pv 1) pa_nil))))), ?_⟩
    cases f with
    | true =>
      have h1 : n < 100 := h1
      simp [formS]
      refine cl ⟨n, rfl, h1, ?_⟩
      simpa [numT] using q
    | false =>
      have h1 : n ≤ 26 := h1
      have e1 : decide (("letters" : Str) = "figures") = false := by decide +kernel
      by_cases hn : n = 0
      · subst hn
        simp [formS, e1]
        simpa [numT] using q
      · have e2 : decide ((n : Int) = 0) = false := decide_eq_false (by omega)
        simp [formS, e1, e2, hn]
        refine cl ⟨n, rfl, by omega, h1, ?_⟩
        simpa [numT, hn] using q
end
end K95

set_option maxRecDepth 100000
set_option maxHeartbeats 4000000
set_option pp.deepTerms false
set_option pp.maxSteps 600
namespace K95
open PySem PySem.Spec PyProof.Rows L2
/-- the number with a text: figures below a hundred, one letter -/
def spReadNum : Sp := fun vs H Q _ => ∃ (f : Bool) (n : Nat), vs = [.str (formS f), .str (numT f n)] ∧ (if f then n < 100 else 1 ≤ n ∧ n ≤ 26) ∧ Q (.int (n : Int)) H
theorem dg_ix {d : Nat} (h : d < 10) : (Builtin.Str.occurrences DGS ⟨#[48 + d]⟩ 0 DGS.length 1).head? = some d := by
  have h' : ∀ m : Fin 10, (Builtin.Str.occurrences DGS ⟨#[48 + m.val]⟩ 0 DGS.length 1).head? = some m.val := by decide +kernel
  exact h' ⟨d, h⟩
theorem ab_ix {d : Nat} (h : d < 26) : (Builtin.Str.occurrences ABC ⟨#[97 + d]⟩ 0 ABC.length 1).head? = some d := by
  have h' : ∀ m : Fin 26, (Builtin.Str.occurrences ABC ⟨#[97 + m.val]⟩ 0 ABC.length 1).head? = some m.val := by decide +kernel
  exact h' ⟨d, h⟩
theorem dg_st {n : Nat} (h : n < 100) : Txt.stripChars (digs n) DGS = "" ∧ (digs n ≠ "") ∧ (digs n).length ≤ 2 := by
  have h' : ∀ m : Fin 100, Txt.stripChars (digs m.val) DGS = "" ∧ (digs m.val ≠ "") ∧ (digs m.val).length ≤ 2 := by decide +kernel
  exact h' ⟨n, h⟩
theorem ab_st {n : Nat} (h1 : 1 ≤ n) (h2 : n ≤ 26) : Txt.stripChars (lett n) ABC = "" ∧ (lett n ≠ "") ∧ (lett n ≠ "-") := by
  have h' : ∀ m : Fin 27, 1 ≤ m.val → Txt.stripChars (lett m.val) ABC = "" ∧ (lett m.val ≠ "") ∧ (lett m.val ≠ "-") := by decide +kernel
  exact h' ⟨n, by omega⟩ h1
theorem dg_len10 : DGS.length = 10 := by decide +kernel
section
variable {P : Program} {w : World} {K : PySem.W.Frag} {mg : Str → Option Value} {base : Heap}
theorem ok_readNumber (c : Ctx w K mg) : DefOk P w K mg base 1 "read_number" [] spReadNum := by
  obtain ⟨fd, D⟩ := c.defReadNumber
  refine ⟨_, fd, ["form", "text"], [], D.g, D.F.kp, ?_, D.F.bindsN fun _ _ _ _ _ _ us hl => match us, hl with | [_, _], _ => rfl, .nil⟩
  refine ok0 D.F scReadNumber (fun vs H Q E h => ?_) (fun cdv A outer s H vs Q E hr h => ?_)
  · obtain ⟨f, z, rfl, _⟩ := h
    rfl
  · obtain ⟨f, n, rfl, h1, q⟩ := h
    have nd := scReadNumber.nd
    have L : ∀ {X : Cx}, CallR X (.builtin "len") rLenS := call_lenS1
    refine ⟨_, pss_cons (ps_if (PW.pt (pw_and (pt_cmpR op_eq (pv 0) (pe_gs c.s_LETTERS) (nomark _)) (pw_and1 (pt_cmpR op_eq (pv 1) (pe_gs c.s_NONE) (nomark _))))) (pss_one (ps_ret pe_int)) pss_nil)
      (pss_cons (ps_set (i := 2) nd rfl (.inl rfl) (pe_ifExp (pt_cmpR op_eq (pv 0) (pe_gs c.s_FIGURES) (nomark _)) (pe_gs c.s_DIGITS) (pe_gs c.s_SIGNS_names)))
      (pss_cons (ps_if (PW.pt (pw_or (pt_cmpR op_eq (pv 1) pe_str (nomark _)) (pw_or (pt_cmpR op_ne (pe_bm PySem.F.plainAttrs_str PySem.F.slot_str_strip PySem.F.type_str_strip mt_strip1 (pv 1) (pa_cons (pv 2) pa_nil)) pe_str (nomark _))
        (pw_or1 (PW.pt (pw_and (pt_cmpR op_eq (pv 0) (pe_gs c.s_FIGURES) (nomark _)) (pw_and (pt_cmpR op_eq (pe_ix ix_str (pv 1) pe_int (fun _ _ => rfl)) pe_str (nomark _)) (pw_and1 (pt_cmpR op_gt (pe_callB L (by rfl) c.f_len PySem.boot_len (pa_cons (pv 1) pa_nil)) pe_int (nomark _)))))))))) (pss_one (ps_ret pe_non)) pss_nil)
      (pss_cons (ps_set (i := 3) nd rfl (.inl rfl) pe_int)
      (pss_cons (ps_foY PassesOwn.never rfl (piy_str (pv 1)) (pg_name (i := 4) nd rfl (.inl rfl)) (pss_one (ps_set (i := 3) nd rfl (.inl rfl)
        (pe_op op_add (pe_op op_add (pe_op op_mul (pv 3) (pe_callB L (by rfl) c.f_len PySem.boot_len (pa_cons (pv 2) pa_nil))) (pe_bm PySem.F.plainAttrs_str PySem.F.slot_str_index PySem.F.type_str_index mt_idx1 (pv 2) (pa_cons (pv 4) pa_nil)))
          (pe_ifExp (pt_cmpR op_eq (pv 0) (pe_gs c.s_FIGURES) (nomark _)) pe_int pe_int)))))
      (pss_one (ps_ret (pv 3))))))), ?_⟩
    have m0 : CMul 0 10 := Or.inl ⟨by decide, by decide⟩
    have m1 : CMul 0 26 := Or.inl ⟨by decide, by decide⟩
    have e0 : decide (("figures" : Str) = "letters") = false := by decide +kernel
    have e0' : decide (("letters" : Str) = "figures") = false := by decide +kernel
    have a1 : DGS.length ≤ sizeLine := dg_len
    have a0 : (DGS.length : Int) = 10 := by rw [dg_len10]; rfl
    have b1 : ABC.length ≤ sizeLine := by rw [ab_len]; decide
    have b0 : (ABC.length : Int) = 26 := by rw [ab_len]; rfl
    cases f with
    | true =>
      have h1 : n < 100 := h1
      obtain ⟨s1, s2, s3⟩ := dg_st h1
      have s2' := decide_eq_false s2
      have s3' : (digs n).length ≤ sizeLine := line8 (by omega)
      show _
      simp only [formS, numT, if_pos]
      by_cases hn : n < 10
      · have d1 : (digs n).cps = #[48 + n] := by rw [digs, if_pos hn]
        have t1 : decide ((1 : Int) < ((digs n).length : Int)) = false := decide_eq_false (by
          have : (digs n).length = 1 := by show (digs n).cps.size = 1; rw [d1]; rfl
          omega)
        have i1 := dg_ix hn
        have f1 : atI (digs n).cps.toList 0 = some (48 + n) := by rw [d1]; rfl
        generalize digs n = t at *
        cases hb : decide ((⟨#[48 + n]⟩ : Str) = "0") <;> simp [e0, s1, s2', s3', t1, f1, hb, a0, a1, i1, m0, d1, q]
      · have d1 : (digs n).cps = #[48 + n / 10, 48 + n % 10] := by rw [digs, if_neg hn]; rfl
        have i1 := dg_ix (d := n / 10) (by omega)
        have i2 := dg_ix (d := n % 10) (by omega)
        have f1 : atI (digs n).cps.toList 0 = some (48 + n / 10) := by rw [d1]; rfl
        have hb : decide ((⟨#[48 + n / 10]⟩ : Str) = "0") = false := decide_eq_false (by
          intro e
          have e1 : (#[48 + n / 10] : Array Nat) = #[48] := congrArg Str.cps (e.trans (by decide +kernel : ("0" : Str) = ⟨#[48]⟩))
          have e2 : [48 + n / 10] = [48] := congrArg Array.toList e1
          injection e2 with e3
          omega)
        have m2 : CMul ((n : Int) / 10) 10 := Or.inr ⟨by decide, by decide⟩
        have ev : (n : Int) / 10 * 10 + (n : Int) % 10 = n := by omega
        generalize digs n = t at *
        simp [e0, s1, s2', s3', f1, hb, a0, a1, i1, i2, m0, m2, d1, ev, q]
    | false =>
      obtain ⟨h1, h2⟩ : 1 ≤ n ∧ n ≤ 26 := h1
      obtain ⟨s1, s2, s3⟩ := ab_st h1 h2
      have s2' := decide_eq_false s2
      have s3' := decide_eq_false s3
      have en : numT false n = lett n := by
        show (if n = 0 then _ else lett n) = lett n
        rw [if_neg (by omega)]
      rw [en]
      have l1 : (lett n).length ≤ sizeLine := line8 (by show 1 ≤ 1000; decide)
      have d1 : (lett n).cps = #[96 + n] := rfl
      have i1 : (Builtin.Str.occurrences ABC ⟨#[96 + n]⟩ 0 ABC.length 1).head? = some (n - 1) := by
        have e : 96 + n = 97 + (n - 1) := by omega
        rw [e]
        exact ab_ix (by omega)
      have ev : ((n - 1 : Nat) : Int) + 1 = n := by omega
      simp only [formS]
      generalize lett n = t at *
      simp [e0', s1, s2', s3', l1, b0, b1, i1, m1, d1, ev, q]
end
end K95

set_option maxRecDepth 100000
set_option maxHeartbeats 4000000
namespace K95
open PySem PySem.Spec PyProof.Rows L2
noncomputable section
/-! ### texts, compared sign by sign -/
def nls : List Nat → List Nat → Bool
  | [], [] => true
  | a :: as, b :: bs => match a.beq b with
    | true => nls as bs
    | false => false
  | _, _ => false
theorem nls_eq : ∀ {as bs : List Nat}, nls as bs = decide (as = bs)
  | [], [] => by simp [nls]
  | a :: as, b :: bs => by
    unfold nls
    cases h : a.beq b with
    | true =>
      have e := Nat.eq_of_beq_eq_true h
      subst e
      simp [nls_eq]
    | false =>
      have e := Nat.ne_of_beq_eq_false h
      simp [e]
  | [], _ :: _ => by simp [nls]
  | _ :: _, [] => by simp [nls]
def seqS (a b : Str) : Bool := nls a.cps.toList b.cps.toList
theorem seqS_eq {a b : Str} : seqS a b = decide (a = b) := by
  unfold seqS
  rw [nls_eq]
  refine decide_eq_decide.2 ⟨fun h => ?_, fun h => by rw [h]⟩
  cases a with
  | mk x => cases b with
    | mk y =>
      cases x
      cases y
      simp at h
      rw [h]
/-! ### three numbers that are not known, within bounds; sums of them, as codes; signs that show such a sum -/
class Nu where
  n : Nat
  m : Nat
  s : Nat
  hn : n ≤ 2
  hm : m ≤ 8
  hs : s ≤ 2
/-- a + b n + c m + d s -/
def svN [Nu] (a b c d : Nat) : Nat := a + b * Nu.n + c * Nu.m + d * Nu.s
def sHi (a b c d : Nat) : Nat := a + b * 2 + c * 8 + d * 2
theorem svN_le [Nu] {a b c d : Nat} : svN a b c d ≤ sHi a b c d := by
  unfold svN sHi
  have h1 := Nat.mul_le_mul_left b Nu.hn
  have h2 := Nat.mul_le_mul_left c Nu.hm
  have h3 := Nat.mul_le_mul_left d Nu.hs
  omega
theorem svN_ge [Nu] {a b c d : Nat} : a ≤ svN a b c d := by
  unfold svN
  omega
theorem svN_add [Nu] {a b c d a' b' c' d' : Nat} : svN (a + a') (b + b') (c + c') (d + d') = svN a b c d + svN a' b' c' d' := by
  unfold svN
  rw [Nat.add_mul, Nat.add_mul, Nat.add_mul]
  omega
theorem svN_int [Nu] {a : Nat} : svN a 0 0 0 = a := by
  unfold svN
  simp
/-- the sum whose code is q = a + 8 b + 64 c + 512 d -/
def svQ [Nu] (q : Nat) : Nat := svN (q % 8) (q / 8 % 8) (q / 64 % 8) (q / 512 % 8)
/-- a sign from 4096 on stands for a figure or a letter of a sum -/
def chD [Nu] (c : Nat) : Nat := match c.blt 4096 with
  | true => c
  | false => match (c % 2).beq 0 with
    | true => 48 + min 9 (svQ ((c - 4096) / 2))
    | false => match svQ ((c - 4096) / 2) with
      | 0 => 45
      | v + 1 => 97 + min 25 v
def dec [Nu] (z : Str) : Str := ⟨z.cps.map chD⟩
/-! ### values and a heap that can be reckoned -/
inductive VV where
  | non | bl (b : Bool) | int (i : Int) | str (z : Str) | ref (n : Nat) | kt | fn (z : Str) | sy (a b c d : Nat) | tx (z : Str) | adr (p : Nat)
/-- the classes -/
inductive Cn where
  | label | scheme | trial | manuscript | action | reader
def Cn.ad (K : PySem.W.Frag) : Cn → Addr
  | .label => cLabel K
  | .scheme => cScheme K
  | .trial => cTrial K
  | .manuscript => cManuscript K
  | .action => cAction K
  | .reader => cReader K
def Cn.nat : Cn → Nat
  | .label => 0 | .scheme => 1 | .trial => 2 | .manuscript => 3 | .action => 4 | .reader => 5
/-- the attributes -/
def fnms : List Str := ["first", "slots", "signs", "first_values", "all_deeds", "all_labels", "next_kinds", "first_kinds", "plan", "past", "manuscript", "held", "made_of", "lines", "at"]
abbrev Fn : Type := Fin 15
def fnm (n : Fn) : Str := fnms.getD n.val ""
theorem fnm_inj : ∀ i j : Fn, fnm i = fnm j → i = j := by decide +kernel
inductive VO where
  | lst (xs : List VV) | fl (xs : List VV) | tup (xs : List VV) | dk (kvs : List (Str × VV)) | fk (kvs : List (Str × VV)) | ins (c : Cn) (fs : List (Fn × VV)) | tape (l : List (Nat × VV))
def frzO : VO → Bool
  | .tup _ => true
  | .fk _ => true
  | .fl _ => true
  | _ => false
inductive Tr where
  | e | n (v : Option VO) (l r : Tr)
/-- by the plain recursor: the kernel reckons it fast -/
noncomputable def Tr.get (t : Tr) : Nat → Option VO := Tr.rec (fun _ => none) (fun v _ _ gl gr i => match i.beq 0 with
  | true => v
  | false => match (i % 2).beq 1 with
    | true => gl (i / 2)
    | false => gr (i / 2 - 1)) t
noncomputable def Tr.new (f : Nat) : Nat → VO → Option Tr := Nat.rec (fun _ _ => none) (fun _ g i o => match i.beq 0 with
  | true => some (.n (some o) .e .e)
  | false => match (i % 2).beq 1 with
    | true => match g (i / 2) o with
      | some t => some (.n none t .e)
      | none => none
    | false => match g (i / 2 - 1) o with
      | some t => some (.n none .e t)
      | none => none) f
noncomputable def Tr.set (t : Tr) : Nat → VO → Option Tr := Tr.rec (fun i o => Tr.new 24 i o) (fun v l r sl sr i o => match i.beq 0 with
  | true => some (.n (some o) l r)
  | false => match (i % 2).beq 1 with
    | true => match sl (i / 2) o with
      | some t => some (.n v t r)
      | none => none
    | false => match sr (i / 2 - 1) o with
      | some t => some (.n v l t)
      | none => none) t
theorem beq_t {i j : Nat} (h : i.beq j = true) : i = j := Nat.eq_of_beq_eq_true h
theorem beq_f {i j : Nat} (h : i.beq j = false) : i ≠ j := Nat.ne_of_beq_eq_false h
theorem Tr.get_e {i : Nat} : Tr.get .e i = none := rfl
theorem Tr.get_n {v : Option VO} {l r : Tr} {i : Nat} : Tr.get (.n v l r) i = if i = 0 then v else if i % 2 = 1 then l.get (i / 2) else r.get (i / 2 - 1) := by
  show (match i.beq 0 with | true => v | false => match (i % 2).beq 1 with | true => l.get (i / 2) | false => r.get (i / 2 - 1)) = _
  cases h : i.beq 0 with
  | true => rw [if_pos (beq_t h)]
  | false =>
    rw [if_neg (beq_f h)]
    cases h2 : (i % 2).beq 1 with
    | true => rw [if_pos (beq_t h2)]
    | false => rw [if_neg (beq_f h2)]
theorem Tr.get_new {f : Nat} : ∀ {t' : Tr} {i : Nat} {o : VO}, Tr.new f i o = some t' → ∀ j, t'.get j = if j = i then some o else none := by
  induction f with
  | zero => intro t' i o h; cases h
  | succ f ih =>
    intro t' i o h j
    have h : (match i.beq 0 with
      | true => some (.n (some o) .e .e)
      | false => match (i % 2).beq 1 with
        | true => match Tr.new f (i / 2) o with
          | some t => some (.n none t .e)
          | none => none
        | false => match Tr.new f (i / 2 - 1) o with
          | some t => some (.n none .e t)
          | none => none) = some t' := h
    cases h0 : i.beq 0 with
    | true =>
      rw [h0] at h
      cases h
      have e := beq_t h0
      subst e
      rw [Tr.get_n]
      simp only [Tr.get_e]
      split <;> simp
    | false =>
      have n0 := beq_f h0
      rw [h0] at h
      cases h1 : (i % 2).beq 1 with
      | true =>
        have e1 := beq_t h1
        rw [h1] at h
        cases h2 : Tr.new f (i / 2) o with
        | none => rw [h2] at h; cases h
        | some t2 =>
          rw [h2] at h
          cases h
          rw [Tr.get_n]
          have := ih h2
          simp only [this, Tr.get_e]
          by_cases q : j = i
          · subst q; simp [n0, e1]
          · simp only [q, if_false]
            by_cases q0 : j = 0
            · simp [q0]
            · simp only [q0, if_false]
              by_cases q1 : j % 2 = 1
              · have : ¬ j / 2 = i / 2 := by omega
                simp [q1, this]
              · simp [q1]
      | false =>
        have e1 := beq_f h1
        rw [h1] at h
        cases h2 : Tr.new f (i / 2 - 1) o with
        | none => rw [h2] at h; cases h
        | some t2 =>
          rw [h2] at h
          cases h
          rw [Tr.get_n]
          have := ih h2
          simp only [this, Tr.get_e]
          by_cases q : j = i
          · subst q; simp [n0, e1]
          · simp only [q, if_false]
            by_cases q0 : j = 0
            · simp [q0]
            · simp only [q0, if_false]
              by_cases q1 : j % 2 = 1
              · simp [q1]
              · have : ¬ j / 2 - 1 = i / 2 - 1 := by omega
                simp [q1, this]
theorem Tr.get_set {t : Tr} : ∀ {t' : Tr} {i : Nat} {o : VO}, Tr.set t i o = some t' → ∀ j, t'.get j = if j = i then some o else t.get j := by
  induction t with
  | e =>
    intro t' i o h j
    rw [Tr.get_new (f := 24) h, Tr.get_e]
  | n v l r il ir =>
    intro t' i o h j
    have h : (match i.beq 0 with
      | true => some (.n (some o) l r)
      | false => match (i % 2).beq 1 with
        | true => match Tr.set l (i / 2) o with
          | some t => some (.n v t r)
          | none => none
        | false => match Tr.set r (i / 2 - 1) o with
          | some t => some (.n v l t)
          | none => none) = some t' := h
    cases h0 : i.beq 0 with
    | true =>
      rw [h0] at h
      cases h
      have e := beq_t h0
      subst e
      rw [Tr.get_n, Tr.get_n]
      split <;> simp [*]
    | false =>
      have n0 := beq_f h0
      rw [h0] at h
      cases h1 : (i % 2).beq 1 with
      | true =>
        have e1 := beq_t h1
        rw [h1] at h
        cases h2 : Tr.set l (i / 2) o with
        | none => rw [h2] at h; cases h
        | some t2 =>
          rw [h2] at h
          cases h
          rw [Tr.get_n, Tr.get_n]
          have := il h2
          simp only [this]
          by_cases q : j = i
          · subst q; simp [n0, e1]
          · simp only [q, if_false]
            by_cases q0 : j = 0
            · simp [q0]
            · simp only [q0, if_false]
              by_cases q1 : j % 2 = 1
              · have : ¬ j / 2 = i / 2 := by omega
                simp [q1, this]
              · simp [q1]
      | false =>
        have e1 := beq_f h1
        rw [h1] at h
        cases h2 : Tr.set r (i / 2 - 1) o with
        | none => rw [h2] at h; cases h
        | some t2 =>
          rw [h2] at h
          cases h
          rw [Tr.get_n, Tr.get_n]
          have := ir h2
          simp only [this]
          by_cases q : j = i
          · subst q; simp [n0, e1]
          · simp only [q, if_false]
            by_cases q0 : j = 0
            · simp [q0]
            · simp only [q0, if_false]
              by_cases q1 : j % 2 = 1
              · simp [q1]
              · have : ¬ j / 2 - 1 = i / 2 - 1 := by omega
                simp [q1, this]
structure VH where
  n : Nat
  t : Tr
noncomputable def VH.get (h : VH) (i : Nat) : Option VO := h.t.get i
noncomputable def VH.set (h : VH) (i : Nat) (o : VO) : Option VH := match Tr.set h.t i o with
  | some t => some ⟨h.n, t⟩
  | none => none
/-- the number is reckoned at once -/
noncomputable def VH.push (h : VH) (o : VO) : Option VH := Nat.casesOn (motive := fun _ => Option VH) h.n (match Tr.set h.t 0 o with
  | some t => some ⟨1, t⟩
  | none => none) (fun m => match Tr.set h.t (m + 1) o with
  | some t => some ⟨m + 2, t⟩
  | none => none)
theorem VH.get_set {h h' : VH} {i : Nat} {o : VO} (e : h.set i o = some h') : h'.n = h.n ∧ ∀ j, h'.get j = if j = i then some o else h.get j := by
  unfold VH.set at e
  cases q : Tr.set h.t i o with
  | none => rw [q] at e; cases e
  | some t => rw [q] at e; cases e; exact ⟨rfl, Tr.get_set q⟩
theorem VH.get_push {h h' : VH} {o : VO} (e : h.push o = some h') : h'.n = h.n + 1 ∧ ∀ j, h'.get j = if j = h.n then some o else h.get j := by
  obtain ⟨n, t⟩ := h
  cases n with
  | zero =>
    have e : (match Tr.set t 0 o with | some t => some (⟨1, t⟩ : VH) | none => none) = some h' := e
    cases q : Tr.set t 0 o with
    | none => rw [q] at e; cases e
    | some t => rw [q] at e; cases e; exact ⟨rfl, Tr.get_set q⟩
  | succ m =>
    have e : (match Tr.set t (m + 1) o with | some t => some (⟨m + 2, t⟩ : VH) | none => none) = some h' := e
    cases q : Tr.set t (m + 1) o with
    | none => rw [q] at e; cases e
    | some t => rw [q] at e; cases e; exact ⟨rfl, Tr.get_set q⟩
/-! ### what they stand for -/
abbrev ktA (K : PySem.W.Frag) : Addr := He.dflAt ("Label", some "__init__") 0 K
variable [Nu]
def RV (K : PySem.W.Frag) (ρ : List Addr) (x : VV) (v : V) : Prop := match x with
  | .non => v = .non
  | .bl b => v = .bl b
  | .int i => v = .int i
  | .str z => v = .str z
  | .ref n => ∃ a, v = .ref a ∧ ρ[n]? = some a
  | .kt => ∃ a, v = .ref a ∧ a = ktA K ∧ ∀ H, SqT K H a []
  | .fn z => v = .ref (He.ga K z)
  | .sy a b c d => v = .int (svN a b c d : Nat)
  | .tx z => v = .str (dec z)
  | .adr p => v = .ref p
def RVs (K : PySem.W.Frag) (ρ : List Addr) : List VV → List V → Prop
  | [], [] => True
  | x :: xs, v :: vs => RV K ρ x v ∧ RVs K ρ xs vs
  | _, _ => False
def RKs (K : PySem.W.Frag) (ρ : List Addr) : List (Str × VV) → List (Key × V) → Prop
  | [], [] => True
  | x :: xs, v :: vs => (v.1 = Sum.inr x.1 ∧ RV K ρ x.2 v.2) ∧ RKs K ρ xs vs
  | _, _ => False
def RFs (K : PySem.W.Frag) (ρ : List Addr) : List (Fn × VV) → List (Str × V) → Prop
  | [], [] => True
  | x :: xs, v :: vs => (v.1 = fnm x.1 ∧ RV K ρ x.2 v.2) ∧ RFs K ρ xs vs
  | _, _ => False
def ROV (K : PySem.W.Frag) (ρ : List Addr) : Option VV → Option V → Prop
  | none, none => True
  | some x, some v => RV K ρ x v
  | _, _ => False
def REn (K : PySem.W.Frag) (ρ : List Addr) : List (Option VV) → List (Option V) → Prop
  | [], [] => True
  | x :: xs, v :: vs => ROV K ρ x v ∧ REn K ρ xs vs
  | _, _ => False
/-! the tape of the law: what it gives from now on -/
def pickV (x y m : Int) : Int × Int × Int :=
  if 1000000000000000000 ≤ x then (x % m, x / m, y)
  else (((((y * 48271 + x * 69621 + 11) % 2147483647) * ((y * 48271 + x * 69621 + 11) % 2147483647) + ((y * 48271 + x * 69621 + 11) % 2147483647) * 40692 + 7) % 2147483399) / 64 % m, x, (y * 48271 + x * 69621 + 11) % 2147483647)
def PV (r : VV) (v : Int) : Prop := match r with
  | .int i => v = i
  | .sy a b c d => v = (svN a b c d : Nat)
  | _ => False
def Tp (x y : Int) : List (Nat × VV) → Prop
  | [] => True
  | (m, r) :: l => 0 ≤ x ∧ 0 ≤ y ∧ y < 2147483647 ∧ 0 < m ∧ m < 1000 ∧ PV r (pickV x y m).1 ∧ Tp (pickV x y m).2.1 (pickV x y m).2.2 l
/-- the tape's first number -/
def cell0 (ns : List Int) : Int := match ns with
  | i :: _ => if i < 0 then -i else i
  | [] => 0
def RO (K : PySem.W.Frag) (ρ : List Addr) (H : Hp) (a : Addr) (o : VO) : Prop := match o with
  | .lst xs => ∃ vs, H a = some (.lst vs) ∧ RVs K ρ xs vs
  | .fl xs => ∃ vs, H a = some (.lst vs) ∧ RVs K ρ xs vs
  | .tup xs => ∃ vs, H a = some (.tup vs) ∧ RVs K ρ xs vs
  | .dk kvs => ∃ ws, H a = some (.dK ws) ∧ RKs K ρ kvs ws
  | .fk kvs => ∃ od ws, H a = some (.frz od (.dK ws)) ∧ RKs K ρ kvs ws
  | .ins c fs => ∃ dx gs, H a = some (.ins (c.ad K) dx gs) ∧ RFs K ρ fs gs
  | .tape l => ∃ x y : Int, H a = some (.lst [.int x, .int y]) ∧ Tp x y l
structure Sim (K : PySem.W.Frag) (ρ : List Addr) (h : VH) (H : Hp) : Prop where
  len : ρ.length = h.n
  nd : ρ.Nodup
  ob : ∀ i o, h.get i = some o → ∃ a, ρ[i]? = some a ∧ RO K ρ H a o
  nt : NoT H
  al : ∀ (i : Nat) (a : Addr), ρ[i]? = some a → ∃ u, H a = some u
structure Go (ρ : List Addr) (lo : Nat) (h : VH) (H : Hp) (ρ' : List Addr) (h' : VH) (H' : Hp) : Prop where
  ext : ∃ l, ρ' = ρ ++ l ∧ ∀ a, a ∈ l → H a = none
  keep : ∀ a o, H a = some o → (∀ i, ρ[i]? = some a → i < lo ∨ ∃ u, h.get i = some u ∧ frzO u = true) → H' a = some o
  stay : ∀ i o, h.get i = some o → frzO o = true → h'.get i = some o
  dom : ∀ a o, H a = some o → ∃ u, H' a = some u
section
variable {K : PySem.W.Frag} {ρ ρ' ρ1 ρ2 : List Addr} {x y : VV} {v u : V} {xs ys : List VV} {vs us : List V} {h h' h1 h2 : VH} {H H' H1 H2 : Hp} {lo n : Nat} {a p : Addr}
/-- more places -/
def Le (ρ ρ' : List Addr) : Prop := ∃ l, ρ' = ρ ++ l
theorem Le.refl : Le ρ ρ := ⟨[], by simp⟩
theorem Le.trans (l : Le ρ ρ1) (m : Le ρ1 ρ2) : Le ρ ρ2 := by
  obtain ⟨l, rfl⟩ := l
  obtain ⟨m, rfl⟩ := m
  exact ⟨l ++ m, by simp⟩
theorem Le.at_ (l : Le ρ ρ') (h : ρ[n]? = some a) : ρ'[n]? = some a := by
  obtain ⟨l, rfl⟩ := l
  rw [List.getElem?_append_left]
  · exact h
  · exact (List.getElem?_eq_some_iff.1 h).1
theorem Go.le (g : Go ρ lo h H ρ' h' H') : Le ρ ρ' := let ⟨l, e, _⟩ := g.ext; ⟨l, e⟩
theorem RV.mono (l : Le ρ ρ') (r : RV K ρ x v) : RV K ρ' x v := by
  cases x <;> first | exact r | (obtain ⟨a, e, q⟩ := r; exact ⟨a, e, l.at_ q⟩)
theorem RVs.mono (l : Le ρ ρ') : ∀ {xs : List VV} {vs : List V}, RVs K ρ xs vs → RVs K ρ' xs vs
  | [], [], _ => True.intro
  | _ :: _, _ :: _, r => ⟨r.1.mono l, RVs.mono l r.2⟩
  | [], _ :: _, r => r.elim
  | _ :: _, [], r => r.elim
theorem RKs.mono (l : Le ρ ρ') : ∀ {xs : List (Str × VV)} {vs : List (Key × V)}, RKs K ρ xs vs → RKs K ρ' xs vs
  | [], [], _ => True.intro
  | _ :: _, _ :: _, r => ⟨⟨r.1.1, r.1.2.mono l⟩, RKs.mono l r.2⟩
  | [], _ :: _, r => r.elim
  | _ :: _, [], r => r.elim
theorem RFs.mono (l : Le ρ ρ') : ∀ {xs : List (Fn × VV)} {vs : List (Str × V)}, RFs K ρ xs vs → RFs K ρ' xs vs
  | [], [], _ => True.intro
  | _ :: _, _ :: _, r => ⟨⟨r.1.1, r.1.2.mono l⟩, RFs.mono l r.2⟩
  | [], _ :: _, r => r.elim
  | _ :: _, [], r => r.elim
theorem ROV.mono (l : Le ρ ρ') : ∀ {x : Option VV} {v : Option V}, ROV K ρ x v → ROV K ρ' x v
  | none, none, _ => True.intro
  | some _, some _, r => RV.mono l r
  | none, some _, r => r.elim
  | some _, none, r => r.elim
theorem REn.mono (l : Le ρ ρ') : ∀ {xs : List (Option VV)} {vs : List (Option V)}, REn K ρ xs vs → REn K ρ' xs vs
  | [], [], _ => True.intro
  | _ :: _, _ :: _, r => ⟨r.1.mono l, REn.mono l r.2⟩
  | [], _ :: _, r => r.elim
  | _ :: _, [], r => r.elim
theorem RO.mono {o : VO} (l : Le ρ ρ') (r : RO K ρ H a o) : RO K ρ' H a o := by
  cases o with
  | lst xs => obtain ⟨vs, e, q⟩ := r; exact ⟨vs, e, q.mono l⟩
  | fl xs => obtain ⟨vs, e, q⟩ := r; exact ⟨vs, e, q.mono l⟩
  | tup xs => obtain ⟨vs, e, q⟩ := r; exact ⟨vs, e, q.mono l⟩
  | dk xs => obtain ⟨vs, e, q⟩ := r; exact ⟨vs, e, q.mono l⟩
  | fk xs => obtain ⟨od, vs, e, q⟩ := r; exact ⟨od, vs, e, q.mono l⟩
  | ins c xs => obtain ⟨dx, vs, e, q⟩ := r; exact ⟨dx, vs, e, q.mono l⟩
  | tape l => exact r
theorem RO.heap {o : VO} (r : RO K ρ H a o) (e : H' a = H a) : RO K ρ H' a o := by
  cases o <;> (unfold RO; rw [e]; exact r)
theorem RO.some {o : VO} (r : RO K ρ H a o) : ∃ u, H a = some u ∧ noT u := by
  cases o with
  | lst xs => obtain ⟨vs, e, q⟩ := r; exact ⟨_, e, True.intro⟩
  | fl xs => obtain ⟨vs, e, q⟩ := r; exact ⟨_, e, True.intro⟩
  | tup xs => obtain ⟨vs, e, q⟩ := r; exact ⟨_, e, True.intro⟩
  | dk xs => obtain ⟨vs, e, q⟩ := r; exact ⟨_, e, True.intro⟩
  | fk xs => obtain ⟨od, vs, e, q⟩ := r; exact ⟨_, e, True.intro⟩
  | ins c xs => obtain ⟨dx, vs, e, q⟩ := r; exact ⟨_, e, True.intro⟩
  | tape l => obtain ⟨x, y, e, q⟩ := r; exact ⟨_, e, True.intro⟩
theorem RO.nt {o : VO} {u : HO} (r : RO K ρ H a o) (e : H a = Option.some u) : noT u := by
  obtain ⟨u', e', n⟩ := r.some
  rw [e] at e'
  cases e'
  exact n
theorem RVs.len : ∀ {xs : List VV} {vs : List V}, RVs K ρ xs vs → vs.length = xs.length
  | [], [], _ => rfl
  | _ :: _, _ :: _, r => congrArg (· + 1) (RVs.len r.2)
  | [], _ :: _, r => r.elim
  | _ :: _, [], r => r.elim
theorem RKs.len : ∀ {xs : List (Str × VV)} {vs : List (Key × V)}, RKs K ρ xs vs → vs.length = xs.length
  | [], [], _ => rfl
  | _ :: _, _ :: _, r => congrArg (· + 1) (RKs.len r.2)
  | [], _ :: _, r => r.elim
  | _ :: _, [], r => r.elim
theorem REn.len : ∀ {xs : List (Option VV)} {vs : List (Option V)}, REn K ρ xs vs → vs.length = xs.length
  | [], [], _ => rfl
  | _ :: _, _ :: _, r => congrArg (· + 1) (REn.len r.2)
  | [], _ :: _, r => r.elim
  | _ :: _, [], r => r.elim
theorem RVs.at_ : ∀ {xs : List VV} {vs : List V} {i : Nat} {x : VV}, RVs K ρ xs vs → xs[i]? = some x → ∃ v, vs[i]? = some v ∧ RV K ρ x v
  | [], [], _, _, _, e => by cases e
  | _ :: _, _ :: _, 0, _, r, e => by cases e; exact ⟨_, rfl, r.1⟩
  | _ :: _, _ :: _, i + 1, _, r, e => RVs.at_ (i := i) r.2 e
  | [], _ :: _, _, _, r, _ => r.elim
  | _ :: _, [], _, _, r, _ => r.elim
theorem REn.at_ : ∀ {xs : List (Option VV)} {vs : List (Option V)} {i : Nat} {x : VV}, REn K ρ xs vs → xs[i]? = some (some x) → ∃ v, vs[i]? = some (some v) ∧ RV K ρ x v
  | [], [], _, _, _, e => by cases e
  | _ :: _, some _ :: _, 0, _, r, e => by cases e; exact ⟨_, rfl, r.1⟩
  | _ :: _, none :: _, 0, _, r, e => by cases e; exact r.1.elim
  | _ :: _, _ :: _, i + 1, _, r, e => REn.at_ (i := i) r.2 e
  | [], _ :: _, _, _, r, _ => r.elim
  | _ :: _, [], _, _, r, _ => r.elim
theorem REn.set {x : Option VV} {v : Option V} (q : ROV K ρ x v) : ∀ {xs : List (Option VV)} {vs : List (Option V)} {i : Nat}, REn K ρ xs vs → REn K ρ (xs.set i x) (vs.set i v)
  | [], [], _, _ => True.intro
  | _ :: _, _ :: _, 0, r => ⟨q, r.2⟩
  | _ :: _, _ :: _, i + 1, r => ⟨r.1, REn.set q r.2⟩
  | [], _ :: _, _, r => r.elim
  | _ :: _, [], _, r => r.elim
theorem RVs.app : ∀ {xs : List VV} {vs : List V}, RVs K ρ xs vs → RVs K ρ ys us → RVs K ρ (xs ++ ys) (vs ++ us)
  | [], [], _, q => q
  | _ :: _, _ :: _, r, q => ⟨r.1, RVs.app r.2 q⟩
  | [], _ :: _, r, _ => r.elim
  | _ :: _, [], r, _ => r.elim
theorem RVs.drop : ∀ {xs : List VV} {vs : List V} (i : Nat), RVs K ρ xs vs → RVs K ρ (xs.drop i) (vs.drop i)
  | _, _, 0, r => r
  | [], [], _ + 1, r => r
  | _ :: _, _ :: _, i + 1, r => RVs.drop i r.2
  | [], _ :: _, _, r => r.elim
  | _ :: _, [], _, r => r.elim
theorem RVs.take : ∀ {xs : List VV} {vs : List V} (i : Nat), RVs K ρ xs vs → RVs K ρ (xs.take i) (vs.take i)
  | [], [], _, r => by simpa using r
  | _ :: _, _ :: _, 0, r => True.intro
  | _ :: _, _ :: _, i + 1, r => ⟨r.1, RVs.take i r.2⟩
  | [], _ :: _, _, r => r.elim
  | _ :: _, [], _, r => r.elim
theorem Go.refl : Go ρ lo h H ρ h H := ⟨⟨[], by simp, fun a m => nomatch m⟩, fun _ _ e _ => e, fun _ _ e _ => e, fun _ o e => ⟨o, e⟩⟩
theorem Go.trans (g : Go ρ lo h H ρ1 h1 H1) (k : Go ρ1 lo h1 H1 ρ2 h2 H2) : Go ρ lo h H ρ2 h2 H2 := by
  obtain ⟨l, e, fr⟩ := g.ext
  have g0 := g.keep
  obtain ⟨l2, e2, fr2⟩ := k.ext
  subst e
  subst e2
  have keep1 : ∀ a o, H a = some o → (∀ i, ρ[i]? = some a → i < lo ∨ ∃ u, h.get i = some u ∧ frzO u = true) → H2 a = some o := by
    intro a o ha hc
    refine k.keep a o (g0 a o ha hc) fun i hi => ?_
    by_cases q : i < ρ.length
    · rw [List.getElem?_append_left q] at hi
      rcases hc i hi with c | ⟨u, hu, c⟩
      · exact .inl c
      · exact .inr ⟨u, g.stay i u hu c, c⟩
    · rw [List.getElem?_append_right (by omega)] at hi
      have := fr a (List.mem_of_getElem? hi)
      rw [this] at ha
      cases ha
  refine ⟨⟨l ++ l2, by simp, fun a m => ?_⟩, keep1, fun i o e q => k.stay i o (g.stay i o e q) q, fun a o e => let ⟨u, e⟩ := g.dom a o e; k.dom a u e⟩
  rcases List.mem_append.1 m with m | m
  · exact fr a m
  · cases q : H a with
    | none => rfl
    | some o =>
      obtain ⟨u, e⟩ := g.dom a o q
      rw [fr2 a m] at e
      cases e
theorem Sim.at_ (S : Sim K ρ h H) {i : Nat} {o : VO} (e : h.get i = some o) : ∃ a, ρ[i]? = some a ∧ RO K ρ H a o := S.ob i o e
theorem Sim.lt (S : Sim K ρ h H) {i : Nat} (e : ρ[i]? = some a) : i < h.n := by
  rw [← S.len]
  exact (List.getElem?_eq_some_iff.1 e).1
theorem Sim.ref (S : Sim K ρ h H) {i : Nat} {o : VO} (e : h.get i = some o) (r : RV K ρ (.ref i) v) : ∃ a, v = .ref a ∧ ρ[i]? = some a ∧ RO K ρ H a o := by
  obtain ⟨a, e1, q⟩ := r
  obtain ⟨b, e2, q2⟩ := S.ob i o e
  rw [q] at e2
  cases e2
  exact ⟨a, e1, q, q2⟩
/-- garbage: a new object that nobody tracks -/
theorem Sim.waste (S : Sim K ρ h H) {o : HO} (n : H p = none) (t : noT o) : Go ρ lo h H ρ h (upd H p o) ∧ Sim K ρ h (upd H p o) := by
  refine ⟨⟨⟨[], by simp, fun a m => nomatch m⟩, fun a u e _ => ?_, fun _ _ e _ => e, fun a u e => ?_⟩, S.len, S.nd, fun i u e => ?_, S.nt.upd t, fun i a e => ?_⟩
  · rw [upd_ne (by rintro rfl; rw [n] at e; cases e)]; exact e
  · exact ⟨u, by rw [upd_ne (by rintro rfl; rw [n] at e; cases e)]; exact e⟩
  · obtain ⟨a, e1, q⟩ := S.ob i u e
    obtain ⟨w, e2, _⟩ := q.some
    exact ⟨a, e1, q.heap (upd_ne (by rintro rfl; rw [n] at e2; cases e2))⟩
  · obtain ⟨u, e⟩ := S.al i a e
    exact ⟨u, by rw [upd_ne (by rintro rfl; rw [n] at e; cases e)]; exact e⟩
/-- a new object that is tracked -/
theorem Sim.alloc (S : Sim K ρ h H) {o : HO} {w : VO} (n : H p = none) (t : noT o) (e : h.push w = some h') (r : ∀ H', H' p = some o → RO K (ρ ++ [p]) H' p w) : Go ρ lo h H (ρ ++ [p]) h' (upd H p o) ∧ Sim K (ρ ++ [p]) h' (upd H p o) ∧ RV K (ρ ++ [p]) (.ref h.n) (.ref p) := by
  obtain ⟨en, eg⟩ := VH.get_push e
  have hp : ρ[ρ.length]? = none := List.getElem?_eq_none (Nat.le_refl _)
  have at_p : (ρ ++ [p])[h.n]? = some p := by rw [← S.len]; simp
  have stay : ∀ i u, h.get i = some u → h'.get i = some u := fun i u e => by
    obtain ⟨a, e1, _⟩ := S.ob i u e
    rw [eg, if_neg (by have := S.lt e1; omega)]
    exact e
  refine ⟨⟨⟨[p], rfl, fun a m => by rw [List.mem_singleton.1 m]; exact n⟩, fun a u e _ => ?_, fun i u e _ => stay i u e, fun a u e => ?_⟩, ⟨by simp [S.len, en], ?_, fun i u e => ?_, S.nt.upd t, fun i a e => ?_⟩, p, rfl, at_p⟩
  · rw [upd_ne (by rintro rfl; rw [n] at e; cases e)]; exact e
  · exact ⟨u, by rw [upd_ne (by rintro rfl; rw [n] at e; cases e)]; exact e⟩
  · refine List.nodup_append.2 ⟨S.nd, by simp, fun a m b m2 => ?_⟩
    rw [List.mem_singleton.1 m2]
    rintro rfl
    obtain ⟨i, hi, e⟩ := List.getElem_of_mem m
    obtain ⟨u, e2⟩ := S.al i a (List.getElem?_eq_some_iff.2 ⟨hi, e⟩)
    rw [n] at e2
    cases e2
  · rw [eg] at e
    split at e
    · rename_i q
      cases e
      subst q
      exact ⟨p, at_p, r _ upd_same⟩
    · obtain ⟨a, e1, q⟩ := S.ob i u e
      obtain ⟨w, e2, _⟩ := q.some
      exact ⟨a, Le.at_ ⟨[p], rfl⟩ e1, (q.heap (upd_ne (by rintro rfl; rw [n] at e2; cases e2))).mono ⟨[p], rfl⟩⟩
  · by_cases q : i < ρ.length
    · rw [List.getElem?_append_left q] at e
      obtain ⟨u, e⟩ := S.al i a e
      exact ⟨u, by rw [upd_ne (by rintro rfl; rw [n] at e; cases e)]; exact e⟩
    · have e2 := List.mem_of_getElem? (by rwa [List.getElem?_append_right (by omega)] at e)
      rw [List.mem_singleton.1 e2]
      exact ⟨o, upd_same⟩
theorem Sim.inj (S : Sim K ρ h H) {i j : Nat} (e1 : ρ[i]? = some a) (e2 : ρ[j]? = some a) : i = j := by
  obtain ⟨hi, e1⟩ := List.getElem?_eq_some_iff.1 e1
  obtain ⟨hj, e2⟩ := List.getElem?_eq_some_iff.1 e2
  exact (List.getElem_inj S.nd).1 (e1.trans e2.symm)
/-- a change of a tracked object; keep: it is the same to those who look (a lock) -/
theorem Sim.put0 (S : Sim K ρ h H) {o : HO} {w : VO} {i : Nat} (ea : ρ[i]? = some a) (t : noT o) (e : h.set i w = some h') (r : ∀ H', H' a = some o → RO K ρ H' a w) : Sim K ρ h' (upd H a o) := by
  obtain ⟨en, eg⟩ := VH.get_set e
  refine ⟨S.len.trans en.symm, S.nd, fun j u e => ?_, S.nt.upd t, fun j b e => ?_⟩
  · rw [eg] at e
    split at e
    · rename_i q
      cases e
      subst q
      exact ⟨a, ea, r _ upd_same⟩
    · rename_i q
      obtain ⟨b, e1, z⟩ := S.ob j u e
      exact ⟨b, e1, z.heap (upd_ne (by rintro rfl; exact q (S.inj e1 ea)))⟩
  · by_cases q : b = a
    · exact ⟨o, by rw [q, upd_same]⟩
    · rw [upd_ne q]
      exact S.al j b e
theorem Sim.put (S : Sim K ρ h H) {o : HO} {w w0 : VO} {i : Nat} (hl : lo ≤ i) (e0 : h.get i = some w0) (f0 : frzO w0 = false) (ea : ρ[i]? = some a) (t : noT o) (e : h.set i w = some h') (r : ∀ H', H' a = some o → RO K ρ H' a w) : Go ρ lo h H ρ h' (upd H a o) ∧ Sim K ρ h' (upd H a o) := by
  obtain ⟨en, eg⟩ := VH.get_set e
  refine ⟨⟨⟨[], by simp, fun a m => nomatch m⟩, fun b u e c => ?_, fun j u e9 c => ?_, fun b u e => ?_⟩, S.put0 ea t e r⟩
  · by_cases q : b = a
    · subst q
      rcases c i ea with c | ⟨u, c1, c2⟩
      · omega
      · rw [e0] at c1
        cases c1
        rw [f0] at c2
        cases c2
    · rw [upd_ne q]; exact e
  · rw [eg]
    by_cases q : j = i
    · subst q
      rw [e0] at e9
      cases e9
      rw [f0] at c
      cases c
    · rw [if_neg q]; exact e9
  · by_cases q : b = a
    · exact ⟨o, by rw [q, upd_same]⟩
    · exact ⟨u, by rw [upd_ne q]; exact e⟩
/-! ### reckoned expressions, arguments, tests, statements -/
abbrev En : Type := List (Option VV)
abbrev CE : Type := Nat → En → VH → Option (VV × VH)
abbrev CA : Type := Nat → En → VH → Option (List VV × VH)
abbrev CT : Type := Nat → En → VH → Option (Bool × VH)
inductive Fl where
  | nx (e : En) (h : VH) | rt (x : VV) (h : VH) | bk (e : En) (h : VH) | ct (e : En) (h : VH)
abbrev CS : Type := Nat → En → VH → Option Fl
abbrev CG : Type := VV → Nat → En → VH → Option (En × VH)
/-- what comes behind -/
def Aft (K : PySem.W.Frag) (ρ : List Addr) (lo : Nat) (h : VH) (H : Hp) (x : VV) (h' : VH) (Q : VK) : Prop := ∀ ρ' H' v, Go ρ lo h H ρ' h' H' → Sim K ρ' h' H' → RV K ρ' x v → Q v H'
def AftL (K : PySem.W.Frag) (ρ : List Addr) (lo : Nat) (h : VH) (H : Hp) (x : List VV) (h' : VH) (Q : List V → Hp → Prop) : Prop := ∀ ρ' H' v, Go ρ lo h H ρ' h' H' → Sim K ρ' h' H' → RVs K ρ' x v → Q v H'
def AftB (K : PySem.W.Frag) (ρ : List Addr) (lo : Nat) (h : VH) (H : Hp) (x : Bool) (h' : VH) (Q : Bool → Hp → Prop) : Prop := ∀ ρ' H', Go ρ lo h H ρ' h' H' → Sim K ρ' h' H' → Q x H'
def AftE (K : PySem.W.Frag) (ρ : List Addr) (lo : Nat) (h : VH) (H : Hp) (e' : En) (h' : VH) (Q : List (Option V) → Hp → Prop) : Prop := ∀ ρ' σ' H', Go ρ lo h H ρ' h' H' → Sim K ρ' h' H' → REn K ρ' e' σ' → Q σ' H'
def AftF (K : PySem.W.Frag) (ρ : List Addr) (lo : Nat) (h : VH) (H : Hp) (D : Ends) : Fl → Prop
  | .nx e' h' => AftE K ρ lo h H e' h' D.nx
  | .bk e' h' => AftE K ρ lo h H e' h' D.bk
  | .ct e' h' => AftE K ρ lo h H e' h' D.ct
  | .rt x h' => Aft K ρ lo h H x h' D.rt
def den (K : PySem.W.Frag) (r : CE) : TE := fun σ H Q => ∃ ρ lo e h x h', Sim K ρ h H ∧ REn K ρ e σ ∧ r lo e h = some (x, h') ∧ Aft K ρ lo h H x h' Q
def denA (K : PySem.W.Frag) (r : CA) : TA := fun σ H Q => ∃ ρ lo e h x h', Sim K ρ h H ∧ REn K ρ e σ ∧ r lo e h = some (x, h') ∧ AftL K ρ lo h H x h' Q
def denT (K : PySem.W.Frag) (r : CT) : TT := fun σ H Q => ∃ ρ lo e h x h', Sim K ρ h H ∧ REn K ρ e σ ∧ r lo e h = some (x, h') ∧ AftB K ρ lo h H x h' Q
def denS (K : PySem.W.Frag) (r : CS) : TS := fun D σ H => ∃ ρ lo e h f, Sim K ρ h H ∧ REn K ρ e σ ∧ r lo e h = some f ∧ AftF K ρ lo h H D f
def denG (K : PySem.W.Frag) (r : CG) : TG := fun v σ H Q => ∃ ρ lo e h x e' h', Sim K ρ h H ∧ REn K ρ e σ ∧ RV K ρ x v ∧ r x lo e h = some (e', h') ∧ AftE K ρ lo h H e' h' Q
abbrev QE (X : Cx) (e : Expr) (r : CE) : Prop := PE X e (den X.K r)
abbrev QA (X : Cx) (es : List Expr) (r : CA) : Prop := PA X es (denA X.K r)
abbrev QT (X : Cx) (e : Expr) (r : CT) : Prop := PT X e (denT X.K r)
abbrev QS (X : Cx) (e : Stmt) (r : CS) : Prop := PS X e (denS X.K r)
abbrev QSs (X : Cx) (es : List Stmt) (r : CS) : Prop := PSs X es (denS X.K r)
abbrev QG (X : Cx) (e : Expr) (r : CG) : Prop := PG X e (denG X.K r)
theorem Aft.go {Q : VK} (g : Go ρ lo h H ρ1 h1 H1) (k : Aft K ρ lo h H x h' Q) : Aft K ρ1 lo h1 H1 x h' Q := fun ρ' H' v g1 S r => k ρ' H' v (g.trans g1) S r
theorem AftL.go {Q : List V → Hp → Prop} (g : Go ρ lo h H ρ1 h1 H1) (k : AftL K ρ lo h H xs h' Q) : AftL K ρ1 lo h1 H1 xs h' Q := fun ρ' H' v g1 S r => k ρ' H' v (g.trans g1) S r
theorem AftB.go {b : Bool} {Q : Bool → Hp → Prop} (g : Go ρ lo h H ρ1 h1 H1) (k : AftB K ρ lo h H b h' Q) : AftB K ρ1 lo h1 H1 b h' Q := fun ρ' H' g1 S => k ρ' H' (g.trans g1) S
theorem AftE.go {e' : En} {Q : List (Option V) → Hp → Prop} (g : Go ρ lo h H ρ1 h1 H1) (k : AftE K ρ lo h H e' h' Q) : AftE K ρ1 lo h1 H1 e' h' Q := fun ρ' H' v g1 S r => k ρ' H' v (g.trans g1) S r
theorem AftF.go {D : Ends} {f : Fl} (g : Go ρ lo h H ρ1 h1 H1) (k : AftF K ρ lo h H D f) : AftF K ρ1 lo h1 H1 D f := by
  cases f with
  | nx e h => exact AftE.go g k
  | bk e h => exact AftE.go g k
  | ct e h => exact AftE.go g k
  | rt x h => exact Aft.go g k
theorem Aft.now {Q : VK} (S : Sim K ρ h H) (k : Aft K ρ lo h H x h Q) (r : RV K ρ x v) : Q v H := k ρ H v Go.refl S r
end
/-! ### reckoning in turn -/
@[inline] def bd {α β : Type} (o : Option (α × VH)) (k : α → VH → Option β) : Option β := match o with
  | some (x, h) => k x h
  | none => none
@[inline] def ob {α β : Type} (o : Option α) (k : α → Option β) : Option β := match o with
  | some x => k x
  | none => none
theorem bd_some {α β : Type} {o : Option (α × VH)} {k : α → VH → Option β} {y : β} (h : bd o k = some y) : ∃ x h', o = some (x, h') ∧ k x h' = some y := by
  cases o with
  | none => cases h
  | some p => exact ⟨p.1, p.2, rfl, h⟩
theorem ob_some {α β : Type} {o : Option α} {k : α → Option β} {y : β} (h : ob o k = some y) : ∃ x, o = some x ∧ k x = some y := by
  cases o with
  | none => cases h
  | some p => exact ⟨p, rfl, h⟩
end
end K95

set_option maxRecDepth 100000
set_option maxHeartbeats 4000000
namespace K95
open PySem PySem.Spec PyProof.Rows L2
noncomputable section
variable [Nu]
/-! ### rules: expressions -/
section
variable {K : PySem.W.Frag} {σ : List (Option V)} {H : Hp} {Q : VK} {QB : Bool → Hp → Prop} {QL : List V → Hp → Prop} {D : Ends} {ra rb rc : CE} {R R' : R2} {f f' : VV → VV → VH → Option (VV × VH)} {ca cb : CT} {la lb : CA} {sa sb : CS} {ga : CG}
/-- one value kept, another reckoned -/
theorem den_in {ρ ρ1 : List Addr} {lo : Nat} {e : En} {h h1 h' : VH} {H1 : Hp} {x : VV} {r : CE} (g : Go ρ lo h H ρ1 h1 H1) (S : Sim K ρ1 h1 H1) (E : REn K ρ e σ) (run : r lo e h1 = some (x, h')) (k : Aft K ρ1 lo h1 H1 x h' Q) : den K r σ H1 Q := ⟨ρ1, lo, e, h1, x, h', S, E.mono g.le, run, k⟩
def cVar (i : Nat) : CE := fun _ e h => match e[i]? with
  | some (some x) => some (x, h)
  | _ => none
theorem i_var {i : Nat} (d : den K (cVar i) σ H Q) : tVar i σ H Q := by
  obtain ⟨ρ, lo, e, h, x, h', S, E, run, k⟩ := d
  unfold cVar at run
  split at run
  · rename_i y q
    cases run
    obtain ⟨v, ev, r⟩ := E.at_ q
    exact ⟨v, ev, k.now S r⟩
  · cases run
def cK (x : VV) : CE := fun _ _ h => some (x, h)
theorem i_k {x : VV} {v : V} (r : ∀ ρ, RV K ρ x v) (d : den K (cK x) σ H Q) : tC v σ H Q := by
  obtain ⟨ρ, lo, e, h, x, h', S, E, run, k⟩ := d
  cases run
  exact k.now S (r ρ)
def OpC (K : PySem.W.Frag) (R : R2) (f : VV → VV → VH → Option (VV × VH)) : Prop := ∀ {ρ : List Addr} {lo : Nat} {h h' : VH} {H : Hp} {x y z : VV} {v u : V} {Q : VK}, Sim K ρ h H → RV K ρ x v → RV K ρ y u → f x y h = some (z, h') → Aft K ρ lo h H z h' Q → R v u H Q
def cOp (f : VV → VV → VH → Option (VV × VH)) (ra rb : CE) : CE := fun lo e h => bd (ra lo e h) fun x h1 => bd (rb lo e h1) fun y h2 => f x y h2
theorem i_op (oc : OpC K R f) (d : den K (cOp f ra rb) σ H Q) : tOp R (den K ra) (den K rb) σ H Q := by
  obtain ⟨ρ, lo, e, h, z, h', S, E, run, k⟩ := d
  obtain ⟨x, h1, e1, run⟩ := bd_some run
  obtain ⟨y, h2, e2, run⟩ := bd_some run
  exact ⟨ρ, lo, e, h, x, h1, S, E, e1, fun ρ1 H1 v g1 S1 r1 => ⟨ρ1, lo, e, h1, y, h2, S1, E.mono g1.le, e2, fun ρ2 H2 u g2 S2 r2 => oc S2 (r1.mono g2.le) r2 run ((k.go g1).go g2)⟩⟩
/-- a < b < c -/
def cChain (f f' : VV → VV → VH → Option (VV × VH)) (ra rb rc : CE) : CE := fun lo e h => bd (ra lo e h) fun x h1 => bd (rb lo e h1) fun y h2 => bd (f x y h2) fun z h3 => match z with
  | .bl true => bd (rc lo e h3) fun w h4 => f' y w h4
  | .bl false => some (.bl false, h3)
  | _ => none
theorem i_chain (oc : OpC K R f) (oc' : OpC K R' f') (d : den K (cChain f f' ra rb rc) σ H Q) : tChain R R' (den K ra) (den K rb) (den K rc) σ H Q := by
  obtain ⟨ρ, lo, e, h, z, h', S, E, run, k⟩ := d
  obtain ⟨x, h1, e1, run⟩ := bd_some run
  obtain ⟨y, h2, e2, run⟩ := bd_some run
  obtain ⟨b, h3, e3, run⟩ := bd_some run
  refine ⟨ρ, lo, e, h, x, h1, S, E, e1, fun ρ1 H1 v g1 S1 r1 => ⟨ρ1, lo, e, h1, y, h2, S1, E.mono g1.le, e2, fun ρ2 H2 u g2 S2 r2 => oc (lo := lo) S2 (r1.mono g2.le) r2 e3 fun ρ3 H3 w g3 S3 r3 => ?_⟩⟩
  have k3 := ((k.go g1).go g2).go g3
  have E3 := ((E.mono g1.le).mono g2.le).mono g3.le
  split at run
  · refine ⟨true, r3, ?_⟩
    rw [if_pos rfl]
    obtain ⟨t, h4, e4, run⟩ := bd_some run
    exact ⟨ρ3, lo, e, h3, t, h4, S3, E3, e4, fun ρ4 H4 q g4 S4 r4 => oc' S4 ((r2.mono g3.le).mono g4.le) r4 run (k3.go g4)⟩
  · cases run
    refine ⟨false, r3, ?_⟩
    rw [if_neg (by simp)]
    exact k3.now S3 rfl
  · cases run
def cUn (g : VV → Option VV) (ra : CE) : CE := fun lo e h => bd (ra lo e h) fun x h1 => ob (g x) fun z => some (z, h1)
def fNeg : VV → Option VV
  | .int i => some (.int (-i))
  | _ => none
theorem i_neg (d : den K (cUn fNeg ra) σ H Q) : tUn (rU fun i => V.int (-i)) (den K ra) σ H Q := by
  obtain ⟨ρ, lo, e, h, z, h', S, E, run, k⟩ := d
  obtain ⟨x, h1, e1, run⟩ := bd_some run
  refine ⟨ρ, lo, e, h, x, h1, S, E, e1, fun ρ1 H1 v g1 S1 r1 => ?_⟩
  cases x with
  | int i => cases run; exact ⟨i, r1, (k.go g1).now S1 rfl⟩
  | _ => cases run
/-- tests -/
def cB (ra : CE) : CT := fun lo e h => bd (ra lo e h) fun x h1 => match x with
  | .bl b => some (b, h1)
  | _ => none
theorem i_b (d : denT K (cB ra) σ H QB) : tB (den K ra) σ H QB := by
  obtain ⟨ρ, lo, e, h, z, h', S, E, run, k⟩ := d
  obtain ⟨x, h1, e1, run⟩ := bd_some run
  refine ⟨ρ, lo, e, h, x, h1, S, E, e1, fun ρ1 H1 v g1 S1 r1 => ?_⟩
  cases x with
  | bl b => cases run; exact ⟨z, r1, k ρ1 H1 g1 S1⟩
  | _ => cases run
def cAndT (ca cb : CT) : CT := fun lo e h => bd (ca lo e h) fun b h1 => match b with
  | true => cb lo e h1
  | false => some (false, h1)
def cOrT (ca cb : CT) : CT := fun lo e h => bd (ca lo e h) fun b h1 => match b with
  | true => some (true, h1)
  | false => cb lo e h1
def cNotT (ca : CT) : CT := fun lo e h => bd (ca lo e h) fun b h1 => some (!b, h1)
theorem i_andT (d : denT K (cAndT ca cb) σ H QB) : tAnd (denT K ca) (denT K cb) σ H QB := by
  obtain ⟨ρ, lo, e, h, z, h', S, E, run, k⟩ := d
  obtain ⟨x, h1, e1, run⟩ := bd_some run
  refine ⟨ρ, lo, e, h, x, h1, S, E, e1, fun ρ1 H1 g1 S1 => ?_⟩
  cases x with
  | true => rw [if_pos rfl]; exact ⟨ρ1, lo, e, h1, z, h', S1, E.mono g1.le, run, k.go g1⟩
  | false => rw [if_neg (by simp)]; cases run; exact k ρ1 H1 g1 S1
theorem i_orT (d : denT K (cOrT ca cb) σ H QB) : tOr (denT K ca) (denT K cb) σ H QB := by
  obtain ⟨ρ, lo, e, h, z, h', S, E, run, k⟩ := d
  obtain ⟨x, h1, e1, run⟩ := bd_some run
  refine ⟨ρ, lo, e, h, x, h1, S, E, e1, fun ρ1 H1 g1 S1 => ?_⟩
  cases x with
  | true => rw [if_pos rfl]; cases run; exact k ρ1 H1 g1 S1
  | false => rw [if_neg (by simp)]; exact ⟨ρ1, lo, e, h1, z, h', S1, E.mono g1.le, run, k.go g1⟩
theorem i_notT (d : denT K (cNotT ca) σ H QB) : tNot (denT K ca) σ H QB := by
  obtain ⟨ρ, lo, e, h, z, h', S, E, run, k⟩ := d
  obtain ⟨x, h1, e1, run⟩ := bd_some run
  refine ⟨ρ, lo, e, h, x, h1, S, E, e1, fun ρ1 H1 g1 S1 => ?_⟩
  cases run
  exact k ρ1 H1 g1 S1
/-- and, or, not as values -/
def cAndV (ra rb : CE) : CE := fun lo e h => bd (ra lo e h) fun b h1 => match b with
  | .bl true => rb lo e h1
  | .bl false => some (.bl false, h1)
  | _ => none
def cOrV (ra rb : CE) : CE := fun lo e h => bd (ra lo e h) fun b h1 => match b with
  | .bl true => some (.bl true, h1)
  | .bl false => rb lo e h1
  | _ => none
def cNotV (ra : CE) : CE := fun lo e h => bd (ra lo e h) fun b h1 => match b with
  | .bl b => some (.bl (!b), h1)
  | _ => none
theorem i_andV (d : den K (cAndV ra rb) σ H Q) : tAndV (den K ra) (den K rb) σ H Q := by
  obtain ⟨ρ, lo, e, h, z, h', S, E, run, k⟩ := d
  obtain ⟨x, h1, e1, run⟩ := bd_some run
  refine ⟨ρ, lo, e, h, x, h1, S, E, e1, fun ρ1 H1 v g1 S1 r1 => ?_⟩
  split at run
  · exact ⟨true, r1, by rw [if_pos rfl]; exact ⟨ρ1, lo, e, h1, z, h', S1, E.mono g1.le, run, k.go g1⟩⟩
  · cases run; exact ⟨false, r1, by rw [if_neg (by simp)]; exact (k.go g1).now S1 rfl⟩
  · cases run
theorem i_orV (d : den K (cOrV ra rb) σ H Q) : tOrV (den K ra) (den K rb) σ H Q := by
  obtain ⟨ρ, lo, e, h, z, h', S, E, run, k⟩ := d
  obtain ⟨x, h1, e1, run⟩ := bd_some run
  refine ⟨ρ, lo, e, h, x, h1, S, E, e1, fun ρ1 H1 v g1 S1 r1 => ?_⟩
  split at run
  · cases run; exact ⟨true, r1, by rw [if_pos rfl]; exact (k.go g1).now S1 rfl⟩
  · exact ⟨false, r1, by rw [if_neg (by simp)]; exact ⟨ρ1, lo, e, h1, z, h', S1, E.mono g1.le, run, k.go g1⟩⟩
  · cases run
theorem i_notV (d : den K (cNotV ra) σ H Q) : tNotV (den K ra) σ H Q := by
  obtain ⟨ρ, lo, e, h, z, h', S, E, run, k⟩ := d
  obtain ⟨x, h1, e1, run⟩ := bd_some run
  refine ⟨ρ, lo, e, h, x, h1, S, E, e1, fun ρ1 H1 v g1 S1 r1 => ?_⟩
  split at run
  · cases run; exact ⟨_, r1, (k.go g1).now S1 rfl⟩
  · cases run
def cIfE (ca : CT) (ra rb : CE) : CE := fun lo e h => bd (ca lo e h) fun b h1 => match b with
  | true => ra lo e h1
  | false => rb lo e h1
theorem i_ifE (d : den K (cIfE ca ra rb) σ H Q) : tIf (denT K ca) (den K ra) (den K rb) σ H Q := by
  obtain ⟨ρ, lo, e, h, z, h', S, E, run, k⟩ := d
  obtain ⟨x, h1, e1, run⟩ := bd_some run
  refine ⟨ρ, lo, e, h, x, h1, S, E, e1, fun ρ1 H1 g1 S1 => ?_⟩
  cases x with
  | true => rw [if_pos rfl]; exact ⟨ρ1, lo, e, h1, z, h', S1, E.mono g1.le, run, k.go g1⟩
  | false => rw [if_neg (by simp)]; exact ⟨ρ1, lo, e, h1, z, h', S1, E.mono g1.le, run, k.go g1⟩
/-- is None -/
def cIsN (neg : Bool) (ra : CE) : CE := fun lo e h => bd (ra lo e h) fun x h1 => match x with
  | .non => some (.bl (!neg), h1)
  | _ => some (.bl neg, h1)
def isNon : VV → Bool
  | .non => true
  | _ => false
theorem RV.isN {ρ : List Addr} {x : VV} {v : V} (r : RV K ρ x v) : decide (v = .non) = isNon x := by
  cases x <;> first | (obtain ⟨a, e, _⟩ := r; subst e; rfl) | (rw [show v = _ from r]; rfl)
theorem i_isN (d : den K (cIsN false ra) σ H Q) : tIsN (den K ra) σ H Q := by
  obtain ⟨ρ, lo, e, h, z, h', S, E, run, k⟩ := d
  obtain ⟨x, h1, e1, run⟩ := bd_some run
  refine ⟨ρ, lo, e, h, x, h1, S, E, e1, fun ρ1 H1 v g1 S1 r1 => ?_⟩
  show Q _ _
  rw [r1.isN]
  cases x <;> (cases run; exact (k.go g1).now S1 rfl)
theorem i_notN (d : den K (cIsN true ra) σ H Q) : tNotN (den K ra) σ H Q := by
  obtain ⟨ρ, lo, e, h, z, h', S, E, run, k⟩ := d
  obtain ⟨x, h1, e1, run⟩ := bd_some run
  refine ⟨ρ, lo, e, h, x, h1, S, E, e1, fun ρ1 H1 v g1 S1 r1 => ?_⟩
  show Q _ _
  rw [r1.isN]
  cases x <;> (cases run; exact (k.go g1).now S1 rfl)
/-! arguments -/
def cNil : CA := fun _ _ h => some ([], h)
def cCons (ra : CE) (la : CA) : CA := fun lo e h => bd (ra lo e h) fun x h1 => bd (la lo e h1) fun xs h2 => some (x :: xs, h2)
theorem i_nil (d : denA K cNil σ H QL) : tNil σ H QL := by
  obtain ⟨ρ, lo, e, h, z, h', S, E, run, k⟩ := d
  cases run
  exact k ρ H [] Go.refl S True.intro
theorem i_cons (d : denA K (cCons ra la) σ H QL) : tCons (den K ra) (denA K la) σ H QL := by
  obtain ⟨ρ, lo, e, h, z, h', S, E, run, k⟩ := d
  obtain ⟨x, h1, e1, run⟩ := bd_some run
  obtain ⟨xs, h2, e2, run⟩ := bd_some run
  cases run
  exact ⟨ρ, lo, e, h, x, h1, S, E, e1, fun ρ1 H1 v g1 S1 r1 => ⟨ρ1, lo, e, h1, xs, _, S1, E.mono g1.le, e2, fun ρ2 H2 vs g2 S2 r2 => k ρ2 H2 (v :: vs) (g1.trans g2) S2 ⟨r1.mono g2.le, r2⟩⟩⟩
/-! calls of builtins -/
def CallC (K : PySem.W.Frag) (R : List V → Hp → VK → Prop) (f : Nat → List VV → VH → Option (VV × VH)) : Prop := ∀ {ρ : List Addr} {lo : Nat} {h h' : VH} {H : Hp} {xs : List VV} {z : VV} {vs : List V} {Q : VK}, Sim K ρ h H → RVs K ρ xs vs → f lo xs h = some (z, h') → Aft K ρ lo h H z h' Q → R vs H Q
def cCB (f : Nat → List VV → VH → Option (VV × VH)) (la : CA) : CE := fun lo e h => bd (la lo e h) fun xs h1 => f lo xs h1
theorem i_cb {R : List V → Hp → VK → Prop} {f : Nat → List VV → VH → Option (VV × VH)} (c : CallC K R f) (d : den K (cCB f la) σ H Q) : tCB R (denA K la) σ H Q := by
  obtain ⟨ρ, lo, e, h, z, h', S, E, run, k⟩ := d
  obtain ⟨xs, h1, e1, run⟩ := bd_some run
  exact ⟨ρ, lo, e, h, xs, h1, S, E, e1, fun ρ1 H1 vs g1 S1 r1 => c S1 r1 run (k.go g1)⟩
/-! calls of own defs -/
abbrev CF : Type := Nat → List VV → VH → Option (VV × VH)
def spC (K : PySem.W.Frag) (f : CF) : Sp := fun vs H Q E => ∃ ρ lo xs h z h', Sim K ρ h H ∧ RVs K ρ xs vs ∧ f lo xs h = some (z, h') ∧ Aft K ρ lo h H z h' Q
def cFn (f : CF) (la : CA) : CE := fun lo e h => bd (la lo e h) fun xs h1 => f lo xs h1
theorem i_call {f : CF} {E : XK} (d : den K (cFn f la) σ H Q) : tCall (spC K f) [] E (denA K la) σ H Q := by
  obtain ⟨ρ, lo, e, h, z, h', S, E, run, k⟩ := d
  obtain ⟨xs, h1, e1, run⟩ := bd_some run
  exact ⟨ρ, lo, e, h, xs, h1, S, E, e1, fun ρ1 H1 vs g1 S1 r1 => ⟨ρ1, lo, xs, h1, z, h', S1, by simpa using r1, run, k.go g1⟩⟩
def cFnD (f : CF) (ds : List VV) (la : CA) : CE := fun lo e h => bd (la lo e h) fun xs h1 => f lo (xs ++ ds) h1
theorem i_callD {f : CF} {E : XK} {ds : List VV} {dvs : List V} (rd : ∀ ρ, RVs K ρ ds dvs) (d : den K (cFnD f ds la) σ H Q) : tCall (spC K f) dvs E (denA K la) σ H Q := by
  obtain ⟨ρ, lo, e, h, z, h', S, E, run, k⟩ := d
  obtain ⟨xs, h1, e1, run⟩ := bd_some run
  exact ⟨ρ, lo, e, h, xs, h1, S, E, e1, fun ρ1 H1 vs g1 S1 r1 => ⟨ρ1, lo, xs ++ ds, h1, z, h', S1, r1.app (rd ρ1), run, k.go g1⟩⟩
/-- what it made is forgotten -/
def scalV : VV → Bool
  | .non => true
  | .bl _ => true
  | .int _ => true
  | .str _ => true
  | .sy _ _ _ _ => true
  | .tx _ => true
  | _ => false
def fgF (f : CF) : CF := fun lo xs h => bd (f h.n xs h) fun z _ => match scalV z with
  | true => some (z, h)
  | false => none
theorem RV.scal {ρ ρ' : List Addr} {x : VV} {v : V} (s : scalV x = true) (r : RV K ρ x v) : RV K ρ' x v := by
  cases x <;> first | exact r | cases s
theorem spC_fg {f : CF} {vs : List V} {H : Hp} {Q : VK} {E : XK} (d : spC K (fgF f) vs H Q E) : NoT H ∧ spC K f vs H (fun v H1 => Same H H1 ∧ Q v H) E := by
  obtain ⟨ρ, lo, xs, h, z, h', S, r, run, k⟩ := d
  obtain ⟨y, h1, e1, run⟩ := bd_some run
  cases sc : scalV y with
  | false => rw [sc] at run; cases run
  | true =>
    rw [sc] at run
    cases run
    refine ⟨S.nt, ρ, h.n, xs, h, _, h1, S, r, e1, fun ρ1 H1 v g1 S1 r1 => ⟨fun a o e => g1.keep a o e fun i hi => .inl (S.lt hi), k.now S (r1.scal sc)⟩⟩
/-! tuples, lists -/
theorem v64 {n : Nat} (h : n.ble 64 = true) : n ≤ sizeLine := by
  have := Nat.le_of_ble_eq_true h
  have e := sizeLine_eq
  omega
def cTup (la : CA) : CE := fun lo e h => bd (la lo e h) fun xs h1 => match xs.length.ble 64 with
  | true => ob (h1.push (.tup xs)) fun h2 => some (.ref h1.n, h2)
  | false => none
def cLst (la : CA) : CE := fun lo e h => bd (la lo e h) fun xs h1 => match xs.length.ble 64 with
  | true => ob (h1.push (.lst xs)) fun h2 => some (.ref h1.n, h2)
  | false => none
theorem Aft.alloc {ρ : List Addr} {lo : Nat} {h h' : VH} {z : VV} {w : VO} {o : HO} {p : Addr} (S : Sim K ρ h H) (run : (ob (h.push w) fun h2 => some (VV.ref h.n, h2)) = some (z, h')) (k : Aft K ρ lo h H z h' Q) (n : H p = none) (t : noT o) (r : ∀ H', H' p = some o → RO K (ρ ++ [p]) H' p w) : Q (.ref p) (upd H p o) := by
  obtain ⟨h2, e2, run⟩ := ob_some run
  cases run
  obtain ⟨g, S2, r2⟩ := S.alloc (lo := lo) n t e2 r
  exact k _ _ _ g S2 r2
theorem i_tup (d : den K (cTup la) σ H Q) : tTup (denA K la) σ H Q := by
  obtain ⟨ρ, lo, e, h, z, h', S, E, run, k⟩ := d
  obtain ⟨xs, h1, e1, run⟩ := bd_some run
  cases b : xs.length.ble 64 with
  | false => rw [b] at run; cases run
  | true =>
    rw [b] at run
    exact ⟨ρ, lo, e, h, xs, h1, S, E, e1, fun ρ1 H1 vs g1 S1 r1 => ⟨by rw [r1.len]; exact v64 b, fun p hp => Aft.alloc S1 run (k.go g1) hp True.intro fun H' q => ⟨vs, q, r1.mono ⟨_, rfl⟩⟩⟩⟩
theorem i_lst (d : den K (cLst la) σ H Q) : tLst (denA K la) σ H Q := by
  obtain ⟨ρ, lo, e, h, z, h', S, E, run, k⟩ := d
  obtain ⟨xs, h1, e1, run⟩ := bd_some run
  cases b : xs.length.ble 64 with
  | false => rw [b] at run; cases run
  | true =>
    rw [b] at run
    exact ⟨ρ, lo, e, h, xs, h1, S, E, e1, fun ρ1 H1 vs g1 S1 r1 => ⟨by rw [r1.len]; exact v64 b, fun p hp => Aft.alloc S1 run (k.go g1) hp True.intro fun H' q => ⟨vs, q, r1.mono ⟨_, rfl⟩⟩⟩⟩
/-! ### statements -/
theorem den_e {ρ : List Addr} {lo : Nat} {e : En} {h h' : VH} {x : VV} {r : CE} (S : Sim K ρ h H) (E : REn K ρ e σ) (run : r lo e h = some (x, h')) (k : Aft K ρ lo h H x h' Q) : den K r σ H Q := ⟨ρ, lo, e, h, x, h', S, E, run, k⟩
def cRet (ra : CE) : CS := fun lo e h => bd (ra lo e h) fun x h1 => some (.rt x h1)
theorem i_ret (d : denS K (cRet ra) D σ H) : tRet (den K ra) D σ H := by
  obtain ⟨ρ, lo, e, h, f, S, E, run, k⟩ := d
  obtain ⟨x, h1, e1, run⟩ := bd_some run
  cases run
  exact ⟨ρ, lo, e, h, x, h1, S, E, e1, k⟩
def cRetN : CS := fun lo e h => some (.rt .non h)
theorem i_retN (d : denS K cRetN D σ H) : tRetN D σ H := by
  obtain ⟨ρ, lo, e, h, f, S, E, run, k⟩ := d
  cases run
  exact Aft.now S k rfl
def cSkip : CS := fun lo e h => some (.nx e h)
theorem AftE.now {ρ : List Addr} {lo : Nat} {e : En} {h : VH} {Q : List (Option V) → Hp → Prop} (S : Sim K ρ h H) (E : REn K ρ e σ) (k : AftE K ρ lo h H e h Q) : Q σ H := k ρ σ H Go.refl S E
theorem i_skip (d : denS K cSkip D σ H) : tNext D σ H := by
  obtain ⟨ρ, lo, e, h, f, S, E, run, k⟩ := d
  cases run
  exact AftE.now S E k
def cNever : CS := fun _ _ _ => none
theorem i_never (d : denS K cNever D σ H) : tNever D σ H := by
  obtain ⟨ρ, lo, e, h, f, S, E, run, k⟩ := d
  cases run
def cDrop (ra : CE) : CS := fun lo e h => bd (ra lo e h) fun _ h1 => some (.nx e h1)
theorem i_drop (d : denS K (cDrop ra) D σ H) : tDrop (den K ra) D σ H := by
  obtain ⟨ρ, lo, e, h, f, S, E, run, k⟩ := d
  obtain ⟨x, h1, e1, run⟩ := bd_some run
  cases run
  exact ⟨ρ, lo, e, h, x, h1, S, E, e1, fun ρ1 H1 v g1 S1 r1 => k ρ1 σ H1 g1 S1 (E.mono g1.le)⟩
def cSeq (sa sb : CS) : CS := fun lo e h => match sa lo e h with
  | some (.nx e1 h1) => sb lo e1 h1
  | o => o
theorem i_seq (d : denS K (cSeq sa sb) D σ H) : tSeq (denS K sa) (denS K sb) D σ H := by
  obtain ⟨ρ, lo, e, h, f, S, E, run, k⟩ := d
  unfold cSeq at run
  split at run
  · rename_i e1 h1 q
    exact ⟨ρ, lo, e, h, _, S, E, q, fun ρ1 σ1 H1 g1 S1 E1 => ⟨ρ1, lo, e1, h1, f, S1, E1, run, k.go g1⟩⟩
  · refine ⟨ρ, lo, e, h, f, S, E, run, ?_⟩
    cases f with
    | nx e1 h1 => rename_i q; exact (q _ _ run).elim
    | rt x h1 => exact k
    | bk x h1 => exact k
    | ct x h1 => exact k
def cIfS (ca : CT) (sa sb : CS) : CS := fun lo e h => bd (ca lo e h) fun b h1 => match b with
  | true => sa lo e h1
  | false => sb lo e h1
theorem i_ifS (d : denS K (cIfS ca sa sb) D σ H) : tIfS (denT K ca) (denS K sa) (denS K sb) D σ H := by
  obtain ⟨ρ, lo, e, h, f, S, E, run, k⟩ := d
  obtain ⟨x, h1, e1, run⟩ := bd_some run
  refine ⟨ρ, lo, e, h, x, h1, S, E, e1, fun ρ1 H1 g1 S1 => ?_⟩
  cases x with
  | true => rw [if_pos rfl]; exact ⟨ρ1, lo, e, h1, f, S1, E.mono g1.le, run, k.go g1⟩
  | false => rw [if_neg (by simp)]; exact ⟨ρ1, lo, e, h1, f, S1, E.mono g1.le, run, k.go g1⟩
/-! targets -/
def cAsg (ra : CE) (g : CG) : CS := fun lo e h => bd (ra lo e h) fun x h1 => bd (g x lo e h1) fun e2 h2 => some (.nx e2 h2)
theorem i_asg (d : denS K (cAsg ra ga) D σ H) : tAsg (den K ra) (denG K ga) D σ H := by
  obtain ⟨ρ, lo, e, h, f, S, E, run, k⟩ := d
  obtain ⟨x, h1, e1, run⟩ := bd_some run
  obtain ⟨e2, h2, q2, run⟩ := bd_some run
  cases run
  exact ⟨ρ, lo, e, h, x, h1, S, E, e1, fun ρ1 H1 v g1 S1 r1 => ⟨ρ1, lo, e, h1, x, e2, h2, S1, E.mono g1.le, r1, q2, AftE.go g1 k⟩⟩
def cN (i : Nat) : CG := fun x _ e h => some (e.set i (some x), h)
theorem i_name {i : Nat} {v : V} {Q : List (Option V) → Hp → Prop} (hi : i < σ.length) (d : denG K (cN i) v σ H Q) : gName i v σ H Q := by
  obtain ⟨ρ, lo, e, h, x, e', h', S, E, r, run, k⟩ := d
  cases run
  exact AftE.now S (E.set (x := some x) (v := some v) r) k
end
end
end K95

set_option maxRecDepth 100000
set_option maxHeartbeats 4000000
namespace K95
open PySem PySem.Spec PyProof.Rows L2
noncomputable section
/-! ### texts as lists of signs -/
def mkS (l : List Nat) : Str := ⟨⟨l⟩⟩
def lis (z : Str) : List Nat := z.cps.toList
theorem mkS_lis {z : Str} : mkS (lis z) = z := rfl
theorem lis_len {z : Str} : z.length = (lis z).length := rfl
theorem mkS_len {l : List Nat} : (mkS l).length = l.length := rfl
def lowL : List Nat → Bool
  | [] => true
  | c :: r => match c.blt 4096 with
    | true => lowL r
    | false => false
def safeC (c : Nat) : Bool := c.blt 45 || (c.beq 46 || (c.beq 47 || ((Nat.ble 58 c && c.ble 96) || (Nat.ble 123 c && c.blt 256))))
def safeL : List Nat → Bool
  | [] => true
  | c :: r => match safeC c with
    | true => safeL r
    | false => false
section
variable [Nu]
theorem blt_of {a b : Nat} (h : a < b) : a.blt b = true := by rw [Nat.blt_eq]; exact h
theorem chD_low {c : Nat} (h : c.blt 4096 = true) : chD c = c := by unfold chD; rw [h]
theorem chD_big {c : Nat} (h : c.blt 4096 = false) : chD c = 45 ∨ (48 ≤ chD c ∧ chD c ≤ 57) ∨ (97 ≤ chD c ∧ chD c ≤ 122) := by
  unfold chD
  rw [h]
  dsimp only
  split
  · exact .inr (.inl ⟨by omega, by omega⟩)
  · split
    · exact .inl rfl
    · exact .inr (.inr ⟨by omega, by omega⟩)
theorem safe_c {c : Nat} (h : safeC c = true) : c < 45 ∨ c = 46 ∨ c = 47 ∨ (58 ≤ c ∧ c ≤ 96) ∨ (123 ≤ c ∧ c < 256) := by
  unfold safeC at h
  simp only [Bool.or_eq_true, Bool.and_eq_true, Nat.blt_eq, Nat.beq_eq, Nat.ble_eq] at h
  omega
theorem chD_safe {c s : Nat} (h : safeC s = true) : s.beq (chD c) = s.beq c := by
  cases q : c.blt 4096 with
  | true => rw [chD_low q]
  | false =>
    have hc : 4096 ≤ c := by
      have : ¬ c < 4096 := fun z => by rw [blt_of z] at q; cases q
      omega
    have hs := safe_c h
    have e1 : s.beq (chD c) = false := by
      cases e : s.beq (chD c) with
      | false => rfl
      | true =>
        have := Nat.eq_of_beq_eq_true e
        have := chD_big q
        omega
    have e2 : s.beq c = false := by
      cases e : s.beq c with
      | false => rfl
      | true =>
        have := Nat.eq_of_beq_eq_true e
        omega
    rw [e1, e2]
theorem low_map : ∀ {l : List Nat}, lowL l = true → l.map chD = l
  | [], _ => rfl
  | c :: r, h => by
    unfold lowL at h
    cases q : c.blt 4096 with
    | true => rw [q] at h; rw [List.map_cons, chD_low q, low_map h]
    | false => rw [q] at h; cases h
theorem dec_mk {l : List Nat} : dec (mkS l) = mkS (l.map chD) := by
  unfold dec mkS
  simp
theorem dec_low {l : List Nat} (h : lowL l = true) : dec (mkS l) = mkS l := by rw [dec_mk, low_map h]
theorem dec_len {z : Str} : (dec z).length = z.length := by
  unfold dec Str.length
  simp
/-! prefixes -/
def preB : List Nat → List Nat → Bool
  | [], _ => true
  | _ :: _, [] => false
  | p :: ps, x :: xs => match p.beq x with
    | true => preB ps xs
    | false => false
theorem preB_take : ∀ {p x : List Nat}, preB p x = (x.take p.length == p)
  | [], x => by simp [preB]
  | _ :: _, [] => by simp [preB]
  | p :: ps, x :: xs => by
    unfold preB
    cases q : p.beq x with
    | true =>
      have := Nat.eq_of_beq_eq_true q
      subst this
      rw [List.length_cons, List.take_succ_cons]
      simp [preB_take (p := ps) (x := xs)]
    | false =>
      have := Nat.ne_of_beq_eq_false q
      rw [List.length_cons, List.take_succ_cons]
      have : (x == p) = false := beq_eq_false_iff_ne.2 fun z => this z.symm
      show false = (x == p && _)
      rw [this]
      rfl
theorem preB_len {p x : List Nat} (h : preB p x = true) : p.length ≤ x.length := by
  rw [preB_take] at h
  have := congrArg List.length (eq_of_beq h)
  simp at this
  omega
theorem preB_map : ∀ {p x : List Nat}, safeL p = true → preB p (x.map chD) = preB p x
  | [], x, _ => rfl
  | _ :: _, [], _ => rfl
  | p :: ps, x :: xs, h => by
    unfold safeL at h
    cases q : safeC p with
    | false => rw [q] at h; cases h
    | true =>
      rw [q] at h
      rw [List.map_cons]
      unfold preB
      rw [chD_safe q, preB_map h]
theorem sub_list {l p : List Nat} {i : Nat} : Builtin.Str.subAt (mkS l) (mkS p) i = preB p (l.drop i) := by
  rw [preB_take]
  unfold Builtin.Str.subAt mkS Str.length
  simp [List.extract_eq_take_drop]
theorem starts_list {l p : List Nat} : Txt.startswith (mkS l) (mkS p) = preB p l := by
  unfold Txt.startswith
  rw [sub_list, List.drop_zero, mkS_len, mkS_len]
  cases q : preB p l with
  | false => simp
  | true => simp [preB_len q]
/-- whether a coded text starts so -/
def stL : List Nat → List Nat → Option Bool
  | [], _ => some true
  | _ :: _, [] => some false
  | p :: ps, x :: xs => match x.blt 4096 with
    | true => match p.beq x with
      | true => stL ps xs
      | false => some false
    | false => none
theorem stL_ok : ∀ {p x : List Nat} {b : Bool}, stL p x = some b → preB p (x.map chD) = b
  | [], _, _, h => by cases h; rfl
  | _ :: _, [], _, h => by cases h; rfl
  | p :: ps, x :: xs, b, h => by
    unfold stL at h
    cases q : x.blt 4096 with
    | false => rw [q] at h; cases h
    | true =>
      rw [q] at h
      rw [List.map_cons, chD_low q]
      unfold preB
      cases q2 : p.beq x with
      | true => rw [q2] at h; exact stL_ok h
      | false => rw [q2] at h; cases h; rfl
/-! where a text stands in another -/
def occL (p : List Nat) : Nat → List Nat → Nat → Nat → List Nat
  | _, [], _, _ => []
  | lim, x :: xs, i, 0 => match preB p (x :: xs) with
    | true => match lim with
      | 0 => []
      | lim + 1 => i :: occL p lim xs (i + 1) (p.length - 1)
    | false => occL p lim xs (i + 1) 0
  | lim, _ :: xs, i, k + 1 => occL p lim xs (i + 1) k
theorem occL_0 {p : List Nat} : ∀ {xs : List Nat} {i k : Nat}, occL p 0 xs i k = []
  | [], _, k => by cases k <;> rfl
  | x :: xs, i, 0 => by
    unfold occL
    split
    · rfl
    · exact occL_0
  | x :: xs, i, k + 1 => by
    unfold occL
    exact occL_0
theorem occL_hit {p xs : List Nat} {x m i : Nat} (h : preB p (x :: xs) = true) : occL p (m + 1) (x :: xs) i 0 = i :: occL p m xs (i + 1) (p.length - 1) := by
  conv => lhs; unfold occL
  rw [h]
theorem occ_run {l p : List Nat} {limit : Nat} (hp : p ≠ []) : ∀ (xs : List Nat) (i free : Nat) (found : Array Nat), l.drop i = xs → i + xs.length = l.length → found.size ≤ limit →
    (forIn (List.range' i (l.length + 1 - i)) (found, free) (StrLaws.occBody (mkS l) (mkS p) (mkS l).length limit)).run.fst.toList = found.toList ++ occL p (limit - found.size) xs i (free - i) := by
  have hpl : 1 ≤ p.length := List.length_pos_iff.2 hp
  intro xs
  induction xs with
  | nil =>
    intro i free found hd hl _
    have hi : i = l.length := by simpa using hl
    have e : l.length + 1 - i = 0 + 1 := by omega
    rw [e, List.range'_succ, List.forIn_cons]
    unfold StrLaws.occBody
    have hn : ¬ (((found.size < limit ∧ free ≤ i) ∧ i + (mkS p).length ≤ (mkS l).length) ∧ Builtin.Str.subAt (mkS l) (mkS p) i = true) := fun q => by
      have := q.1.2
      rw [mkS_len, mkS_len] at this
      omega
    rw [if_neg hn]
    have e2 : occL p (limit - found.size) [] i (free - i) = [] := by cases (free - i) <;> rfl
    rw [e2]
    simp
  | cons x xs ih =>
    intro i free found hd hl hf
    have hl' : i + (xs.length + 1) = l.length := by simpa using hl
    have e : l.length + 1 - i = (l.length + 1 - (i + 1)) + 1 := by omega
    have hd' : l.drop (i + 1) = xs := by
      rw [← List.tail_drop, hd]
      rfl
    rw [e, List.range'_succ, List.forIn_cons]
    have hs : Builtin.Str.subAt (mkS l) (mkS p) i = preB p (x :: xs) := by rw [sub_list, hd]
    by_cases c : ((found.size < limit ∧ free ≤ i) ∧ i + (mkS p).length ≤ (mkS l).length) ∧ Builtin.Str.subAt (mkS l) (mkS p) i = true
    · have eb : StrLaws.occBody (mkS l) (mkS p) (mkS l).length limit i (found, free) = pure (ForInStep.yield (found.push i, i + (mkS p).length)) := by
        unfold StrLaws.occBody
        rw [if_pos c]
      rw [eb]
      have := ih (i + 1) (i + (mkS p).length) (found.push i) hd' (by omega) (by simp; omega)
      refine Eq.trans this ?_
      have c0 : free - i = 0 := by omega
      have cs : preB p (x :: xs) = true := by rw [← hs]; exact c.2
      rw [c0]
      obtain ⟨m, em⟩ : ∃ m, limit - found.size = m + 1 := ⟨limit - found.size - 1, by omega⟩
      rw [em]
      have e3 : limit - (found.push i).size = m := by simp; omega
      rw [e3]
      have e4 : i + (mkS p).length - (i + 1) = p.length - 1 := by rw [mkS_len]; omega
      rw [e4, occL_hit cs]
      simp
    · have eb : StrLaws.occBody (mkS l) (mkS p) (mkS l).length limit i (found, free) = pure (ForInStep.yield (found, free)) := by
        unfold StrLaws.occBody
        rw [if_neg c]
      rw [eb]
      have := ih (i + 1) free found hd' (by omega) hf
      refine Eq.trans this ?_
      congr 1
      by_cases c1 : free ≤ i
      · have c0 : free - i = 0 := by omega
        have c2 : free - (i + 1) = 0 := by omega
        rw [c0, c2]
        by_cases c3 : found.size < limit
        · have cs : preB p (x :: xs) = false := by
            cases q : preB p (x :: xs) with
            | false => rfl
            | true =>
              have := preB_len q
              refine absurd ⟨⟨⟨c3, c1⟩, ?_⟩, ?_⟩ c
              · rw [mkS_len, mkS_len]
                simp at this
                omega
              · rw [hs, q]
          conv => rhs; unfold occL
          rw [cs]
        · have : limit - found.size = 0 := by omega
          rw [this, occL_0, occL_0]
      · obtain ⟨k, ek⟩ : ∃ k, free - i = k + 1 := ⟨free - i - 1, by omega⟩
        have e5 : free - (i + 1) = k := by omega
        rw [ek, e5]
        conv => rhs; unfold occL
theorem occ_list {l p : List Nat} {limit : Nat} (hp : p ≠ []) : Builtin.Str.occurrences (mkS l) (mkS p) 0 (mkS l).length limit = occL p limit l 0 0 := by
  rw [StrLaws.occ_eq]
  have := occ_run (l := l) (p := p) (limit := limit) hp l 0 0 #[] (by simp) (by simp) (Nat.zero_le _)
  simpa [mkS_len] using this
/-! split -/
def spl (p : List Nat) : List Nat → Nat → List Nat → List (List Nat)
  | [], _, acc => [acc.reverse]
  | x :: xs, 0, acc => match preB p (x :: xs) with
    | true => acc.reverse :: spl p xs (p.length - 1) []
    | false => spl p xs 0 (x :: acc)
  | _ :: xs, k + 1, acc => spl p xs k acc
def cuts (l : List Nat) (w : Nat) : Nat → List Nat → List (List Nat)
  | st, [] => [l.drop st]
  | st, c :: cs => (l.drop st).take (c - st) :: cuts l w (c + w) cs
theorem spl_cuts {l p : List Nat} (hp : p ≠ []) : ∀ (xs : List Nat) (lim i k st : Nat) (acc : List Nat), l.drop i = xs → xs.length < lim →
    (k = 0 → st ≤ i ∧ acc.reverse = (l.drop st).take (i - st) ∧ i + xs.length = l.length) → (k ≠ 0 → acc = [] ∧ st = i + k ∧ st ≤ l.length) → spl p xs k acc = cuts l p.length st (occL p lim xs i k) := by
  have hpl : 1 ≤ p.length := List.length_pos_iff.2 hp
  intro xs
  induction xs with
  | nil =>
    intro lim i k st acc hd hl h0 h1
    have e : occL p lim [] i k = [] := by cases k <;> rfl
    rw [e]
    unfold cuts spl
    by_cases c : k = 0
    · obtain ⟨q1, q2, q3⟩ := h0 c
      have q3 : i = l.length := by simpa using q3
      rw [q2, q3]
      congr 1
      rw [List.take_of_length_le]
      simp
    · obtain ⟨q1, q2, q3⟩ := h1 c
      have : l.drop st = [] := by
        have := congrArg List.length hd
        rw [List.drop_eq_nil_iff]
        simp at this
        omega
      rw [this, q1]
      rfl
  | cons x xs ih =>
    intro lim i k st acc hd hl h0 h1
    have hd' : l.drop (i + 1) = xs := by
      rw [← List.tail_drop, hd]
      rfl
    have hll : i + (xs.length + 1) = l.length := by
      have := congrArg List.length hd
      simp at this
      omega
    have hl : xs.length + 1 < lim := by simpa using hl
    cases k with
    | zero =>
      obtain ⟨q1, q2, q3⟩ := h0 rfl
      cases q : preB p (x :: xs) with
      | true =>
        have hpre := preB_len q
        have hpre : p.length ≤ xs.length + 1 := by simpa using hpre
        obtain ⟨m, rfl⟩ : ∃ m, lim = m + 1 := ⟨lim - 1, by omega⟩
        unfold spl occL
        rw [q]
        dsimp only
        unfold cuts
        rw [q2]
        congr 1
        refine ih m (i + 1) (p.length - 1) (i + p.length) [] hd' (by omega) (fun c => ⟨by omega, ?_, by omega⟩) (fun c => ⟨rfl, by omega, by omega⟩)
        have : i + 1 - (i + p.length) = 0 := by omega
        rw [this]
        simp
      | false =>
        unfold spl occL
        rw [q]
        dsimp only
        refine ih lim (i + 1) 0 st (x :: acc) hd' (by omega) (fun c => ⟨by omega, ?_, by omega⟩) (fun c => absurd rfl c)
        rw [List.reverse_cons, q2]
        have e1 : i + 1 - st = (i - st) + 1 := by omega
        rw [e1, List.take_succ]
        congr 1
        rw [List.getElem?_drop]
        have e2 : st + (i - st) = i := by omega
        rw [e2]
        have e3 : l[i]? = some x := by
          have := congrArg (fun z => z[0]?) hd
          simpa using this
        rw [e3]
        rfl
    | succ k =>
      obtain ⟨q1, q2, q3⟩ := h1 (by omega)
      unfold spl occL
      refine ih lim (i + 1) k st acc hd' (by omega) (fun c => ?_) (fun c => ⟨q1, by omega, q3⟩)
      subst c
      have e : i + 1 - st = 0 := by omega
      refine ⟨by omega, ?_, by omega⟩
      rw [q1, e]
      simp
theorem between {l p : List Nat} : ∀ (cs : List Nat) (st : Nat), ((st :: cs.map (· + (mkS p).length)).zip (cs ++ [(mkS l).length])).map (fun q => Builtin.Str.strSub (mkS l) q.1 q.2) = (cuts l p.length st cs).map mkS
  | [], st => by
    unfold cuts Builtin.Str.strSub mkS Str.length
    simp [List.extract_eq_take_drop]
    rw [List.take_of_length_le]
    simp
  | c :: cs, st => by
    have ih := between (l := l) (p := p) cs (c + p.length)
    rw [List.map_cons, List.cons_append, List.zip_cons_cons, List.map_cons]
    unfold cuts
    rw [List.map_cons]
    refine congr (congrArg _ ?_) ih
    unfold Builtin.Str.strSub mkS
    simp [List.extract_eq_take_drop]
theorem safe_low : ∀ {p : List Nat}, safeL p = true → ∀ c ∈ p, c < 256
  | [], _, _, m => nomatch m
  | x :: xs, h, c, m => by
    unfold safeL at h
    cases q : safeC x with
    | false => rw [q] at h; cases h
    | true =>
      rw [q] at h
      rcases List.mem_cons.1 m with m | m
      · subst m
        have := safe_c q
        omega
      · exact safe_low h c m
theorem split_list {l p : List Nat} (hp : p ≠ []) (hs : safeL p = true) : Txt.split (mkS l) (mkS p) = (spl p l 0 []).map mkS := by
  have main : Builtin.Str.partsBetween (mkS l) (Builtin.Str.occurrences (mkS l) (mkS p) 0 (mkS l).length ((mkS l).length + 1)) (mkS p).length = (spl p l 0 []).map mkS := by
    rw [occ_list hp]
    rw [spl_cuts (l := l) hp l (l.length + 1) 0 0 0 [] (by simp) (by omega) (fun _ => ⟨Nat.le_refl _, by simp, by simp⟩) (fun c => absurd rfl c)]
    exact between _ 0
  have nil : occL p ((mkS l).length + 1) l 0 0 = [] → (spl p l 0 []).map mkS = [mkS l] := fun e => by
    rw [← main, occ_list hp, e]
    unfold Builtin.Str.partsBetween Builtin.Str.strSub mkS Str.length
    simp
  unfold Txt.split
  split
  · rename_i c
    refine Eq.symm (nil ?_)
    have hk : Builtin.Str.strKind (mkS p) = 1 := by
      unfold Builtin.Str.strKind
      have e : (mkS p).cps.all (fun z => decide (z < 256)) = true := by
        unfold mkS
        simp
        intro c m
        exact safe_low hs c m
      rw [e]
      rfl
    have hk2 : 1 ≤ Builtin.Str.strKind (mkS l) := by
      unfold Builtin.Str.strKind
      split
      · exact Nat.le_refl _
      · split <;> decide
    have c1 : l.length < p.length := by
      rw [hk, Bool.or_eq_true, decide_eq_true_eq, decide_eq_true_eq] at c
      rcases c with c | c
      · exact c
      · omega
    have none_ : ∀ (xs : List Nat) (lim i k : Nat), xs.length < p.length → occL p lim xs i k = [] := by
      intro xs
      induction xs with
      | nil => intro lim i k _; cases k <;> rfl
      | cons x xs ih =>
        intro lim i k h
        have h : xs.length + 1 < p.length := by simpa using h
        cases k with
        | zero =>
          have q : preB p (x :: xs) = false := by
            cases q : preB p (x :: xs) with
            | false => rfl
            | true =>
              have := preB_len q
              simp at this
              omega
          unfold occL
          rw [q]
          exact ih _ _ _ (by omega)
        | succ k =>
          unfold occL
          exact ih _ _ _ (by omega)
    exact none_ _ _ _ _ c1
  · split
    · rename_i c
      rw [occ_list hp] at c
      exact (nil (by simpa using c)).symm
    · exact main
theorem spl_map {p : List Nat} (hs : safeL p = true) : ∀ {xs acc : List Nat} {k : Nat}, spl p (xs.map chD) k (acc.map chD) = (spl p xs k acc).map fun q => q.map chD
  | [], acc, k => by
    cases k <;> (unfold spl; simp [List.map_reverse])
  | x :: xs, acc, 0 => by
    have e := preB_map (x := x :: xs) hs
    rw [List.map_cons] at e ⊢
    unfold spl
    rw [e]
    cases preB p (x :: xs) with
    | true =>
      have := spl_map hs (xs := xs) (acc := []) (k := p.length - 1)
      simp only [List.map_nil] at this
      simp [List.map_reverse, this]
    | false => exact spl_map hs (xs := xs) (acc := x :: acc) (k := 0)
  | x :: xs, acc, k + 1 => by
    rw [List.map_cons]
    unfold spl
    exact spl_map hs
/-! partition -/
def par (p : List Nat) : List Nat → List Nat → Option (List Nat × List Nat)
  | [], _ => none
  | x :: xs, acc => match preB p (x :: xs) with
    | true => some (acc.reverse, (x :: xs).drop p.length)
    | false => par p xs (x :: acc)
def parT (p l : List Nat) : List Nat × List Nat × List Nat := match par p l [] with
  | some q => (q.1, p, q.2)
  | none => (l, [], [])
theorem par_run {l p : List Nat} : ∀ (xs acc : List Nat) (i : Nat), l.drop i = xs → acc.reverse = l.take i →
    par p xs acc = match occL p 1 xs i 0 with
      | [] => none
      | j :: _ => some (l.take j, l.drop (j + p.length)) := by
  intro xs
  induction xs with
  | nil => intro acc i _ _; rfl
  | cons x xs ih =>
    intro acc i hd ha
    have hd' : l.drop (i + 1) = xs := by
      rw [← List.tail_drop, hd]
      rfl
    unfold par occL
    cases q : preB p (x :: xs) with
    | true =>
      dsimp only
      rw [ha, ← hd, List.drop_drop]
    | false =>
      dsimp only
      refine ih (x :: acc) (i + 1) hd' ?_
      rw [List.reverse_cons, ha, List.take_succ]
      congr 1
      have e3 : l[i]? = some x := by
        have := congrArg (fun z => z[0]?) hd
        simpa using this
      rw [e3]
      rfl
theorem part_list {l p : List Nat} (hp : p ≠ []) : Txt.partition (mkS l) (mkS p) = (mkS (parT p l).1, mkS (parT p l).2.1, mkS (parT p l).2.2) := by
  unfold Txt.partition parT
  rw [occ_list hp, par_run (l := l) (p := p) l [] 0 (by simp) (by simp)]
  cases occL p 1 l 0 0 with
  | nil => rfl
  | cons j r =>
    dsimp only
    unfold Builtin.Str.strSub mkS Str.length
    simp [List.extract_eq_take_drop]
    rw [List.take_of_length_le]
    simp
theorem par_map {p : List Nat} (hs : safeL p = true) : ∀ {xs acc : List Nat}, par p (xs.map chD) (acc.map chD) = (par p xs acc).map fun q => (q.1.map chD, q.2.map chD)
  | [], acc => rfl
  | x :: xs, acc => by
    have e := preB_map (x := x :: xs) hs
    rw [List.map_cons] at e ⊢
    unfold par
    rw [e]
    cases preB p (x :: xs) with
    | true =>
      show some ((acc.map chD).reverse, List.drop p.length (List.map chD (x :: xs))) = some (acc.reverse.map chD, (List.drop p.length (x :: xs)).map chD)
      rw [← List.map_drop, List.map_reverse]
    | false => exact par_map hs (xs := xs) (acc := x :: acc)
theorem safe_lowL : ∀ {p : List Nat}, safeL p = true → lowL p = true
  | [], _ => rfl
  | x :: xs, h => by
    unfold safeL at h
    cases q : safeC x with
    | false => rw [q] at h; cases h
    | true =>
      rw [q] at h
      unfold lowL
      have : x.blt 4096 = true := blt_of (by have := safe_c q; omega)
      rw [this]
      exact safe_lowL h
theorem parT_map {p l : List Nat} (hs : safeL p = true) : parT p (l.map chD) = ((parT p l).1.map chD, (parT p l).2.1.map chD, (parT p l).2.2.map chD) := by
  have e := par_map hs (xs := l) (acc := [])
  rw [List.map_nil] at e
  unfold parT
  rw [e]
  cases par p l [] with
  | none => rfl
  | some q => simp [low_map (safe_lowL hs)]
/-! join -/
def jnL (s : List Nat) : List (List Nat) → List Nat
  | [] => []
  | [x] => x
  | x :: y :: r => x ++ (s ++ jnL s (y :: r))
theorem jn_fold {s : List Nat} : ∀ (r : List (List Nat)) (a : List Nat), (r.map mkS).foldl (fun acc p => acc ++ (mkS s).cps ++ p.cps) (⟨a⟩ : Array Nat) = ⟨a ++ (match r with | [] => [] | y :: q => s ++ jnL s (y :: q))⟩
  | [], a => by simp
  | y :: q, a => by
    rw [List.map_cons, List.foldl_cons]
    have e : ((⟨a⟩ : Array Nat) ++ (mkS s).cps ++ (mkS y).cps) = ⟨a ++ (s ++ y)⟩ := by
      unfold mkS
      simp
    rw [e, jn_fold q]
    cases q with
    | nil => simp [jnL]
    | cons z w => simp [jnL]
theorem join_list {s : List Nat} {r : List (List Nat)} : Txt.join (mkS s) (r.map mkS) = mkS (jnL s r) := by
  unfold Txt.join Builtin.Str.glued
  cases r with
  | nil => rfl
  | cons x q =>
    have := jn_fold (s := s) q x
    have e : (List.drop 1 (List.map mkS (x :: q))) = q.map mkS := by simp
    rw [e]
    have e2 : ((List.map mkS (x :: q)).headD Str.empty).cps = ⟨x⟩ := rfl
    rw [e2, this]
    unfold mkS
    cases q with
    | nil => simp [jnL]
    | cons z w => simp [jnL]
theorem jn_map {s : List Nat} : ∀ {r : List (List Nat)}, jnL (s.map chD) (r.map fun q => q.map chD) = (jnL s r).map chD
  | [] => rfl
  | [x] => rfl
  | x :: y :: q => by
    have := jn_map (s := s) (r := y :: q)
    simp only [List.map_cons] at this
    simp [jnL, this]
theorem cat_list {a b : List Nat} : mkS a ++ mkS b = mkS (a ++ b) := by
  show Str.mk (_ ++ _) = _
  unfold mkS
  simp
/-! texts of both kinds -/
/-- the signs of a text, coded -/
def cod : VV → Option (List Nat)
  | .str z => match lowL (lis z) with
    | true => some (lis z)
    | false => none
  | .tx z => some (lis z)
  | _ => none
/-- a text from coded signs -/
def nrm (l : List Nat) : VV := match lowL l with
  | true => .str (mkS l)
  | false => .tx (mkS l)
theorem cod_ok {K : PySem.W.Frag} {ρ : List Addr} {x : VV} {v : V} {l : List Nat} (r : RV K ρ x v) (e : cod x = some l) : v = .str (mkS (l.map chD)) := by
  unfold cod at e
  split at e
  · split at e
    · rename_i q
      cases e
      rw [low_map q]
      exact r
    · cases e
  · cases e
    rename_i z
    have r : v = .str (dec z) := r
    rw [r, ← dec_mk]
    rfl
  · cases e
theorem nrm_ok {K : PySem.W.Frag} {ρ : List Addr} {l : List Nat} : RV K ρ (nrm l) (.str (mkS (l.map chD))) := by
  unfold nrm
  split
  · rename_i q
    rw [low_map q]
    rfl
  · show V.str _ = V.str (dec _)
    rw [dec_mk]
end
end
end K95

set_option maxRecDepth 100000
set_option maxHeartbeats 4000000
namespace K95
open PySem PySem.Spec PyProof.Rows L2
noncomputable section
variable [Nu]
/-! ### a def's body -/
def bodyC (np n : Nat) (s : CS) : CF := fun lo xs h => match xs.length.beq np with
  | true => match s lo (xs.map some ++ List.replicate n none) h with
    | some (.rt x h') => some (x, h')
    | some (.nx _ h') => some (.non, h')
    | _ => none
  | false => none
section
variable {P : Program} {w : World} {K : PySem.W.Frag} {mg : Str → Option Value} {base : Heap} {x qual : Str} {params : Arguments} {body : List Stmt} {scope : Scope} {dvs : List V} {kws : List (Str × V)} {f C : Addr} {fd : FuncData} {N ps : List Str} {k n np : Nat} {r : CS}
theorem ren_none {ρ : List Addr} : ∀ {n : Nat}, REn K ρ (List.replicate n none) (List.replicate n none)
  | 0 => True.intro
  | n + 1 => ⟨True.intro, ren_none⟩
theorem ren_args {ρ : List Addr} : ∀ {xs : List VV} {vs : List V}, RVs K ρ xs vs → REn K ρ (xs.map some ++ List.replicate n none) (vs.map some ++ List.replicate n none)
  | [], [], _ => ren_none
  | _ :: _, _ :: _, q => ⟨q.1, ren_args q.2⟩
  | [], _ :: _, q => q.elim
  | _ :: _, [], q => q.elim
theorem ok_body (F : FunD K x qual params body scope dvs kws f fd) (S : FnScope N ps scope) (hp : ps.length = np) (hn : N.length = np + n)
    (hb : ∀ (cdv : Value) (A : Around) (outer : List Env) (s : Shared) (H : Hp) (E : XK), Room k (A.deeper (envOfC qual scope s.heap.objs.size f cdv)) → QSs (cxOf CX0 P w K mg base N qual scope f cdv A outer s H E).nox body r) :
    FnOk P w K mg base CX0 (k + 1) f fd ps (spC K (bodyC np n r)) := by
  refine ok0 F S (fun vs H Q E h => ?_) (fun cdv A outer s H vs Q E hr h => ⟨_, hb cdv A outer s H E hr, ?_⟩)
  · obtain ⟨ρ, lo, xs, h, z, h', S, q, run, k⟩ := h
    unfold bodyC at run
    cases e : xs.length.beq np with
    | false => rw [e] at run; cases run
    | true => rw [q.len, hp]; exact beq_t e
  · obtain ⟨ρ, lo, xs, h, z, h', S, q, run, k⟩ := h
    unfold bodyC at run
    cases e : xs.length.beq np with
    | false => rw [e] at run; cases run
    | true =>
      rw [e] at run
      have hl : vs.length = np := by rw [q.len]; exact beq_t e
      have en : N.length - vs.length = n := by omega
      dsimp only at run
      split at run
      · rename_i h0 e0
        cases run
        refine ⟨ρ, lo, _, h, _, S, ?_, e0, k⟩
        unfold L2.start
        rw [en]
        exact ren_args q
      · rename_i h0 e0
        cases run
        refine ⟨ρ, lo, _, h, _, S, ?_, e0, fun ρ' σ' H' g S' E' => k ρ' H' .non g S' rfl⟩
        unfold L2.start
        rw [en]
        exact ren_args q
      · cases run
theorem FnOk.spc_fg {ps : List Str} {F : CF} (h : FnOk P w K mg base CX0 k f fd ps (spC K F)) : FnOk P w K mg base CX0 k f fd ps (spC K (fgF F)) := FnOk.fg h fun _ _ _ _ d => spC_fg d
/-- a def known by a law of its own -/
theorem FnOk.of {ps : List Str} {sp sp' : Sp} (h : FnOk P w K mg base CX0 k f fd ps sp) (g : ∀ vs H Q E, sp' vs H Q E → sp vs H Q E) : FnOk P w K mg base CX0 k f fd ps sp' := ⟨fun vs H Q E q => h.len vs H Q E (g _ _ _ _ q), fun A outer s H args us vs Q E hr he hb hv q => h.run A outer s H args us vs Q E hr he hb hv (g _ _ _ _ q)⟩
end
section
variable {K : PySem.W.Frag} {σ : List (Option V)} {H : Hp} {Q : VK} {QB : Bool → Hp → Prop} {QL : List V → Hp → Prop} {D : Ends} {ra rb rc : CE} {R R' : R2} {f f' : VV → VV → VH → Option (VV × VH)} {ca cb : CT} {la lb : CA} {sa sb : CS} {ga : CG} {ρ : List Addr} {lo : Nat} {h h' : VH} {x y z : VV} {v u : V}
/-! ### operators -/
def ble8 (n : Nat) : Bool := n.ble 16000
theorem le8 {n : Nat} (h : ble8 n = true) : n ≤ sizeLine := by
  have := Nat.le_of_ble_eq_true h
  have e := sizeLine_eq
  omega
def rAddU : R2 := fun x y H Q => rI0 (fun i j => V.int (i + j)) x y H Q ∨ rAdd1 x y H Q
theorem OpR.or {X : Cx} {f : Value → Value → Sem Value} {r1 r2 : R2} (a : OpR X f r1) (b : OpR X f r2) : OpR X f (fun x y H Q => r1 x y H Q ∨ r2 x y H Q) := fun pins s σ H x y v u Q I rx ry q => q.elim (a pins s σ H x y v u Q I rx ry) (b pins s σ H x y v u Q I rx ry)
theorem op_addU {X : Cx} : OpR X (binaryOp .Add) rAddU := OpR.or op_add op_addS
theorem iop_addU {X : Cx} : OpR X (inplaceOp .Add) rAddU := OpR.or iop_add iop_addS
def fAdd : VV → VV → VH → Option (VV × VH)
  | .int i, .int j, h => some (.int (i + j), h)
  | .str i, .str j, h => match ble8 (i.length + j.length) with
    | true => some (.str (mkS (lis i ++ lis j)), h)
    | false => none
  | .sy a b c d, .int (.ofNat j), h => some (.sy (a + j) b c d, h)
  | .int (.ofNat j), .sy a b c d, h => some (.sy (j + a) b c d, h)
  | .sy a b c d, .sy a' b' c' d', h => some (.sy (a + a') (b + b') (c + c') (d + d'), h)
  | x, y, h => ob (cod x) fun l => ob (cod y) fun r => match ble8 (l.length + r.length) with
    | true => some (nrm (l ++ r), h)
    | false => none
theorem svN_r {a b c d j : Nat} : ((svN (a + j) b c d : Nat) : Int) = (svN a b c d : Nat) + (j : Nat) := by
  have := svN_add (a := a) (b := b) (c := c) (d := d) (a' := j) (b' := 0) (c' := 0) (d' := 0)
  rw [svN_int] at this
  simp only [Nat.add_zero] at this
  omega
theorem svN_l {a b c d j : Nat} : ((svN (j + a) b c d : Nat) : Int) = (j : Nat) + (svN a b c d : Nat) := by
  rw [Nat.add_comm, svN_r]
  omega
theorem oc_add : OpC K rAddU fAdd := by
  intro ρ lo h h' H x y z v u Q S r1 r2 run k
  unfold fAdd at run
  split at run
  · cases run
    exact .inl ⟨_, _, r1, r2, k.now S rfl⟩
  · rename_i _ i j
    cases e : ble8 (i.length + j.length) with
    | false => rw [e] at run; cases run
    | true =>
      rw [e] at run
      cases run
      refine .inr ?_
      rw [show v = _ from r1, show u = _ from r2]
      simp only [e_rAdd1, f_s2R]
      refine ⟨le8 e, k.now S ?_⟩
      show V.str _ = V.str _
      rw [← cat_list]
      rfl
  · cases run
    refine .inl ⟨_, _, r1, r2, k.now S ?_⟩
    show V.int _ = V.int _
    rw [svN_r]
    rfl
  · cases run
    refine .inl ⟨_, _, r1, r2, k.now S ?_⟩
    show V.int _ = V.int _
    rw [svN_l]
    rfl
  · cases run
    refine .inl ⟨_, _, r1, r2, k.now S ?_⟩
    show V.int _ = V.int _
    rw [svN_add]
    rfl
  · obtain ⟨l, e1, run⟩ := ob_some run
    obtain ⟨r, e2, run⟩ := ob_some run
    split at run
    · rename_i q
      cases run
      refine .inr ?_
      rw [cod_ok r1 e1, cod_ok r2 e2]
      simp only [e_rAdd1, f_s2R]
      refine ⟨?_, ?_⟩
      · rw [mkS_len, mkS_len, List.length_map, List.length_map]
        exact le8 q
      · rw [cat_list, ← List.map_append]
        exact k.now S nrm_ok
    · cases run
def fI (g : Int → Int → VV) : VV → VV → VH → Option (VV × VH)
  | .int i, .int j, h => some (g i j, h)
  | _, _, _ => none
theorem oc_i {g : Int → Int → VV} {gv : Int → Int → V} (e : ∀ i j ρ, RV K ρ (g i j) (gv i j)) : OpC K (rI0 gv) (fI g) := by
  intro ρ lo h h' H x y z v u Q S r1 r2 run k
  unfold fI at run
  split at run
  · cases run
    exact ⟨_, _, r1, r2, k.now S (e _ _ _)⟩
  · cases run
def fSub := fI fun i j => .int (i - j)
theorem oc_sub : OpC K (rI0 fun i j => V.int (i - j)) fSub := oc_i (g := fun i j => VV.int (i - j)) (gv := fun i j => V.int (i - j)) fun _ _ _ => rfl
def fLt := fI fun i j => .bl (decide (i < j))
theorem oc_lt : OpC K (rI0 fun i j => V.bl (decide (i < j))) fLt := oc_i (g := fun i j => VV.bl (decide (i < j))) (gv := fun i j => V.bl (decide (i < j))) fun _ _ _ => rfl
def fGt : VV → VV → VH → Option (VV × VH)
  | .int i, .int j, h => some (.bl (decide (j < i)), h)
  | .sy a b c d, .int (.ofNat j), h => match (sHi a b c d).ble j with
    | true => some (.bl false, h)
    | false => none
  | _, _, _ => none
theorem oc_gt : OpC K (rI0 fun i j => V.bl (decide (j < i))) fGt := by
  intro ρ lo h h' H x y z v u Q S r1 r2 run k
  unfold fGt at run
  split at run
  · cases run
    exact ⟨_, _, r1, r2, k.now S rfl⟩
  · rename_i a b c d j
    split at run
    · rename_i q
      cases run
      refine ⟨_, _, r1, r2, k.now S ?_⟩
      have h1 := Nat.le_of_ble_eq_true q
      have h2 := svN_le (a := a) (b := b) (c := c) (d := d)
      show V.bl _ = V.bl _
      congr 1
      exact decide_eq_false (by show ¬ (((j : Nat) : Int) < ((svN a b c d : Nat) : Int)); omega)
    · cases run
  · cases run
def rLeU : R2 := fun x y H Q => rI0 (fun i j => V.bl (decide (i ≤ j))) x y H Q ∨ rLeS x y H Q
theorem op_leU {X : Cx} : OpR X (compareOp .LtE) rLeU := OpR.or op_le op_leS
def fLe : VV → VV → VH → Option (VV × VH)
  | .int i, .int j, h => some (.bl (decide (i ≤ j)), h)
  | .str i, .str j, h => some (.bl (!decide (j.cps.toList < i.cps.toList)), h)
  | _, _, _ => none
theorem oc_le : OpC K rLeU fLe := by
  intro ρ lo h h' H x y z v u Q S r1 r2 run k
  unfold fLe at run
  split at run
  · cases run
    exact .inl ⟨_, _, r1, r2, k.now S rfl⟩
  · cases run
    refine .inr ?_
    rw [show v = _ from r1, show u = _ from r2]
    simp only [e_rLeS, f_s2R]
    exact k.now S rfl
  · cases run
/-! ### data -/
def strK (z : Str) : Bool := ble8 z.length
def dat : Nat → VH → VV → Option PyData
  | _, _, .non => some .none
  | _, _, .bl b => some (.bool b)
  | _, _, .int i => some (.int i)
  | _, _, .str z => some (.str z)
  | _, _, .kt => some (.tuple [])
  | _, _, .sy a b c d => some (.int (svN a b c d : Nat))
  | _, _, .tx z => some (.str (dec z))
  | 0, _, _ => none
  | n + 1, h, .ref i => match h.get i with
    | some (.lst xs) => match xs.foldr (fun x o => match dat n h x, o with | some d, some ds => some (d :: ds) | _, _ => none) (some []) with
      | some ds => some (.list ds)
      | none => none
    | some (.fl xs) => match xs.foldr (fun x o => match dat n h x, o with | some d, some ds => some (d :: ds) | _, _ => none) (some []) with
      | some ds => some (.list ds)
      | none => none
    | some (.tup xs) => match xs.foldr (fun x o => match dat n h x, o with | some d, some ds => some (d :: ds) | _, _ => none) (some []) with
      | some ds => some (.tuple ds)
      | none => none
    | _ => none
  | _, _, _ => none
theorem datAll {n : Nat} (ih : ∀ {x : VV} {v : V} {d : PyData}, RV K ρ x v → dat n h x = some d → Dp K H v d) : ∀ {xs : List VV} {vs : List V} {ds : List PyData}, RVs K ρ xs vs → xs.foldr (fun x o => match dat n h x, o with | some d, some ds => some (d :: ds) | _, _ => none) (some []) = some ds → DpAll K H vs ds
  | [], [], _, _, e => by cases e; exact .nil
  | x :: xs, v :: vs, ds, r, e => by
    rw [List.foldr_cons] at e
    split at e
    · rename_i d ds' e1 e2
      cases e
      exact .cons (ih r.1 e1) (datAll ih r.2 e2)
    · cases e
  | [], _ :: _, _, r, _ => r.elim
  | _ :: _, [], _, r, _ => r.elim
theorem dat_ok (S : Sim K ρ h H) : ∀ {n : Nat} {x : VV} {v : V} {d : PyData}, RV K ρ x v → dat n h x = some d → Dp K H v d := by
  intro n
  induction n with
  | zero =>
    intro x v d r e
    cases x with
    | non => cases e; rw [show v = _ from r]; exact .non
    | bl b => cases e; rw [show v = _ from r]; exact .bl b
    | int b => cases e; rw [show v = _ from r]; exact .int b
    | str b => cases e; rw [show v = _ from r]; exact .str b
    | kt => cases e; obtain ⟨a, rfl, _, q⟩ := r; exact .tup (q H) .nil
    | ref i => cases e
    | fn z => cases e
    | sy a b c d => cases e; rw [show v = _ from r]; exact .int _
    | tx b => cases e; rw [show v = _ from r]; exact .str _
    | adr p => cases e
  | succ n ih =>
    intro x v d r e
    cases x with
    | non => cases e; rw [show v = _ from r]; exact .non
    | bl b => cases e; rw [show v = _ from r]; exact .bl b
    | int b => cases e; rw [show v = _ from r]; exact .int b
    | str b => cases e; rw [show v = _ from r]; exact .str b
    | kt => cases e; obtain ⟨a, rfl, _, q⟩ := r; exact .tup (q H) .nil
    | fn z => cases e
    | sy a b c d => cases e; rw [show v = _ from r]; exact .int _
    | tx b => cases e; rw [show v = _ from r]; exact .str _
    | adr p => cases e
    | ref i =>
      unfold dat at e
      split at e
      all_goals (try cases e; done)
      all_goals rename_i xs q
      all_goals split at e
      all_goals (try cases e; done)
      all_goals rename_i ds q2
      all_goals cases e
      all_goals obtain ⟨a, rfl, _, o⟩ := S.ref q r
      all_goals obtain ⟨vs, ea, rs⟩ := o
      · exact .lst (SqL.of ea) (datAll (fun r e => ih r e) rs q2)
      · exact .lst (SqL.of ea) (datAll (fun r e => ih r e) rs q2)
      · exact .tup (SqT.of ea) (datAll (fun r e => ih r e) rs q2)
/-- == of scalars, as far as it is known -/
def eqS : VV → VV → Option Bool
  | .sy a b c d, .sy a' b' c' d' => match a.beq a' && (b.beq b' && (c.beq c' && d.beq d')) with
    | true => some true
    | false => none
  | .sy a b c d, .int (.ofNat j) => match j.blt a || (sHi a b c d).blt j with
    | true => some false
    | false => none
  | .tx z, .tx y => match seqS z y with
    | true => some true
    | false => none
  | .tx z, .str y => match z.length.beq y.length with
    | true => none
    | false => some false
  | .int i, .int j => some (decide (i = j))
  | .str i, .str j => some (seqS i j)
  | .bl i, .bl j => some (i == j)
  | .non, .non => some true
  | .non, .str _ => some false
  | .non, .int _ => some false
  | .str _, .non => some false
  | .int _, .non => some false
  | .sy _ _ _ _, .non => some false
  | .tx _, .non => some false
  | _, _ => none
def sdt : VV → Option PyData
  | .non => some .none
  | .bl b => some (.bool b)
  | .int i => some (.int i)
  | .str z => some (.str z)
  | .sy a b c d => some (.int (svN a b c d : Nat))
  | .tx z => some (.str (dec z))
  | _ => none
theorem sdt_some {x : VV} (h : scalV x = true) : ∃ d, sdt x = some d := by
  cases x <;> first | exact ⟨_, rfl⟩ | cases h
theorem sdt_dp {x : VV} {d : PyData} {v : V} {H : Hp} (r : RV K ρ x v) (h : sdt x = some d) : Dp K H v d := by
  cases x <;> first | (cases h; rw [show v = _ from r]; first | exact .non | exact .bl _ | exact .int _ | exact .str _) | cases h
/-- a scalar that can be compared -/
def scS : VV → Bool
  | .non => true
  | .bl _ => true
  | .int _ => true
  | .sy _ _ _ _ => true
  | .tx _ => true
  | .str z => lowL (lis z)
  | _ => false
theorem scS_scal {x : VV} (h : scS x = true) : scalV x = true := by
  cases x <;> first | rfl | cases h
theorem chD_lt {c : Nat} : chD c < 1114112 := by
  cases q : c.blt 4096 with
  | true =>
    rw [chD_low q]
    rw [Nat.blt_eq] at q
    omega
  | false =>
    have := chD_big q
    omega
theorem low_ok : ∀ {l : List Nat}, lowL l = true → ∀ c ∈ l, c < 1114112
  | x :: xs, h, c, m => by
    unfold lowL at h
    cases q : x.blt 4096 with
    | false => rw [q] at h; cases h
    | true =>
      rw [q] at h
      rw [Nat.blt_eq] at q
      rcases List.mem_cons.1 m with m | m
      · omega
      · exact low_ok h c m
theorem sdt_sh {x : VV} {d : PyData} (g : scS x = true) (h : sdt x = some d) : PyData.canLay0 d = true ∧ d.depth ≤ 1 := by
  cases x with
  | non => cases h; exact ⟨rfl, Nat.zero_le _⟩
  | bl _ => cases h; exact ⟨rfl, Nat.zero_le _⟩
  | int _ => cases h; exact ⟨rfl, Nat.zero_le _⟩
  | sy _ _ _ _ => cases h; exact ⟨rfl, Nat.zero_le _⟩
  | str z =>
    cases h
    refine ⟨?_, Nat.zero_le _⟩
    unfold PyData.canLay0
    unfold PyData.strOk
    rw [Array.all_eq_true_iff_forall_mem]
    intro c m
    exact decide_eq_true (low_ok g c (by simpa [lis] using m))
  | tx z =>
    cases h
    refine ⟨?_, Nat.zero_le _⟩
    unfold PyData.canLay0
    unfold PyData.strOk
    rw [Array.all_eq_true_iff_forall_mem]
    intro c m
    unfold dec at m
    obtain ⟨b, _, rfl⟩ := Array.mem_map.1 m
    exact decide_eq_true chD_lt
  | _ => cases h
theorem eqS_ok {x y : VV} {b : Bool} {d e : PyData} (h : eqS x y = some b) (hd : sdt x = some d) (he : sdt y = some e) : PyData.eqv d e = b := by
  unfold eqS at h
  split at h
  · split at h
    · rename_i q
      cases h
      cases hd
      cases he
      simp only [Bool.and_eq_true, Nat.beq_eq] at q
      obtain ⟨rfl, rfl, rfl, rfl⟩ := q
      simp [PyData.eqv]
    · cases h
  · rename_i a b c d j
    split at h
    · rename_i q
      cases h
      cases hd
      cases he
      simp only [Bool.or_eq_true, Nat.blt_eq] at q
      have h1 := svN_le (a := a) (b := b) (c := c) (d := d)
      have h2 := svN_ge (a := a) (b := b) (c := c) (d := d)
      unfold PyData.eqv
      refine beq_eq_false_iff_ne.2 fun z => ?_
      have z : ((svN a b c d : Nat) : Int) = (j : Int) := z
      omega
    · cases h
  · split at h
    · rename_i q
      cases h
      cases hd
      cases he
      have := seqS_eq.symm.trans q
      rw [of_decide_eq_true this]
      simp [PyData.eqv]
    · cases h
  · split at h
    · cases h
    · rename_i q
      cases h
      cases hd
      cases he
      unfold PyData.eqv
      refine beq_eq_false_iff_ne.2 fun z => beq_f q ?_
      rw [← z, dec_len]
  · cases h
    cases hd
    cases he
    rfl
  · cases h
    cases hd
    cases he
    rw [seqS_eq]
    rfl
  · cases h; cases hd; cases he; simp [PyData.eqv]
  · cases h; cases hd; cases he; rfl
  · cases h; cases hd; cases he; rfl
  · cases h; cases hd; cases he; rfl
  · cases h; cases hd; cases he; rfl
  · cases h; cases hd; cases he; rfl
  · cases h; cases hd; cases he; rfl
  · cases h; cases hd; cases he; rfl
  · cases h
theorem dat_sdt {x : VV} {h : VH} {n : Nat} (g : scalV x = true) : dat n h x = sdt x := by
  cases n <;> (cases x <;> first | rfl | cases g)
/-- data that can be compared -/
def okD : Nat → VH → VV → Bool
  | _, _, .non => true
  | _, _, .bl _ => true
  | _, _, .int _ => true
  | _, _, .sy _ _ _ _ => true
  | _, _, .tx _ => true
  | _, _, .str z => lowL (lis z)
  | 0, _, _ => false
  | n + 1, h, .ref i => match h.get i with
    | some (.lst xs) => xs.all (okD n h)
    | some (.fl xs) => xs.all (okD n h)
    | some (.tup xs) => xs.all (okD n h)
    | _ => false
  | _ + 1, _, .kt => true
  | _, _, _ => false
/-- two lists compared item by item -/
def eqLs (f : VV → VV → Option Bool) : List VV → List VV → Option Bool
  | [], [] => some true
  | x :: xs, y :: ys => match f x y with
    | some true => eqLs f xs ys
    | some false => some false
    | none => none
  | _, _ => some false
/-- == of data, as far as it is known -/
def eqTn : Nat → VH → VV → VV → Option Bool
  | 0, _, x, y => eqS x y
  | n + 1, h, .ref i, .ref j => match h.get i, h.get j with
    | some (.tup xs), some (.tup ys) => eqLs (eqTn n h) xs ys
    | some (.lst xs), some (.lst ys) => eqLs (eqTn n h) xs ys
    | some (.lst xs), some (.fl ys) => eqLs (eqTn n h) xs ys
    | some (.fl xs), some (.lst ys) => eqLs (eqTn n h) xs ys
    | some (.fl xs), some (.fl ys) => eqLs (eqTn n h) xs ys
    | _, _ => none
  | _ + 1, h, .ref i, .kt => match h.get i with
    | some (.tup xs) => some xs.isEmpty
    | _ => none
  | _ + 1, h, .kt, .ref j => match h.get j with
    | some (.tup ys) => some ys.isEmpty
    | _ => none
  | _ + 1, _, .kt, .kt => some true
  | _ + 1, h, .ref i, .non => match h.get i with
    | some (.tup _) => some false
    | some (.lst _) => some false
    | some (.fl _) => some false
    | _ => none
  | _ + 1, _, x, y => eqS x y
abbrev datF (n : Nat) (h : VH) (x : VV) (o : Option (List PyData)) : Option (List PyData) := match dat n h x, o with
  | some d, some ds => some (d :: ds)
  | _, _ => none
theorem okD_all {n : Nat} {h : VH} (ih : ∀ x, okD n h x = true → ∃ d, dat n h x = some d ∧ PyData.canLay0 d = true ∧ d.depth ≤ n) : ∀ {xs : List VV}, xs.all (okD n h) = true →
    ∃ ds, xs.foldr (fun x o => match dat n h x, o with | some d, some ds => some (d :: ds) | _, _ => none) (some []) = some ds ∧ PyData.canLayAll0 ds = true ∧ PyData.depthAll ds ≤ n
  | [], _ => ⟨[], rfl, by simp [PyData.canLayAll0], by simp [PyData.depthAll]⟩
  | x :: xs, g => by
    rw [List.all_cons, Bool.and_eq_true] at g
    obtain ⟨d, e1, c1, d1⟩ := ih x g.1
    obtain ⟨ds, e2, c2, d2⟩ := okD_all ih g.2
    refine ⟨d :: ds, by rw [List.foldr_cons, e2, e1], by simp [PyData.canLayAll0, c1, c2], ?_⟩
    unfold PyData.depthAll
    omega
theorem okD_ok {h : VH} : ∀ (n : Nat) (x : VV), okD n h x = true → ∃ d, dat n h x = some d ∧ PyData.canLay0 d = true ∧ d.depth ≤ n := by
  have sc : ∀ (n : Nat) (x : VV), scS x = true → ∃ d, dat n h x = some d ∧ PyData.canLay0 d = true ∧ d.depth ≤ n := fun n x g => by
    obtain ⟨d, e⟩ := sdt_some (scS_scal g)
    refine ⟨d, by rw [dat_sdt (scS_scal g)]; exact e, (sdt_sh g e).1, ?_⟩
    have : d.depth = 0 := by
      cases x <;> first | (cases e; rfl) | cases e
    omega
  intro n
  induction n with
  | zero =>
    intro x g
    cases x with
    | ref i => cases g
    | kt => cases g
    | fn z => cases g
    | adr p => cases g
    | non => exact sc _ _ rfl
    | bl b => exact sc _ _ rfl
    | int b => exact sc _ _ rfl
    | sy _ _ _ _ => exact sc _ _ rfl
    | tx _ => exact sc _ _ rfl
    | str z => exact sc _ _ g
  | succ n ih =>
    intro x g
    cases x with
    | fn z => cases g
    | adr p => cases g
    | non => exact sc _ _ rfl
    | bl b => exact sc _ _ rfl
    | int b => exact sc _ _ rfl
    | sy _ _ _ _ => exact sc _ _ rfl
    | tx _ => exact sc _ _ rfl
    | str z => exact sc _ _ g
    | kt => exact ⟨.tuple [], rfl, by decide +kernel, by simp [PyData.depth, PyData.depthAll]⟩
    | ref i =>
      unfold okD at g
      split at g
      all_goals (try cases g; done)
      all_goals rename_i xs q
      all_goals obtain ⟨ds, e1, c1, d1⟩ := okD_all ih g
      · exact ⟨.list ds, by unfold dat; rw [q]; dsimp only; rw [e1], by simpa [PyData.canLay0] using c1, by simpa [PyData.depth] using d1⟩
      · exact ⟨.list ds, by unfold dat; rw [q]; dsimp only; rw [e1], by simpa [PyData.canLay0] using c1, by simpa [PyData.depth] using d1⟩
      · exact ⟨.tuple ds, by unfold dat; rw [q]; dsimp only; rw [e1], by simpa [PyData.canLay0] using c1, by simpa [PyData.depth] using d1⟩
theorem eqLs_ok {n : Nat} {h : VH} (ih : ∀ x y b d e, eqTn n h x y = some b → dat n h x = some d → dat n h y = some e → PyData.eqv d e = b) : ∀ {xs ys : List VV} {b : Bool} {ds es : List PyData}, eqLs (eqTn n h) xs ys = some b →
    xs.foldr (fun x o => match dat n h x, o with | some d, some ds => some (d :: ds) | _, _ => none) (some []) = some ds →
    ys.foldr (fun x o => match dat n h x, o with | some d, some ds => some (d :: ds) | _, _ => none) (some []) = some es → PyData.eqvAll ds es = b
  | [], [], b, _, _, g, hd, he => by cases g; cases hd; cases he; simp [PyData.eqvAll]
  | x :: xs, y :: ys, b, ds, es, g, hd, he => by
    rw [List.foldr_cons] at hd he
    split at hd
    · rename_i d ds' e1 e2
      cases hd
      split at he
      · rename_i e es' e3 e4
        cases he
        unfold eqLs at g
        unfold PyData.eqvAll
        split at g
        · rename_i q
          rw [ih _ _ _ _ _ q e1 e3, eqLs_ok ih g e2 e4]
          rfl
        · rename_i q
          cases g
          rw [ih _ _ _ _ _ q e1 e3]
          rfl
        · cases g
      · cases he
    · cases hd
  | [], y :: ys, b, ds, es, g, hd, he => by
    cases g
    cases hd
    rw [List.foldr_cons] at he
    split at he
    · cases he; simp [PyData.eqvAll]
    · cases he
  | x :: xs, [], b, ds, es, g, hd, he => by
    cases g
    cases he
    rw [List.foldr_cons] at hd
    split at hd
    · cases hd; simp [PyData.eqvAll]
    · cases hd
theorem dat_seq {n i : Nat} {h : VH} {xs : List VV} {d : PyData} {o : VO} (q : h.get i = some o) (hd : dat (n + 1) h (.ref i) = some d) :
    (o = .lst xs ∨ o = .fl xs → ∃ ds, xs.foldr (fun x o => match dat n h x, o with | some d, some ds => some (d :: ds) | _, _ => none) (some []) = some ds ∧ d = .list ds) ∧
    (o = .tup xs → ∃ ds, xs.foldr (fun x o => match dat n h x, o with | some d, some ds => some (d :: ds) | _, _ => none) (some []) = some ds ∧ d = .tuple ds) := by
  unfold dat at hd
  rw [q] at hd
  refine ⟨fun c => ?_, fun c => ?_⟩
  · rcases c with c | c
    all_goals subst c
    all_goals dsimp only at hd
    all_goals split at hd
    all_goals (try cases hd; done)
    all_goals rename_i ds e
    all_goals cases hd
    all_goals exact ⟨ds, e, rfl⟩
  · subst c
    dsimp only at hd
    split at hd
    · rename_i ds e
      cases hd
      exact ⟨ds, e, rfl⟩
    · cases hd
theorem eqS_dat {x y : VV} {b : Bool} {d e : PyData} {n : Nat} {h : VH} (g : eqS x y = some b) (hd : dat n h x = some d) (he : dat n h y = some e) : PyData.eqv d e = b := by
  have s1 : scalV x = true ∧ scalV y = true := by
    cases x <;> first | (cases g; done) | (cases y <;> first | (cases g; done) | exact ⟨rfl, rfl⟩)
  rw [dat_sdt s1.1] at hd
  rw [dat_sdt s1.2] at he
  exact eqS_ok g hd he
theorem emptyAll {xs : List VV} {ds : List PyData} {n : Nat} {h : VH} (e : xs.foldr (fun x o => match dat n h x, o with | some d, some ds => some (d :: ds) | _, _ => none) (some []) = some ds) : PyData.eqvAll ds [] = xs.isEmpty ∧ PyData.eqvAll [] ds = xs.isEmpty := by
  cases xs with
  | nil => cases e; simp [PyData.eqvAll]
  | cons x xs =>
    rw [List.foldr_cons] at e
    split at e
    · cases e; simp [PyData.eqvAll]
    · cases e
theorem eqTn_ok {h : VH} : ∀ (n : Nat) (x y : VV) (b : Bool) (d e : PyData), eqTn n h x y = some b → dat n h x = some d → dat n h y = some e → PyData.eqv d e = b := by
  intro n
  induction n with
  | zero =>
    intro x y b d e g hd he
    have g : eqS x y = some b := by cases x <;> cases y <;> exact g
    exact eqS_dat g hd he
  | succ n ih =>
    intro x y b d e g hd he
    unfold eqTn at g
    split at g
    · rename_i en
      exact absurd en (by omega)
    · rename_i en
      cases en
      split at g
      · rename_i q1 q2
        obtain ⟨ds, e1, rfl⟩ := (dat_seq q1 hd).2 rfl
        obtain ⟨es, e2, rfl⟩ := (dat_seq q2 he).2 rfl
        unfold PyData.eqv
        exact eqLs_ok ih g e1 e2
      all_goals (try cases g; done)
      all_goals rename_i q1 q2
      all_goals obtain ⟨ds, e1, rfl⟩ := (dat_seq q1 hd).1 (by first | exact .inl rfl | exact .inr rfl)
      all_goals obtain ⟨es, e2, rfl⟩ := (dat_seq q2 he).1 (by first | exact .inl rfl | exact .inr rfl)
      all_goals unfold PyData.eqv
      all_goals exact eqLs_ok ih g e1 e2
    · rename_i en
      cases en
      split at g
      · rename_i q1
        cases g
        cases he
        obtain ⟨ds, e1, rfl⟩ := (dat_seq q1 hd).2 rfl
        unfold PyData.eqv
        exact (emptyAll e1).1
      · cases g
    · rename_i en
      cases en
      split at g
      · rename_i q1
        cases g
        cases hd
        obtain ⟨ds, e1, rfl⟩ := (dat_seq q1 he).2 rfl
        unfold PyData.eqv
        exact (emptyAll e1).2
      · cases g
    · cases g
      cases hd
      cases he
      simp [PyData.eqv, PyData.eqvAll]
    · rename_i en
      cases en
      cases he
      split at g
      · rename_i q1
        cases g
        obtain ⟨ds, e1, rfl⟩ := (dat_seq q1 hd).2 rfl
        rfl
      · rename_i q1
        cases g
        obtain ⟨ds, e1, rfl⟩ := (dat_seq q1 hd).1 (.inl rfl)
        rfl
      · rename_i q1
        cases g
        obtain ⟨ds, e1, rfl⟩ := (dat_seq q1 hd).1 (.inr rfl)
        rfl
      · cases g
    · rename_i en _ _ _ _ _
      cases en
      exact eqS_dat g hd he
/-- == of data, and whether it is a sound one -/
def deq (x y : VV) (h : VH) : Option Bool := match okD 4 h x && okD 4 h y with
  | true => eqTn 4 h x y
  | false => none
def fEq (neg : Bool) : VV → VV → VH → Option (VV × VH)
  | .int i, .int j, h => some (.bl (bne neg (decide (i = j))), h)
  | .str i, .str j, h => some (.bl (bne neg (seqS i j)), h)
  | .int _, .non, h => some (.bl neg, h)
  | x, y, h => match deq x y h with
    | some b => some (.bl (bne neg b), h)
    | none => none
def rEqU (K : PySem.W.Frag) : R2 := fun x y H Q => rEq x y H Q ∨ rEqD K x y H Q
def rNeU (K : PySem.W.Frag) : R2 := fun x y H Q => rNe x y H Q ∨ rNeD K x y H Q
theorem op_eqU {X : Cx} (hu : X.A.units + 64 < cLine) : OpR X (compareOp .Eq) (rEqU X.K) := OpR.or op_eq (op_eqD hu)
theorem op_neU {X : Cx} (hu : X.A.units + 64 < cLine) : OpR X (compareOp .NotEq) (rNeU X.K) := OpR.or op_ne (op_neD hu)
theorem deq_ok {b : Bool} (S : Sim K ρ h H) (r1 : RV K ρ x v) (r2 : RV K ρ y u) (e : deq x y h = some b) : ∃ d e, Dp K H v d ∧ Dp K H u e ∧ SeqAt.shaped d = true ∧ SeqAt.shaped e = true ∧ PyData.eqv d e = b := by
  unfold deq at e
  split at e
  · rename_i q
    obtain ⟨s1, s2⟩ := Bool.and_eq_true_iff.1 q
    obtain ⟨d, e1, c1, d1⟩ := okD_ok 4 _ s1
    obtain ⟨d', e2, c2, d2⟩ := okD_ok 4 _ s2
    exact ⟨d, d', dat_ok S r1 e1, dat_ok S r2 e2, Bool.and_eq_true_iff.2 ⟨c1, decide_eq_true (by omega)⟩, Bool.and_eq_true_iff.2 ⟨c2, decide_eq_true (by omega)⟩, eqTn_ok 4 _ _ _ _ _ e e1 e2⟩
  · cases e
theorem oc_eq : OpC K (rEqU K) (fEq false) := by
  intro ρ lo h h' H x y z v u Q S r1 r2 run k
  unfold fEq at run
  split at run
  · cases run
    refine .inl ?_
    rw [show v = _ from r1, show u = _ from r2, e_rEq_ii]
    exact k.now S (by simp [RV])
  · cases run
    refine .inl ?_
    rw [show v = _ from r1, show u = _ from r2, e_rEq_ss]
    exact k.now S (by simp [RV, seqS_eq])
  · cases run
    refine .inl ⟨by rw [show v = _ from r1, show u = _ from r2]; rfl, ?_⟩
    rw [show v = _ from r1, show u = _ from r2]
    exact k.now S rfl
  · split at run
    · rename_i b e
      cases run
      obtain ⟨d, e', p1, p2, s1, s2, rfl⟩ := deq_ok S r1 r2 e
      exact .inr ⟨d, e', p1, p2, s1, s2, k.now S (by simp [RV])⟩
    · cases run
theorem oc_ne : OpC K (rNeU K) (fEq true) := by
  intro ρ lo h h' H x y z v u Q S r1 r2 run k
  unfold fEq at run
  split at run
  · cases run
    refine .inl ?_
    rw [show v = _ from r1, show u = _ from r2, e_rNe_ii]
    exact k.now S (by simp [RV])
  · cases run
    refine .inl ?_
    rw [show v = _ from r1, show u = _ from r2, e_rNe_ss]
    exact k.now S (by simp [RV, seqS_eq])
  · cases run
    refine .inl ⟨by rw [show v = _ from r1, show u = _ from r2]; rfl, ?_⟩
    rw [show v = _ from r1, show u = _ from r2]
    exact k.now S rfl
  · split at run
    · rename_i b e
      cases run
      obtain ⟨d, e', p1, p2, s1, s2, rfl⟩ := deq_ok S r1 r2 e
      exact .inr ⟨d, e', p1, p2, s1, s2, k.now S (by simp [RV])⟩
    · cases run
/-! ### lists and tuples -/
/-- what stands in a list or a tuple -/
def seqOf (h : VH) : VV → Option (List VV)
  | .ref i => match h.get i with
    | some (.lst xs) => some xs
    | some (.fl xs) => some xs
    | some (.tup xs) => some xs
    | _ => none
  | .kt => some []
  | _ => none
theorem seqOf_ok {xs : List VV} (S : Sim K ρ h H) (r : RV K ρ x v) (e : seqOf h x = some xs) : ∃ a vs, v = .ref a ∧ (SqL K H a vs ∨ SqT K H a vs) ∧ RVs K ρ xs vs := by
  unfold seqOf at e
  split at e
  · split at e
    all_goals (try cases e; done)
    all_goals rename_i q
    all_goals cases e
    all_goals obtain ⟨a, rfl, _, o⟩ := S.ref q r
    all_goals obtain ⟨vs, ea, rs⟩ := o
    · exact ⟨a, vs, rfl, .inl (SqL.of ea), rs⟩
    · exact ⟨a, vs, rfl, .inl (SqL.of ea), rs⟩
    · exact ⟨a, vs, rfl, .inr (SqT.of ea), rs⟩
  · cases e
    obtain ⟨a, rfl, _, q⟩ := r
    exact ⟨a, [], rfl, .inr (q H), True.intro⟩
  · cases e
def lstOf (h : VH) : VV → Option (List VV)
  | .ref i => match h.get i with
    | some (.lst xs) => some xs
    | some (.fl xs) => some xs
    | _ => none
  | _ => none
theorem lstOf_ok {xs : List VV} (S : Sim K ρ h H) (r : RV K ρ x v) (e : lstOf h x = some xs) : ∃ a vs, v = .ref a ∧ H a = some (.lst vs) ∧ RVs K ρ xs vs := by
  unfold lstOf at e
  split at e
  · split at e
    all_goals (try cases e; done)
    all_goals rename_i q
    all_goals cases e
    all_goals obtain ⟨a, rfl, _, o⟩ := S.ref q r
    all_goals obtain ⟨vs, ea, rs⟩ := o
    all_goals exact ⟨a, vs, rfl, ea, rs⟩
  · cases e
def tupOf (h : VH) : VV → Option (List VV)
  | .ref i => match h.get i with
    | some (.tup xs) => some xs
    | _ => none
  | .kt => some []
  | _ => none
theorem tupOf_ok {xs : List VV} (S : Sim K ρ h H) (r : RV K ρ x v) (e : tupOf h x = some xs) : ∃ a vs, v = .ref a ∧ SqT K H a vs ∧ RVs K ρ xs vs := by
  unfold tupOf at e
  split at e
  · split at e
    all_goals (try cases e; done)
    all_goals rename_i q
    all_goals cases e
    all_goals obtain ⟨a, rfl, _, o⟩ := S.ref q r
    all_goals obtain ⟨vs, ea, rs⟩ := o
    all_goals exact ⟨a, vs, rfl, SqT.of ea, rs⟩
  · cases e
    obtain ⟨a, rfl, _, q⟩ := r
    exact ⟨a, [], rfl, q H, True.intro⟩
  · cases e
def dctOf (h : VH) : VV → Option (List (Str × VV))
  | .ref i => match h.get i with
    | some (.dk xs) => some xs
    | some (.fk xs) => some xs
    | _ => none
  | _ => none
theorem dctOf_ok {xs : List (Str × VV)} (S : Sim K ρ h H) (r : RV K ρ x v) (e : dctOf h x = some xs) : ∃ a vs, v = .ref a ∧ Rd H a (.dK vs) ∧ RKs K ρ xs vs := by
  unfold dctOf at e
  split at e
  · split at e
    all_goals (try cases e; done)
    all_goals rename_i q
    all_goals cases e
    all_goals obtain ⟨a, rfl, _, o⟩ := S.ref q r
    · obtain ⟨vs, ea, rs⟩ := o
      exact ⟨a, vs, rfl, .inl ea, rs⟩
    · obtain ⟨od, vs, ea, rs⟩ := o
      exact ⟨a, vs, rfl, .inr ⟨od, ea⟩, rs⟩
  · cases e
/-! ### len -/
def rLenU (K : PySem.W.Frag) : List V → Hp → VK → Prop := fun xs H Q => rLenS xs H Q ∨ rLenD xs H Q ∨ ∃ p ys, xs = [.ref p] ∧ (SqL K H p ys ∨ SqT K H p ys) ∧ Q (.int ys.length) H
theorem CallR.or {X : Cx} {f : Value} {r1 r2 : List V → Hp → VK → Prop} (a : CallR X f r1) (b : CallR X f r2) : CallR X f (fun x H Q => r1 x H Q ∨ r2 x H Q) := fun pins s σ H xs us Q I r h => h.elim (a pins s σ H xs us Q I r) (b pins s σ H xs us Q I r)
theorem call_lenU {X : Cx} : CallR X (.builtin "len") (rLenU X.K) := CallR.or call_lenS1 (CallR.or call_lenD1 call_len_seq)
def fLen : Nat → List VV → VH → Option (VV × VH)
  | _, [.str z], h => match ble8 z.length with
    | true => some (.int z.length, h)
    | false => none
  | _, [x], h => match seqOf h x with
    | some xs => some (.int xs.length, h)
    | none => match x with
      | .ref i => match h.get i with
        | some (.dk kvs) => some (.int kvs.length, h)
        | _ => none
      | _ => none
  | _, _, _ => none
theorem RVs.one {vs : List V} (r : RVs K ρ [x] vs) : ∃ v, vs = [v] ∧ RV K ρ x v := by
  match vs, r with
  | [v], r => exact ⟨v, rfl, r.1⟩
  | _ :: _ :: _, r => exact r.2.elim
theorem RVs.two {vs : List V} (r : RVs K ρ [x, y] vs) : ∃ v u, vs = [v, u] ∧ RV K ρ x v ∧ RV K ρ y u := by
  match vs, r with
  | [v, u], r => exact ⟨v, u, rfl, r.1, r.2.1⟩
  | [_], r => exact r.2.elim
  | _ :: _ :: _ :: _, r => exact r.2.2.elim
theorem cc_len : CallC K (rLenU K) fLen := by
  intro ρ lo h h' H xs z vs Q S r run k
  unfold fLen at run
  split at run
  · rename_i _ s
    obtain ⟨v, rfl, r9⟩ := r.one
    cases e : ble8 s.length with
    | false => rw [e] at run; cases run
    | true =>
      rw [e] at run
      cases run
      refine .inl ?_
      rw [show v = _ from r9]
      simp only [e_rLenS, f_sa1]
      exact ⟨le8 e, k.now S rfl⟩
  · obtain ⟨v, rfl, r9⟩ := r.one
    split at run
    · rename_i ys e
      cases run
      obtain ⟨a, us, rfl, sq, rs⟩ := seqOf_ok S r9 e
      exact .inr (.inr ⟨a, us, rfl, sq, by rw [rs.len]; exact k.now S rfl⟩)
    · split at run
      · split at run
        · rename_i q
          cases run
          obtain ⟨a, rfl, _, ws, ea, rs⟩ := S.ref q r9
          refine .inr (.inl ?_)
          simp only [e_rLenD, f_r1R, ea, f_oD]
          rw [rs.len]
          exact k.now S rfl
        · cases run
      · cases run
  · cases run
/-! ### fields -/
def lkF (n : Fn) : List (Fn × VV) → Option VV
  | [] => none
  | (m, x) :: r => match m.val.beq n.val with
    | true => some x
    | false => lkF n r
theorem lkF_ok {n : Fn} : ∀ {fs : List (Fn × VV)} {gs : List (Str × V)}, RFs K ρ fs gs → lkF n fs = some x → ∃ v, gs.lookup (fnm n) = some v ∧ RV K ρ x v
  | [], [], _, e => by cases e
  | (m, y) :: fs, (f, v) :: gs, r, e => by
    obtain ⟨⟨e1, e2⟩, r⟩ := r
    simp only at e1 e2
    unfold lkF at e
    cases q : m.val.beq n.val with
    | true =>
      rw [q] at e
      cases e
      have : m = n := Fin.ext (beq_t q)
      subst this
      exact ⟨v, by simp [List.lookup, e1], e2⟩
    | false =>
      rw [q] at e
      obtain ⟨w, e3, e4⟩ := lkF_ok r e
      refine ⟨w, ?_, e4⟩
      have : (fnm n == f) = false := by
        rw [e1]
        refine beq_eq_false_iff_ne.2 fun z => beq_f q ?_
        rw [fnm_inj _ _ z]
      simp [List.lookup, this, e3]
  | [], _ :: _, r, _ => r.elim
  | _ :: _, [], r, _ => r.elim
theorem no_lk {m : Str} (hm : ∀ n : Fn, fnm n ≠ m) : ∀ {fs : List (Fn × VV)} {gs : List (Str × V)}, RFs K ρ fs gs → gs.lookup m = none
  | [], [], _ => rfl
  | (n, y) :: fs, (f, v) :: gs, r => by
    obtain ⟨⟨e1, e2⟩, r⟩ := r
    have : (m == f) = false := beq_eq_false_iff_ne.2 fun z => hm n (e1.symm.trans z.symm)
    simp [List.lookup, this, no_lk hm r]
  | [], _ :: _, r => r.elim
  | _ :: _, [], r => r.elim
def ptF (n : Fn) (y : VV) : List (Fn × VV) → List (Fn × VV)
  | [] => [(n, y)]
  | (m, x) :: r => match m.val.beq n.val with
    | true => (m, y) :: r
    | false => (m, x) :: ptF n y r
theorem insOf {i : Nat} {c : Cn} {fs : List (Fn × VV)} (S : Sim K ρ h H) (r : RV K ρ (.ref i) v) (e : h.get i = some (.ins c fs)) : ∃ a dx gs, v = .ref a ∧ ρ[i]? = some a ∧ H a = some (.ins (c.ad K) dx gs) ∧ RFs K ρ fs gs := by
  obtain ⟨a, e1, e2, dx, gs, e3, e4⟩ := S.ref e r
  exact ⟨a, dx, gs, e1, e2, e3, e4⟩
def cFd (c : Cn) (n : Fn) (ra : CE) : CE := fun lo e h => bd (ra lo e h) fun x h1 => match x with
  | .ref i => match h1.get i with
    | some (.ins c' fs) => match c'.nat.beq c.nat with
      | true => ob (lkF n fs) fun y => some (y, h1)
      | false => none
    | _ => none
  | _ => none
theorem Cn.inj {c d : Cn} (h : c.nat.beq d.nat = true) : c = d := by
  have := beq_t h
  cases c <;> cases d <;> first | rfl | (exfalso; revert this; decide)
theorem i_fd {c : Cn} {n : Fn} {f : Str} (hf : f = fnm n) (d : den K (cFd c n ra) σ H Q) : tFd (c.ad K) (den K ra) f σ H Q := by
  subst hf
  obtain ⟨ρ, lo, e, h, z, h', S, E, run, k⟩ := d
  obtain ⟨x, h1, e1, run⟩ := bd_some run
  refine ⟨ρ, lo, e, h, x, h1, S, E, e1, fun ρ1 H1 v g1 S1 r1 => ?_⟩
  split at run
  · split at run
    · rename_i c' fs q
      split at run
      · rename_i qc
        obtain ⟨y, e2, run⟩ := ob_some run
        cases run
        obtain ⟨a, dx, gs, rfl, _, ea, rf⟩ := insOf S1 r1 q
        obtain ⟨w, e3, e4⟩ := lkF_ok rf e2
        simp only [f_rR, ea, f_oI]
        refine ⟨by rw [Cn.inj qc], ?_⟩
        rw [e3]
        exact (k.go g1).now S1 e4
      · cases run
    · cases run
  · cases run
theorem ptF_ok {n : Fn} (r : RV K ρ y u) : ∀ {fs : List (Fn × VV)} {gs : List (Str × V)}, RFs K ρ fs gs → RFs K ρ (ptF n y fs) (putF (fnm n) u gs)
  | [], [], _ => ⟨⟨rfl, r⟩, True.intro⟩
  | (m, x) :: fs, (f, v) :: gs, q => by
    obtain ⟨⟨e1, e2⟩, q⟩ := q
    simp only at e1 e2
    unfold ptF putF
    cases z : m.val.beq n.val with
    | true =>
      have : m = n := Fin.ext (beq_t z)
      subst this
      rw [e1]
      simp only [if_pos]
      exact ⟨⟨rfl, r⟩, q⟩
    | false =>
      have : ¬ f = fnm n := by
        rw [e1]
        exact fun w => beq_f z (by rw [fnm_inj _ _ w])
      simp only [this, if_false]
      exact ⟨⟨e1, e2⟩, ptF_ok r q⟩
  | [], _ :: _, r => r.elim
  | _ :: _, [], r => r.elim
end
end
end K95

set_option maxRecDepth 100000
set_option maxHeartbeats 4000000
namespace K95
open PySem PySem.Spec PyProof.Rows L2
noncomputable section
variable [Nu]
section
variable {X : Cx} {K : PySem.W.Frag} {σ : List (Option V)} {H : Hp} {Q : VK} {QB : Bool → Hp → Prop} {QL : List V → Hp → Prop} {D : Ends} {ra rb rc : CE} {R R' : R2} {f f' : VV → VV → VH → Option (VV × VH)} {ca cb : CT} {la lb : CA} {sa sb : CS} {ga : CG} {ρ : List Addr} {lo : Nat} {h h' : VH} {x y z : VV} {v u : V} {e o : Expr} {pos : Pos}
theorem PE.or {t1 t2 : TE} (a : PE X e t1) (b : PE X e t2) : PE X e (fun σ H Q => t1 σ H Q ∨ t2 σ H Q) := ⟨fun pins s σ H Q I q => q.elim (a.run pins s σ H Q I) (b.run pins s σ H Q I)⟩
/-! ### fields set -/
theorem Sim.lst_ {i : Nat} {ys : List VV} {a : Addr} {us : List V} {w0 : VO} (S : Sim K ρ h H) (hl : lo ≤ i) (e0 : h.get i = some w0) (f0 : frzO w0 = false) (ea : ρ[i]? = some a) (e : h.set i (.lst ys) = some h') (r : RVs K ρ ys us) : Go ρ lo h H ρ h' (upd H a (.lst us)) ∧ Sim K ρ h' (upd H a (.lst us)) :=
  S.put hl e0 f0 ea True.intro e fun H' q => ⟨us, q, r⟩
def cSetF (c : Cn) (n : Fn) (ra rv : CE) : CS := fun lo e h => bd (rv lo e h) fun y h1 => bd (ra lo e h1) fun x h2 => match x with
  | .ref i => match h2.get i with
    | some (.ins c' fs) => match c'.nat.beq c.nat && lo.ble i && fs.length.ble 500 with
      | true => ob (h2.set i (.ins c (ptF n y fs))) fun h3 => some (.nx e h3)
      | false => none
    | _ => none
  | _ => none
theorem RFs.len : ∀ {xs : List (Fn × VV)} {vs : List (Str × V)}, RFs K ρ xs vs → vs.length = xs.length
  | [], [], _ => rfl
  | _ :: _, _ :: _, r => congrArg (· + 1) (RFs.len r.2)
  | [], _ :: _, r => r.elim
  | _ :: _, [], r => r.elim
theorem i_setF {c : Cn} {n : Fn} {f : Str} (hf : f = fnm n) (d : denS K (cSetF c n ra rb) D σ H) : sFd (c.ad K) (den K ra) (den K rb) f D σ H := by
  subst hf
  obtain ⟨ρ, lo, e, h, z, S, E, run, k⟩ := d
  obtain ⟨y, h1, e1, run⟩ := bd_some run
  obtain ⟨x, h2, e2, run⟩ := bd_some run
  refine ⟨ρ, lo, e, h, y, h1, S, E, e1, fun ρ1 H1 u g1 S1 r1 => ⟨ρ1, lo, e, h1, x, h2, S1, E.mono g1.le, e2, fun ρ2 H2 v g2 S2 r2 => ?_⟩⟩
  split at run
  · split at run
    · rename_i i c' fs q
      split at run
      · rename_i qc
        obtain ⟨qc, q3⟩ := Bool.and_eq_true_iff.1 qc
        obtain ⟨q1, q2⟩ := Bool.and_eq_true_iff.1 qc
        obtain ⟨h3, e3, run⟩ := ob_some run
        cases run
        obtain ⟨a, dx, gs, rfl, ea, eH, rf⟩ := insOf S2 r2 q
        simp only [f_rR, eH, f_oI]
        have := Nat.le_of_ble_eq_true q3
        refine ⟨⟨by rw [Cn.inj q1], by rw [rf.len]; omega⟩, ?_⟩
        obtain ⟨g3, S3⟩ := S2.put (lo := lo) (o := .ins (c.ad K) dx (putF (fnm n) u gs)) (Nat.le_of_ble_eq_true q2) q rfl ea True.intro e3 fun H' q => ⟨dx, _, q, ptF_ok (r1.mono g2.le) rf⟩
        exact ((k.go g1).go g2) ρ2 σ _ g3 S3 ((E.mono g1.le).mono g2.le)
      · cases run
    · cases run
  · cases run
/-! ### methods of own classes -/
def cMt (c : Cn) (f : CF) (ra : CE) (la : CA) : CE := fun lo e h => bd (ra lo e h) fun x h1 => match x with
  | .ref i => match h1.get i with
    | some (.ins c' fs) => match c'.nat.beq c.nat with
      | true => bd (la lo e h1) fun xs h2 => f lo (x :: xs) h2
      | false => none
    | _ => none
  | _ => none
theorem i_mt {c : Cn} {f : CF} {m : Str} (hm : ∀ n : Fn, fnm n ≠ m) (d : den K (cMt c f ra la) σ H Q) : tMt (c.ad K) m (spC K f) (den K ra) (denA K la) σ H Q := by
  obtain ⟨ρ, lo, e, h, z, h', S, E, run, k⟩ := d
  obtain ⟨x, h1, e1, run⟩ := bd_some run
  refine ⟨ρ, lo, e, h, x, h1, S, E, e1, fun ρ1 H1 v g1 S1 r1 => ?_⟩
  split at run
  · split at run
    · rename_i i _ c' fs q
      split at run
      · rename_i qc
        obtain ⟨xs, h2, e2, run⟩ := bd_some run
        have r1' := r1
        obtain ⟨a, dx, gs, rfl, ea, eH, rf⟩ := insOf S1 r1 q
        simp only [f_rR, eH, f_oI]
        refine ⟨⟨by rw [Cn.inj qc], no_lk hm rf⟩, ?_⟩
        exact ⟨ρ1, lo, e, h1, xs, h2, S1, E.mono g1.le, e2, fun ρ2 H2 vs g2 S2 r2 => ⟨ρ2, lo, VV.ref i :: xs, h2, z, h', S2, ⟨r1'.mono g2.le, r2⟩, run, (k.go g1).go g2⟩⟩
      · cases run
    · cases run
  · cases run
/-- a new instance -/
def cMk (c : Cn) (f : CF) (ds : List VV) (la : CA) : CE := fun lo e h => bd (la lo e h) fun xs h1 => ob (h1.push (.ins c [])) fun h2 => bd (f lo (.ref h1.n :: (xs ++ ds)) h2) fun y h3 => match y with
  | .non => some (.ref h1.n, h3)
  | _ => none
theorem mk_run {c : Cn} {f : CF} {xs : List VV} {vs : List V} {ρ1 : List Addr} {h1 : VH} {H1 : Hp} {E : XK} (S1 : Sim K ρ1 h1 H1) (r1 : RVs K ρ1 xs vs) (k : Aft K ρ1 lo h1 H1 z h' Q)
    (run : (ob (h1.push (.ins c [])) fun h2 => bd (f lo (.ref h1.n :: xs) h2) fun y h3 => match y with | .non => some (VV.ref h1.n, h3) | _ => none) = some (z, h')) (x dx : Addr) (n1 : H1 x = none) (n2 : H1 dx = none) (ne : dx ≠ x) :
    spC K f (.ref x :: vs) (upd (upd H1 dx (.own x)) x (.ins (c.ad K) dx [])) (fun v H2 => v = .non ∧ Q (.ref x) H2) E := by
  obtain ⟨h2, e2, run⟩ := ob_some run
  obtain ⟨y, h3, e3, run⟩ := bd_some run
  split at run
  · cases run
    obtain ⟨ga, Sa⟩ := S1.waste (lo := lo) (o := .own x) n2 True.intro
    have n1' : upd H1 dx (.own x) x = none := by rw [upd_ne (fun z => ne z.symm)]; exact n1
    obtain ⟨gb, Sb, rb⟩ := Sa.alloc (lo := lo) (o := .ins (c.ad K) dx []) (w := .ins c []) n1' True.intro e2 fun H' q => ⟨dx, [], q, True.intro⟩
    refine ⟨_, lo, VV.ref h1.n :: xs, h2, .non, _, Sb, ⟨rb, r1.mono gb.le⟩, e3, fun ρ3 H3 v g3 S3 r3 => ⟨r3, ?_⟩⟩
    exact ((k.go ga).go gb).go g3 |>.now S3 (rb.mono g3.le)
  · cases run
theorem i_mk {c : Cn} {f : CF} {ds : List VV} {dvs : List V} {E : XK} (rd : ∀ ρ, RVs K ρ ds dvs) (d : den K (cMk c f ds la) σ H Q) : tMake (c.ad K) (spC K f) dvs E (denA K la) σ H Q := by
  obtain ⟨ρ, lo, e, h, z, h', S, E, run, k⟩ := d
  obtain ⟨xs, h1, e1, run⟩ := bd_some run
  exact ⟨ρ, lo, e, h, xs, h1, S, E, e1, fun ρ1 H1 vs g1 S1 r1 x dx n1 n2 ne => mk_run S1 (r1.app (rd ρ1)) (k.go g1) run x dx n1 n2 ne⟩
/-! ### methods of texts and lists -/
def tyC : Bool → VH → VV → Bool
  | true, _, .str _ => true
  | true, _, .tx _ => true
  | false, h, .ref i => match h.get i with
    | some (.lst _) => true
    | some (.fl _) => true
    | _ => false
  | _, _, _ => false
def tyN : Bool → String
  | true => "str"
  | false => "list"
theorem tyC_ok {b : Bool} (S : Sim K ρ h H) (r : RV K ρ x v) (e : tyC b h x = true) : tyV K (tyN b) v H := by
  unfold tyC at e
  split at e
  · rw [show v = _ from r]; exact (e_tyV_str (K := K)).symm ▸ True.intro
  · rw [show v = _ from r]; exact (e_tyV_str (K := K)).symm ▸ True.intro
  · split at e
    · rename_i q
      obtain ⟨a, rfl, _, vs, ea, _⟩ := S.ref q r
      exact tyV_l ea
    · rename_i q
      obtain ⟨a, rfl, _, vs, ea, _⟩ := S.ref q r
      exact tyV_l ea
    · cases e
  · cases e
def MtC (K : PySem.W.Frag) (R : V → List V → Hp → VK → Prop) (f : Nat → VV → List VV → VH → Option (VV × VH)) : Prop := ∀ {ρ : List Addr} {lo : Nat} {h h' : VH} {H : Hp} {x : VV} {xs : List VV} {z : VV} {v : V} {vs : List V} {Q : VK}, Sim K ρ h H → RV K ρ x v → RVs K ρ xs vs → f lo x xs h = some (z, h') → Aft K ρ lo h H z h' Q → R v vs H Q
def cBM (b : Bool) (f : Nat → VV → List VV → VH → Option (VV × VH)) (ra : CE) (la : CA) : CE := fun lo e h => bd (ra lo e h) fun x h1 => match tyC b h1 x with
  | true => bd (la lo e h1) fun xs h2 => f lo x xs h2
  | false => none
theorem i_bm {b : Bool} {r : V → List V → Hp → VK → Prop} {f : Nat → VV → List VV → VH → Option (VV × VH)} (c : MtC K r f) (d : den K (cBM b f ra la) σ H Q) : tBM K (tyN b) r (den K ra) (denA K la) σ H Q := by
  obtain ⟨ρ, lo, e, h, z, h', S, E, run, k⟩ := d
  obtain ⟨x, h1, e1, run⟩ := bd_some run
  refine ⟨ρ, lo, e, h, x, h1, S, E, e1, fun ρ1 H1 v g1 S1 r1 => ?_⟩
  split at run
  · rename_i q
    obtain ⟨xs, h2, e2, run⟩ := bd_some run
    exact ⟨tyC_ok S1 r1 q, ρ1, lo, e, h1, xs, h2, S1, E.mono g1.le, e2, fun ρ2 H2 vs g2 S2 r2 => c S2 (r1.mono g2.le) r2 run ((k.go g1).go g2)⟩
  · cases run
/-! texts -/
def fS2 (g : Str → Str → Option VV) : Nat → VV → List VV → VH → Option (VV × VH)
  | _, .str a, [.str b], h => ob (g a b) fun z => some (z, h)
  | _, _, _, _ => none
theorem mc_s2 {R : V → List V → Hp → VK → Prop} {g : Str → Str → Option VV} (c : ∀ {a b : Str} {z : VV} {H : Hp} {Q : VK}, g a b = some z → (∀ v, (∀ ρ, RV K ρ z v) → Q v H) → R (.str a) [.str b] H Q) : MtC K R (fS2 g) := by
  intro ρ lo h h' H x xs z v vs Q S r1 r2 run k
  unfold fS2 at run
  split at run
  · obtain ⟨u, rfl, r9⟩ := r2.one
    obtain ⟨w, e1, run⟩ := ob_some run
    cases run
    rw [show v = _ from r1, show u = _ from r9]
    exact c e1 fun v q => k.now S (q ρ)
  · cases run
def fStarts : Nat → VV → List VV → VH → Option (VV × VH)
  | _, .str a, [.str b], h => some (.bl (preB (lis b) (lis a)), h)
  | _, .tx a, [.str b], h => ob (stL (lis b) (lis a)) fun q => some (.bl q, h)
  | _, _, _, _ => none
theorem mc_starts : MtC K rStarts fStarts := by
  intro ρ lo h h' H x xs z v vs Q S r1 r2 run k
  unfold fStarts at run
  split at run
  · rename_i a b
    cases run
    obtain ⟨u, rfl, r9⟩ := r2.one
    rw [show v = _ from r1, show u = _ from r9]
    simp only [e_rStarts, f_sR, f_sa1]
    have e := starts_list (l := lis a) (p := lis b)
    rw [mkS_lis, mkS_lis] at e
    rw [e]
    exact k.now S rfl
  · rename_i a b
    obtain ⟨q, e1, run⟩ := ob_some run
    cases run
    obtain ⟨u, rfl, r9⟩ := r2.one
    rw [show v = _ from r1, show u = _ from r9]
    simp only [e_rStarts, f_sR, f_sa1]
    have e := starts_list (l := (lis a).map chD) (p := lis b)
    rw [← dec_mk, mkS_lis, mkS_lis, stL_ok e1] at e
    rw [e]
    exact k.now S rfl
  · cases run
def endB (p l : List Nat) : Bool := p.length.ble l.length && preB p (l.drop (l.length - p.length))
theorem ends_list {l p : List Nat} : Txt.endswith (mkS l) (mkS p) = endB p l := by
  unfold Txt.endswith endB
  rw [sub_list, mkS_len, mkS_len, Nat.zero_add]
  congr 1
  cases q : p.length.ble l.length with
  | true => exact decide_eq_true (Nat.le_of_ble_eq_true q)
  | false => exact decide_eq_false fun z => by rw [Nat.ble_eq.mpr z] at q; cases q
def fEnds := fS2 fun a b => some (.bl (endB (lis b) (lis a)))
theorem mc_ends : MtC K rEnds fEnds := mc_s2 fun {a b z H Q} e k => by
  cases e
  simp only [e_rEnds, f_sR, f_sa1]
  have e := ends_list (l := lis a) (p := lis b)
  rw [mkS_lis, mkS_lis] at e
  rw [e]
  exact k _ fun _ => rfl
/-- the texts of a list -/
def strsV : List VV → Option (List Str)
  | [] => some []
  | .str z :: r => match strsV r with
    | some zs => some (z :: zs)
    | none => none
  | _ => none
theorem strsV_ok : ∀ {xs : List VV} {vs : List V} {zs : List Str}, RVs K ρ xs vs → strsV xs = some zs → vs = zs.map V.str
  | [], [], _, _, e => by cases e; rfl
  | x :: xs, v :: vs, zs, r, e => by
    unfold strsV at e
    split at e
    · cases e; rename_i q; cases q
    · rename_i z r9 q
      cases q
      split at e
      · rename_i zs' e2
        cases e
        rw [strsV_ok r.2 e2, show v = _ from r.1]
        rfl
      · cases e
    · cases e
  | [], _ :: _, _, r, _ => r.elim
  | _ :: _, [], _, r, _ => r.elim
theorem RVs.strs : ∀ {zs : List Str}, RVs K ρ (zs.map VV.str) (zs.map V.str)
  | [] => True.intro
  | _ :: _ => ⟨rfl, RVs.strs⟩
theorem RVs.nrms : ∀ {ls : List (List Nat)}, RVs K ρ (ls.map nrm) ((ls.map fun l => mkS (l.map chD)).map V.str)
  | [] => True.intro
  | _ :: _ => ⟨nrm_ok, RVs.nrms⟩
def sepOk (b : List Nat) : Bool := safeL b && (!b.isEmpty)
theorem sep_ok {b : List Nat} (h : sepOk b = true) : safeL b = true ∧ b ≠ [] := by
  unfold sepOk at h
  obtain ⟨h1, h2⟩ := Bool.and_eq_true_iff.1 h
  refine ⟨h1, fun z => ?_⟩
  rw [z] at h2
  cases h2
theorem sep_ne {b : Str} (h : lis b ≠ []) : (b.length == 0) = false := by
  refine beq_eq_false_iff_ne.2 fun z => h ?_
  rw [lis_len] at z
  exact List.length_eq_zero_iff.1 z
def fSplit : Nat → VV → List VV → VH → Option (VV × VH)
  | _, x, [.str b], h => ob (cod x) fun l => match sepOk (lis b) && ble8 (l.length + 2) with
    | true => ob (h.push (.lst ((spl (lis b) l 0 []).map nrm))) fun h2 => some (.ref h.n, h2)
    | false => none
  | _, _, _, _ => none
theorem mc_split : MtC K rSplit fSplit := by
  intro ρ lo h h' H x xs z v vs Q S r1 r2 run k
  unfold fSplit at run
  split at run
  · rename_i b
    obtain ⟨u, rfl, r9⟩ := r2.one
    obtain ⟨l, e1, run⟩ := ob_some run
    split at run
    · rename_i q
      obtain ⟨q1, q2⟩ := Bool.and_eq_true_iff.1 q
      obtain ⟨s1, s2⟩ := sep_ok q1
      rw [cod_ok r1 e1, show u = _ from r9]
      simp only [e_rSplit, f_sR, f_sa1]
      have e := split_list (l := l.map chD) s2 s1
      have em := spl_map (xs := l) (acc := []) (k := 0) s1
      rw [List.map_nil] at em
      rw [em, mkS_lis] at e
      refine ⟨⟨sep_ne s2, ?_⟩, fun p hp => Aft.alloc S run k hp True.intro fun H' q => ⟨_, q, ?_⟩⟩
      · rw [mkS_len, List.length_map]
        exact le8 q2
      · rw [e]
        have e4 : ((spl (lis b) l 0 []).map fun q => q.map chD).map mkS = (spl (lis b) l 0 []).map fun l => mkS (l.map chD) := by rw [List.map_map]; rfl
        rw [e4]
        exact RVs.nrms
    · cases run
  · cases run
def fPart : Nat → VV → List VV → VH → Option (VV × VH)
  | _, x, [.str b], h => ob (cod x) fun l => match sepOk (lis b) && ble8 l.length with
    | true => ob (h.push (.tup [nrm (parT (lis b) l).1, nrm (parT (lis b) l).2.1, nrm (parT (lis b) l).2.2])) fun h2 => some (.ref h.n, h2)
    | false => none
  | _, _, _, _ => none
theorem mc_part : MtC K rPart fPart := by
  intro ρ lo h h' H x xs z v vs Q S r1 r2 run k
  unfold fPart at run
  split at run
  · rename_i b
    obtain ⟨u, rfl, r9⟩ := r2.one
    obtain ⟨l, e1, run⟩ := ob_some run
    split at run
    · rename_i q
      obtain ⟨q1, q2⟩ := Bool.and_eq_true_iff.1 q
      obtain ⟨s1, s2⟩ := sep_ok q1
      rw [cod_ok r1 e1, show u = _ from r9]
      simp only [e_rPart, f_sR, f_sa1]
      have e := part_list (l := l.map chD) s2
      rw [mkS_lis, parT_map s1] at e
      refine ⟨⟨sep_ne s2, ?_⟩, fun p hp => Aft.alloc S run k hp True.intro fun H' q => ⟨_, q, ?_⟩⟩
      · rw [mkS_len, List.length_map]
        exact le8 q2
      · rw [e]
        exact ⟨nrm_ok, nrm_ok, nrm_ok, True.intro⟩
    · cases run
  · cases run
/-- the signs of the texts of a list -/
def cods : List VV → Option (List (List Nat))
  | [] => some []
  | x :: r => match cod x, cods r with
    | some l, some ls => some (l :: ls)
    | _, _ => none
theorem cods_ok : ∀ {xs : List VV} {vs : List V} {ls : List (List Nat)}, RVs K ρ xs vs → cods xs = some ls → vs = ((ls.map fun l => l.map chD).map mkS).map V.str
  | [], [], _, _, e => by cases e; rfl
  | x :: xs, v :: vs, ls, r, e => by
    unfold cods at e
    split at e
    · rename_i l ls' e1 e2
      cases e
      rw [cods_ok r.2 e2, cod_ok r.1 e1]
      rfl
    · cases e
  | [], _ :: _, _, r, _ => r.elim
  | _ :: _, [], _, r, _ => r.elim
theorem lens_map : ∀ {ls : List (List Nat)}, ((((ls.map fun l => l.map chD).map mkS).map (·.length)).sum) = (ls.map List.length).sum
  | [] => rfl
  | l :: ls => by
    have := lens_map (ls := ls)
    simp only [List.map_cons, List.sum_cons, mkS_len, List.length_map] at this ⊢
    omega
def fJoin : Nat → VV → List VV → VH → Option (VV × VH)
  | _, .str a, [x], h => ob (lstOf h x) fun xs => ob (cods xs) fun ls => match lowL (lis a) && ((ls.map List.length).sum + ls.length * a.length).ble 16000 with
    | true => some (nrm (jnL (lis a) ls), h)
    | false => none
  | _, _, _, _ => none
theorem mc_join : MtC K rJoin fJoin := by
  intro ρ lo h h' H x xs z v vs Q S r1 r2 run k
  unfold fJoin at run
  split at run
  · rename_i a y
    obtain ⟨u, rfl, r9⟩ := r2.one
    obtain ⟨xs, e1, run⟩ := ob_some run
    obtain ⟨ls, e2, run⟩ := ob_some run
    split at run
    · rename_i q
      cases run
      obtain ⟨q1, q2⟩ := Bool.and_eq_true_iff.1 q
      obtain ⟨p, us, rfl, sq, rs⟩ := lstOf_ok S r9 e1
      have es := cods_ok rs e2
      subst es
      rw [show v = _ from r1]
      simp only [e_rJoin, f_sR, f_r1R, sq, f_oSl, e_txsm, f_oV]
      have := Nat.le_of_ble_eq_true q2
      refine ⟨?_, ?_⟩
      · rw [lens_map, List.length_map, List.length_map]
        omega
      · have e := join_list (s := (lis a).map chD) (r := ls.map fun l => l.map chD)
        rw [jn_map, low_map q1, mkS_lis] at e
        rw [e]
        exact k.now S nrm_ok
    · cases run
  · cases run
/-! lists -/
def fApp : Nat → VV → List VV → VH → Option (VV × VH)
  | lo, .ref i, [y], h => match h.get i with
    | some (.lst xs) => match lo.ble i && xs.length.ble 64 with
      | true => ob (h.set i (.lst (xs ++ [y]))) fun h2 => some (.non, h2)
      | false => none
    | _ => none
  | _, _, _, _ => none
theorem mc_app : MtC K rApp fApp := by
  intro ρ lo h h' H x xs z v vs Q S r1 r2 run k
  unfold fApp at run
  split at run
  · rename_i i y
    obtain ⟨u, rfl, r9⟩ := r2.one
    split at run
    · rename_i xs e1
      split at run
      · rename_i q
        obtain ⟨q1, q2⟩ := Bool.and_eq_true_iff.1 q
        obtain ⟨h2, e2, run⟩ := ob_some run
        cases run
        obtain ⟨a, rfl, ea, vs, eH, rs⟩ := S.ref e1 r1
        simp only [e_rApp, f_rR, eH, f_oL]
        have := Nat.le_of_ble_eq_true q2
        have se := sizeLine_eq
        refine ⟨by rw [rs.len]; omega, ?_⟩
        obtain ⟨g, S2⟩ := S.lst_ (lo := lo) (Nat.le_of_ble_eq_true q1) e1 rfl ea e2 (rs.app (us := [u]) ⟨r9, True.intro⟩)
        exact k _ _ _ g S2 rfl
      · cases run
    · cases run
  · cases run
end
end
end K95

set_option maxRecDepth 100000
set_option maxHeartbeats 4000000
namespace K95
open PySem PySem.Spec PyProof.Rows L2
noncomputable section
variable [Nu]
section
variable {X : Cx} {K : PySem.W.Frag} {σ : List (Option V)} {H : Hp} {Q : VK} {QB : Bool → Hp → Prop} {QL : List V → Hp → Prop} {D : Ends} {ra rb rc : CE} {R R' : R2} {f f' : VV → VV → VH → Option (VV × VH)} {ca cb : CT} {la lb : CA} {sa sb : CS} {ga : CG} {ρ : List Addr} {lo : Nat} {h h' : VH} {x y z : VV} {v u : V} {e o : Expr} {pos : Pos}
/-! ### subscripts -/
theorem rvs_atI {xs : List VV} {vs : List V} {i : Int} (r : RVs K ρ xs vs) (e : atI xs i = some x) : ∃ v, atI vs i = some v ∧ RV K ρ x v := by
  unfold atI at e ⊢
  rw [r.len]
  cases q : ixN xs.length i with
  | none => rw [q] at e; cases e
  | some j =>
    rw [q] at e
    obtain ⟨v, e1, e2⟩ := r.at_ (i := j) e
    exact ⟨v, e1, e2⟩
/-- a dict's value -/
def lkK (k : Str) : List (Str × VV) → Option VV
  | [] => none
  | (m, x) :: r => match seqS m k with
    | true => some x
    | false => lkK k r
theorem seqS_t {a b : Str} (h : seqS a b = true) : a = b := of_decide_eq_true (seqS_eq.symm.trans h)
theorem seqS_f {a b : Str} (h : seqS a b = false) : a ≠ b := of_decide_eq_false (seqS_eq.symm.trans h)
theorem lkK_some {k : Str} : ∀ {fs : List (Str × VV)} {gs : List (Key × V)}, RKs K ρ fs gs → lkK k fs = some x → ∃ v, valV gs (Sum.inr k) = some v ∧ RV K ρ x v
  | [], [], _, e => by cases e
  | (m, y) :: fs, (f, v) :: gs, r, e => by
    obtain ⟨⟨e1, e2⟩, r⟩ := r
    simp only at e1 e2
    unfold lkK at e
    cases q : seqS m k with
    | true =>
      rw [q] at e
      cases e
      have := seqS_t q
      subst this
      exact ⟨v, by simp [valV, List.find?, e1], e2⟩
    | false =>
      rw [q] at e
      obtain ⟨w, e3, e4⟩ := lkK_some r e
      refine ⟨w, ?_, e4⟩
      have : decide (f = Sum.inr k) = false := decide_eq_false (by rw [e1]; exact fun z => seqS_f q (Sum.inr.inj z))
      unfold valV at e3 ⊢
      rw [List.find?, this]
      exact e3
  | [], _ :: _, r, _ => r.elim
  | _ :: _, [], r, _ => r.elim
theorem lkK_none {k : Str} : ∀ {fs : List (Str × VV)} {gs : List (Key × V)}, RKs K ρ fs gs → lkK k fs = none → valV gs (Sum.inr k) = none
  | [], [], _, e => rfl
  | (m, y) :: fs, (f, v) :: gs, r, e => by
    obtain ⟨⟨e1, e2⟩, r⟩ := r
    simp only at e1 e2
    unfold lkK at e
    cases q : seqS m k with
    | true => rw [q] at e; cases e
    | false =>
      rw [q] at e
      have e3 := lkK_none r e
      have : decide (f = Sum.inr k) = false := decide_eq_false (by rw [e1]; exact fun z => seqS_f q (Sum.inr.inj z))
      unfold valV at e3 ⊢
      rw [List.find?, this]
      exact e3
  | [], _ :: _, r, _ => r.elim
  | _ :: _, [], r, _ => r.elim
def ptK (k : Str) (y : VV) : List (Str × VV) → List (Str × VV)
  | [] => [(k, y)]
  | (m, x) :: r => match seqS m k with
    | true => (m, y) :: r
    | false => (m, x) :: ptK k y r
/-- a[b] -/
def fIx : VV → VV → VH → Option (VV × VH)
  | .str z, .int i, h => match ble8 z.length with
    | true => ob (atI z.cps.toList i) fun c => some (.str ⟨#[c]⟩, h)
    | false => none
  | x, .int i, h => ob (seqOf h x) fun xs => ob (atI xs i) fun y => some (y, h)
  | x, .str k, h => ob (dctOf h x) fun kvs => ob (lkK k kvs) fun y => some (y, h)
  | _, _, _ => none
def rIxSq (K : PySem.W.Frag) : R2 := fun x y H Q => rIxS x y H Q ∨ ∃ p vs i v, x = .ref p ∧ y = .int i ∧ (SqL K H p vs ∨ SqT K H p vs) ∧ atI vs i = some v ∧ Q v H
theorem ix_u : IxR X (rIxSq X.K) := IxR.or ix_str fun value slice pins s σ H x y v u Q I rx ry h hs => by
  obtain ⟨p, ys, i, z, ea, ei, e, ez, q4⟩ := h
  rcases e with e | e
  · exact ix_list value slice pins s σ H x y v u Q I rx ry ⟨p, ys, i, z, ea, ei, e, ez, q4⟩ hs
  · exact ix_tup value slice pins s σ H x y v u Q I rx ry ⟨p, ys, i, z, ea, ei, e, ez, q4⟩ hs
def tIxD (td ty : TE) : TE := fun σ H Q => td σ H fun x H1 => ty σ H1 fun y H2 => ∃ a k kvs v, x = .ref a ∧ y = .str k ∧ Rd H2 a (.dK kvs) ∧ valV kvs (Sum.inr k) = some v ∧ Q v H2
theorem pe_ixD {e o : Expr} {td ty : TE} (hu : X.A.units + 1 < cLine) (ho : PE X o td) (hi : PE X e ty) (hs : NoSl e) : PE X (.Subscript o e pos) (tIxD td ty) :=
  PE.imp (pe_dget hu (pe_M ho) (pe_M hi) hs) fun σ H Q q => ⟨_, q, fun x H1 q => ⟨_, q, fun y H2 q => by
    obtain ⟨a, k, kvs, v, ea, ek, rd, ev, q⟩ := q
    exact ⟨a, v, ea, by rw [ek, ← ev]; exact dget_of rd, q⟩⟩⟩
theorem i_ix (d : den K (cOp fIx ra rb) σ H Q) : tOp (rIxSq K) (den K ra) (den K rb) σ H Q ∨ tIxD (den K ra) (den K rb) σ H Q := by
  obtain ⟨ρ, lo, e, h, z, h', S, E, run, k⟩ := d
  obtain ⟨x, h1, e1, run⟩ := bd_some run
  obtain ⟨y, h2, e2, run⟩ := bd_some run
  unfold fIx at run
  split at run
  · rename_i z i _
    split at run
    · rename_i q
      obtain ⟨c, e3, run⟩ := ob_some run
      cases run
      refine .inl ⟨ρ, lo, e, h, _, h1, S, E, e1, fun ρ1 H1 v g1 S1 r1 => ⟨ρ1, lo, e, h1, _, _, S1, E.mono g1.le, e2, fun ρ2 H2 u g2 S2 r2 => .inl ?_⟩⟩
      exact ⟨z, i, c, r1, r2, le8 q, e3, ((k.go g1).go g2).now S2 rfl⟩
    · cases run
  · obtain ⟨xs, e3, run⟩ := ob_some run
    obtain ⟨w, e4, run⟩ := ob_some run
    cases run
    refine .inl ⟨ρ, lo, e, h, _, h1, S, E, e1, fun ρ1 H1 v g1 S1 r1 => ⟨ρ1, lo, e, h1, _, _, S1, E.mono g1.le, e2, fun ρ2 H2 u g2 S2 r2 => .inr ?_⟩⟩
    obtain ⟨a, vs, rfl, sq, rs⟩ := seqOf_ok S2 (r1.mono g2.le) e3
    obtain ⟨w', e5, r5⟩ := rvs_atI rs e4
    exact ⟨a, vs, _, w', rfl, r2, sq, e5, ((k.go g1).go g2).now S2 r5⟩
  · obtain ⟨xs, e3, run⟩ := ob_some run
    obtain ⟨w, e4, run⟩ := ob_some run
    cases run
    refine .inr ⟨ρ, lo, e, h, _, h1, S, E, e1, fun ρ1 H1 v g1 S1 r1 => ⟨ρ1, lo, e, h1, _, _, S1, E.mono g1.le, e2, fun ρ2 H2 u g2 S2 r2 => ?_⟩⟩
    obtain ⟨a, vs, rfl, rd, rs⟩ := dctOf_ok S2 (r1.mono g2.le) e3
    obtain ⟨w', e5, r5⟩ := lkK_some rs e4
    exact ⟨a, _, vs, w', rfl, r2, rd, e5, ((k.go g1).go g2).now S2 r5⟩
  · cases run
theorem q_ix {a b : Expr} (hu : X.A.units + 64 < cLine) (ha : QE X a ra) (hb : QE X b rb) (hs : ∀ o i, subscripted b false o i = operate [o, i] (getItem o i)) : QE X (.Subscript a b pos) (cOp fIx ra rb) :=
  PE.imp (PE.or (pe_ix ix_u ha hb hs) (pe_ixD (by omega) ha hb hs)) fun _ _ _ d => i_ix d
/-! ### slices -/
abbrev CO : Type := Nat → En → VH → Option (Option Int × VH)
def denO (K : PySem.W.Frag) (r : CO) : TO := fun σ H Q => ∃ ρ lo e h x h', Sim K ρ h H ∧ REn K ρ e σ ∧ r lo e h = some (x, h') ∧ ∀ ρ' H', Go ρ lo h H ρ' h' H' → Sim K ρ' h' H' → Q x H'
def cNoP : CO := fun _ _ h => some (none, h)
def cPt (ra : CE) : CO := fun lo e h => bd (ra lo e h) fun x h1 => match x with
  | .int i => some (some i, h1)
  | _ => none
theorem i_noP {QO : Option Int → Hp → Prop} (d : denO K cNoP σ H QO) : tNoPart σ H QO := by
  obtain ⟨ρ, lo, e, h, z, h', S, E, run, k⟩ := d
  cases run
  exact k ρ H Go.refl S
theorem i_pt {QO : Option Int → Hp → Prop} (d : denO K (cPt ra) σ H QO) : tPart (den K ra) σ H QO := by
  obtain ⟨ρ, lo, e, h, z, h', S, E, run, k⟩ := d
  obtain ⟨x, h1, e1, run⟩ := bd_some run
  refine ⟨ρ, lo, e, h, x, h1, S, E, e1, fun ρ1 H1 v g1 S1 r1 => ?_⟩
  split at run
  · cases run; exact ⟨_, r1, k _ _ g1 S1⟩
  · cases run
def cutVV (xs : List VV) (lo hi : Option Int) : List VV := List.take (HT.sIx xs.length xs.length hi - HT.sIx xs.length 0 lo) (List.drop (HT.sIx xs.length 0 lo) xs)
theorem RVs.cut {xs : List VV} {vs : List V} {a b : Option Int} (r : RVs K ρ xs vs) : RVs K ρ (cutVV xs a b) (cutV vs a b) := by
  unfold cutVV cutV
  rw [r.len]
  exact (r.drop _).take _
def cutN (l : List Nat) (lo hi : Option Int) : List Nat := List.take (HT.sIx l.length l.length hi - HT.sIx l.length 0 lo) (List.drop (HT.sIx l.length 0 lo) l)
theorem cut_list {l : List Nat} {a b : Option Int} : cutS (mkS l) a b = mkS (cutN l a b) := by
  unfold cutS cutN mkS
  simp [Str.length, List.extract_eq_take_drop]
def fSl : VV → Option Int → Option Int → VH → Option (VV × VH)
  | .str z, a, b, h => match ble8 z.length with
    | true => some (.str (mkS (cutN (lis z) a b)), h)
    | false => none
  | .tx z, a, b, h => match ble8 z.length with
    | true => some (nrm (cutN (lis z) a b), h)
    | false => none
  | .ref i, a, b, h => match h.get i with
    | some (.lst xs) => ob (h.push (.lst (cutVV xs a b))) fun h2 => some (.ref h.n, h2)
    | some (.tup xs) => match (HT.sIx xs.length 0 a).beq 0 && (HT.sIx xs.length xs.length b).beq xs.length with
      | true => some (.ref i, h)
      | false => ob (h.push (.tup (cutVV xs a b))) fun h2 => some (.ref h.n, h2)
    | _ => none
  | _, _, _, _ => none
def rSlU (K : PySem.W.Frag) : V → Option Int → Option Int → Hp → VK → Prop := fun x a b H Q => rSlS x a b H Q ∨ rSlL K x a b H Q ∨ rSlA K x a b H Q
def cSl (ra : CE) (oa ob' : CO) : CE := fun lo e h => bd (ra lo e h) fun x h1 => bd (oa lo e h1) fun a h2 => bd (ob' lo e h2) fun b h3 => fSl x a b h3
theorem sl_u : SlR X (rSlU X.K) := SlR.or sl_str (SlR.or sl_list sl_tupA)
theorem i_sl {oa ob' : CO} (d : den K (cSl ra oa ob') σ H Q) : tSl (rSlU K) (den K ra) (denO K oa) (denO K ob') σ H Q := by
  obtain ⟨ρ, lo, e, h, z, h', S, E, run, k⟩ := d
  obtain ⟨x, h1, e1, run⟩ := bd_some run
  obtain ⟨a, h2, e2, run⟩ := bd_some run
  obtain ⟨b, h3, e3, run⟩ := bd_some run
  refine ⟨ρ, lo, e, h, x, h1, S, E, e1, fun ρ1 H1 v g1 S1 r1 => ⟨ρ1, lo, e, h1, a, h2, S1, E.mono g1.le, e2, fun ρ2 H2 g2 S2 => ⟨ρ2, lo, e, h2, b, h3, S2, (E.mono g1.le).mono g2.le, e3, fun ρ3 H3 g3 S3 => ?_⟩⟩⟩
  have k3 := ((k.go g1).go g2).go g3
  have r3 := (r1.mono g2.le).mono g3.le
  unfold fSl at run
  split at run
  · split at run
    · rename_i q
      cases run
      refine .inl ⟨_, r3, le8 q, k3.now S3 ?_⟩
      show V.str _ = V.str _
      rw [← cut_list, mkS_lis]
    · cases run
  · split at run
    · rename_i q
      cases run
      refine .inl ⟨_, r3, ?_, ?_⟩
      · rw [dec_len]
        exact le8 q
      · have e : ∀ z : Str, dec z = mkS ((lis z).map chD) := fun z => by rw [← dec_mk, mkS_lis]
        have e2 : ∀ (z : Str) (a b : Option Int), cutN ((lis z).map chD) a b = (cutN (lis z) a b).map chD := fun z a b => by
          unfold cutN
          rw [List.length_map, ← List.map_drop, ← List.map_take]
        rw [e, cut_list, e2]
        exact k3.now S3 nrm_ok
    · cases run
  · split at run
    · rename_i q
      obtain ⟨p, rfl, _, vs, ea, rs⟩ := S3.ref q r3
      exact .inr (.inl ⟨p, vs, rfl, SqL.of ea, fun p hp => Aft.alloc S3 run k3 hp True.intro fun H' q => ⟨_, q, (rs.cut).mono ⟨_, rfl⟩⟩⟩)
    · rename_i q
      have r3' := r3
      obtain ⟨p, rfl, _, vs, ea, rs⟩ := S3.ref q r3
      refine .inr (.inr ⟨p, vs, rfl, SqT.of ea, ?_, ?_⟩)
      all_goals rw [rs.len]
      · rintro ⟨c1, c2⟩
        rw [c1, c2] at run
        simp at run
        obtain ⟨rfl, rfl⟩ := run
        exact k3.now S3 r3'
      · intro c p hp
        split at run
        · rename_i q
          obtain ⟨q1, q2⟩ := Bool.and_eq_true_iff.1 q
          exact absurd ⟨beq_t q1, beq_t q2⟩ c
        · exact Aft.alloc S3 run k3 hp True.intro fun H' q => ⟨_, q, (rs.cut).mono ⟨_, rfl⟩⟩
    · cases run
  · cases run
end
end
end K95

set_option maxRecDepth 100000
set_option maxHeartbeats 4000000
namespace K95
open PySem PySem.Spec PyProof.Rows L2
noncomputable section
variable [Nu]
/-! ### walks -/
inductive Yv where
  | one (x : VV) | two (x y : VV)
abbrev CI : Type := Nat → En → VH → Option (List Yv × VH)
def yv : Yv → VH → Option (VV × VH)
  | .one x, h => some (x, h)
  | .two x y, h => ob (h.push (.tup [x, y])) fun h2 => some (.ref h.n, h2)
def YK (K : PySem.W.Frag) (ρ : List Addr) (it : Yv) (H : Hp) (k : V → Hp → Prop) : Prop := match it with
  | .one x => ∀ v, RV K ρ x v → k v H
  | .two x y => ∀ v u p, RV K ρ x v → RV K ρ y u → H p = none → k (.ref p) (upd H p (.tup [v, u]))
structure YOk (K : PySem.W.Frag) (lo : Nat) (its : List Yv) (ρ0 : List Addr) (h0 : VH) (H0 : Hp) (n : Nat) (G : Hp → Prop) (Y : Yld) : Prop where
  len : n = its.length
  g : ∀ ρ2 h2 H2, Go ρ0 lo h0 H0 ρ2 h2 H2 → Sim K ρ2 h2 H2 → G H2
  y : ∀ (i : Nat) it ρ2 h2 H2 k, its[i]? = some it → Go ρ0 lo h0 H0 ρ2 h2 H2 → Sim K ρ2 h2 H2 → YK K ρ2 it H2 k → Y i H2 k
def denI (K : PySem.W.Frag) (r : CI) : TIY := fun σ H k => ∃ ρ lo e h its h', Sim K ρ h H ∧ REn K ρ e σ ∧ r lo e h = some (its, h') ∧ ∀ ρ' H', Go ρ lo h H ρ' h' H' → Sim K ρ' h' H' → ∀ n G Y, YOk K lo its ρ' h' H' n G Y → k n G Y H'
section
variable {X : Cx} {K : PySem.W.Frag} {σ : List (Option V)} {H H' : Hp} {Q : VK} {D : Ends} {ra rb rc : CE} {ct : CT} {la lb : CA} {sa sb : CS} {ga : CG} {ρ ρ' : List Addr} {lo : Nat} {h h' : VH} {x y z : VV} {v u : V} {e o : Expr} {pos : Pos} {ci : CI}
theorem yk_of {it : Yv} {k : V → Hp → Prop} (S : Sim K ρ h H) (run : yv it h = some (x, h')) (q : Aft K ρ lo h H x h' k) : YK K ρ it H k := by
  cases it with
  | one y => cases run; exact fun v r => q.now S r
  | two a b => exact fun v u p r1 r2 hp => Aft.alloc S run q hp True.intro fun H' e => ⟨_, e, r1.mono ⟨_, rfl⟩, r2.mono ⟨_, rfl⟩, True.intro⟩
/-- a list is looked at only, from now on -/
def frz (h : VH) (i : Nat) (xs : List VV) : Option VH := h.set i (.fl xs)
theorem Sim.frz {i : Nat} {xs : List VV} (S : Sim K ρ h H) (e0 : h.get i = some (.lst xs)) (e : h.set i (.fl xs) = some h') : Go ρ lo h H ρ h' H ∧ Sim K ρ h' H := by
  obtain ⟨en, eg⟩ := VH.get_set e
  refine ⟨⟨⟨[], by simp, fun a m => nomatch m⟩, fun b u e c => e, fun j u e9 c => ?_, fun b u e => ⟨u, e⟩⟩, ⟨S.len.trans en.symm, S.nd, fun j u e => ?_, S.nt, S.al⟩⟩
  · rw [eg]
    by_cases q : j = i
    · subst q
      rw [e0] at e9
      cases e9
      cases c
    · rw [if_neg q]; exact e9
  · rw [eg] at e
    split at e
    · rename_i q
      cases e
      subst q
      obtain ⟨a, ea, w⟩ := S.ob j _ e0
      exact ⟨a, ea, w⟩
    · exact S.ob j u e
/-- the list or the tuple at x, and the heap with the list held fast -/
def seqFz (h : VH) : VV → Option (List VV × VH)
  | .ref i => match h.get i with
    | some (.lst xs) => ob (h.set i (.fl xs)) fun h2 => some (xs, h2)
    | some (.fl xs) => some (xs, h)
    | some (.tup xs) => some (xs, h)
    | _ => none
  | .kt => some ([], h)
  | _ => none
/-- what stays: it is a list or a tuple, and it stays so -/
def Stays (K : PySem.W.Frag) (lo : Nat) (ρ : List Addr) (h : VH) (H : Hp) (a : Addr) (vs : List V) : Prop :=
  (∀ ρ2 h2 H2, Go ρ lo h H ρ2 h2 H2 → SqL K H2 a vs) ∨ (∀ ρ2 h2 H2, Go ρ lo h H ρ2 h2 H2 → SqT K H2 a vs)
theorem stays_at {i : Nat} {o : VO} {u : HO} (S : Sim K ρ h H) (e : h.get i = some o) (f : frzO o = true) (ea : ρ[i]? = some a) (eu : H a = some u) {ρ2 : List Addr} {h2 : VH} {H2 : Hp} (g : Go ρ lo h H ρ2 h2 H2) : H2 a = some u :=
  g.keep a u eu fun j ej => .inr ⟨o, by rw [S.inj ej ea]; exact e, f⟩
theorem seqFz_ok {xs : List VV} (S : Sim K ρ h H) (r : RV K ρ x v) (run : seqFz h x = some (xs, h')) : ∃ a vs, v = .ref a ∧ RVs K ρ xs vs ∧ Go ρ lo h H ρ h' H ∧ Sim K ρ h' H ∧ Stays K lo ρ h' H a vs := by
  unfold seqFz at run
  split at run
  · rename_i i
    split at run
    · rename_i ys q
      obtain ⟨h2, e2, run⟩ := ob_some run
      cases run
      obtain ⟨a, rfl, ea, vs, eH, rs⟩ := S.ref q r
      obtain ⟨g, S2⟩ := S.frz (lo := lo) q e2
      have e3 : h'.get i = some (.fl xs) := by rw [(VH.get_set e2).2, if_pos rfl]
      exact ⟨a, vs, rfl, rs, g, S2, .inl fun ρ2 h2 H2 g2 => SqL.of (stays_at S2 e3 rfl ea eH g2)⟩
    · rename_i ys q
      cases run
      obtain ⟨a, rfl, ea, vs, eH, rs⟩ := S.ref q r
      exact ⟨a, vs, rfl, rs, Go.refl, S, .inl fun ρ2 h2 H2 g2 => SqL.of (stays_at S q rfl ea eH g2)⟩
    · rename_i ys q
      cases run
      obtain ⟨a, rfl, ea, vs, eH, rs⟩ := S.ref q r
      exact ⟨a, vs, rfl, rs, Go.refl, S, .inr fun ρ2 h2 H2 g2 => SqT.of (stays_at S q rfl ea eH g2)⟩
    · cases run
  · cases run
    obtain ⟨a, rfl, _, q⟩ := r
    exact ⟨a, [], rfl, True.intro, Go.refl, S, .inr fun _ _ H2 _ => q H2⟩
  · cases run
/-! for -/
def forC (g : CG) (b : CS) (lo : Nat) : List Yv → En → VH → Option Fl
  | [], e, h => some (.nx e h)
  | it :: r, e, h => bd (yv it h) fun x h1 => bd (g x lo e h1) fun e2 h2 => match b lo e2 h2 with
    | some (.nx e3 h3) => forC g b lo r e3 h3
    | some (.ct e3 h3) => forC g b lo r e3 h3
    | some (.bk e3 h3) => some (.nx e3 h3)
    | o => o
def cFor (ci : CI) (g : CG) (b : CS) : CS := fun lo e h => bd (ci lo e h) fun its h1 => forC g b lo its e h1
theorem for_ok {its0 : List Yv} {ρ0 : List Addr} {h0 : VH} {H0 : Hp} {n : Nat} {G : Hp → Prop} {Y : Yld} (w : YOk K lo its0 ρ0 h0 H0 n G Y) : ∀ (its : List Yv) {ρ : List Addr} {e : En} {σ : List (Option V)} {h : VH} {H : Hp} {f : Fl}, its = its0.drop (n - its.length) → its.length ≤ n → Go ρ0 lo h0 H0 ρ h H → Sim K ρ h H → REn K ρ e σ → forC ga sb lo its e h = some f → AftF K ρ lo h H D f →
    foR Y G (denG K ga) (denS K sb) D n its.length σ H := by
  intro its
  induction its with
  | nil =>
    intro ρ e σ h H f hd hl g S E run k
    cases run
    exact ⟨w.g _ _ _ g S, AftE.now S E k⟩
  | cons it r ih =>
    intro ρ e σ h H f hd hl g S E run k
    obtain ⟨x, h1, e1, run⟩ := bd_some run
    obtain ⟨e2, h2, q2, run⟩ := bd_some run
    have hl' : r.length + 1 ≤ n := hl
    have at_ : its0[n - (r.length + 1)]? = some it := by
      have := congrArg (fun l => l[0]?) hd
      simpa using this.symm
    have hd' : r = its0.drop (n - r.length) := by
      have := congrArg List.tail hd
      simp only [List.tail_cons, List.length_cons, List.tail_drop] at this
      exact this.trans (congrArg (fun m => its0.drop m) (by omega))
    refine ⟨w.g _ _ _ g S, w.y _ it ρ h H _ at_ g S (yk_of (lo := lo) S e1 fun ρ1 H1 v g1 S1 r1 => ⟨ρ1, lo, e, h1, x, e2, h2, S1, E.mono g1.le, r1, q2, fun ρ2 σ2 H2 g2 S2 E2 => ?_⟩)⟩
    have g02 := (g.trans g1).trans g2
    have k2 := AftF.go g2 (AftF.go g1 k)
    split at run
    · rename_i e3 h3 q3
      exact ⟨ρ2, lo, e2, h2, _, S2, E2, q3, fun ρ3 σ3 H3 g3 S3 E3 => ih hd' (by omega) (g02.trans g3) S3 E3 run (k2.go g3)⟩
    · rename_i e3 h3 q3
      exact ⟨ρ2, lo, e2, h2, _, S2, E2, q3, fun ρ3 σ3 H3 g3 S3 E3 => ih hd' (by omega) (g02.trans g3) S3 E3 run (k2.go g3)⟩
    · rename_i e3 h3 q3
      cases run
      exact ⟨ρ2, lo, e2, h2, _, S2, E2, q3, k2⟩
    · rename_i n1 n2 n3
      refine ⟨ρ2, lo, e2, h2, f, S2, E2, run, ?_⟩
      cases f with
      | nx e3 h3 => exact (n1 _ _ run).elim
      | ct e3 h3 => exact (n2 _ _ run).elim
      | bk e3 h3 => exact (n3 _ _ run).elim
      | rt x h3 => exact k2
theorem i_for (d : denS K (cFor ci ga sb) D σ H) : tFoY (denI K ci) (denG K ga) (denS K sb) D σ H := by
  obtain ⟨ρ, lo, e, h, f, S, E, run, k⟩ := d
  obtain ⟨its, h1, e1, run⟩ := bd_some run
  refine ⟨ρ, lo, e, h, its, h1, S, E, e1, fun ρ1 H1 g1 S1 n G Y w => ?_⟩
  have := w.len
  subst this
  exact for_ok w its (by simp) (Nat.le_refl _) Go.refl S1 (E.mono g1.le) run (AftF.go g1 k)
/-! ### comprehensions -/
def wipeV (e : En) : List Nat → En
  | [] => e
  | v :: vs => (wipeV e vs).set v none
theorem REn.wipe {e : En} {σ : List (Option V)} (E : REn K ρ e σ) : ∀ vs : List Nat, REn K ρ (wipeV e vs) (L2.wipe σ vs)
  | [] => E
  | v :: vs => REn.set (x := none) (v := none) True.intro (REn.wipe E vs)
theorem RV.fn {v u : V} (r : RV K ρ x v) (q : RV K ρ x u) : v = u := by
  cases x with
  | ref n =>
    obtain ⟨a, rfl, e1⟩ := r
    obtain ⟨b, rfl, e2⟩ := q
    rw [e1] at e2
    cases e2
    rfl
  | kt =>
    obtain ⟨a, rfl, e1, _⟩ := r
    obtain ⟨b, rfl, e2, _⟩ := q
    rw [e1, e2]
  | _ => exact (show v = _ from r).trans (show u = _ from q).symm
theorem REn.fn : ∀ {e : En} {σ τ : List (Option V)}, REn K ρ e σ → REn K ρ e τ → σ = τ
  | [], [], [], _, _ => rfl
  | none :: e, none :: σ, none :: τ, r, q => by rw [REn.fn r.2 q.2]
  | some x :: e, some v :: σ, some u :: τ, r, q => by rw [REn.fn r.2 q.2, RV.fn r.1 q.1]
  | none :: e, some _ :: _, _, r, _ => r.1.elim
  | none :: e, _, some _ :: _, _, q => q.1.elim
  | some _ :: e, none :: _, _, r, _ => r.1.elim
  | some _ :: e, _, none :: _, _, q => q.1.elim
  | [], _ :: _, _, r, _ => r.elim
  | [], [], _ :: _, _, q => q.elim
  | none :: _, [], _, r, _ => r.elim
  | some _ :: _, [], _, r, _ => r.elim
  | none :: _, none :: _, [], _, q => q.elim
  | some _ :: _, some _ :: _, [], _, q => q.elim
/-- a target that stores to these slots alone -/
def GIn (vs : List Nat) (g : CG) : Prop := ∀ x lo e h e2 h2, g x lo e h = some (e2, h2) → wipeV e2 vs = wipeV e vs
theorem wipeV_set : ∀ {vs : List Nat} {e : En} {i : Nat} {o : Option VV}, i ∈ vs → wipeV (e.set i o) vs = wipeV e vs
  | v :: vs, e, i, o, m => by
    unfold wipeV
    by_cases q : i ∈ vs
    · rw [wipeV_set q]
    · have iv : i = v := by
        rcases List.mem_cons.1 m with m | m
        · exact m
        · exact absurd m q
      subst iv
      have comm : ∀ {ws : List Nat}, ¬ i ∈ ws → wipeV (e.set i o) ws = (wipeV e ws).set i o := by
        intro ws
        induction ws with
        | nil => intro _; rfl
        | cons w ws ih =>
          intro hn
          have h1 : i ≠ w := fun z => hn (by simp [z])
          have h2 : ¬ i ∈ ws := fun z => hn (by simp [z])
          unfold wipeV
          rw [ih h2, List.set_comm _ _ h1]
      rw [comm q, List.set_set]
theorem gin_n {i : Nat} {vs : List Nat} (h : i ∈ vs) : GIn vs (cN i) := fun x lo e h2 e2 h3 r => by
  cases r
  exact wipeV_set h
def lcC (g : CG) (ct : CT) (ce : CE) (vs : List Nat) (e0 : En) (lo : Nat) : List Yv → List VV → VH → Option (List VV × VH)
  | [], acc, h => some (acc, h)
  | it :: r, acc, h => bd (yv it h) fun x h1 => bd (g x lo (wipeV e0 vs) h1) fun e2 h2 => bd (ct lo e2 h2) fun b h3 => match b with
    | true => bd (ce lo e2 h3) fun y h4 => lcC g ct ce vs e0 lo r (acc ++ [y]) h4
    | false => lcC g ct ce vs e0 lo r acc h3
def cLc (ci : CI) (g : CG) (ct : CT) (ce : CE) (vs : List Nat) : CE := fun lo e h => bd (ci lo e h) fun its h1 => bd (lcC g ct ce vs e lo its [] h1) fun ys h2 => match ys.length.ble 64 && its.length.ble 64 with
  | true => ob (h2.push (.lst ys)) fun h3 => some (.ref h2.n, h3)
  | false => none
/-- while a new object stands at d, untracked -/
structure Aside (K : PySem.W.Frag) (lo : Nat) (ρ0 : List Addr) (h0 : VH) (H0 : Hp) (d : Addr) (o : HO) (ρ : List Addr) (h : VH) (H : Hp) : Prop where
  g : Go ρ0 lo h0 H0 ρ h H
  s : Sim K ρ h H
  n0 : H0 d = none
  out : ¬ d ∈ ρ
  at_ : H d = some o
theorem Aside.go {ρ0 ρ1 : List Addr} {h0 h1 : VH} {H0 H1 : Hp} {d : Addr} {o : HO} (A : Aside K lo ρ0 h0 H0 d o ρ h H) (g : Go ρ lo h H ρ1 h1 H1) (S : Sim K ρ1 h1 H1) : Aside K lo ρ0 h0 H0 d o ρ1 h1 H1 := by
  refine ⟨A.g.trans g, S, A.n0, fun m => ?_, g.keep d o A.at_ fun i e => absurd (List.mem_of_getElem? e) A.out⟩
  obtain ⟨l, rfl, fr⟩ := g.ext
  rcases List.mem_append.1 m with m | m
  · exact A.out m
  · have := fr d m
    rw [A.at_] at this
    cases this
theorem Aside.upd {ρ0 : List Addr} {h0 : VH} {H0 : Hp} {d : Addr} {o o' : HO} (A : Aside K lo ρ0 h0 H0 d o ρ h H) (t : noT o') : Aside K lo ρ0 h0 H0 d o' ρ h (L2.upd H d o') := by
  have ne : ∀ i b, ρ[i]? = some b → b ≠ d := fun i b e z => A.out (z ▸ List.mem_of_getElem? e)
  have ne0 : ∀ b u, H0 b = some u → b ≠ d := fun b u e z => by rw [z, A.n0] at e; cases e
  refine ⟨⟨A.g.ext, fun b u e c => ?_, A.g.stay, fun b u e => ?_⟩, ⟨A.s.len, A.s.nd, fun i w e => ?_, A.s.nt.upd t, fun i b e => ?_⟩, A.n0, A.out, upd_same⟩
  · rw [upd_ne (ne0 b u e)]; exact A.g.keep b u e c
  · rw [upd_ne (ne0 b u e)]; exact A.g.dom b u e
  · obtain ⟨b, e1, q⟩ := A.s.ob i w e
    exact ⟨b, e1, q.heap (upd_ne (ne i b e1))⟩
  · rw [upd_ne (ne i b e)]; exact A.s.al i b e
theorem Aside.in_ {ρ0 : List Addr} {h0 : VH} {H0 : Hp} {d : Addr} {o : HO} {w : VO} (A : Aside K lo ρ0 h0 H0 d o ρ h H) (e : h.push w = some h') (r : RO K (ρ ++ [d]) H d w) : Go ρ0 lo h0 H0 (ρ ++ [d]) h' H ∧ Sim K (ρ ++ [d]) h' H ∧ RV K (ρ ++ [d]) (.ref h.n) (.ref d) := by
  obtain ⟨en, eg⟩ := VH.get_push e
  have at_p : (ρ ++ [d])[h.n]? = some d := by rw [← A.s.len]; simp
  have stay : ∀ i u, h.get i = some u → h'.get i = some u := fun i u e => by
    obtain ⟨a, e1, _⟩ := A.s.ob i u e
    rw [eg, if_neg (by have := A.s.lt e1; omega)]
    exact e
  obtain ⟨l, el, fr⟩ := A.g.ext
  refine ⟨⟨⟨l ++ [d], by rw [el]; simp, fun a m => ?_⟩, A.g.keep, fun i u e f => stay i u (A.g.stay i u e f), A.g.dom⟩, ⟨by simp [A.s.len, en], ?_, fun i u e => ?_, A.s.nt, fun i a e => ?_⟩, d, rfl, at_p⟩
  · rcases List.mem_append.1 m with m | m
    · exact fr a m
    · rw [List.mem_singleton.1 m]; exact A.n0
  · refine List.nodup_append.2 ⟨A.s.nd, by simp, fun a m b m2 => ?_⟩
    rw [List.mem_singleton.1 m2]
    rintro rfl
    exact A.out m
  · rw [eg] at e
    split at e
    · rename_i q
      cases e
      subst q
      exact ⟨d, at_p, r⟩
    · obtain ⟨a, e1, q⟩ := A.s.ob i u e
      exact ⟨a, Le.at_ ⟨[d], rfl⟩ e1, q.mono ⟨[d], rfl⟩⟩
  · by_cases q : i < ρ.length
    · rw [List.getElem?_append_left q] at e
      exact A.s.al i a e
    · have e2 := List.mem_of_getElem? (by rwa [List.getElem?_append_right (by omega)] at e)
      rw [List.mem_singleton.1 e2]
      exact ⟨o, A.at_⟩
theorem Aside.new {d : Addr} {o : HO} (S : Sim K ρ h H) (n : H d = none) (t : noT o) : Aside K lo ρ h H d o ρ h (L2.upd H d o) := by
  obtain ⟨g, S2⟩ := S.waste (lo := lo) n t
  refine ⟨g, S2, n, fun m => ?_, upd_same⟩
  obtain ⟨i, hi, e⟩ := List.getElem_of_mem m
  obtain ⟨u, e2⟩ := S.al i d (List.getElem?_eq_some_iff.2 ⟨hi, e⟩)
  rw [n] at e2
  cases e2
theorem lc_ok {its0 : List Yv} {ρ0 : List Addr} {h0 : VH} {H0 : Hp} {n : Nat} {G : Hp → Prop} {Y : Yld} {vs : List Nat} {e0 : En} {σ0 : List (Option V)} {d : Addr} {Qd : Hp → Prop} (w : YOk K lo its0 ρ0 h0 H0 n G Y) (gi : GIn vs ga) (E0 : REn K ρ0 e0 σ0) (bound : n ≤ 10000) :
    ∀ (its : List Yv) {ρ : List Addr} {h : VH} {H : Hp} {acc ys : List VV} {accV : List V} {h' : VH}, its = its0.drop (n - its.length) → its.length ≤ n → acc.length + its.length ≤ n → Aside K lo ρ0 h0 H0 d (.lst accV) ρ h H → RVs K ρ acc accV → lcC ga ct ra vs e0 lo its acc h = some (ys, h') →
    (∀ ρ1 H1 ysV, Aside K lo ρ0 h0 H0 d (.lst ysV) ρ1 h' H1 → RVs K ρ1 ys ysV → Qd H1) → lcR Y G (denG K ga) (denT K ct) (den K ra) vs σ0 d Qd n its.length H := by
  intro its
  induction its with
  | nil =>
    intro ρ h H acc ys accV h' hd hl hb A r run k
    cases run
    exact ⟨w.g _ _ _ A.g A.s, k ρ H accV A r⟩
  | cons it r ih =>
    intro ρ h H acc ys accV h' hd hl hb A ra' run k
    obtain ⟨x, h1, e1, run⟩ := bd_some run
    obtain ⟨e2, h2, q2, run⟩ := bd_some run
    obtain ⟨b, h3, q3, run⟩ := bd_some run
    have hl' : r.length + 1 ≤ n := hl
    have hb' : acc.length + (r.length + 1) ≤ n := hb
    have at_ : its0[n - (r.length + 1)]? = some it := by
      have := congrArg (fun l => l[0]?) hd
      simpa using this.symm
    have hd' : r = its0.drop (n - r.length) := by
      have := congrArg List.tail hd
      simp only [List.tail_cons, List.length_cons, List.tail_drop] at this
      exact this.trans (congrArg (fun m => its0.drop m) (by omega))
    refine ⟨w.g _ _ _ A.g A.s, w.y _ it ρ h H _ at_ A.g A.s (yk_of (lo := lo) A.s e1 fun ρ1 H1 v g1 S1 r1 => ?_)⟩
    refine ⟨ρ1, lo, wipeV e0 vs, h1, x, e2, h2, S1, ((E0.mono (A.g.trans g1).le).wipe vs), r1, q2, fun ρ2 σ2 H2 g2 S2 E2 => ⟨?_, ?_⟩⟩
    · refine REn.fn (E2.wipe vs) ?_
      rw [gi _ _ _ _ _ _ q2]
      have : wipeV (wipeV e0 vs) vs = wipeV e0 vs := by
        have hw : ∀ (us : List Nat), (∀ i ∈ us, i ∈ vs) → wipeV (wipeV e0 us) vs = wipeV e0 vs := by
          intro us
          induction us with
          | nil => intro _; rfl
          | cons u us ihu =>
            intro hu
            show wipeV ((wipeV e0 us).set u none) vs = _
            rw [wipeV_set (hu u (by simp)), ihu fun i m => hu i (by simp [m])]
        exact hw vs fun _ m => m
      rw [this]
      exact (E0.mono ((A.g.trans g1).trans g2).le).wipe vs
    · refine ⟨ρ2, lo, e2, h2, b, h3, S2, E2, q3, fun ρ3 H3 g3 S3 => ?_⟩
      have A3 := ((A.go g1 S1).go g2 S2).go g3 S3
      have le3 := ((g1.trans g2).trans g3).le
      cases b with
      | true =>
        show cIf _ _ true _ _
        rw [f_cIft]
        obtain ⟨y, h4, q4, run⟩ := bd_some run
        refine ⟨ρ3, lo, e2, h3, y, h4, S3, E2.mono g3.le, q4, fun ρ4 H4 u g4 S4 r4 => ?_⟩
        have A4 := A3.go g4 S4
        show oL _ (H4 d) _
        rw [A4.at_, f_oL]
        have hal : accV.length = acc.length := ra'.len
        have se := sizeLine_eq
        refine ⟨by omega, ?_⟩
        exact ih hd' (by omega) (by simp; omega) (A4.upd True.intro) ((ra'.mono (le3.trans g4.le)).app (ys := [y]) (us := [u]) ⟨r4, True.intro⟩) run k
      | false =>
        show cIf _ _ false _ _
        rw [f_cIff]
        exact ih hd' (by omega) (by omega) A3 (ra'.mono le3) run k
theorem i_lc {vs : List Nat} (gi : GIn vs ga) (d : den K (cLc ci ga ct ra vs) σ H Q) : tLcY (denI K ci) (denG K ga) (denT K ct) (den K ra) vs σ H Q := by
  obtain ⟨ρ, lo, e, h, z, h', S, E, run, k⟩ := d
  obtain ⟨its, h1, e1, run⟩ := bd_some run
  obtain ⟨ys, h2, e2, run⟩ := bd_some run
  split at run
  · rename_i q
    obtain ⟨h3, e3, run⟩ := ob_some run
    cases run
    refine ⟨ρ, lo, e, h, its, h1, S, E, e1, fun ρ1 H1 g1 S1 n G Y w d hn => ?_⟩
    have := w.len
    subst this
    have hb := Nat.le_of_ble_eq_true (Bool.and_eq_true_iff.1 q).2
    refine lc_ok w gi (E.mono g1.le) (by omega) its (acc := []) (accV := []) (by simp) (Nat.le_refl _) (by simp) (Aside.new S1 hn True.intro) True.intro e2 fun ρ4 H4 ysV A r => ?_
    obtain ⟨g, S4, r4⟩ := A.in_ e3 ⟨ysV, A.at_, r.mono ⟨_, rfl⟩⟩
    exact k _ _ _ (g1.trans g) S4 r4
  · cases run
end
end
end K95

set_option maxRecDepth 100000
set_option maxHeartbeats 4000000
namespace K95
open PySem PySem.Spec PyProof.Rows L2
noncomputable section
variable [Nu]
section
variable {X : Cx} {K : PySem.W.Frag} {σ : List (Option V)} {H H' : Hp} {Q : VK} {D : Ends} {ra rb rc : CE} {ct : CT} {la lb : CA} {sa sb : CS} {ga : CG} {ρ ρ' : List Addr} {lo : Nat} {h h' : VH} {x y z : VV} {v u : V} {e o : Expr} {pos : Pos} {ci : CI} {tg iter : Expr}
/-! ### what is walked -/
def iSeqU (K : PySem.W.Frag) (tl : TE) : TI := fun σ H R => tl σ H fun x H1 => ∃ a xs, x = .ref a ∧ ((SqL K H1 a xs ∧ R (Itl K a) H1) ∨ (SqT K H1 a xs ∧ R (Itt K a) H1))
theorem pi_seqU {l : Expr} {tl : TE} (hl : PE X l tl) : PI X tg l (iSeqU X.K tl) := by
  refine ⟨fun pins s σ H R I h => ?_⟩
  refine thn (hl.run pins s σ H _ I h) fun v s1 ⟨x, H1, I1, r1, q1⟩ => ?_
  obtain ⟨a, xs, e, q⟩ := q1
  subst e
  cases r1
  have fp : ∀ b, b ∈ [s1.heap.objs.size] → FpOk X pins H1 b := fun b hb => by
    have e : b = s1.heap.objs.size := by simpa using hb
    subst e
    exact I1.fpOk (Nat.le_refl _) (I1.hok.fresh (Nat.le_refl _))
  rcases q with ⟨hq, q⟩ | ⟨hq, q⟩
  · obtain ⟨its, rv, p, hz⟩ := I1.list hq
    refine wpAny_pyIter_list p.isList ?_
    exact ⟨s1.heap.objs.size, [s1.heap.objs.size], _, _, H1, rfl, I1.kept (t' := s1.toks) fun b o e => Heap.get?_push_of_some _ e, turn_list a _, ⟨_, Heap.get?_push_size _ rfl, rfl, rfl⟩, fp, q⟩
  · obtain ⟨its, rv, p, hz⟩ := I1.tuple hq
    refine wpAny_pyIter_tuple (show s1.heap.IsTuple a its.toArray from p) ?_
    exact ⟨s1.heap.objs.size, [s1.heap.objs.size], _, _, H1, rfl, I1.kept (t' := s1.toks) fun b o e => Heap.get?_push_of_some _ e, turn_tuple a _, ⟨_, Heap.get?_push_size _ rfl, rfl, rfl⟩, fp, q⟩
def wSq (K : PySem.W.Frag) (te : TE) : TIY := fun σ H k => te σ H fun x H1 => ∃ a xs, x = .ref a ∧ ((SqL K H1 a xs ∧ k xs.length (fun H => SqL K H a xs) (yL xs) H1) ∨ (SqT K H1 a xs ∧ k xs.length (fun H => SqT K H a xs) (yL xs) H1))
theorem piy_sq {te : TE} (h : PE X e te) : PIY X tg e (wSq X.K te) := PI.imp (pi_seqU (pe_M h)) fun σ H R ⟨R0, q, m⟩ => ⟨_, q, fun x H1 q => by
  obtain ⟨a, xs, ea, q⟩ := q
  rcases q with ⟨sq, q⟩ | ⟨sq, q⟩
  · exact ⟨a, xs, ea, .inl ⟨sq, m _ _ _ _ q _ wy_list⟩⟩
  · exact ⟨a, xs, ea, .inr ⟨sq, m _ _ _ _ q _ wy_tup⟩⟩⟩
def cSq (ra : CE) : CI := fun lo e h => bd (ra lo e h) fun x h1 => ob (seqFz h1 x) fun p => some (p.1.map Yv.one, p.2)
theorem yok_one {xs : List VV} {vs : List V} {ρ0 : List Addr} {h0 : VH} {H0 : Hp} {G : Hp → Prop} (r : RVs K ρ0 xs vs) (g : ∀ ρ2 h2 H2, Go ρ0 lo h0 H0 ρ2 h2 H2 → G H2) : YOk K lo (xs.map Yv.one) ρ0 h0 H0 vs.length G (yL vs) := by
  refine ⟨by rw [r.len]; simp, fun ρ2 h2 H2 g2 _ => g _ _ _ g2, fun i it ρ2 h2 H2 k e g2 S2 q => ?_⟩
  rw [List.getElem?_map] at e
  cases e2 : xs[i]? with
  | none => rw [e2] at e; cases e
  | some x =>
    rw [e2] at e
    cases e
    obtain ⟨v, e3, rv⟩ := r.at_ e2
    show oV _ vs[i]? _
    rw [e3]
    exact q v (rv.mono g2.le)
theorem i_sq (d : denI K (cSq ra) σ H k) : wSq K (den K ra) σ H k := by
  obtain ⟨ρ, lo, e, h, its, h', S, E, run, k⟩ := d
  obtain ⟨x, h1, e1, run⟩ := bd_some run
  obtain ⟨p, e2, run⟩ := ob_some run
  cases run
  refine ⟨ρ, lo, e, h, x, h1, S, E, e1, fun ρ1 H1 v g1 S1 r1 => ?_⟩
  obtain ⟨a, vs, rfl, rs, g2, S2, st⟩ := seqFz_ok (lo := lo) S1 r1 e2
  refine ⟨a, vs, rfl, ?_⟩
  rcases st with st | st
  · exact .inl ⟨st _ _ _ Go.refl, k ρ1 H1 (g1.trans g2) S2 _ _ _ (yok_one rs st)⟩
  · exact .inr ⟨st _ _ _ Go.refl, k ρ1 H1 (g1.trans g2) S2 _ _ _ (yok_one rs st)⟩
theorem q_sq (h : QE X e ra) : PIY X tg e (denI X.K (cSq ra)) := PI.imp (piy_sq h) fun σ H R ⟨R0, q, m⟩ => ⟨R0, i_sq q, m⟩
/-! a dict that is held: its keys, its items -/
def dctFk (h : VH) : VV → Option (List (Str × VV))
  | .ref i => match h.get i with
    | some (.fk kvs) => some kvs
    | _ => none
  | _ => none
theorem dctFk_ok {kvs : List (Str × VV)} (S : Sim K ρ h H) (r : RV K ρ x v) (run : dctFk h x = some kvs) : ∃ a od ws, v = .ref a ∧ RKs K ρ kvs ws ∧ ∀ ρ2 h2 H2, Go ρ lo h H ρ2 h2 H2 → H2 a = some (.frz od (.dK ws)) := by
  unfold dctFk at run
  split at run
  · split at run
    · rename_i q
      cases run
      obtain ⟨a, rfl, ea, od, ws, eH, rs⟩ := S.ref q r
      exact ⟨a, od, ws, rfl, rs, fun ρ2 h2 H2 g => stays_at S q rfl ea eH g⟩
    · cases run
  · cases run
theorem RKs.at_ : ∀ {xs : List (Str × VV)} {vs : List (Key × V)} {i : Nat} {x : Str × VV}, RKs K ρ xs vs → xs[i]? = some x → ∃ v, vs[i]? = some (Sum.inr x.1, v) ∧ RV K ρ x.2 v
  | [], [], _, _, _, e => by cases e
  | _ :: _, (k, v) :: _, 0, _, r, e => by
    cases e
    obtain ⟨⟨e1, e2⟩, _⟩ := r
    simp only at e1
    exact ⟨v, by rw [e1]; rfl, e2⟩
  | _ :: _, _ :: _, i + 1, _, r, e => RKs.at_ (i := i) r.2 e
  | [], _ :: _, _, _, r, _ => r.elim
  | _ :: _, [], _, _, r, _ => r.elim
def cKeys (ra : CE) : CI := fun lo e h => bd (ra lo e h) fun x h1 => ob (dctFk h1 x) fun kvs => some (kvs.map fun kv => Yv.one (.str kv.1), h1)
theorem i_keys (d : denI K (cKeys ra) σ H k) : wK (den K ra) σ H k := by
  obtain ⟨ρ, lo, e, h, its, h', S, E, run, k⟩ := d
  obtain ⟨x, h1, e1, run⟩ := bd_some run
  obtain ⟨kvs, e2, run⟩ := ob_some run
  cases run
  refine ⟨ρ, lo, e, h, x, _, S, E, e1, fun ρ1 H1 v g1 S1 r1 => ?_⟩
  obtain ⟨a, od, ws, rfl, rs, st⟩ := dctFk_ok (lo := lo) S1 r1 e2
  simp only [f_rR, st _ _ _ Go.refl, f_oF]
  refine k ρ1 H1 g1 S1 _ _ _ ⟨by rw [rs.len]; simp, fun ρ2 h2 H2 g2 _ => st _ _ _ g2, fun i it ρ2 h2 H2 k e g2 S2 q => ?_⟩
  rw [List.getElem?_map] at e
  cases e2 : kvs[i]? with
  | none => rw [e2] at e; cases e
  | some x =>
    rw [e2] at e
    cases e
    obtain ⟨v, e3, rv⟩ := rs.at_ e2
    show oV _ ws[i]? _
    rw [e3]
    exact q _ rfl
theorem q_keys (h : QE X e ra) : PIY X tg e (denI X.K (cKeys ra)) := PI.imp (piy_keys h) fun σ H R ⟨R0, q, m⟩ => ⟨R0, i_keys q, m⟩
def cItems (ra : CE) : CI := fun lo e h => bd (ra lo e h) fun x h1 => ob (dctFk h1 x) fun kvs => some (kvs.map fun kv => Yv.two (.str kv.1) kv.2, h1)
theorem i_items (d : denI K (cItems ra) σ H k) : wI (den K ra) σ H k := by
  obtain ⟨ρ, lo, e, h, its, h', S, E, run, k⟩ := d
  obtain ⟨x, h1, e1, run⟩ := bd_some run
  obtain ⟨kvs, e2, run⟩ := ob_some run
  cases run
  refine ⟨ρ, lo, e, h, x, _, S, E, e1, fun ρ1 H1 v g1 S1 r1 => ?_⟩
  obtain ⟨a, od, ws, rfl, rs, st⟩ := dctFk_ok (lo := lo) S1 r1 e2
  simp only [f_rR, st _ _ _ Go.refl, f_oF]
  refine k ρ1 H1 g1 S1 _ _ _ ⟨by rw [rs.len]; simp, fun ρ2 h2 H2 g2 _ => st _ _ _ g2, fun i it ρ2 h2 H2 k e g2 S2 q => ?_⟩
  rw [List.getElem?_map] at e
  cases e2 : kvs[i]? with
  | none => rw [e2] at e; cases e
  | some x =>
    rw [e2] at e
    cases e
    obtain ⟨v, e3, rv⟩ := rs.at_ e2
    show oV _ ws[i]? _
    rw [e3]
    exact fun p hp => q _ _ p rfl (rv.mono g2.le) hp
theorem q_items {elts : List Expr} {kk : Nat} {tpos apos cpos : Pos} (h : QE X e ra) (hbase : attributeBase e "items" X.env (eval e X.env) = eval e X.env := by rfl) (hline : (apos.endLine == cpos.line) = true := by rfl) :
    PIY X (.Tuple elts kk tpos) (.Call (.Attribute e "items" apos) [] [] cpos) (denI X.K (cItems ra)) := PI.imp (piy_items h hbase hline) fun σ H R ⟨R0, q, m⟩ => ⟨R0, i_items q, m⟩
/-! enumerate of a list -/
def numV : Nat → List VV → List Yv
  | _, [] => []
  | n, x :: r => .two (.int (n : Nat)) x :: numV (n + 1) r
theorem numV_at : ∀ {xs : List VV} {n i : Nat}, (numV n xs)[i]? = xs[i]?.map fun x => Yv.two (.int ((n + i : Nat) : Int)) x
  | [], _, _ => rfl
  | _ :: _, n, 0 => rfl
  | _ :: r, n, i + 1 => by
    show (numV (n + 1) r)[i]? = _
    rw [numV_at (xs := r)]
    have : n + 1 + i = n + (i + 1) := by omega
    rw [this]
    rfl
theorem numV_len : ∀ {xs : List VV} {n : Nat}, (numV n xs).length = xs.length
  | [], _ => rfl
  | _ :: r, n => congrArg (· + 1) (numV_len (xs := r))
theorem yok_enum {xs : List VV} {vs : List V} {ρ0 : List Addr} {h0 : VH} {H0 : Hp} {G : Hp → Prop} (r : RVs K ρ0 xs vs) (g : ∀ ρ2 h2 H2, Go ρ0 lo h0 H0 ρ2 h2 H2 → G H2) : YOk K lo (numV 0 xs) ρ0 h0 H0 vs.length G (yE vs) := by
  refine ⟨by rw [r.len, numV_len], fun ρ2 h2 H2 g2 _ => g _ _ _ g2, fun i it ρ2 h2 H2 k e g2 S2 q => ?_⟩
  rw [numV_at] at e
  cases e2 : xs[i]? with
  | none => rw [e2] at e; cases e
  | some x =>
    rw [e2] at e
    cases e
    obtain ⟨v, e3, rv⟩ := r.at_ e2
    show oV _ vs[i]? _
    rw [e3]
    refine fun p hp => q _ _ p ?_ (rv.mono g2.le) hp
    simp [RV]
/-- what a sequence gives, by the kind of it -/
def cEnum (la : CA) : CI := fun lo e h => bd (la lo e h) fun xs h1 => match xs with
  | [x] => ob (seqFz h1 x) fun p => some (numV 0 p.1, p.2)
  | _ => none
/-! ### while -/
def whC (c : CT) (b : CS) (lo : Nat) : Nat → En → VH → Option Fl
  | 0, _, _ => none
  | n + 1, e, h => bd (c lo e h) fun t h1 => match t with
    | true => match b lo e h1 with
      | some (.nx e2 h2) => whC c b lo n e2 h2
      | some (.ct e2 h2) => whC c b lo n e2 h2
      | some (.bk e2 h2) => some (.nx e2 h2)
      | o => o
    | false => some (.nx e h1)
def cWh (n : Nat) (c : CT) (b : CS) : CS := fun lo e h => whC c b lo n e h
theorem i_wh {n : Nat} (d : denS K (cWh n ct sb) D σ H) : tWhU n (denT K ct) (denS K sb) D σ H := by
  obtain ⟨ρ, lo, e, h, f, S, E, run, k⟩ := d
  induction n generalizing ρ e h σ H f with
  | zero => cases run
  | succ n ih =>
    obtain ⟨t, h1, e1, run⟩ := bd_some run
    refine ⟨ρ, lo, e, h, t, h1, S, E, e1, fun ρ1 H1 g1 S1 => ?_⟩
    cases t with
    | true =>
      show cIf _ _ true _ _
      rw [f_cIft]
      dsimp only at run
      split at run
      · rename_i e2 h2 q
        exact ⟨ρ1, lo, e, h1, _, S1, E.mono g1.le, q, fun ρ2 σ2 H2 g2 S2 E2 => ih ρ2 e2 h2 f S2 E2 run (AftF.go g2 (AftF.go g1 k))⟩
      · rename_i e2 h2 q
        exact ⟨ρ1, lo, e, h1, _, S1, E.mono g1.le, q, fun ρ2 σ2 H2 g2 S2 E2 => ih ρ2 e2 h2 f S2 E2 run (AftF.go g2 (AftF.go g1 k))⟩
      · rename_i e2 h2 q
        cases run
        exact ⟨ρ1, lo, e, h1, _, S1, E.mono g1.le, q, AftE.go g1 k⟩
      · rename_i n1 n2 n3
        refine ⟨ρ1, lo, e, h1, f, S1, E.mono g1.le, run, ?_⟩
        cases f with
        | nx e3 h3 => exact (n1 _ _ run).elim
        | ct e3 h3 => exact (n2 _ _ run).elim
        | bk e3 h3 => exact (n3 _ _ run).elim
        | rt x h3 => exact Aft.go g1 k
    | false =>
      show cIf _ _ false _ _
      rw [f_cIff]
      cases run
      exact AftE.now S1 (E.mono g1.le) (AftE.go g1 k)
/-! ### a dict is held while a statement runs -/
abbrev Hint : Type := Nat → En → VH → Option Nat
def unF (i : Nat) (kvs : List (Str × VV)) : Fl → Option Fl
  | .nx e h => ob (h.set i (.dk kvs)) fun h2 => some (.nx e h2)
  | .bk e h => ob (h.set i (.dk kvs)) fun h2 => some (.bk e h2)
  | .ct e h => ob (h.set i (.dk kvs)) fun h2 => some (.ct e h2)
  | .rt x h => ob (h.set i (.dk kvs)) fun h2 => some (.rt x h2)
def cLock (t : Hint) (s : CS) : CS := fun lo e h => ob (t lo e h) fun i => match h.get i with
  | some (.dk kvs) => ob (h.set i (.fk kvs)) fun h1 => ob (s lo e h1) fun f => unF i kvs f
  | _ => none
theorem unlock {i : Nat} {a : Addr} {kvs : List (Str × VV)} {ws : List (Key × V)} {od : Obj} {h1 h2 h3 : VH} {ρ2 : List Addr} {H2 : Hp} (S : Sim K ρ h H) (e0 : h.get i = some (.dk kvs)) (ea : ρ[i]? = some a) (eH : H a = some (.dK ws)) (rk : RKs K ρ kvs ws) (e1 : h.set i (.fk kvs) = some h1)
    (g : Go ρ lo h1 (L2.upd H a (.frz od (.dK ws))) ρ2 h2 H2) (S2 : Sim K ρ2 h2 H2) (e3 : h2.set i (.dk kvs) = some h3) :
    H2 a = some (.frz od (.dK ws)) ∧ Go ρ lo h H ρ2 h3 (L2.upd H2 a (.dK ws)) ∧ Sim K ρ2 h3 (L2.upd H2 a (.dK ws)) := by
  obtain ⟨en, eg⟩ := VH.get_set e1
  obtain ⟨en3, eg3⟩ := VH.get_set e3
  have ei : h1.get i = some (.fk kvs) := by rw [eg, if_pos rfl]
  have fro : H2 a = some (.frz od (.dK ws)) := g.keep a _ upd_same fun j ej => .inr ⟨.fk kvs, by rw [S.inj ej ea]; exact ei, rfl⟩
  obtain ⟨l, el, fr⟩ := g.ext
  refine ⟨fro, ⟨⟨l, el, fun b m => ?_⟩, fun b u e c => ?_, fun j u e f => ?_, fun b u e => ?_⟩, ?_⟩
  · have := fr b m
    by_cases q : b = a
    · rw [q, upd_same] at this; cases this
    · rwa [upd_ne q] at this
  · by_cases q : b = a
    · subst q
      rw [upd_same, ← e, eH]
    · rw [upd_ne q]
      refine g.keep b u (by rw [upd_ne q]; exact e) fun j ej => ?_
      rcases c j ej with c | ⟨w, c1, c2⟩
      · exact .inl c
      · refine .inr ⟨w, ?_, c2⟩
        rw [eg, if_neg]
        · exact c1
        · rintro rfl
          rw [ea] at ej
          cases ej
          exact q rfl
  · have ji : j ≠ i := by
      rintro rfl
      rw [e0] at e
      cases e
      cases f
    rw [eg3, if_neg ji]
    exact g.stay j u (by rw [eg, if_neg ji]; exact e) f
  · by_cases q : b = a
    · exact ⟨_, by rw [q, upd_same]⟩
    · rw [upd_ne q]
      exact g.dom b u (by rw [upd_ne q]; exact e)
  · exact S2.put0 (g.le.at_ ea) True.intro e3 fun H' q => ⟨ws, q, rk.mono g.le⟩
theorem i_lock {t : Hint} (d : denS K (cLock t sa) D σ H) : tLock (denS K sa) D σ H := by
  obtain ⟨ρ, lo, e, h, f, S, E, run, k⟩ := d
  obtain ⟨i, _, run⟩ := ob_some run
  split at run
  · rename_i kvs e0
    obtain ⟨h1, e1, run⟩ := ob_some run
    obtain ⟨f1, e2, run⟩ := ob_some run
    obtain ⟨a, ea, ws, eH, rk⟩ := S.ob i _ e0
    refine ⟨a, _, eH, ?_, fun od => ?_⟩
    · exact True.intro
    · have S1 : Sim K ρ h1 (L2.upd H a (.frz od (.dK ws))) := S.put0 ea True.intro e1 fun H' q => ⟨od, ws, q, rk⟩
      refine ⟨ρ, lo, e, h1, f1, S1, E, e2, ?_⟩
      cases f1 with
      | nx e4 h4 =>
        obtain ⟨h5, e5, run⟩ := ob_some run
        cases run
        intro ρ2 σ2 H2 g S2 E2
        obtain ⟨z1, z2, z3⟩ := unlock S e0 ea eH rk e1 g S2 e5
        exact ⟨z1, k ρ2 σ2 _ z2 z3 E2⟩
      | bk e4 h4 =>
        obtain ⟨h5, e5, run⟩ := ob_some run
        cases run
        intro ρ2 σ2 H2 g S2 E2
        obtain ⟨z1, z2, z3⟩ := unlock S e0 ea eH rk e1 g S2 e5
        exact ⟨z1, k ρ2 σ2 _ z2 z3 E2⟩
      | ct e4 h4 =>
        obtain ⟨h5, e5, run⟩ := ob_some run
        cases run
        intro ρ2 σ2 H2 g S2 E2
        obtain ⟨z1, z2, z3⟩ := unlock S e0 ea eH rk e1 g S2 e5
        exact ⟨z1, k ρ2 σ2 _ z2 z3 E2⟩
      | rt x4 h4 =>
        obtain ⟨h5, e5, run⟩ := ob_some run
        cases run
        intro ρ2 H2 v g S2 r2
        obtain ⟨z1, z2, z3⟩ := unlock S e0 ea eH rk e1 g S2 e5
        exact ⟨z1, k ρ2 _ v z2 z3 r2⟩
  · cases run
def cLockE (t : Hint) (r : CE) : CE := fun lo e h => ob (t lo e h) fun i => match h.get i with
  | some (.dk kvs) => ob (h.set i (.fk kvs)) fun h1 => bd (r lo e h1) fun x h2 => ob (h2.set i (.dk kvs)) fun h3 => some (x, h3)
  | _ => none
theorem i_lockE {t : Hint} (d : den K (cLockE t ra) σ H Q) : tLockE (den K ra) σ H Q := by
  obtain ⟨ρ, lo, e, h, z, h', S, E, run, k⟩ := d
  obtain ⟨i, _, run⟩ := ob_some run
  split at run
  · rename_i kvs e0
    obtain ⟨h1, e1, run⟩ := ob_some run
    obtain ⟨x, h2, e2, run⟩ := bd_some run
    obtain ⟨h5, e5, run⟩ := ob_some run
    cases run
    obtain ⟨a, ea, ws, eH, rk⟩ := S.ob i _ e0
    refine ⟨a, _, eH, True.intro, fun od => ?_⟩
    have S1 : Sim K ρ h1 (L2.upd H a (.frz od (.dK ws))) := S.put0 ea True.intro e1 fun H' q => ⟨od, ws, q, rk⟩
    refine ⟨ρ, lo, e, h1, _, h2, S1, E, e2, fun ρ2 H2 v g S2 r2 => ?_⟩
    obtain ⟨z1, z2, z3⟩ := unlock S e0 ea eH rk e1 g S2 e5
    exact ⟨z1, k ρ2 _ v z2 z3 r2⟩
  · cases run
end
end
end K95

set_option maxRecDepth 100000
set_option maxHeartbeats 4000000
namespace K95
open PySem PySem.Spec PyProof.Rows L2
noncomputable section
variable [Nu]
section
variable {X : Cx} {K : PySem.W.Frag} {σ : List (Option V)} {H H' : Hp} {Q : VK} {D : Ends} {ra rb rc ro ri : CE} {ct : CT} {la lb : CA} {sa sb : CS} {ga gb : CG} {ρ ρ' : List Addr} {lo : Nat} {h h' : VH} {x y z : VV} {v u : V} {e o : Expr} {pos : Pos} {ci : CI} {tg iter : Expr}
/-! ### targets -/
abbrev CGs : Type := List VV → Nat → En → VH → Option (En × VH)
def denGs (K : PySem.W.Frag) (r : CGs) : TGs := fun vs σ H Q => ∃ ρ lo e h xs e' h', Sim K ρ h H ∧ REn K ρ e σ ∧ RVs K ρ xs vs ∧ r xs lo e h = some (e', h') ∧ AftE K ρ lo h H e' h' Q
def cGN : CGs := fun xs _ e h => match xs with
  | [] => some (e, h)
  | _ => none
def cGC (g : CG) (gs : CGs) : CGs := fun xs lo e h => match xs with
  | x :: r => bd (g x lo e h) fun e1 h1 => gs r lo e1 h1
  | [] => none
theorem i_gn {vs : List V} {QE : List (Option V) → Hp → Prop} (d : denGs K cGN vs σ H QE) : gNil vs σ H QE := by
  obtain ⟨ρ, lo, e, h, xs, e', h', S, E, r, run, k⟩ := d
  unfold cGN at run
  split at run
  · cases run
    cases vs with
    | nil => exact ⟨rfl, AftE.now S E k⟩
    | cons _ _ => exact r.elim
  · cases run
theorem i_gc {gs : CGs} {vs : List V} {QE : List (Option V) → Hp → Prop} (d : denGs K (cGC ga gs) vs σ H QE) : gCons (denG K ga) (denGs K gs) vs σ H QE := by
  obtain ⟨ρ, lo, e, h, xs, e', h', S, E, r, run, k⟩ := d
  unfold cGC at run
  split at run
  · rename_i x rest
    obtain ⟨e1, h1, q1, run⟩ := bd_some run
    cases vs with
    | nil => exact r.elim
    | cons v us => exact ⟨v, us, rfl, ρ, lo, e, h, x, e1, h1, S, E, r.1, q1, fun ρ1 σ1 H1 g1 S1 E1 => ⟨ρ1, lo, e1, h1, rest, e', h', S1, E1, r.2.mono g1.le, run, AftE.go g1 k⟩⟩
  · cases run
def cTp (n : Nat) (gs : CGs) : CG := fun x lo e h => ob (tupOf h x) fun xs => match xs.length.beq n with
  | true => gs xs lo e h
  | false => none
theorem i_tp {n : Nat} {gs : CGs} {v : V} {QE : List (Option V) → Hp → Prop} (d : denG K (cTp n gs) v σ H QE) : gTup K n (denGs K gs) v σ H QE := by
  obtain ⟨ρ, lo, e, h, x, e', h', S, E, r, run, k⟩ := d
  obtain ⟨xs, e1, run⟩ := ob_some run
  split at run
  · rename_i q
    obtain ⟨a, vs, rfl, sq, rs⟩ := tupOf_ok S r e1
    exact ⟨a, vs, rfl, sq, by rw [rs.len]; exact beq_t q, ρ, lo, e, h, xs, e', h', S, E, rs, run, k⟩
  · cases run
theorem q_tp {es : List Expr} {kk n : Nat} {gs : CGs} (hc : X.calm = true) (h : PGs X es (denGs X.K gs)) (hn : (assignEach es X.env).length = n := by rfl) (hst : (assignEach es X.env).findIdx? (·.1) = none := by rfl) : QG X (.Tuple es kk pos) (cTp n gs) := PG.imp (pg_tup hc h hn hst) fun _ _ _ _ d => i_tp d
theorem PGs.imp {es : List Expr} {t t' : TGs} (h : PGs X es t) (g : ∀ v σ H Q, t' v σ H Q → t v σ H Q) : PGs X es t' := by
  refine ⟨fun pins s σ H vs us Q I r q => h.run pins s σ H vs us Q I r (g _ _ _ _ q)⟩
theorem q_gn : PGs X [] (denGs X.K cGN) := PGs.imp pgs_nil fun _ _ _ _ d => i_gn d
theorem q_gc {es : List Expr} {gs : CGs} (h : QG X e ga) (r : PGs X es (denGs X.K gs)) (hs : (assignEach (e :: es) X.env).map (·.2) = assign e X.env :: (assignEach es X.env).map (·.2) := by rfl) : PGs X (e :: es) (denGs X.K (cGC ga gs)) := PGs.imp (pgs_cons h r hs) fun _ _ _ _ d => i_gc d
theorem q_gname {x : Str} {i : Nat} (hN : X.N.Nodup) (hi : X.N[i]? = some x) (hl : L2.Loc X.env.scope x) (hf : X.fn x = true ∨ X.env.scope.names.lookup x = some .local := by first | exact Or.inl rfl | exact Or.inr rfl) : QG X (.Name x pos) (cN i) := PG.imp (pg_name hN hi hl hf) fun v σ H Q d => by
  obtain ⟨ρ, lo, e, h, x, e', h', S, E, r, run, k⟩ := d
  cases run
  exact AftE.now S (E.set (x := some x) (v := some v) r) k
/-- slots of a tuple target -/
def GsIn (vs : List Nat) (g : CGs) : Prop := ∀ x lo e h e2 h2, g x lo e h = some (e2, h2) → wipeV e2 vs = wipeV e vs
theorem gin_gn {vs : List Nat} : GsIn vs cGN := fun x lo e h2 e2 h3 r => by
  unfold cGN at r
  split at r
  · cases r; rfl
  · cases r
theorem gin_gc {vs : List Nat} {gs : CGs} (a : GIn vs ga) (b : GsIn vs gs) : GsIn vs (cGC ga gs) := fun x lo e h2 e2 h3 r => by
  unfold cGC at r
  split at r
  · obtain ⟨e1, h1, q1, r⟩ := bd_some r
    rw [b _ _ _ _ _ _ r, a _ _ _ _ _ _ q1]
  · cases r
theorem gin_tp {vs : List Nat} {n : Nat} {gs : CGs} (b : GsIn vs gs) : GIn vs (cTp n gs) := fun x lo e h2 e2 h3 r => by
  obtain ⟨xs, e1, r⟩ := ob_some r
  split at r
  · exact b _ _ _ _ _ _ r
  · cases r
/-! ### dicts -/
def ptKV (k : Str) (y : VV) (kvs : List (Str × VV)) : List (Str × VV) := match kvs.any fun kv => seqS kv.1 k with
  | true => kvs.map fun kv => match seqS kv.1 k with
    | true => (kv.1, y)
    | false => kv
  | false => kvs ++ [(k, y)]
theorem RKs.app {bs : List (Str × VV)} {zs : List (Key × V)} (q : RKs K ρ bs zs) : ∀ {as : List (Str × VV)} {ws : List (Key × V)}, RKs K ρ as ws → RKs K ρ (as ++ bs) (ws ++ zs)
  | [], [], _ => q
  | _ :: _, _ :: _, r => ⟨r.1, RKs.app q r.2⟩
  | [], _ :: _, r => r.elim
  | _ :: _, [], r => r.elim
theorem seqS_k {a k : Str} {f : Key} (e : f = Sum.inr a) : decide (f = Sum.inr k) = seqS a k := by
  subst e
  rw [seqS_eq]
  by_cases q : a = k
  · simp [q]
  · rw [decide_eq_false q]
    exact decide_eq_false fun z => q (Sum.inr.inj z)
theorem RKs.any {k : Str} : ∀ {as : List (Str × VV)} {ws : List (Key × V)}, RKs K ρ as ws → (ws.any fun kv => decide (kv.1 = Sum.inr k)) = as.any fun kv => seqS kv.1 k
  | [], [], _ => rfl
  | (a, _) :: _, (f, _) :: _, r => by
    rw [List.any_cons, List.any_cons, RKs.any r.2, seqS_k r.1.1]
  | [], _ :: _, r => r.elim
  | _ :: _, [], r => r.elim
theorem RKs.mapK {k : Str} (q : RV K ρ y u) : ∀ {as : List (Str × VV)} {ws : List (Key × V)}, RKs K ρ as ws → RKs K ρ (as.map fun kv => match seqS kv.1 k with | true => (kv.1, y) | false => kv) (ws.map fun kv => if kv.1 = Sum.inr k then (kv.1, u) else kv)
  | [], [], _ => True.intro
  | (a, x) :: _, (f, v) :: _, r => by
    refine ⟨?_, RKs.mapK q r.2⟩
    obtain ⟨⟨e1, e2⟩, _⟩ := r
    simp only at e1 e2
    have := seqS_k (k := k) e1
    cases z : seqS a k with
    | true =>
      have hf : f = Sum.inr k := of_decide_eq_true (this.trans z)
      dsimp only
      rw [if_pos hf, z]
      exact ⟨e1, q⟩
    | false =>
      have hf : ¬ f = Sum.inr k := of_decide_eq_false (this.trans z)
      dsimp only
      rw [if_neg hf, z]
      exact ⟨e1, e2⟩
  | [], _ :: _, r => r.elim
  | _ :: _, [], r => r.elim
theorem RKs.put {k : Str} {as : List (Str × VV)} {ws : List (Key × V)} (r : RKs K ρ as ws) (q : RV K ρ y u) : RKs K ρ (ptKV k y as) (putK ws (Sum.inr k) u) := by
  unfold ptKV putK
  rw [r.any]
  cases z : as.any fun kv => seqS kv.1 k with
  | true => rw [if_pos rfl]; exact r.mapK q
  | false => rw [if_neg (by simp)]; exact RKs.app (bs := [(k, y)]) (zs := [(Sum.inr k, u)]) ⟨⟨rfl, q⟩, True.intro⟩ r
/-- o[i] = v -/
def setU : TSet := fun o i v H Q => rSetL o i v H Q ∨ rSetD o i v H Q
theorem PSet.or {t t' : TSet} (a : PSet X t) (b : PSet X t') : PSet X (fun o i v H Q => t o i v H Q ∨ t' o i v H Q) := fun pins s σ H o i v ov iv u Q I r1 r2 r3 q => q.elim (a pins s σ H o i v ov iv u Q I r1 r2 r3) (b pins s σ H o i v ov iv u Q I r1 r2 r3)
def cSub (ro ri : CE) : CG := fun v lo e h => bd (ro lo e h) fun x h1 => bd (ri lo e h1) fun y h2 => match x with
  | .ref i => match lo.ble i with
    | true => match h2.get i, y with
      | some (.dk kvs), .str k => match kvs.length.ble 64 with
        | true => ob (h2.set i (.dk (ptKV k v kvs))) fun h3 => some (e, h3)
        | false => none
      | some (.lst xs), .int j => ob (ixN xs.length j) fun n => ob (h2.set i (.lst (xs.set n v))) fun h3 => some (e, h3)
      | _, _ => none
    | false => none
  | _ => none
theorem RVs.set (q : RV K ρ y u) : ∀ {xs : List VV} {vs : List V} {i : Nat}, RVs K ρ xs vs → RVs K ρ (xs.set i y) (vs.set i u)
  | [], [], _, _ => True.intro
  | _ :: _, _ :: _, 0, r => ⟨q, r.2⟩
  | _ :: _, _ :: _, i + 1, r => ⟨r.1, RVs.set q r.2⟩
  | [], _ :: _, _, r => r.elim
  | _ :: _, [], _, r => r.elim
theorem i_sub {v : V} {QE : List (Option V) → Hp → Prop} (d : denG K (cSub ro ri) v σ H QE) : gSub (den K ro) (den K ri) setU v σ H QE := by
  obtain ⟨ρ, lo, e, h, w, e', h', S, E, r, run, k⟩ := d
  obtain ⟨x, h1, e1, run⟩ := bd_some run
  obtain ⟨y, h2, e2, run⟩ := bd_some run
  refine ⟨ρ, lo, e, h, x, h1, S, E, e1, fun ρ1 H1 a1 g1 S1 r1 => ⟨ρ1, lo, e, h1, y, h2, S1, E.mono g1.le, e2, fun ρ2 H2 a2 g2 S2 r2 => ?_⟩⟩
  have r' := (r.mono g1.le).mono g2.le
  split at run
  · rename_i i
    split at run
    · rename_i ql
      have ql := Nat.le_of_ble_eq_true ql
      split at run
      · rename_i kvs kk q
        split at run
        · rename_i q64
          have q64 := Nat.le_of_ble_eq_true q64
          have se := sizeLine_eq
          obtain ⟨h3, e3, run⟩ := ob_some run
          cases run
          obtain ⟨a, rfl, ea, ws, eH, rk⟩ := S2.ref q (r1.mono g2.le)
          refine .inr ⟨a, _, rfl, .inl ⟨ws, Sum.inr kk, eH, r2, by rw [rk.len]; omega, rfl⟩, ?_⟩
          obtain ⟨g3, S3⟩ := S2.put (lo := lo) (o := .dK (putK ws (Sum.inr kk) v)) ql q rfl ea True.intro e3 fun H' q => ⟨_, q, rk.put r'⟩
          exact (k.go g1).go g2 |>.go g3 |>.now S3 (((E.mono g1.le).mono g2.le).mono g3.le)
        · cases run
      · rename_i xs j q
        obtain ⟨n, en, run⟩ := ob_some run
        obtain ⟨h3, e3, run⟩ := ob_some run
        cases run
        obtain ⟨a, rfl, ea, vs, eH, rs⟩ := S2.ref q (r1.mono g2.le)
        refine .inl ⟨a, vs, j, n, rfl, r2, eH, by rw [rs.len]; exact en, ?_⟩
        obtain ⟨g3, S3⟩ := S2.lst_ (lo := lo) ql q rfl ea e3 (rs.set (i := n) r')
        exact (k.go g1).go g2 |>.go g3 |>.now S3 (((E.mono g1.le).mono g2.le).mono g3.le)
      · cases run
    · cases run
  · cases run
theorem q_sub {i : Expr} (hu : X.A.units + 64 < cLine) (ho : QE X o ro) (hi : QE X i ri) (hs : ∀ v, assign (.Subscript o i pos) X.env v = (do
      let ov ← holding [v] (eval o X.env)
      let iv ← holding [v, ov] (eval i X.env)
      standAt pos
      holding [v, ov, iv] (setItem ov iv v)
      release [v, ov, iv] []) := by intro _; rfl) : QG X (.Subscript o i pos) (cSub ro ri) := PG.imp (pg_sub ho hi (PSet.or set_list (set_dict (by omega))) hs) fun _ _ _ _ d => i_sub d
def cNewD : CE := fun lo e h => ob (h.push (.dk [])) fun h2 => some (.ref h.n, h2)
theorem i_newD (d : den K cNewD σ H Q) : tDNewK σ H Q := by
  obtain ⟨ρ, lo, e, h, z, h', S, E, run, k⟩ := d
  exact fun p hp => Aft.alloc S run k hp True.intro fun H' q => ⟨_, q, True.intro⟩
/-- a display of pairs -/
abbrev CP : Type := Nat → En → VH → Option (List (VV × VV) × VH)
def cP0 : CP := fun _ _ h => some ([], h)
def cPC (rk rv : CE) (r : CP) : CP := fun lo e h => bd (rk lo e h) fun x h1 => bd (rv lo e h1) fun y h2 => bd (r lo e h2) fun ps h3 => some ((x, y) :: ps, h3)
def RPs (K : PySem.W.Frag) (ρ : List Addr) : List (VV × VV) → List (V × V) → Prop
  | [], [] => True
  | p :: ps, q :: qs => (RV K ρ p.1 q.1 ∧ RV K ρ p.2 q.2) ∧ RPs K ρ ps qs
  | _, _ => False
def DenP (K : PySem.W.Frag) (trs : List (TE × TE)) (r : CP) : Prop := ∀ {ρ : List Addr} {lo : Nat} {e : En} {h h' : VH} {σ : List (Option V)} {H : Hp} {ps : List (VV × VV)} {Q : List (V × V) → Hp → Prop}, Sim K ρ h H → REn K ρ e σ → r lo e h = some (ps, h') →
  (∀ ρ' H' qs, Go ρ lo h H ρ' h' H' → Sim K ρ' h' H' → RPs K ρ' ps qs → Q qs H') → tPairs trs σ H Q
theorem dp_nil : DenP K [] cP0 := fun S E run k => by
  cases run
  exact k _ _ [] Go.refl S True.intro
theorem dp_cons {trs : List (TE × TE)} {rp : CP} (d : DenP K trs rp) : DenP K ((den K ra, den K rb) :: trs) (cPC ra rb rp) := by
  intro ρ lo e h h' σ H ps Q S E run k
  obtain ⟨x, h1, e1, run⟩ := bd_some run
  obtain ⟨y, h2, e2, run⟩ := bd_some run
  obtain ⟨qs, h3, e3, run⟩ := bd_some run
  cases run
  refine ⟨ρ, lo, e, h, x, h1, S, E, e1, fun ρ1 H1 v g1 S1 r1 => ⟨ρ1, lo, e, h1, y, h2, S1, E.mono g1.le, e2, fun ρ2 H2 u g2 S2 r2 => ?_⟩⟩
  exact d S2 ((E.mono g1.le).mono g2.le) e3 fun ρ3 H3 us g3 S3 r3 => k ρ3 H3 ((v, u) :: us) ((g1.trans g2).trans g3) S3 ⟨⟨(r1.mono g2.le).mono g3.le, r2.mono g3.le⟩, r3⟩
def keysV : List (VV × VV) → Option (List (Str × VV))
  | [] => some []
  | (.str k, x) :: r => match keysV r with
    | some ks => some ((k, x) :: ks)
    | none => none
  | _ => none
theorem keysV_ok : ∀ {ps : List (VV × VV)} {qs : List (V × V)} {ks : List (Str × VV)}, RPs K ρ ps qs → keysV ps = some ks → ∃ kvs : List (Key × V), qs = kvs.map (fun kv => (kV kv.1, kv.2)) ∧ RKs K ρ ks kvs
  | [], [], _, _, e => by cases e; exact ⟨[], rfl, True.intro⟩
  | (x, y) :: ps, (v, u) :: qs, ks, r, e => by
    unfold keysV at e
    split at e
    · rename_i q; cases q
    · rename_i k x' r' q
      cases q
      split at e
      · rename_i ks' e2
        cases e
        obtain ⟨kvs, e3, rk⟩ := keysV_ok r.2 e2
        refine ⟨(Sum.inr k, u) :: kvs, ?_, ⟨rfl, r.1.2⟩, rk⟩
        rw [e3, show v = _ from r.1.1]
        rfl
      · cases e
    · cases e
  | [], _ :: _, _, r, _ => r.elim
  | _ :: _, [], _, r, _ => r.elim
def mergeV (kvs : List (Str × VV)) (more : List (Str × VV)) : List (Str × VV) := more.foldl (fun acc kv => ptKV kv.1 kv.2 acc) kvs
theorem RKs.merge : ∀ {more : List (Str × VV)} {ws : List (Key × V)} {as : List (Str × VV)} {zs : List (Key × V)}, RKs K ρ more ws → RKs K ρ as zs → RKs K ρ (mergeV as more) (mergeK zs ws)
  | [], [], _, _, _, q => q
  | (k, x) :: _, (f, v) :: _, as, zs, r, q => by
    obtain ⟨⟨e1, e2⟩, r9⟩ := r
    simp only at e1 e2
    subst e1
    have z := RKs.merge r9 (q.put (k := k) e2)
    exact z
  | [], _ :: _, _, _, r, _ => r.elim
  | _ :: _, [], _, _, r, _ => r.elim
def cDisp (r : CP) : CE := fun lo e h => bd (r lo e h) fun ps h1 => ob (keysV ps) fun ks => match ks.length.ble 15 with
  | true => ob (h1.push (.dk (mergeV [] ks))) fun h2 => some (.ref h1.n, h2)
  | false => none
theorem i_disp {trs : List (TE × TE)} {rp : CP} (dp : DenP K trs rp) (d : den K (cDisp rp) σ H Q) : tDisp trs σ H Q := by
  obtain ⟨ρ, lo, e, h, z, h', S, E, run, k⟩ := d
  obtain ⟨ps, h1, e1, run⟩ := bd_some run
  obtain ⟨ks, e2, run⟩ := ob_some run
  split at run
  · rename_i q
    obtain ⟨h2, e3, run⟩ := ob_some run
    cases run
    intro p hp
    have A : Aside K lo ρ h H p (.dK []) ρ h (L2.upd H p (.dK [])) := Aside.new S hp True.intro
    refine dp A.s E e1 fun ρ1 H1 qs g1 S1 r1 => ?_
    have A1 := A.go g1 S1
    obtain ⟨kvs, e4, rk⟩ := keysV_ok r1 e2
    refine ⟨A1.at_, kvs, e4, by rw [rk.len]; exact Nat.le_of_ble_eq_true q, ?_⟩
    have A2 := A1.upd (o' := .dK (mergeK [] kvs)) True.intro
    obtain ⟨g, S4, r4⟩ := A2.in_ e3 ⟨_, A2.at_, (RKs.merge (as := []) (zs := []) rk True.intro).mono ⟨_, rfl⟩⟩
    exact k _ _ _ g S4 r4
  · cases run
/-- d.get(k, x) -/
def cGet2 (rd rk rx : CE) : CE := fun lo e h => bd (rd lo e h) fun d h1 => ob (dctOf h1 d) fun _ => bd (rk lo e h1) fun k h2 => bd (rx lo e h2) fun z h3 => match k with
  | .str k => ob (dctOf h3 d) fun kvs => match lkK k kvs with
    | some y => some (y, h3)
    | none => some (z, h3)
  | _ => none
theorem i_get2 (d : den K (cGet2 ra rb rc) σ H Q) : tDGet2 (den K ra) (den K rb) (den K rc) σ H Q := by
  obtain ⟨ρ, lo, e, h, z, h', S, E, run, k⟩ := d
  obtain ⟨x, h1, e1, run⟩ := bd_some run
  obtain ⟨kvs0, e0, run⟩ := ob_some run
  obtain ⟨y, h2, e2, run⟩ := bd_some run
  obtain ⟨w, h3, e3, run⟩ := bd_some run
  refine ⟨ρ, lo, e, h, x, h1, S, E, e1, fun ρ1 H1 v g1 S1 r1 => ?_⟩
  have r1' := r1
  obtain ⟨a, ws, rfl, rd, _⟩ := dctOf_ok S1 r1 e0
  refine ⟨a, rfl, .inl ⟨ws, rd⟩, ρ1, lo, e, h1, y, h2, S1, E.mono g1.le, e2, fun ρ2 H2 v2 g2 S2 r2 => ⟨ρ2, lo, e, h2, w, h3, S2, (E.mono g1.le).mono g2.le, e3, fun ρ3 H3 v3 g3 S3 r3 => ?_⟩⟩
  have k3 := ((k.go g1).go g2).go g3
  split at run
  · rename_i kk _
    obtain ⟨kvs, e4, run⟩ := ob_some run
    obtain ⟨b, ws', eb, rd', rk⟩ := dctOf_ok S3 ((r1'.mono g2.le).mono g3.le) e4
    cases eb
    refine ⟨_, .inl ⟨ws', Sum.inr kk, rd', r2, rfl⟩, ?_⟩
    split at run
    · rename_i y' e5
      cases run
      obtain ⟨v', e6, r6⟩ := lkK_some rk e5
      rw [e6]
      exact k3.now S3 r6
    · rename_i e5
      cases run
      rw [lkK_none rk e5]
      exact k3.now S3 r3
  · cases run
end
end
end K95

set_option maxRecDepth 100000
set_option maxHeartbeats 4000000
namespace K95
open PySem PySem.Spec PyProof.Rows L2
noncomputable section
variable [Nu]
section
variable {X : Cx} {K : PySem.W.Frag} {σ : List (Option V)} {H H' : Hp} {Q : VK} {QB : Bool → Hp → Prop} {QL : List V → Hp → Prop} {D : Ends} {ra rb rc ro ri : CE} {R R' : R2} {f f' : VV → VV → VH → Option (VV × VH)} {ca cb ct : CT} {la lb : CA} {sa sb : CS} {ga gb : CG} {ρ ρ' : List Addr} {lo : Nat} {h h' : VH} {x y z : VV} {v u : V} {a b c e o : Expr} {pos : Pos} {ci : CI} {tg iter : Expr}
/-! ### in, not in -/
def flatVV : VV → Bool
  | .non => true
  | .bl _ => true
  | .int _ => true
  | .str _ => true
  | _ => false
def eqVV : VV → VV → Bool
  | .non, .non => true
  | .bl a, .bl b => a == b
  | .bl a, .int b => (if a then 1 else 0) == b
  | .int a, .bl b => a == (if b then 1 else 0)
  | .int a, .int b => a == b
  | .str a, .str b => seqS a b
  | _, _ => false
theorem flat_ok (r : RV K ρ x v) (f : flatVV x = true) : flatV v = true := by
  cases x <;> first | (rw [show v = _ from r]; rfl) | cases f
theorem eqVV_ok (r : RV K ρ x v) (q : RV K ρ y u) (f : flatVV x = true) (g : flatVV y = true) : eqV v u = eqVV x y := by
  cases x <;> first | (cases f; done) | (cases y <;> first | (cases g; done) | (rw [show v = _ from r, show u = _ from q]; first | rfl | (show _ = seqS _ _; rw [seqS_eq]; rfl) | (show (_ == _) = seqS _ _; rw [seqS_eq]; simp [eqV])))
theorem flats_ok : ∀ {xs : List VV} {vs : List V}, RVs K ρ xs vs → xs.all flatVV = true → vs.all flatV = true
  | [], [], _, _ => rfl
  | _ :: _, _ :: _, r, f => by
    rw [List.all_cons, Bool.and_eq_true] at f ⊢
    exact ⟨flat_ok r.1 f.1, flats_ok r.2 f.2⟩
  | [], _ :: _, r, _ => r.elim
  | _ :: _, [], r, _ => r.elim
def inVV (x : VV) (xs : List VV) : Bool := xs.any fun y => eqVV y x
theorem inVV_ok (r : RV K ρ x v) (f : flatVV x = true) : ∀ {xs : List VV} {vs : List V}, RVs K ρ xs vs → xs.all flatVV = true → inV v vs = inVV x xs
  | [], [], _, _ => rfl
  | _ :: _, _ :: _, q, g => by
    rw [List.all_cons, Bool.and_eq_true] at g
    unfold inV inVV
    rw [List.any_cons, List.any_cons, eqVV_ok q.1 r g.1 f]
    congr 1
    exact inVV_ok r f q.2 g.2
  | [], _ :: _, q, _ => q.elim
  | _ :: _, [], q, _ => q.elim
/-- one of the items, as far as it is known -/
def anyEq (f : VV → Option Bool) : List VV → Option Bool
  | [] => some false
  | z :: zs => match f z with
    | some true => some true
    | some false => anyEq f zs
    | none => none
theorem anyEq_ok {d : PyData} {n : Nat} (hd : dat n h x = some d) : ∀ {ys : List VV} {ds : List PyData} {b : Bool}, anyEq (fun z => eqTn n h z x) ys = some b →
    ys.foldr (fun x o => match dat n h x, o with | some d, some ds => some (d :: ds) | _, _ => none) (some []) = some ds → (ds.any fun z => PyData.eqv z d) = b
  | [], _, _, e, f => by cases e; cases f; rfl
  | z :: zs, ds, b, e, f => by
    rw [List.foldr_cons] at f
    split at f
    · rename_i d1 ds1 q1 q2
      cases f
      unfold anyEq at e
      rw [List.any_cons]
      split at e
      · rename_i q
        cases e
        rw [eqTn_ok n _ _ _ _ _ q q1 hd]
        rfl
      · rename_i q
        rw [eqTn_ok n _ _ _ _ _ q q1 hd, anyEq_ok hd e q2]
        rfl
      · cases e
    · cases f
def fIn (neg : Bool) : VV → VV → VH → Option (VV × VH) := fun x y h => match seqOf h y with
  | some xs => match flatVV x && xs.all flatVV with
    | true => some (.bl (bne neg (inVV x xs)), h)
    | false => match lstOf h y with
      | some ys => match okD 4 h x && ys.all (okD 4 h) with
        | true => ob (anyEq (fun z => eqTn 4 h z x) ys) fun b => some (.bl (bne neg b), h)
        | false => none
      | none => none
  | none => match x with
    | .str k => ob (dctOf h y) fun kvs => match lkK k kvs with
      | some _ => some (.bl (!neg), h)
      | none => some (.bl neg, h)
    | _ => none
def rInU (K : PySem.W.Frag) : R2 := fun x y H Q => rIn K false x y H Q ∨ rInD K x y H Q
def rNotInU (K : PySem.W.Frag) : R2 := fun x y H Q => rIn K true x y H Q ∨ rNotInD K x y H Q
theorem op_inU (hu : X.A.units + 65 < cLine) : OpR X (compareOp .In) (rInU X.K) := OpR.or op_in_seq (op_inD hu)
theorem op_ninU (hu : X.A.units + 65 < cLine) : OpR X (compareOp .NotIn) (rNotInU X.K) := OpR.or op_notIn_seq (op_notInD hu)
def tDin (neg : Bool) (ty td : TE) : TE := fun σ H Q => ty σ H fun y H1 => td σ H1 fun x H2 => ∃ a k kvs, x = .ref a ∧ y = .str k ∧ Rd H2 a (.dK kvs) ∧ Q (.bl (bne neg (valV kvs (Sum.inr k)).isSome)) H2
theorem pc_dinU (hu : X.A.units + 1 < cLine) {ty td : TE} (hi : PE X e ty) (ho : PE X o td) : PC X .In e o (tDin false ty td) :=
  PC.imp (pc_din hu (pe_M hi) (pe_M ho)) fun σ H Q q => ⟨_, q, fun y H1 q => ⟨_, q, fun x H2 q => by
    obtain ⟨a, k, kvs, ea, ek, rd, q⟩ := q
    exact ⟨a, _, ea, by rw [ek]; exact dget_of rd, by simpa using q⟩⟩⟩
theorem pc_dninU (hu : X.A.units + 1 < cLine) {ty td : TE} (hi : PE X e ty) (ho : PE X o td) : PC X .NotIn e o (tDin true ty td) :=
  PC.imp (pc_dnotin hu (pe_M hi) (pe_M ho)) fun σ H Q q => ⟨_, q, fun y H1 q => ⟨_, q, fun x H2 q => by
    obtain ⟨a, k, kvs, ea, ek, rd, q⟩ := q
    exact ⟨a, _, ea, by rw [ek]; exact dget_of rd, by simpa using q⟩⟩⟩
theorem i_in (neg : Bool) (R : R2) (hR : ∀ {x y : V} {H : Hp} {Q : VK}, (rIn K neg x y H Q ∨ ∃ d ds, Dp K H x d ∧ Dp K H y (.list ds) ∧ SeqAt.shaped d = true ∧ SeqAt.shaped (.list ds) = true ∧ Q (.bl (bne neg (ds.any fun z => PyData.eqv z d))) H) → R x y H Q)
    (d : den K (cOp (fIn neg) ra rb) σ H Q) : tOp R (den K ra) (den K rb) σ H Q ∨ tDin neg (den K ra) (den K rb) σ H Q := by
  obtain ⟨ρ, lo, e, h, z, h', S, E, run, k⟩ := d
  obtain ⟨x, h1, e1, run⟩ := bd_some run
  obtain ⟨y, h2, e2, run⟩ := bd_some run
  unfold fIn at run
  split at run
  · rename_i xs es
    refine .inl ⟨ρ, lo, e, h, x, h1, S, E, e1, fun ρ1 H1 v g1 S1 r1 => ⟨ρ1, lo, e, h1, y, h2, S1, E.mono g1.le, e2, fun ρ2 H2 u g2 S2 r2 => hR ?_⟩⟩
    have k2 := (k.go g1).go g2
    have r1' := r1.mono g2.le
    split at run
    · rename_i q
      cases run
      obtain ⟨q1, q2⟩ := Bool.and_eq_true_iff.1 q
      obtain ⟨a, vs, rfl, sq, rs⟩ := seqOf_ok S2 r2 es
      refine .inl ⟨a, vs, rfl, sq, flat_ok r1' q1, flats_ok rs q2, ?_⟩
      rw [inVV_ok r1' q1 rs q2]
      have e : (if neg = true then !inVV x xs else inVV x xs) = bne neg (inVV x xs) := by cases neg <;> cases inVV x xs <;> rfl
      rw [e]
      exact k2.now S2 rfl
    · split at run
      · rename_i ys q1
        split at run
        · rename_i q3
          obtain ⟨b, q4, run⟩ := ob_some run
          cases run
          obtain ⟨s1, s2⟩ := Bool.and_eq_true_iff.1 q3
          obtain ⟨d, e5, c1, d1⟩ := okD_ok 4 _ s1
          obtain ⟨ds, e6, c2, d2⟩ := okD_all (okD_ok 4) s2
          obtain ⟨a, vs, rfl, ea, rs⟩ := lstOf_ok S2 r2 q1
          refine .inr ⟨d, ds, dat_ok S2 r1' e5, .lst (SqL.of ea) (datAll (fun r e => dat_ok S2 r e) rs e6), ?_, ?_, ?_⟩
          · exact Bool.and_eq_true_iff.2 ⟨c1, decide_eq_true (by omega)⟩
          · exact Bool.and_eq_true_iff.2 ⟨by simpa [PyData.canLay0] using c2, decide_eq_true (by simp [PyData.depth]; omega)⟩
          · rw [anyEq_ok e5 q4 e6]
            exact k2.now S2 rfl
        · cases run
      · cases run
  · split at run
    · rename_i kk
      obtain ⟨kvs, e3, run⟩ := ob_some run
      refine .inr ⟨ρ, lo, e, h, _, h1, S, E, e1, fun ρ1 H1 v g1 S1 r1 => ⟨ρ1, lo, e, h1, y, h2, S1, E.mono g1.le, e2, fun ρ2 H2 u g2 S2 r2 => ?_⟩⟩
      have k2 := (k.go g1).go g2
      obtain ⟨a, ws, rfl, rd, rk⟩ := dctOf_ok S2 r2 e3
      refine ⟨a, _, ws, rfl, r1, rd, ?_⟩
      split at run
      · rename_i e4
        cases run
        obtain ⟨w, e5, _⟩ := lkK_some rk e4
        rw [e5]
        exact k2.now S2 (by cases neg <;> rfl)
      · rename_i e4
        cases run
        rw [lkK_none rk e4]
        exact k2.now S2 (by cases neg <;> rfl)
    · cases run
theorem q_in (hu : X.A.units + 65 < cLine) (ha : QE X a ra) (hb : QE X b rb) (hm : behindInMarks .In b = false := by rfl) : QE X (.Compare a [.In] [b] pos) (cOp (fIn false) ra rb) :=
  PE.imp (PE.or (pe_cmpR (op_inU hu) ha hb hm) (pe_cmp (pc_dinU (by omega) ha hb) hm)) fun _ _ _ d => i_in false _ (fun q => q.imp id fun ⟨d, ds, a, b, c, e, q⟩ => ⟨d, ds, a, b, c, e, by simpa using q⟩) d
theorem q_nin (hu : X.A.units + 65 < cLine) (ha : QE X a ra) (hb : QE X b rb) (hm : behindInMarks .NotIn b = false := by rfl) : QE X (.Compare a [.NotIn] [b] pos) (cOp (fIn true) ra rb) :=
  PE.imp (PE.or (pe_cmpR (op_ninU hu) ha hb hm) (pe_cmp (pc_dninU (by omega) ha hb) hm)) fun _ _ _ d => i_in true _ (fun q => q.imp id fun ⟨d, ds, a, b, c, e, q⟩ => ⟨d, ds, a, b, c, e, by simpa using q⟩) d
/-! ### tests from values -/
theorem PT.imp {t t' : TT} (h : PT X e t) (g : ∀ σ H Q, t' σ H Q → t σ H Q) : PT X e t' := ⟨fun pins s σ H Q I q => h.run pins s σ H Q I (g σ H Q q)⟩
theorem PT.or {t1 t2 : TT} (a : PT X e t1) (b : PT X e t2) : PT X e (fun σ H Q => t1 σ H Q ∨ t2 σ H Q) := ⟨fun pins s σ H Q I q => q.elim (a.run pins s σ H Q I) (b.run pins s σ H Q I)⟩
theorem q_tv (h : QE X e ra) (he : ∀ whole, isTrue e X.env whole = (do let v ← whole; standAt e.pos; holding [v] (truthy v)) := by intro _; rfl) : QT X e (cB ra) := PT.imp (pt_val h he) fun _ _ _ d => i_b d
/-- a list as a test -/
def cTru (ra : CE) : CT := fun lo e h => bd (ra lo e h) fun x h1 => match x with
  | .bl b => some (b, h1)
  | _ => match seqOf h1 x with
    | some xs => some (!xs.isEmpty, h1)
    | none => none
theorem isEmptyV {xs : List VV} {vs : List V} (r : RVs K ρ xs vs) : vs.isEmpty = xs.isEmpty := by
  match xs, vs, r with
  | [], [], _ => rfl
  | _ :: _, _ :: _, _ => rfl
theorem q_tru (h : QE X e ra) (he : ∀ whole, isTrue e X.env whole = (do let v ← whole; standAt e.pos; holding [v] (truthy v)) := by intro _; rfl) : QT X e (cTru ra) := PT.imp (pt_truth h he) fun σ H Q d => by
  obtain ⟨ρ, lo, e, h, z, h', S, E, run, k⟩ := d
  obtain ⟨x, h1, e1, run⟩ := bd_some run
  refine ⟨ρ, lo, e, h, x, h1, S, E, e1, fun ρ1 H1 v g1 S1 r1 => ?_⟩
  split at run
  · cases run
    rw [show v = _ from r1]
    exact ⟨_, rfl, k _ _ g1 S1⟩
  · split at run
    · rename_i xs es
      cases run
      obtain ⟨a, vs, rfl, sq, rs⟩ := seqOf_ok S1 r1 es
      refine ⟨_, ?_, k _ _ g1 S1⟩
      rcases sq with sq | sq
      · exact .inl ⟨vs, sq, by rw [isEmptyV rs]⟩
      · exact .inr (.inl ⟨vs, sq, by rw [isEmptyV rs]⟩)
    · cases run
theorem q_tcmp {op : CmpOp} (o : OpR X (compareOp op) R) (oc : OpC X.K R f) (ha : QE X a ra) (hb : QE X b rb) (hm : behindInMarks op b = false := by rfl) : QT X (.Compare a [op] [b] pos) (cB (cOp f ra rb)) := PT.imp (pt_cmpR o ha hb hm) fun _ _ _ d => i_op oc (i_b d)
theorem q_cmp {op : CmpOp} (o : OpR X (compareOp op) R) (oc : OpC X.K R f) (ha : QE X a ra) (hb : QE X b rb) (hm : behindInMarks op b = false := by rfl) : QE X (.Compare a [op] [b] pos) (cOp f ra rb) := PE.imp (pe_cmpR o ha hb hm) fun _ _ _ d => i_op oc d
theorem q_tin (hu : X.A.units + 65 < cLine) (ha : QE X a ra) (hb : QE X b rb) (hm : behindInMarks .In b = false := by rfl) : QT X (.Compare a [.In] [b] pos) (cB (cOp (fIn false) ra rb)) :=
  PT.imp (PT.or (pt_cmpR (op_inU hu) ha hb hm) (pt_cmp (pc_dinU (by omega) ha hb) hm)) fun _ _ _ d => i_in false _ (fun q => q.imp id fun ⟨d, ds, a, b, c, e, q⟩ => ⟨d, ds, a, b, c, e, by simpa using q⟩) (i_b d)
theorem q_tnin (hu : X.A.units + 65 < cLine) (ha : QE X a ra) (hb : QE X b rb) (hm : behindInMarks .NotIn b = false := by rfl) : QT X (.Compare a [.NotIn] [b] pos) (cB (cOp (fIn true) ra rb)) :=
  PT.imp (PT.or (pt_cmpR (op_ninU hu) ha hb hm) (pt_cmp (pc_dninU (by omega) ha hb) hm)) fun _ _ _ d => i_in true _ (fun q => q.imp id fun ⟨d, ds, a, b, c, e, q⟩ => ⟨d, ds, a, b, c, e, by simpa using q⟩) (i_b d)
theorem q_tisN {j : Nat} {pos' : Pos} (ha : QE X a ra) : QT X (.Compare a [.Is] [.Constant .none j pos'] pos) (cB (cIsN false ra)) := PT.imp (pt_cmp (pc_isN ha)) fun _ _ _ d => i_isN (i_b d)
theorem q_tnotN {j : Nat} {pos' : Pos} (ha : QE X a ra) : QT X (.Compare a [.IsNot] [.Constant .none j pos'] pos) (cB (cIsN true ra)) := PT.imp (pt_cmp (pc_notN ha)) fun _ _ _ d => i_notN (i_b d)
theorem q_isN {j : Nat} {pos' : Pos} (ha : QE X a ra) : QE X (.Compare a [.Is] [.Constant .none j pos'] pos) (cIsN false ra) := PE.imp (pe_cmp (pc_isN ha)) fun _ _ _ d => i_isN d
theorem q_notN {j : Nat} {pos' : Pos} (ha : QE X a ra) : QE X (.Compare a [.IsNot] [.Constant .none j pos'] pos) (cIsN true ra) := PE.imp (pe_cmp (pc_notN ha)) fun _ _ _ d => i_notN d
theorem q_chain {op op' : CmpOp} (o : OpR X (compareOp op) R) (oc : OpC X.K R f) (o' : OpR X (compareOp op') R') (oc' : OpC X.K R' f') (ha : QE X a ra) (hb : QE X b rb) (hc : QE X c rc) (hm : lastMarks [op, op'] [b, c] = false := by rfl) : QE X (.Compare a [op, op'] [b, c] pos) (cChain f f' ra rb rc) := PE.imp (pe_chain o o' ha hb hc hm) fun _ _ _ d => i_chain oc oc' d
/-- tests joined -/
abbrev QW (X : Cx) (e : Expr) (r : CT) : Prop := PW X e (denT X.K r)
theorem PW.imp {t t' : TT} (h : PW X e t) (g : ∀ σ H Q, t' σ H Q → t σ H Q) : PW X e t' := ⟨fun whole pins s σ H Q I q => h.run whole pins s σ H Q I (g σ H Q q)⟩
theorem q_and {rest : List Expr} (ha : QT X a ca) (hb : QW X (.BoolOp .And (b :: rest) pos) cb) : QW X (.BoolOp .And (a :: b :: rest) pos) (cAndT ca cb) := PW.imp (pw_and ha hb) fun _ _ _ d => i_andT d
theorem q_and1 (ha : QT X a ca) : QW X (.BoolOp .And [a] pos) ca := pw_and1 ha
theorem q_or {rest : List Expr} (ha : QT X a ca) (hb : QW X (.BoolOp .Or (b :: rest) pos) cb) : QW X (.BoolOp .Or (a :: b :: rest) pos) (cOrT ca cb) := PW.imp (pw_or ha hb) fun _ _ _ d => i_orT d
theorem q_or1 (ha : QT X a ca) : QW X (.BoolOp .Or [a] pos) ca := pw_or1 ha
theorem q_not (ha : QT X a ca) : QT X (.UnaryOp .Not a pos) (cNotT ca) := PT.imp (pt_not ha) fun _ _ _ d => i_notT d
theorem q_andV {rest : List Expr} (ha : QE X a ra) (hb : QE X (.BoolOp .And (b :: rest) pos) rb) : QE X (.BoolOp .And (a :: b :: rest) pos) (cAndV ra rb) := PE.imp (pe_and ha hb) fun _ _ _ d => i_andV d
theorem q_orV {rest : List Expr} (ha : QE X a ra) (hb : QE X (.BoolOp .Or (b :: rest) pos) rb) : QE X (.BoolOp .Or (a :: b :: rest) pos) (cOrV ra rb) := PE.imp (pe_or ha hb) fun _ _ _ d => i_orV d
theorem q_notV (ha : QE X a ra) : QE X (.UnaryOp .Not a pos) (cNotV ra) := PE.imp (pe_not ha) fun _ _ _ d => i_notV d
theorem q_ifE (ht : QT X c ct) (ha : QE X a ra) (hb : QE X b rb) : QE X (.IfExp c a b pos) (cIfE ct ra rb) := PE.imp (pe_ifExp ht ha hb) fun _ _ _ d => i_ifE d
/-! ### names, constants, operators -/
theorem q_v (i : Nat) {x : Str} (hN : X.N[i]? = some x := by rfl) (hv : Vis X.env.scope x := by first | exact Or.inl rfl | exact Or.inr (Or.inl rfl) | exact Or.inr (Or.inr rfl)) (hd : (x == ("__debug__" : Str)) = false := by decide) (hcd : (x == ("__classdict__" : Str)) = false := by decide) : QE X (.Name x pos) (cVar i) := PE.imp (pe_var hN hv hd hcd) fun _ _ _ d => i_var d
theorem q_int {i : Int} {j : Nat} : QE X (.Constant (.int i) j pos) (cK (.int i)) := PE.imp pe_int fun _ _ _ d => i_k (x := VV.int i) (fun _ => rfl) d
theorem q_str {i : Str} {j : Nat} : QE X (.Constant (.str i) j pos) (cK (.str i)) := PE.imp pe_str fun _ _ _ d => i_k (x := VV.str i) (fun _ => rfl) d
theorem q_bl {i : Bool} {j : Nat} : QE X (.Constant (.bool i) j pos) (cK (.bl i)) := PE.imp pe_bl fun _ _ _ d => i_k (x := VV.bl i) (fun _ => rfl) d
theorem q_non {j : Nat} : QE X (.Constant .none j pos) (cK .non) := PE.imp pe_non fun _ _ _ d => i_k (x := VV.non) (fun _ => rfl) d
theorem q_gi {x : Str} {i : Int} (h : ∃ t, X.mg x = some (.int i t)) (hg : Gl X x := by rfl) (hd : (x == ("__debug__" : Str)) = false := by decide) : QE X (.Name x pos) (cK (.int i)) := PE.imp (pe_gi h hg hd) fun _ _ _ d => i_k (x := VV.int i) (fun _ => rfl) d
theorem q_gs {x : Str} {i : Str} (h : ∃ t, X.mg x = some (.str i t)) (hg : Gl X x := by rfl) (hd : (x == ("__debug__" : Str)) = false := by decide) : QE X (.Name x pos) (cK (.str i)) := PE.imp (pe_gs h hg hd) fun _ _ _ d => i_k (x := VV.str i) (fun _ => rfl) d
theorem q_add (ha : QE X a ra) (hb : QE X b rb) : QE X (.BinOp a .Add b pos) (cOp fAdd ra rb) := PE.imp (pe_op op_addU ha hb) fun _ _ _ d => i_op oc_add d
theorem q_subt (ha : QE X a ra) (hb : QE X b rb) : QE X (.BinOp a .Sub b pos) (cOp fSub ra rb) := PE.imp (pe_op op_sub ha hb) fun _ _ _ d => i_op oc_sub d
theorem q_neg (ha : QE X a ra) : QE X (.UnaryOp .USub a pos) (cUn fNeg ra) := PE.imp (pe_un un_neg ha) fun _ _ _ d => i_neg d
theorem q_slice {oa ob' : CO} {lo hi : Option Expr} {p2 : Pos} (he : QE X e ra) (h1 : PO X lo (denO X.K oa)) (h2 : PO X hi (denO X.K ob')) : QE X (.Subscript e (.Slice lo hi none p2) pos) (cSl ra oa ob') := PE.imp (pe_slice sl_u he h1 h2) fun _ _ _ d => i_sl d
theorem PO.imp {e : Option Expr} {t t' : TO} (h : PO X e t) (g : ∀ σ H Q, t' σ H Q → t σ H Q) : PO X e t' := ⟨fun pins s σ H Q I q => h.run pins s σ H Q I (g σ H Q q)⟩
theorem q_noP : PO X none (denO X.K cNoP) := PO.imp po_none fun _ _ _ d => i_noP d
theorem q_pt (he : QE X e ra) : PO X (some e) (denO X.K (cPt ra)) := PO.imp (po_some he) fun _ _ _ d => i_pt d
theorem PA.imp {es : List Expr} {t t' : TA} (h : PA X es t) (g : ∀ σ H Q, t' σ H Q → t σ H Q) : PA X es t' := ⟨fun pos pins s σ H Q I q => h.run pos pins s σ H Q I (g σ H Q q)⟩
theorem q_nil : QA X [] cNil := PA.imp pa_nil fun _ _ _ d => i_nil d
theorem q_cons {es : List Expr} (ha : QE X e ra) (hb : QA X es la) (hs : starEach (e :: es) X.env = (false, eval e X.env) :: starEach es X.env := by rfl) : QA X (e :: es) (cCons ra la) := PA.imp (pa_cons ha hb hs) fun _ _ _ d => i_cons d
/-- *e -/
def cStar (ra : CE) (la : CA) : CA := fun lo e h => bd (ra lo e h) fun x h1 => ob (seqOf h1 x) fun xs => bd (la lo e h1) fun ys h2 => some (xs ++ ys, h2)
theorem q_star {es : List Expr} {p : Pos} (ha : QE X e ra) (hb : QA X es la) (hs : starEach (.Starred e p :: es) X.env = (true, eval e X.env) :: starEach es X.env := by rfl) : QA X (.Starred e p :: es) (cStar ra la) := PA.imp (StX.pa_star ha hb hs) fun σ H Q d => by
  obtain ⟨ρ, lo, e, h, z, h', S, E, run, k⟩ := d
  obtain ⟨x, h1, e1, run⟩ := bd_some run
  obtain ⟨xs, es, run⟩ := ob_some run
  obtain ⟨ys, h2, e2, run⟩ := bd_some run
  cases run
  refine ⟨ρ, lo, e, h, x, h1, S, E, e1, fun ρ1 H1 v g1 S1 r1 => ?_⟩
  obtain ⟨a, vs, rfl, sq, rs⟩ := seqOf_ok S1 r1 es
  exact ⟨a, vs, rfl, sq.symm, ρ1, lo, e, h1, ys, _, S1, E.mono g1.le, e2, fun ρ2 H2 us g2 S2 r2 => k _ _ _ (g1.trans g2) S2 ((rs.mono g2.le).app r2)⟩
theorem q_tup {es : List Expr} {x1 : Nat} (h : QA X es la) : QE X (.Tuple es x1 pos) (cTup la) := PE.imp (pe_tup h) fun _ _ _ d => i_tup d
theorem q_lst {es : List Expr} (h : QA X es la) : QE X (.List es pos) (cLst la) := PE.imp (pe_lst h) fun _ _ _ d => i_lst d
/-! statements -/
theorem q_ret (h : QE X e ra) : QS X (.Return (some e) pos) (cRet ra) := PS.imp (ps_ret h) fun _ _ _ d => i_ret d
theorem q_retN : QS X (.Return none pos) cRetN := PS.imp ps_retN fun _ _ _ d => i_retN d
theorem q_never {st : Stmt} : QS X st cNever := PS.imp ps_never fun _ _ _ d => i_never d
theorem q_expr (h : QE X e ra) (hs : swapsWith e none pos.line X.env = pure false := by rfl) : QS X (.Expr e pos) (cDrop ra) := PS.imp (ps_expr h hs) fun _ _ _ d => i_drop d
theorem PSs.imp {st : List Stmt} {t t' : TS} (h : PSs X st t) (g : ∀ D σ H, t' D σ H → t D σ H) : PSs X st t' := ⟨fun pins s σ H D I q => h.run pins s σ H D I (g D σ H q)⟩
theorem q_seq {st : Stmt} {rest : List Stmt} (h : QS X st sa) (r : QSs X rest sb) : QSs X (st :: rest) (cSeq sa sb) := PSs.imp (pss_cons h r) fun _ _ _ d => i_seq d
theorem q_one {st : Stmt} (h : QS X st sa) : QSs X [st] sa := pss_one h
theorem q_skip : QSs X [] cSkip := PSs.imp pss_nil fun _ _ _ d => i_skip d
theorem q_if {s1 s2 : List Stmt} (ht : QT X c ct) (h1 : QSs X s1 sa) (h2 : QSs X s2 sb) : QS X (.If c s1 s2 pos) (cIfS ct sa sb) := PS.imp (ps_if ht h1 h2) fun _ _ _ d => i_ifS d
theorem q_asg {tg : Expr} (h : QE X e ra) (g : QG X tg ga) (h1 : swapsWithSole [tg] e pos.line X.env = pure false := by rfl) (h2 : swappedStores [tg] e X.env = pure none := by rfl) (h3 : (assignEach [tg] X.env).map (·.2) = [assign tg X.env] := by rfl) : QS X (.Assign [tg] e pos) (cAsg ra ga) := PS.imp (ps_asg h g h1 h2 h3) fun _ _ _ d => i_asg d
theorem q_while {body : List Stmt} (n : Nat) (hp : PassesOwn (model X.prog X.w) X.A X.env X.xe) (hc : QT X c ct) (hb : QSs X body sb) : QS X (.While c body [] pos) (cWh n ct sb) := PS.imp (ps_whU n hp hc hb) fun _ _ _ d => i_wh d
theorem q_for {tg iter : Expr} {body : List Stmt} (hp : PassesOwn (model X.prog X.w) X.A X.env X.xe) (hc : X.calm = true) (hi : PIY X tg iter (denI X.K ci)) (hg : QG X tg ga) (hb : QSs X body sb) (hs : ∀ x, foldedSetIterable iter X.env x = pure x := by intro _; rfl) : QS X (.For tg iter body [] pos) (cFor ci ga sb) := PS.imp (ps_foY hp hc hi hg hb hs) fun _ _ _ d => i_for d
theorem q_lock {st : Stmt} {t : Hint} (h : QS X st sa) : QS X st (cLock t sa) := PS.imp (ps_lock h) fun _ _ _ d => i_lock d
theorem q_lockE {t : Hint} (h : QE X e ra) : QE X e (cLockE t ra) := PE.imp (pe_lock h) fun _ _ _ d => i_lockE d
end
end
end K95

set_option maxRecDepth 100000
set_option maxHeartbeats 4000000
namespace K95
open PySem PySem.Spec PyProof.Rows L2
noncomputable section
variable [Nu]
section
variable {X : Cx} {K : PySem.W.Frag} {σ : List (Option V)} {H H' : Hp} {Q : VK} {QB : Bool → Hp → Prop} {QL : List V → Hp → Prop} {D : Ends} {ra rb rc ro ri : CE} {R R' : R2} {f f' : VV → VV → VH → Option (VV × VH)} {ca cb ct : CT} {la lb : CA} {sa sb : CS} {ga gb : CG} {ρ ρ' : List Addr} {lo k : Nat} {h h' : VH} {x y z : VV} {v u : V} {a b c e o : Expr} {es : List Expr} {pos p apos cpos pos' : Pos} {ci : CI} {tg iter : Expr} {F : CF} {m n : Str} {C : Cn} {nm : Fn}
/-! ### calls of own defs -/
theorem q_f {x : Str} (Df : DefOk X.prog X.w X.K X.mg X.base k x [] (spC X.K F)) (hr : Room k X.A) (ha : QA X (e :: es) la) (hg : Gl X x := by rfl) (hdb : (x == ("__debug__" : Str)) = false := by decide)
    (he : starEach (e :: es) X.env = (false, eval e X.env) :: starEach es X.env := by rfl) (hpl : (backTo pos (starEach es X.env)).any (·.1) = false := by rfl) :
    QE X (.Call (.Name x p) (e :: es) [] pos) (cFn F la) := PE.imp (pe_f Df hr ha hg hdb he hpl) fun _ _ _ d => i_call d
theorem q_fD {x : Str} {ds : List VV} {dvs : List V} (rd : ∀ ρ, RVs X.K ρ ds dvs) (Df : DefOk X.prog X.w X.K X.mg X.base k x dvs (spC X.K F)) (hr : Room k X.A) (ha : QA X (e :: es) la) (hg : Gl X x := by rfl) (hdb : (x == ("__debug__" : Str)) = false := by decide)
    (he : starEach (e :: es) X.env = (false, eval e X.env) :: starEach es X.env := by rfl) (hpl : (backTo pos (starEach es X.env)).any (·.1) = false := by rfl) :
    QE X (.Call (.Name x p) (e :: es) [] pos) (cFnD F ds la) := PE.imp (pe_f Df hr ha hg hdb he hpl) fun _ _ _ d => i_callD rd d
theorem q_mk {x : Str} {ds : List VV} {dvs : List V} (rd : ∀ ρ, RVs X.K ρ ds dvs) (Df : MakeOk X.prog X.w X.K X.mg X.base k x (C.ad X.K) dvs (spC X.K F)) (hr : Room (k + 1) X.A) (ha : QA X (e :: es) la) (hg : Gl X x := by rfl) (hdb : (x == ("__debug__" : Str)) = false := by decide)
    (he : starEach (e :: es) X.env = (false, eval e X.env) :: starEach es X.env := by rfl) (hpl : (backTo pos (starEach es X.env)).any (·.1) = false := by rfl) :
    QE X (.Call (.Name x p) (e :: es) [] pos) (cMk C F ds la) := PE.imp (pe_mk Df hr ha hg hdb he hpl) fun _ _ _ d => i_mk rd d
theorem q_m {pl : Sem Bool} (Dm : MethOk X.prog X.w X.K X.mg X.base k (C.ad X.K) m [] (spC X.K F)) (hm : ∀ n : Fn, fnm n ≠ m) (hr : Room k X.A) (ho : QE X o ro) (ha : QA X (e :: es) la)
    (hst : starEach (e :: es) X.env = (false, eval e X.env) :: starEach es X.env := by rfl) (hpl : (backTo pos (starEach es X.env)).any (·.1) = false := by rfl)
    (ht : eval (.Call (.Attribute o m apos) (e :: es) [] pos) X.env = (do
      let ov ← eval o X.env
      standAt apos.atName
      let (f, first) ← holding [ov] (getMethod ov m pl)
      callWith pos f first (backTo pos (starEach (e :: es) X.env)) (backToKw pos (keywordEach [] X.env))) := by rfl) :
    QE X (.Call (.Attribute o m apos) (e :: es) [] pos) (cMt C F ro la) := PE.imp (pe_mt' (pl := pl) Dm hr ho ha hst hpl ht) fun _ _ _ d => i_mt hm d
theorem q_m0 {pl : Sem Bool} (Dm : MethOk X.prog X.w X.K X.mg X.base k (C.ad X.K) m [] (spC X.K F)) (hm : ∀ n : Fn, fnm n ≠ m) (hr : Room k X.A) (ho : QE X o ro)
    (ht : eval (.Call (.Attribute o m apos) [] [] pos) X.env = (do
      let ov ← eval o X.env
      standAt apos.atName
      let (f, first) ← holding [ov] (getMethod ov m pl)
      callWith pos f first (backTo pos (starEach [] X.env)) (backToKw pos (keywordEach [] X.env))) := by rfl) :
    QE X (.Call (.Attribute o m apos) [] [] pos) (cMt C F ro cNil) := PE.imp (pe_mt0' (pl := pl) Dm hr ho ht) fun σ H Q d => by
  have q := i_mt (la := cNil) hm d
  obtain ⟨ρ, lo, e, h, x, h', S, E, run, k⟩ := q
  refine ⟨ρ, lo, e, h, x, h', S, E, run, fun ρ1 H1 v g1 S1 r1 => ?_⟩
  have q := k ρ1 H1 v g1 S1 r1
  obtain ⟨a, ea, q1⟩ := rR_inv q
  subst ea
  obtain ⟨C', dx, fs, e5, q2⟩ := oI_inv q1
  simp only [f_rR, e5, f_oI]
  obtain ⟨c1, q3⟩ := q2
  exact ⟨c1, i_nil q3⟩
/-! ### fields -/
theorem q_fd (c : Cls X.K (C.ad X.K)) (nm : Fn) {f : Str} (hf : f = fnm nm) (n : NoAttr X.K (C.ad X.K) f) (he : QE X e ra) (hb : attributeBase e f X.env (eval e X.env) = eval e X.env := by rfl) : QE X (.Attribute e f pos) (cFd C nm ra) := PE.imp (pe_fd c n he hb) fun _ _ _ d => i_fd hf d
theorem q_setF (c : Cls X.K (C.ad X.K)) (nm : Fn) {f : Str} (hf : f = fnm nm) (n : NoAttr X.K (C.ad X.K) f) {value : Expr} (ho : QE X o ro) (hv : QE X value ra) (hs : swapsWith value (some (.Attribute o f pos')) pos.line X.env = pure false := by rfl) : QS X (.Assign [.Attribute o f pos'] value pos) (cSetF C nm ro ra) := PS.imp (ps_fd c n ho hv hs) fun _ _ _ d => i_setF hf d
/-- o.f += value: the value reckoned behind the read -/
def cAugF (c : Cn) (n : Fn) (ra rv : CE) : CS := fun lo e h => bd (ra lo e h) fun x h1 => match x with
  | .ref i => match h1.get i with
    | some (.ins c' fs) => match c'.nat.beq c.nat && lo.ble i with
      | true => ob (lkF n fs) fun v => bd (rv lo e h1) fun y h2 => bd (fAdd v y h2) fun z h3 => match h3.get i with
        | some (.ins c2 fs2) => match c2.nat.beq c.nat && fs2.length.ble 500 with
          | true => ob (h3.set i (.ins c (ptF n z fs2))) fun h4 => some (.nx e h4)
          | false => none
        | _ => none
      | false => none
    | _ => none
  | _ => none
theorem q_augF (c : Cls X.K (C.ad X.K)) (nm : Fn) {f : Str} (hf : f = fnm nm) (n : NoAttr X.K (C.ad X.K) f) {value : Expr} (ho : QE X o ro) (hv : QE X value ra) : QS X (.AugAssign (.Attribute o f pos') .Add value pos) (cAugF C nm ro ra) := PS.imp (ps_fldaug (rd := rAddU) ho hv (iop_addU)) fun D σ H d => by
  subst hf
  obtain ⟨ρ, lo, e, h, z, S, E, run, k⟩ := d
  obtain ⟨x, h1, e1, run⟩ := bd_some run
  refine ⟨ρ, lo, e, h, x, h1, S, E, e1, fun ρ1 H1 v g1 S1 r1 => ?_⟩
  split at run
  · rename_i i
    split at run
    · rename_i c' fs q
      split at run
      · rename_i qc
        obtain ⟨q1, q2⟩ := Bool.and_eq_true_iff.1 qc
        obtain ⟨w, e2, run⟩ := ob_some run
        obtain ⟨y, h2, e3, run⟩ := bd_some run
        obtain ⟨t, h3, e4, run⟩ := bd_some run
        obtain ⟨a, dx, gs, rfl, ea, eH, rf⟩ := insOf S1 r1 q
        obtain ⟨w', e5, e6⟩ := lkF_ok rf e2
        have hc := Cn.inj q1
        refine ⟨a, _, dx, gs, w', rfl, hc ▸ eH, c, n, e5, ρ1, lo, e, h1, y, h2, S1, E.mono g1.le, e3, fun ρ2 H2 u g2 S2 r2 => ?_⟩
        refine oc_add (lo := lo) S2 (e6.mono g2.le) r2 e4 fun ρ3 H3 s g3 S3 r3 => ?_
        split at run
        · rename_i c2 fs2 q5
          split at run
          · rename_i q6
            obtain ⟨q7, q8⟩ := Bool.and_eq_true_iff.1 q6
            obtain ⟨h4, e7, run⟩ := ob_some run
            cases run
            obtain ⟨a', ea', dx2, gs2, eH2, rf2⟩ := S3.ob i _ q5
            have ea3 := g3.le.at_ (g2.le.at_ ea)
            rw [ea3] at ea'
            cases ea'
            have := Nat.le_of_ble_eq_true q8
            refine ⟨dx2, gs2, Cn.inj q7 ▸ eH2, by rw [rf2.len]; omega, ?_⟩
            obtain ⟨g4, S4⟩ := S3.put (lo := lo) (o := .ins (C.ad X.K) dx2 (putF (fnm nm) s gs2)) (Nat.le_of_ble_eq_true q2) q5 rfl ea3 True.intro e7 fun H' q => ⟨dx2, _, q, ptF_ok r3 rf2⟩
            exact (AftE.go g3 (AftE.go g2 (AftE.go g1 k))) ρ3 σ _ g4 S4 (((E.mono g1.le).mono g2.le).mono g3.le)
          · cases run
        · cases run
      · cases run
    · cases run
  · cases run
/-- x += value -/
def cAugN (i : Nat) (rv : CE) : CS := fun lo e h => match e[i]? with
  | some (some x) => bd (rv lo e h) fun y h1 => bd (fAdd x y h1) fun z h2 => some (.nx (e.set i (some z)) h2)
  | _ => none
theorem q_augN {i : Nat} {x : Str} {value : Expr} (hN : X.N.Nodup) (hi : X.N[i]? = some x) (hl : L2.Loc X.env.scope x) (hv : QE X value ra) (hf : X.fn x = true ∨ X.env.scope.names.lookup x = some .local := by first | exact Or.inl rfl | exact Or.inr rfl) : QS X (.AugAssign (.Name x pos') .Add value pos) (cAugN i ra) := PS.imp (ps_aug hN hi hl hv iop_addU hf) fun D σ H d => by
  obtain ⟨ρ, lo, e, h, z, S, E, run, k⟩ := d
  unfold cAugN at run
  split at run
  · rename_i x' q
    obtain ⟨y, h1, e1, run⟩ := bd_some run
    obtain ⟨t, h2, e2, run⟩ := bd_some run
    cases run
    obtain ⟨v, ev, r⟩ := E.at_ q
    refine ⟨v, ev, ρ, lo, e, h, y, h1, S, E, e1, fun ρ1 H1 u g1 S1 r1 => ?_⟩
    refine oc_add (lo := lo) S1 (r.mono g1.le) r1 e2 fun ρ2 H2 s g2 S2 r2 => ?_
    exact (AftE.go g1 k) ρ2 _ H2 g2 S2 (REn.set (x := some t) (v := some s) r2 ((E.mono g1.le).mono g2.le))
  · cases run
/-! ### builtins -/
theorem q_len (hm : X.mg "len" = none) (ha : QA X (e :: es) la) (hg : Gl X "len" := by rfl) (he : starEach (e :: es) X.env = (false, eval e X.env) :: starEach es X.env := by rfl) (hpl : (backTo pos (starEach es X.env)).any (·.1) = false := by rfl) : QE X (.Call (.Name "len" p) (e :: es) [] pos) (cCB fLen la) := PE.imp (pe_callB call_lenU hg hm PySem.boot_len ha (by decide) (by decide) he hpl) fun _ _ _ d => i_cb cc_len d
def fTup : Nat → List VV → VH → Option (VV × VH)
  | _, [.ref i], h => match h.get i with
    | some (.lst xs) => ob (h.push (.tup xs)) fun h2 => some (.ref h.n, h2)
    | some (.fl xs) => ob (h.push (.tup xs)) fun h2 => some (.ref h.n, h2)
    | some (.tup _) => some (.ref i, h)
    | _ => none
  | _, [.kt], h => some (.kt, h)
  | _, _, _ => none
theorem cc_tup : CallC K (fun xs H Q => ∃ p ys, xs = [.ref p] ∧ ((SqL K H p ys ∧ ∀ l : Addr, H l = none → Q (.ref l) (L2.upd H l (.tup ys))) ∨ (SqT K H p ys ∧ Q (.ref p) H))) fTup := by
  intro ρ lo h h' H xs z vs Q S r run k
  unfold fTup at run
  split at run
  · obtain ⟨v, rfl, r9⟩ := r.one
    split at run
    · rename_i q
      obtain ⟨a, rfl, _, us, ea, rs⟩ := S.ref q r9
      exact ⟨a, us, rfl, .inl ⟨SqL.of ea, fun p hp => Aft.alloc S run k hp True.intro fun H' q => ⟨_, q, rs.mono ⟨_, rfl⟩⟩⟩⟩
    · rename_i q
      obtain ⟨a, rfl, _, us, ea, rs⟩ := S.ref q r9
      exact ⟨a, us, rfl, .inl ⟨SqL.of ea, fun p hp => Aft.alloc S run k hp True.intro fun H' q => ⟨_, q, rs.mono ⟨_, rfl⟩⟩⟩⟩
    · rename_i q
      cases run
      have r9' := r9
      obtain ⟨a, rfl, _, us, ea, rs⟩ := S.ref q r9
      exact ⟨a, us, rfl, .inr ⟨SqT.of ea, k.now S r9'⟩⟩
    · cases run
  · obtain ⟨v, rfl, r9⟩ := r.one
    cases run
    have r9' := r9
    obtain ⟨a, rfl, _, q⟩ := r9
    exact ⟨a, [], rfl, .inr ⟨q H, k.now S r9'⟩⟩
  · cases run
theorem q_tuple (hm : X.mg "tuple" = none) (ha : QA X (e :: es) la) (hg : Gl X "tuple" := by rfl) (he : starEach (e :: es) X.env = (false, eval e X.env) :: starEach es X.env := by rfl) (hpl : (backTo pos (starEach es X.env)).any (·.1) = false := by rfl) : QE X (.Call (.Name "tuple" p) (e :: es) [] pos) (cCB fTup la) := PE.imp (pe_callTy call_tuple_of hg hm bt_tuple ha (by decide) (by decide) he hpl) fun _ _ _ d => i_cb cc_tup d
def fLst : Nat → List VV → VH → Option (VV × VH)
  | _, [x], h => match seqOf h x with
    | some xs => ob (h.push (.lst xs)) fun h2 => some (.ref h.n, h2)
    | none => ob (dctOf h x) fun kvs => ob (h.push (.lst (kvs.map fun kv => .str kv.1))) fun h2 => some (.ref h.n, h2)
  | _, _, _ => none
theorem RKs.keys : ∀ {as : List (Str × VV)} {ws : List (Key × V)}, RKs K ρ as ws → RVs K ρ (as.map fun kv => .str kv.1) (ws.map fun kv => kV kv.1)
  | [], [], _ => True.intro
  | (a, _) :: _, (f, _) :: _, r => by
    obtain ⟨⟨e1, _⟩, r9⟩ := r
    simp only at e1
    subst e1
    exact ⟨rfl, RKs.keys r9⟩
  | [], _ :: _, r => r.elim
  | _ :: _, [], r => r.elim
theorem cc_lst : CallC K (fun xs H Q => (∃ p ys, xs = [.ref p] ∧ (SqL K H p ys ∨ SqT K H p ys) ∧ ∀ l : Addr, H l = none → Q (.ref l) (L2.upd H l (.lst ys))) ∨ rLstD xs H Q) fLst := by
  intro ρ lo h h' H xs z vs Q S r run k
  unfold fLst at run
  split at run
  · obtain ⟨v, rfl, r9⟩ := r.one
    split at run
    · rename_i xs q
      obtain ⟨a, us, rfl, sq, rs⟩ := seqOf_ok S r9 q
      exact .inl ⟨a, us, rfl, sq, fun p hp => Aft.alloc S run k hp True.intro fun H' q => ⟨_, q, rs.mono ⟨_, rfl⟩⟩⟩
    · obtain ⟨kvs, q, run⟩ := ob_some run
      obtain ⟨a, ws, rfl, rd, rk⟩ := dctOf_ok S r9 q
      refine .inr ?_
      have al : Al Q H (.lst (ws.map fun kv => kV kv.1)) .mk := fun p hp => Aft.alloc S run k hp True.intro fun H' q => ⟨_, q, rk.keys.mono ⟨_, rfl⟩⟩
      rcases rd with ea | ⟨od, ea⟩
      · simp only [e_rLstD, f_r1R, ea, f_oR]; exact al
      · simp only [e_rLstD, f_r1R, ea, f_oRf]; exact al
  · cases run
theorem q_list (hc : X.calm = true) (hm : X.mg "list" = none) (ha : QA X (e :: es) la) (hg : Gl X "list" := by rfl) (he : starEach (e :: es) X.env = (false, eval e X.env) :: starEach es X.env := by rfl) (hpl : (backTo pos (starEach es X.env)).any (·.1) = false := by rfl) : QE X (.Call (.Name "list" p) (e :: es) [] pos) (cCB fLst la) := PE.imp (pe_callTy (CallR.or call_list_of (call_lstD1 hc)) hg hm bt_list ha (by decide) (by decide) he hpl) fun _ _ _ d => i_cb cc_lst d
def fDct : Nat → List VV → VH → Option (VV × VH)
  | _, [x], h => ob (dctOf h x) fun kvs => ob (h.push (.dk kvs)) fun h2 => some (.ref h.n, h2)
  | _, _, _ => none
theorem cc_dct : CallC K rDct fDct := by
  intro ρ lo h h' H xs z vs Q S r run k
  unfold fDct at run
  split at run
  · obtain ⟨v, rfl, r9⟩ := r.one
    obtain ⟨kvs, q, run⟩ := ob_some run
    obtain ⟨a, ws, rfl, rd, rk⟩ := dctOf_ok S r9 q
    have al : Al Q H (.dK ws) .mk := fun p hp => Aft.alloc S run k hp True.intro fun H' q => ⟨_, q, rk.mono ⟨_, rfl⟩⟩
    rcases rd with ea | ⟨od, ea⟩
    · simp only [e_rDct, f_r1R, ea, f_oR]; exact al
    · simp only [e_rDct, f_r1R, ea, f_oRf]; exact al
  · cases run
theorem q_dict (hm : X.mg "dict" = none) (ha : QA X (e :: es) la) (hg : Gl X "dict" := by rfl) (he : starEach (e :: es) X.env = (false, eval e X.env) :: starEach es X.env := by rfl) (hpl : (backTo pos (starEach es X.env)).any (·.1) = false := by rfl) : QE X (.Call (.Name "dict" p) (e :: es) [] pos) (cCB fDct la) := PE.imp (pe_callTy call_dct1 hg hm bt_dict ha (by decide) (by decide) he hpl) fun _ _ _ d => i_cb cc_dct d
def fStr : Nat → List VV → VH → Option (VV × VH)
  | _, [.str z], h => some (.str z, h)
  | _, _, _ => none
theorem cc_str : CallC K (fun xs H Q => ∃ a, xs = [.str a] ∧ Q (.str a) H) fStr := by
  intro ρ lo h h' H xs z vs Q S r run k
  unfold fStr at run
  split at run
  · obtain ⟨v, rfl, r9⟩ := r.one
    cases run
    exact ⟨_, by rw [show v = _ from r9], k.now S rfl⟩
  · cases run
theorem q_strf (hm : X.mg "str" = none) (ha : QA X (e :: es) la) (hg : Gl X "str" := by rfl) (he : starEach (e :: es) X.env = (false, eval e X.env) :: starEach es X.env := by rfl) (hpl : (backTo pos (starEach es X.env)).any (·.1) = false := by rfl) : QE X (.Call (.Name "str" p) (e :: es) [] pos) (cCB fStr la) := PE.imp (pe_callTy SkE.call_str_str hg hm bt_str ha (by decide) (by decide) he hpl) fun _ _ _ d => i_cb cc_str d
/-- sorted: at most two texts -/
def sort2 : List Str → Option (List Str)
  | [] => some []
  | [a] => some [a]
  | [a, b] => match ltCps a.cps.toList b.cps.toList, ltCps b.cps.toList a.cps.toList with
    | true, false => some [a, b]
    | false, true => some [b, a]
    | _, _ => none
  | _ => none
theorem perm2 {α : Type} {a b : α} {ys : List α} (p : ys.Perm [a, b]) : ys = [a, b] ∨ ys = [b, a] := by
  have hl := p.length_eq
  match ys, hl with
  | [c, d], _ =>
    have hc : c ∈ [a, b] := p.mem_iff.1 (by simp)
    rcases List.mem_cons.1 hc with rfl | hc
    · exact .inl (by have := List.perm_cons c |>.1 p; rw [List.perm_singleton.1 this])
    · have hc := List.mem_singleton.1 hc
      subst hc
      have : [c, d].Perm [c, a] := p.trans (List.Perm.swap ..)
      have := List.perm_cons c |>.1 this
      exact .inr (by rw [List.perm_singleton.1 this])
theorem sort2_ok {ks zs ys : List Str} (e : sort2 ks = some zs) (p : ys.Perm ks) (s : sortedS ys = true) : ys = zs := by
  unfold sort2 at e
  split at e
  · cases e; exact List.perm_nil.1 p
  · cases e; exact List.perm_singleton.1 p
  · rename_i a b
    split at e
    · rename_i q1 q2
      cases e
      rcases perm2 p with rfl | rfl
      · rfl
      · exfalso
        have s' : (!ltCps a.cps.toList b.cps.toList && true) = true := s
        rw [q1] at s'
        cases s'
    · rename_i q1 q2
      cases e
      rcases perm2 p with rfl | rfl
      · exfalso
        have s' : (!ltCps b.cps.toList a.cps.toList && true) = true := s
        rw [q2] at s'
        cases s'
      · rfl
    · cases e
  · cases e
theorem sort2_len {ks zs : List Str} (e : sort2 ks = some zs) : ks.length < 64 := by
  unfold sort2 at e
  split at e
  · decide
  · show 1 < 64; decide
  · show 2 < 64; decide
  · cases e
def fSorted : Nat → List VV → VH → Option (VV × VH)
  | _, [x], h => match lstOf h x with
    | some xs => ob (strsV xs) fun ks => ob (sort2 ks) fun zs => ob (h.push (.lst (zs.map .str))) fun h2 => some (.ref h.n, h2)
    | none => ob (dctOf h x) fun kvs => ob (sort2 (kvs.map (·.1))) fun zs => ob (h.push (.lst (zs.map .str))) fun h2 => some (.ref h.n, h2)
  | _, _, _ => none
theorem RKs.inr : ∀ {as : List (Str × VV)} {ws : List (Key × V)}, RKs K ρ as ws → ws.map (·.1) = (as.map (·.1)).map Sum.inr
  | [], [], _ => rfl
  | (a, _) :: _, (f, _) :: _, r => by
    obtain ⟨⟨e1, _⟩, r9⟩ := r
    simp only at e1
    subst e1
    simp [RKs.inr r9]
  | [], _ :: _, r => r.elim
  | _ :: _, [], r => r.elim
theorem cc_sorted : CallC K (fun xs H Q => rSortedS K xs H Q ∨ ∃ a kvs ks, xs = [V.ref a] ∧ Rd H a (HO.dK kvs) ∧ List.map (fun x => x.fst) kvs = List.map Sum.inr ks ∧ ks.length < 64 ∧ ∀ (ys : List Str) (p : Addr), ys.Perm ks → sortedS ys = true → H p = none → Q (V.ref p) (L2.upd H p (HO.lst (List.map V.str ys)))) fSorted := by
  intro ρ lo h h' H xs z vs Q S r run k
  unfold fSorted at run
  split at run
  · obtain ⟨v, rfl, r9⟩ := r.one
    split at run
    · rename_i xs q
      obtain ⟨ks, e1, run⟩ := ob_some run
      obtain ⟨zs, e2, run⟩ := ob_some run
      obtain ⟨a, us, rfl, sq, rs⟩ := lstOf_ok S r9 q
      have e3 := strsV_ok rs e1
      subst e3
      refine .inl ⟨a, ks, rfl, SqL.of sq, sort2_len e2, fun ys p hp hs hn => ?_⟩
      have := sort2_ok e2 hp hs
      subst this
      exact Aft.alloc S run k hn True.intro fun H' q => ⟨_, q, RVs.strs⟩
    · obtain ⟨kvs, q, run⟩ := ob_some run
      obtain ⟨zs, e2, run⟩ := ob_some run
      obtain ⟨a, ws, rfl, rd, rk⟩ := dctOf_ok S r9 q
      refine .inr ⟨a, ws, kvs.map (·.1), rfl, rd, rk.inr, sort2_len e2, fun ys p hp hs hn => ?_⟩
      have := sort2_ok e2 hp hs
      subst this
      exact Aft.alloc S run k hn True.intro fun H' q => ⟨_, q, RVs.strs⟩
  · cases run
theorem q_sorted (hc : X.calm = true) (hm : X.mg "sorted" = none) (ha : QA X (e :: es) la) (hg : Gl X "sorted" := by rfl) (he : starEach (e :: es) X.env = (false, eval e X.env) :: starEach es X.env := by rfl) (hpl : (backTo pos (starEach es X.env)).any (·.1) = false := by rfl) : QE X (.Call (.Name "sorted" p) (e :: es) [] pos) (cCB fSorted la) := PE.imp (pe_callB (CallR.or cr_sortedS (call_sortedD hc)) hg hm bt_sorted ha (by decide) (by decide) he hpl) fun _ _ _ d => i_cb cc_sorted d
end
end
end K95

set_option maxRecDepth 100000
set_option maxHeartbeats 4000000
namespace K95
open PySem PySem.Spec PyProof.Rows L2
noncomputable section
variable [Nu]
section
variable {X : Cx} {K : PySem.W.Frag} {σ : List (Option V)} {H H' : Hp} {Q : VK} {QB : Bool → Hp → Prop} {QL : List V → Hp → Prop} {D : Ends} {ra rb rc ro ri rk rv : CE} {R R' : R2} {f f' : VV → VV → VH → Option (VV × VH)} {ca cb ct : CT} {la lb : CA} {sa sb : CS} {ga gb : CG} {ρ ρ' : List Addr} {lo k : Nat} {h h' : VH} {x y z : VV} {v u : V} {a b c e o : Expr} {es : List Expr} {pos p apos cpos pos' : Pos} {ci : CI} {tg iter : Expr} {F : CF} {m n : Str} {C : Cn} {nm : Fn}
/-! ### methods of built-in types -/
theorem q_bms {name : Str} {id : String} {r : V → List V → Hp → VK → Prop} {g : Nat → VV → List VV → VH → Option (VV × VH)} (pa : PlainAttrs "str") (sl : Slot "str" name id) (ty : typeOf (.builtin id) = pure (.type "method_descriptor")) (hm : MtR X id r) (mc : MtC X.K r g) (ho : QE X o ro) (ha : QA X (e :: es) la)
    (hbase : attributeBase o name X.env (eval o X.env) = eval o X.env := by rfl)
    (hfew : ((backTo cpos (starEach (e :: es) X.env)).all (fun x => !x.1) && (backToKw cpos (keywordEach [] X.env)).all (fun x => x.1.isSome) && decide ((e :: es).length + ([] : List Keyword).length + (if ([] : List Keyword).isEmpty then 0 else 1) < 30)) = true := by rfl)
    (hline : (apos.endLine == cpos.line) = true := by rfl) (hs : starEach (e :: es) X.env = (false, eval e X.env) :: starEach es X.env := by rfl) (hplain : (backTo cpos (starEach es X.env)).any (·.1) = false := by rfl) :
    QE X (.Call (.Attribute o name apos) (e :: es) [] cpos) (cBM true g ro la) := PE.imp (pe_bm pa sl ty hm ho ha hbase hfew hline hs hplain) fun _ _ _ d => i_bm (b := true) mc d
theorem q_bml {name : Str} {id : String} {r : V → List V → Hp → VK → Prop} {g : Nat → VV → List VV → VH → Option (VV × VH)} (pa : PlainAttrs "list") (sl : Slot "list" name id) (ty : typeOf (.builtin id) = pure (.type "method_descriptor")) (hm : MtR X id r) (mc : MtC X.K r g) (ho : QE X o ro) (ha : QA X (e :: es) la)
    (hbase : attributeBase o name X.env (eval o X.env) = eval o X.env := by rfl)
    (hfew : ((backTo cpos (starEach (e :: es) X.env)).all (fun x => !x.1) && (backToKw cpos (keywordEach [] X.env)).all (fun x => x.1.isSome) && decide ((e :: es).length + ([] : List Keyword).length + (if ([] : List Keyword).isEmpty then 0 else 1) < 30)) = true := by rfl)
    (hline : (apos.endLine == cpos.line) = true := by rfl) (hs : starEach (e :: es) X.env = (false, eval e X.env) :: starEach es X.env := by rfl) (hplain : (backTo cpos (starEach es X.env)).any (·.1) = false := by rfl) :
    QE X (.Call (.Attribute o name apos) (e :: es) [] cpos) (cBM false g ro la) := PE.imp (pe_bm pa sl ty hm ho ha hbase hfew hline hs hplain) fun _ _ _ d => i_bm (b := false) mc d
def fPop : Nat → VV → List VV → VH → Option (VV × VH)
  | lo, .ref i, [.int j], h => match h.get i with
    | some (.lst xs) => match lo.ble i && (decide (-1000 ≤ j) && decide (j < 1000)) with
      | true => ob (seqIndex? j xs.length) fun n => ob xs[n]? fun y => ob (h.set i (.lst (xs.eraseIdx n))) fun h2 => some (y, h2)
      | false => none
    | _ => none
  | _, _, _, _ => none
theorem RVs.erase : ∀ {xs : List VV} {vs : List V} {i : Nat}, RVs K ρ xs vs → RVs K ρ (xs.eraseIdx i) (vs.eraseIdx i)
  | [], [], _, _ => True.intro
  | _ :: _, _ :: _, 0, r => r.2
  | _ :: _, _ :: _, i + 1, r => ⟨r.1, RVs.erase r.2⟩
  | [], _ :: _, _, r => r.elim
  | _ :: _, [], _, r => r.elim
theorem mc_pop : MtC K rPopAt fPop := by
  intro ρ lo h h' H x xs z v vs Q S r1 r2 run k
  unfold fPop at run
  split at run
  · rename_i i j
    obtain ⟨u, rfl, r9⟩ := r2.one
    split at run
    · rename_i xs e1
      split at run
      · rename_i q
        obtain ⟨q1, q2⟩ := Bool.and_eq_true_iff.1 q
        obtain ⟨q2, q3⟩ := Bool.and_eq_true_iff.1 q2
        have q2 := of_decide_eq_true q2
        have q3 := of_decide_eq_true q3
        obtain ⟨n, e2, run⟩ := ob_some run
        obtain ⟨y, e3, run⟩ := ob_some run
        obtain ⟨h2, e4, run⟩ := ob_some run
        cases run
        obtain ⟨a, rfl, ea, us, eH, rs⟩ := S.ref e1 r1
        obtain ⟨w, e5, rw'⟩ := rs.at_ e3
        rw [show u = _ from r9]
        refine ⟨a, us, j, n, w, rfl, rfl, eH, ?_, ?_, by rw [rs.len]; exact e2, e5, ?_⟩
        · exact Int.le_trans (by decide) q2
        · exact Int.lt_trans q3 (by decide)
        · obtain ⟨g, S2⟩ := S.lst_ (lo := lo) (Nat.le_of_ble_eq_true q1) e1 rfl ea e4 (rs.erase (i := n))
          exact k _ _ _ g S2 rw'
      · cases run
    · cases run
  · cases run
def fIns : Nat → VV → List VV → VH → Option (VV × VH)
  | lo, .ref i, [.int (.ofNat j), y], h => match h.get i with
    | some (.lst xs) => match lo.ble i && (j.ble 1000 && xs.length.ble 64) with
      | true => ob (h.set i (.lst (xs.take j ++ [y] ++ xs.drop j))) fun h2 => some (.non, h2)
      | false => none
    | _ => none
  | _, _, _, _ => none
theorem mc_ins : MtC K (fun x vs H Q => ∃ l xs i y, x = V.ref l ∧ vs = [V.int i, y] ∧ H l = some (HO.lst xs) ∧ xs.length < sizeLine ∧ 0 ≤ i ∧ i < 2 ^ 63 ∧ Q V.non (L2.upd H l (HO.lst (List.take i.toNat xs ++ [y] ++ List.drop i.toNat xs)))) fIns := by
  intro ρ lo h h' H x xs z v vs Q S r1 r2 run k
  unfold fIns at run
  split at run
  · rename_i i j y
    obtain ⟨u, w, rfl, r8, r9⟩ := r2.two
    split at run
    · rename_i xs e1
      split at run
      · rename_i q
        obtain ⟨q1, q2⟩ := Bool.and_eq_true_iff.1 q
        obtain ⟨q2, q3⟩ := Bool.and_eq_true_iff.1 q2
        have q2 := Nat.le_of_ble_eq_true q2
        have q3 := Nat.le_of_ble_eq_true q3
        have se := sizeLine_eq
        obtain ⟨h2, e4, run⟩ := ob_some run
        cases run
        obtain ⟨a, rfl, ea, us, eH, rs⟩ := S.ref e1 r1
        rw [show u = _ from r8]
        refine ⟨a, us, (j : Int), w, rfl, rfl, eH, by rw [rs.len]; omega, by omega, ?_, ?_⟩
        · exact Int.lt_of_le_of_lt (b := 1000) (by omega) (by decide)
        · obtain ⟨g, S2⟩ := S.lst_ (lo := lo) (Nat.le_of_ble_eq_true q1) e1 rfl ea e4 (((rs.take j).app (ys := [y]) (us := [w]) ⟨r9, True.intro⟩).app (rs.drop j))
          exact k _ _ _ g S2 rfl
      · cases run
    · cases run
  · cases run
/-- the first place of an equal flat item -/
def idxV (x : VV) : Nat → List VV → Option Nat
  | _, [] => none
  | n, y :: r => match eqVV y x with
    | true => some n
    | false => idxV x (n + 1) r
def fIdx : Nat → VV → List VV → VH → Option (VV × VH)
  | _, x, [y], h => ob (lstOf h x) fun xs => match flatVV y && xs.all flatVV with
    | true => ob (idxV y 0 xs) fun n => some (.int (n : Nat), h)
    | false => none
  | _, _, _, _ => none
theorem idxV_ok (r : RV K ρ y u) (f : flatVV y = true) : ∀ {xs : List VV} {vs : List V} {m n : Nat}, RVs K ρ xs vs → xs.all flatVV = true → idxV y m xs = some n → ∃ z, m ≤ n ∧ vs[n - m]? = some z ∧ eqV z u = true ∧ ∀ (i : Nat) (z' : V), i < n - m → vs[i]? = some z' → eqV z' u = false
  | [], [], _, _, _, _, e => by cases e
  | x :: xs, v :: vs, m, n, q, g, e => by
    rw [List.all_cons, Bool.and_eq_true] at g
    unfold idxV at e
    split at e
    · rename_i c
      cases e
      refine ⟨v, Nat.le_refl _, by simp, (eqVV_ok q.1 r g.1 f).trans c, fun i z' hi => ?_⟩
      omega
    · rename_i c
      obtain ⟨z, h1, h2, h3, h4⟩ := idxV_ok r f (vs := vs) q.2 g.2 e
      have em : n - m = (n - (m + 1)) + 1 := by omega
      refine ⟨z, by omega, by rw [em]; simpa using h2, h3, fun i z' hi hz => ?_⟩
      cases i with
      | zero => cases hz; exact (eqVV_ok q.1 r g.1 f).trans c
      | succ i => exact h4 i z' (by omega) (by simpa using hz)
  | [], _ :: _, _, _, q, _, _ => q.elim
  | _ :: _, [], _, _, q, _, _ => q.elim
theorem mc_idx : MtC K (rIndex K) fIdx := by
  intro ρ lo h h' H x xs z v vs Q S r1 r2 run k
  unfold fIdx at run
  split at run
  · rename_i y
    obtain ⟨u, rfl, r9⟩ := r2.one
    obtain ⟨xs, e1, run⟩ := ob_some run
    split at run
    · rename_i q
      obtain ⟨q1, q2⟩ := Bool.and_eq_true_iff.1 q
      obtain ⟨n, e2, run⟩ := ob_some run
      cases run
      obtain ⟨a, us, rfl, sq, rs⟩ := lstOf_ok S r1 e1
      obtain ⟨z, _, h2, h3, h4⟩ := idxV_ok r9 q1 rs q2 e2
      exact ⟨a, us, u, n, z, rfl, rfl, SqL.of sq, flat_ok r9 q1, flats_ok rs q2, h2, h3, h4, k.now S (by simp [RV])⟩
    · cases run
  · cases run
/-! ### dicts -/
theorem q_newD : QE X (.Dict [] [] pos) cNewD := PE.imp pe_dnewK fun _ _ _ d => i_newD d
structure QPs (X : Cx) (pos : Pos) (keys : List (Option Expr)) (values : List Expr) (r : CP) : Prop where
  ex : ∃ trs, PPs X pos keys values trs ∧ DenP X.K trs r
theorem q_p0 : QPs X pos [] [] cP0 := ⟨[], pps_nil, dp_nil⟩
theorem q_pc {k v : Expr} {ks : List (Option Expr)} {vs : List Expr} {rp : CP} (hk : QE X k rk) (hv : QE X v rv) (r : QPs X pos ks vs rp) : QPs X pos (some k :: ks) (v :: vs) (cPC rk rv rp) := by
  obtain ⟨trs, h1, h2⟩ := r.ex
  exact ⟨_, pps_cons hk hv h1, dp_cons h2⟩
theorem q_disp {keys : List (Option Expr)} {values : List Expr} {rp : CP} (r : QPs X pos keys values rp) (hall : keys.all (·.isSome) = true := by rfl) (hl : keys.length = values.length := by rfl) (h0 : keys ≠ [] := by simp) (h15 : keys.length ≤ 15 := by decide) : QE X (.Dict keys values pos) (cDisp rp) := by
  obtain ⟨trs, h1, h2⟩ := r.ex
  exact PE.imp (pe_disp h1 hall hl h0 h15) fun _ _ _ d => i_disp h2 d
theorem q_get2 {e f : Expr} (hu : X.A.units + 64 < cLine) (ho : QE X o ro) (he : QE X e ra) (hf : QE X f rb) (m : M2 X o "get" apos e f cpos) : QE X (.Call (.Attribute o "get" apos) [e, f] [] cpos) (cGet2 ro ra rb) := PE.imp (pe_dget2 (by omega) ho he hf m) fun _ _ _ d => i_get2 d
/-! ### comprehensions -/
def cYes : CT := fun _ _ h => some (true, h)
theorem i_yes (d : denT K cYes σ H QB) : tYes σ H QB := by
  obtain ⟨ρ, lo, e, h, z, h', S, E, run, k⟩ := d
  cases run
  exact k ρ H Go.refl S
theorem PTs.imp {es : List Expr} {t t' : TT} (h : PTs X es t) (g : ∀ σ H Q, t' σ H Q → t σ H Q) : PTs X es t' := ⟨fun pins s σ H Q I q => h.run pins s σ H Q I (g σ H Q q)⟩
theorem q_yes : PTs X [] (denT X.K cYes) := PTs.imp pts_nil fun _ _ _ d => i_yes d
theorem q_lc {elt tg iter : Expr} {ifs : List Expr} {scope : Scope} {own : List (Str × Nat)} {wy : CI} (hc : X.calm = true) (hN : X.N.Nodup) (hi : PIY X tg iter (denI X.K wy)) (ok : BlkOk X.N X.env.scope scope own)
    (hg : ∀ (s : Shared) (H : Hp) (C : Addr) (cl : List (Str × Addr)) (fp : List Addr), QG (X.blk s H scope (compEnvC scope cl C X.env) fp) tg ga) (ht : ∀ (s : Shared) (H : Hp) (C : Addr) (cl : List (Str × Addr)) (fp : List Addr), PTs (X.blk s H scope (compEnvC scope cl C X.env) fp) ifs (denT X.K ct))
    (he : ∀ (s : Shared) (H : Hp) (C : Addr) (cl : List (Str × Addr)) (fp : List Addr), QE (X.blk s H scope (compEnvC scope cl C X.env) fp) elt ra) (gi : GIn (own.map (·.2)) ga) (hs : ∀ x, foldedSetIterable iter X.env x = pure x := by intro _; rfl) :
    QE X (.ListComp elt [⟨tg, iter, ifs, 0⟩] scope pos) (cLc wy ga ct ra (own.map (·.2))) := PE.imp (pe_lcY hc hN hi ok hg ht he hs) fun _ _ _ d => i_lc gi d
/-- {k: v for ..} -/
def dcC (g : CG) (ct : CT) (ck cv : CE) (vs : List Nat) (e0 : En) (lo : Nat) : List Yv → List (Str × VV) → VH → Option (List (Str × VV) × VH)
  | [], acc, h => some (acc, h)
  | it :: r, acc, h => bd (yv it h) fun x h1 => bd (g x lo (wipeV e0 vs) h1) fun e2 h2 => bd (ct lo e2 h2) fun b h3 => match b with
    | true => bd (ck lo e2 h3) fun y h4 => bd (cv lo e2 h4) fun z h5 => match y with
      | .str s => match acc.length.ble 64 with
        | true => dcC g ct ck cv vs e0 lo r (ptKV s z acc) h5
        | false => none
      | _ => none
    | false => dcC g ct ck cv vs e0 lo r acc h3
def cDc (ci : CI) (g : CG) (ct : CT) (ck cv : CE) (vs : List Nat) : CE := fun lo e h => bd (ci lo e h) fun its h1 => bd (dcC g ct ck cv vs e lo its [] h1) fun ys h2 => ob (h2.push (.dk ys)) fun h3 => some (.ref h2.n, h3)
theorem wipe2 (e0 : En) (vs : List Nat) : wipeV (wipeV e0 vs) vs = wipeV e0 vs := by
  have hw : ∀ (us : List Nat), (∀ i ∈ us, i ∈ vs) → wipeV (wipeV e0 us) vs = wipeV e0 vs := by
    intro us
    induction us with
    | nil => intro _; rfl
    | cons u us ihu =>
      intro hu
      show wipeV ((wipeV e0 us).set u none) vs = _
      rw [wipeV_set (hu u (by simp)), ihu fun i m => hu i (by simp [m])]
  exact hw vs fun _ m => m
def dcR (Y : Yld) (G : Hp → Prop) (g : TG) (tt : TT) (tk tv : TE) (vs : List Nat) (σ : List (Option V)) (D : Addr) (Qd : Hp → Prop) (n : Nat) : Nat → Hp → Prop
  | 0, H => G H ∧ Qd H
  | r + 1, H => G H ∧ Y (n - (r + 1)) H fun x H' => g x (wipe σ vs) H' fun σ2 H2 => wipe σ2 vs = wipe σ vs ∧ tt σ2 H2 fun b H3 =>
      (b = true → tk σ2 H3 fun y H4 => tv σ2 H4 fun z H5 => ∃ kvs k, y = kV k ∧ H5 D = some (.dK kvs) ∧ kvs.length < sizeLine ∧ dcR Y G g tt tk tv vs σ D Qd n r (L2.upd H5 D (.dK (putK kvs k z)))) ∧ (b = false → dcR Y G g tt tk tv vs σ D Qd n r H3)
theorem dc_unr {J : It} {n : Nat} {G : Hp → Prop} {Y : Yld} (w : WalkY J n G Y) {g : TG} {tt : TT} {tk tv : TE} {vs : List Nat} {σ : List (Option V)} {H1 : Hp} {D : Addr} {Qd : Hp → Prop} (h : dcR Y G g tt tk tv vs σ D Qd n n (L2.upd H1 D (.dK []))) :
    ∃ W : Nat → Nat → Hp → Prop, (∃ m, W 0 m (L2.upd H1 D (.dK []))) ∧ ∀ i m H, W i m H →
      (J.stop i H ∧ Qd H) ∨ (J.go i H ∧ ∃ Nx : Hp → Prop, (∀ H', Nx H' → ∃ m', m' < m ∧ W (i + 1) m' H') ∧ ∀ x H', J.yld i H x H' → gM g x (wipe σ vs) H' fun σ2 H2 => wipe σ2 vs = wipe σ vs ∧ ttM tt σ2 H2 fun b H3 =>
        if b = true then tM tk σ2 H3 fun y H4 => tM tv σ2 H4 fun z H5 => ∃ kvs k, y = kV k ∧ H5 D = some (.dK kvs) ∧ kvs.length < sizeLine ∧ Nx (L2.upd H5 D (.dK (putK kvs k z))) else Nx H3) := by
  refine ⟨fun i m H => i + m = n ∧ dcR Y G g tt tk tv vs σ D Qd n m H, ⟨n, Nat.zero_add n, h⟩, ?_⟩
  rintro i m H ⟨e, q⟩
  cases m with
  | zero =>
    obtain ⟨q1, q2⟩ := q
    have e : i = n := e
    subst e
    exact .inl ⟨w.stops H q1, q2⟩
  | succ m =>
    obtain ⟨q1, q2⟩ := q
    have lt : i < n := by omega
    have ei : n - (m + 1) = i := by omega
    rw [ei] at q2
    refine .inr ⟨w.goes i H lt q1, dcR Y G g tt tk tv vs σ D Qd n m, fun H' p => ⟨m, Nat.lt_succ_self m, by omega, p⟩, fun x H' y => ?_⟩
    refine ⟨_, w.yields i H x H' _ lt q1 y q2, fun σ2 H2 q3 => ?_⟩
    obtain ⟨ew, q3⟩ := q3
    refine ⟨ew, _, q3, fun b H3 q4 => ?_⟩
    cases b with
    | false => simpa using q4.2 rfl
    | true =>
      rw [if_pos rfl]
      exact ⟨_, q4.1 rfl, fun y H4 q5 => ⟨_, q5, fun z H5 q6 => q6⟩⟩
theorem dc_ok {its0 : List Yv} {ρ0 : List Addr} {h0 : VH} {H0 : Hp} {n : Nat} {G : Hp → Prop} {Y : Yld} {vs : List Nat} {e0 : En} {σ0 : List (Option V)} {d : Addr} {Qd : Hp → Prop} (w : YOk K lo its0 ρ0 h0 H0 n G Y) (gi : GIn vs ga) (E0 : REn K ρ0 e0 σ0) :
    ∀ (its : List Yv) {ρ : List Addr} {h : VH} {H : Hp} {acc ys : List (Str × VV)} {accV : List (Key × V)} {h' : VH}, its = its0.drop (n - its.length) → its.length ≤ n → Aside K lo ρ0 h0 H0 d (.dK accV) ρ h H → RKs K ρ acc accV → dcC ga ct rk rv vs e0 lo its acc h = some (ys, h') →
    (∀ ρ1 H1 ysV, Aside K lo ρ0 h0 H0 d (.dK ysV) ρ1 h' H1 → RKs K ρ1 ys ysV → Qd H1) → dcR Y G (denG K ga) (denT K ct) (den K rk) (den K rv) vs σ0 d Qd n its.length H := by
  intro its
  induction its with
  | nil =>
    intro ρ h H acc ys accV h' hd hl A r run k
    cases run
    exact ⟨w.g _ _ _ A.g A.s, k ρ H accV A r⟩
  | cons it r ih =>
    intro ρ h H acc ys accV h' hd hl A ra' run k
    obtain ⟨x, h1, e1, run⟩ := bd_some run
    obtain ⟨e2, h2, q2, run⟩ := bd_some run
    obtain ⟨b, h3, q3, run⟩ := bd_some run
    have hl' : r.length + 1 ≤ n := hl
    have at_ : its0[n - (r.length + 1)]? = some it := by
      have := congrArg (fun l => l[0]?) hd
      simpa using this.symm
    have hd' : r = its0.drop (n - r.length) := by
      have := congrArg List.tail hd
      simp only [List.tail_cons, List.length_cons, List.tail_drop] at this
      exact this.trans (congrArg (fun m => its0.drop m) (by omega))
    refine ⟨w.g _ _ _ A.g A.s, w.y _ it ρ h H _ at_ A.g A.s (yk_of (lo := lo) A.s e1 fun ρ1 H1 v g1 S1 r1 => ?_)⟩
    refine ⟨ρ1, lo, wipeV e0 vs, h1, x, e2, h2, S1, ((E0.mono (A.g.trans g1).le).wipe vs), r1, q2, fun ρ2 σ2 H2 g2 S2 E2 => ⟨?_, ?_⟩⟩
    · refine REn.fn (E2.wipe vs) ?_
      rw [gi _ _ _ _ _ _ q2, wipe2]
      exact (E0.mono ((A.g.trans g1).trans g2).le).wipe vs
    · refine ⟨ρ2, lo, e2, h2, b, h3, S2, E2, q3, fun ρ3 H3 g3 S3 => ⟨fun eb => ?_, fun eb => ?_⟩⟩
      all_goals subst eb
      · have A3 := ((A.go g1 S1).go g2 S2).go g3 S3
        have le3 := ((g1.trans g2).trans g3).le
        obtain ⟨y, h4, q4, run⟩ := bd_some run
        obtain ⟨z, h5, q5, run⟩ := bd_some run
        refine ⟨ρ3, lo, e2, h3, y, h4, S3, E2.mono g3.le, q4, fun ρ4 H4 u g4 S4 r4 => ⟨ρ4, lo, e2, h4, z, h5, S4, (E2.mono g3.le).mono g4.le, q5, fun ρ5 H5 t g5 S5 r5 => ?_⟩⟩
        have A5 := (A3.go g4 S4).go g5 S5
        split at run
        · rename_i s _
          split at run
          · rename_i qn
            have hal := ra'.len
            have se := sizeLine_eq
            have := Nat.le_of_ble_eq_true qn
            refine ⟨accV, Sum.inr s, r4.mono g5.le, A5.at_, by omega, ?_⟩
            exact ih hd' (by omega) (A5.upd True.intro) ((ra'.mono ((le3.trans g4.le).trans g5.le)).put r5) run k
          · cases run
        · cases run
      · have A3 := ((A.go g1 S1).go g2 S2).go g3 S3
        exact ih hd' (by omega) A3 (ra'.mono ((g1.trans g2).trans g3).le) run k
theorem q_dc {kx vx tg iter : Expr} {ifs : List Expr} {scope : Scope} {own : List (Str × Nat)} {wy : CI} (hc : X.calm = true) (hN : X.N.Nodup) (hi : PIY X tg iter (denI X.K wy)) (ok : BlkOk X.N X.env.scope scope own)
    (hg : ∀ (s : Shared) (H : Hp) (C : Addr) (cl : List (Str × Addr)) (fp : List Addr), QG (X.blk s H scope (compEnvC scope cl C X.env) fp) tg ga) (ht : ∀ (s : Shared) (H : Hp) (C : Addr) (cl : List (Str × Addr)) (fp : List Addr), PTs (X.blk s H scope (compEnvC scope cl C X.env) fp) ifs (denT X.K ct))
    (hk : ∀ (s : Shared) (H : Hp) (C : Addr) (cl : List (Str × Addr)) (fp : List Addr), QE (X.blk s H scope (compEnvC scope cl C X.env) fp) kx rk) (he : ∀ (s : Shared) (H : Hp) (C : Addr) (cl : List (Str × Addr)) (fp : List Addr), QE (X.blk s H scope (compEnvC scope cl C X.env) fp) vx rv)
    (gi : GIn (own.map (·.2)) ga) (hs : ∀ x, foldedSetIterable iter X.env x = pure x := by intro _; rfl) :
    QE X (.DictComp kx vx [⟨tg, iter, ifs, 0⟩] scope pos) (cDc wy ga ct rk rv (own.map (·.2))) :=
  PE.imp (pe_dc hc hN hi ok (fun s H C cl fp => pg_M (hg s H C cl fp)) (fun s H C cl fp => pts_M (ht s H C cl fp)) (fun s H C cl fp => pe_M (hk s H C cl fp)) (fun s H C cl fp => pe_M (he s H C cl fp)) hs) fun σ H Q d => by
    obtain ⟨ρ, lo, e, h, z, h', S, E, run, k⟩ := d
    obtain ⟨its, h1, e1, run⟩ := bd_some run
    obtain ⟨ys, h2, e2, run⟩ := bd_some run
    obtain ⟨h3, e3, run⟩ := ob_some run
    cases run
    refine ⟨fun n G Y H1 => ∃ ρ1, Go ρ lo h H ρ1 h1 H1 ∧ Sim X.K ρ1 h1 H1 ∧ YOk X.K lo its ρ1 h1 H1 n G Y, ⟨ρ, lo, e, h, its, h1, S, E, e1, fun ρ1 H1 g1 S1 n G Y w => ⟨ρ1, g1, S1, w⟩⟩, fun n G Y H1 q J w D hn => ?_⟩
    obtain ⟨ρ1, g1, S1, wk⟩ := q
    have := wk.len
    subst this
    refine dc_unr w (dc_ok wk gi (E.mono g1.le) its (acc := []) (accV := []) (by simp) (Nat.le_refl _) (Aside.new S1 hn True.intro) True.intro e2 fun ρ4 H4 ysV A r => ?_)
    obtain ⟨g, S4, r4⟩ := A.in_ e3 ⟨ysV, A.at_, r.mono ⟨_, rfl⟩⟩
    exact k _ _ _ (g1.trans g) S4 r4
end
end
end K95

set_option maxRecDepth 100000
set_option maxHeartbeats 4000000
namespace K95
open PySem PySem.Spec PyProof.Rows L2
noncomputable section
variable [Nu]
section
variable {X : Cx} {K : PySem.W.Frag} {σ : List (Option V)} {H H' : Hp} {Q : VK} {QB : Bool → Hp → Prop} {D : Ends} {ra rb rc ro : CE} {R R' : R2} {f f' : VV → VV → VH → Option (VV × VH)} {la lb : CA} {ρ ρ' : List Addr} {lo k : Nat} {h h' : VH} {x y z : VV} {v u : V} {a b c e o : Expr} {es : List Expr} {pos p p2 : Pos} {ci : CI} {tg iter : Expr}
theorem hu65 {A : Around} (r : Room k A) : A.units + 65 < cLine := by have := r.un; omega
theorem q_tchain {op op' : CmpOp} (o : OpR X (compareOp op) R) (oc : OpC X.K R f) (o' : OpR X (compareOp op') R') (oc' : OpC X.K R' f') (ha : QE X a ra) (hb : QE X b rb) (hc : QE X c rc) (hm : lastMarks [op, op'] [b, c] = false := by with_unfolding_all rfl) : QT X (.Compare a [op, op'] [b, c] pos) (cB (cChain f f' ra rb rc)) := PT.imp (pt_chain o o' ha hb hc hm) fun _ _ _ d => i_chain oc oc' (i_b d)
theorem q_set {i : Nat} {x : Str} {pos' : Pos} (hN : X.N.Nodup) (hi : X.N[i]? = some x) (hl : L2.Loc X.env.scope x) (he : QE X e ra) (hs : swapsWith e (some (.Name x pos')) pos.line X.env = pure false := by rfl) (hf : X.fn x = true ∨ X.env.scope.names.lookup x = some .local := by first | exact Or.inl rfl | exact Or.inr rfl) : QS X (.Assign [.Name x pos'] e pos) (cAsg ra (cN i)) := PS.imp (ps_set hN hi hl he hs hf) fun D σ H d => by
  obtain ⟨ρ, lo, e, h, f, S, E, run, k⟩ := d
  obtain ⟨x, h1, e1, run⟩ := bd_some run
  cases run
  exact ⟨ρ, lo, e, h, x, _, S, E, e1, fun ρ1 H1 v g1 S1 r1 => k ρ1 _ H1 g1 S1 ((E.mono g1.le).set (x := some x) (v := some v) r1)⟩
def elemN (c : Nat) : List Nat → Bool
  | [] => false
  | x :: xs => match x.beq c with
    | true => true
    | false => elemN c xs
theorem elemN_eq {c : Nat} : ∀ {l : List Nat}, elemN c l = decide (c ∈ l)
  | [] => by simp [elemN]
  | x :: xs => by
    unfold elemN
    cases q : x.beq c with
    | true => have := beq_t q; subst this; simp
    | false =>
      have := beq_f q
      rw [elemN_eq (l := xs)]
      have h : ¬ c = x := fun z => this z.symm
      simp [h]
/-- one sign in a text -/
def fInS : VV → VV → VH → Option (VV × VH)
  | .str i, .str j, h => match i.cps.toList with
    | [c] => some (.bl (elemN c j.cps.toList), h)
    | _ => none
  | _, _, _ => none
theorem oc_inS : OpC K rInC fInS := by
  intro ρ lo h h' H x y z v u Q S r1 r2 run k
  unfold fInS at run
  split at run
  · split at run
    · rename_i i j _ c q
      cases run
      rw [show v = _ from r1, show u = _ from r2]
      have e : i = ⟨#[c]⟩ := by
        cases i with
        | mk cps => 
          have : cps = #[c] := by
            cases cps with
            | mk l => simp at q; rw [q]
          rw [this]
      subst e
      simp only [e_rInC, f_s2R]
      rw [elemN_eq] at k
      exact ⟨rfl, k.now S rfl⟩
    · cases run
  · cases run
/-- isinstance with a built-in type -/
inductive Ty4 where
  | int_ | bool_ | str_ | tuple_
def isT4 : Ty4 → VH → VV → Option Bool
  | .int_, _, .int _ => some true
  | .int_, _, .str _ => some false
  | .bool_, _, .int _ => some false
  | .str_, _, .str _ => some true
  | .str_, _, .int _ => some false
  | .tuple_, h, .ref i => match h.get i with
    | some (.tup _) => some true
    | _ => none
  | _, _, _ => none
def Ty4.nm : Ty4 → String
  | .int_ => "int"
  | .bool_ => "bool"
  | .str_ => "str"
  | .tuple_ => "tuple"
def cIsT (t : Ty4) (ra : CE) : CE := fun lo e h => bd (ra lo e h) fun x h1 => ob (isT4 t h1 x) fun b => some (.bl b, h1)
theorem i_isT {t : Ty4} (d : den K (cIsT t ra) σ H Q) : tCB (rIsT K) (tCons (den K ra) (tCons (tC (.ty t.nm)) tNil)) σ H Q := by
  obtain ⟨ρ, lo, e, h, z, h', S, E, run, k⟩ := d
  obtain ⟨x, h1, e1, run⟩ := bd_some run
  obtain ⟨b, e2, run⟩ := ob_some run
  cases run
  refine ⟨ρ, lo, e, h, x, _, S, E, e1, fun ρ1 H1 v g1 S1 r1 => ?_⟩
  show rIsT K [v, .ty t.nm] H1 Q
  have k1 := (k.go g1).now S1 (v := .bl b) rfl
  unfold isT4 at e2
  split at e2
  · cases e2; rw [show v = _ from r1]; exact .inl ⟨rfl, k1⟩
  · cases e2; rw [show v = _ from r1]; exact .inr ⟨rfl, k1⟩
  · cases e2; rw [show v = _ from r1]; exact .inr ⟨.inl rfl, k1⟩
  · cases e2; rw [show v = _ from r1]; exact .inl ⟨rfl, k1⟩
  · cases e2; rw [show v = _ from r1]; exact .inr ⟨.inr rfl, k1⟩
  · split at e2
    · rename_i q
      cases e2
      obtain ⟨a, rfl, _, vs, ea, _⟩ := S1.ref q r1
      exact ⟨rfl, by rw [ea, f_oT]; exact k1⟩
    · cases e2
  · cases e2
theorem q_isT (t : Ty4) {T : Str} {p p2 pos : Pos} (hi : X.mg "isinstance" = none) (ht : X.mg T = none) (hb : bootBuiltins T = some (.type t.nm)) (he : QE X e ra) (hg : Gl X "isinstance") (hg2 : Gl X T)
    (hn : T ≠ "__name__") (hd : (T == ("__debug__" : Str)) = false) (hs : starEach [e, .Name T p2] X.env = (false, eval e X.env) :: starEach [.Name T p2] X.env) : QE X (.Call (.Name "isinstance" p) [e, .Name T p2] [] pos) (cIsT t ra) := PE.imp (pe_isT he hi ht hb hg hg2 hn hd hs) fun _ _ _ d => i_isT d
theorem q_isT_int (hi : X.mg "isinstance" = none) (ht : X.mg "int" = none) (he : QE X e ra) (hg : Gl X "isinstance" := by rfl) (hg2 : Gl X "int" := by rfl) (hs : starEach [e, .Name "int" p2] X.env = (false, eval e X.env) :: starEach [.Name "int" p2] X.env := by rfl) : QE X (.Call (.Name "isinstance" p) [e, .Name "int" p2] [] pos) (cIsT .int_ ra) := q_isT .int_ hi ht bt_int he hg hg2 (by decide) (by decide) hs
theorem q_isT_bool (hi : X.mg "isinstance" = none) (ht : X.mg "bool" = none) (he : QE X e ra) (hg : Gl X "isinstance" := by rfl) (hg2 : Gl X "bool" := by rfl) (hs : starEach [e, .Name "bool" p2] X.env = (false, eval e X.env) :: starEach [.Name "bool" p2] X.env := by rfl) : QE X (.Call (.Name "isinstance" p) [e, .Name "bool" p2] [] pos) (cIsT .bool_ ra) := q_isT .bool_ hi ht bt_bool he hg hg2 (by decide) (by decide) hs
theorem q_isT_str (hi : X.mg "isinstance" = none) (ht : X.mg "str" = none) (he : QE X e ra) (hg : Gl X "isinstance" := by rfl) (hg2 : Gl X "str" := by rfl) (hs : starEach [e, .Name "str" p2] X.env = (false, eval e X.env) :: starEach [.Name "str" p2] X.env := by rfl) : QE X (.Call (.Name "isinstance" p) [e, .Name "str" p2] [] pos) (cIsT .str_ ra) := q_isT .str_ hi ht bt_str he hg hg2 (by decide) (by decide) hs
theorem q_isT_tuple (hi : X.mg "isinstance" = none) (ht : X.mg "tuple" = none) (he : QE X e ra) (hg : Gl X "isinstance" := by rfl) (hg2 : Gl X "tuple" := by rfl) (hs : starEach [e, .Name "tuple" p2] X.env = (false, eval e X.env) :: starEach [.Name "tuple" p2] X.env := by rfl) : QE X (.Call (.Name "isinstance" p) [e, .Name "tuple" p2] [] pos) (cIsT .tuple_ ra) := q_isT .tuple_ hi ht bt_tuple he hg hg2 (by decide) (by decide) hs
/-! all of a list of bools -/
def blsV : List VV → Option (List Bool)
  | [] => some []
  | .bl b :: r => match blsV r with
    | some bs => some (b :: bs)
    | none => none
  | _ => none
theorem blsV_ok : ∀ {xs : List VV} {vs : List V} {bs : List Bool}, RVs K ρ xs vs → blsV xs = some bs → vs = bs.map V.bl
  | [], [], _, _, e => by cases e; rfl
  | x :: xs, v :: vs, bs, r, e => by
    unfold blsV at e
    split at e
    · rename_i q; cases q
    · rename_i b r9 q
      cases q
      split at e
      · rename_i bs' e2
        cases e
        rw [blsV_ok r.2 e2, show v = _ from r.1]
        rfl
      · cases e
    · cases e
  | [], _ :: _, _, r, _ => r.elim
  | _ :: _, [], _, r, _ => r.elim
theorem bls_map : ∀ {bs : List Bool}, bls (bs.map V.bl) = some bs
  | [] => rfl
  | b :: r => by show (bls (r.map V.bl)).map (b :: ·) = _; rw [bls_map]; rfl
def fAll : Nat → List VV → VH → Option (VV × VH)
  | _, [x], h => ob (lstOf h x) fun xs => ob (blsV xs) fun bs => some (.bl (bs.all id), h)
  | _, _, _ => none
theorem cc_all : CallC K rAll1 fAll := by
  intro ρ lo h h' H xs z vs Q S r run k
  unfold fAll at run
  split at run
  · obtain ⟨v, rfl, r9⟩ := r.one
    obtain ⟨ys, e1, run⟩ := ob_some run
    obtain ⟨bs, e2, run⟩ := ob_some run
    cases run
    obtain ⟨a, us, rfl, sq, rs⟩ := lstOf_ok S r9 e1
    have e3 := blsV_ok rs e2
    subst e3
    simp only [e_rAll1, f_r1R, sq, f_oL, bls_map, f_oV]
    exact k.now S rfl
  · cases run
theorem q_all (hc : X.calm = true) (hm : X.mg "all" = none) (ha : QA X (e :: es) la) (hg : Gl X "all" := by rfl) (he : starEach (e :: es) X.env = (false, eval e X.env) :: starEach es X.env := by rfl) (hpl : (backTo pos (starEach es X.env)).any (·.1) = false := by rfl) : QE X (.Call (.Name "all" p) (e :: es) [] pos) (cCB fAll la) := PE.imp (pe_callB (call_all1 hc) hg hm bt_all ha (by decide) (by decide) he hpl) fun _ _ _ d => i_cb cc_all d
end
end
end K95

set_option maxRecDepth 100000
set_option maxHeartbeats 4000000
namespace K95
open PySem PySem.Spec PyProof.Rows L2
noncomputable section
variable [Nu]
section
variable {X : Cx} {K : PySem.W.Frag} {σ : List (Option V)} {H H' : Hp} {Q : VK} {QB : Bool → Hp → Prop} {D : Ends} {ra rb rc ro : CE} {R R' : R2} {f f' : VV → VV → VH → Option (VV × VH)} {la lb : CA} {sa sb : CS} {ρ ρ' : List Addr} {lo k : Nat} {h h' : VH} {x y z : VV} {v u : V} {a b c e o : Expr} {es : List Expr} {pos p p2 tpos : Pos} {ci : CI} {tg iter : Expr} {elts : List Expr} {kk : Nat}
/-! the signs of a text -/
def cStrI (ra : CE) : CI := fun lo e h => bd (ra lo e h) fun x h1 => match x with
  | .str z => some (z.cps.toList.map fun c => Yv.one (.str ⟨#[c]⟩), h1)
  | _ => none
theorem i_strI {k : (n : Nat) → (Hp → Prop) → Yld → Hp → Prop} (d : denI K (cStrI ra) σ H k) : wS (den K ra) σ H k := by
  obtain ⟨ρ, lo, e, h, its, h', S, E, run, k⟩ := d
  obtain ⟨x, h1, e1, run⟩ := bd_some run
  refine ⟨ρ, lo, e, h, x, _, S, E, e1, fun ρ1 H1 v g1 S1 r1 => ?_⟩
  split at run
  · rename_i z
    cases run
    rw [show v = _ from r1, f_sR]
    refine k ρ1 H1 g1 S1 _ _ _ ⟨by simp, fun _ _ _ _ _ => True.intro, fun i it ρ2 h2 H2 k e g2 S2 q => ?_⟩
    rw [List.getElem?_map] at e
    cases e2 : z.cps.toList[i]? with
    | none => rw [e2] at e; cases e
    | some c =>
      rw [e2] at e
      cases e
      have e3 : z.cps[i]? = some c := by rw [← Array.getElem?_toList]; exact e2
      show oV _ z.cps[i]? _
      rw [e3]
      exact q _ rfl
  · cases run
theorem q_strI (h : QE X e ra) : PIY X tg e (denI X.K (cStrI ra)) := PI.imp (piy_str h) fun σ H R ⟨R0, q, m⟩ => ⟨R0, i_strI q, m⟩
/-! f-strings -/
def cFmt (ra : CE) : CE := fun lo e h => bd (ra lo e h) fun x h1 => match x with
  | .str z => match ble8 z.length with
    | true => some (.str z, h1)
    | false => none
  | .tx z => match ble8 z.length with
    | true => some (.tx z, h1)
    | false => none
  | _ => none
theorem q_fmt (he : QE X e ra) : QE X (.FormattedValue e (-1) none pos) (cFmt ra) := PE.imp (pe_fmt he) fun σ H Q d => by
  obtain ⟨ρ, lo, e, h, z, h', S, E, run, k⟩ := d
  obtain ⟨x, h1, e1, run⟩ := bd_some run
  refine ⟨ρ, lo, e, h, x, _, S, E, e1, fun ρ1 H1 v g1 S1 r1 => ?_⟩
  split at run
  · split at run
    · rename_i q
      cases run
      exact .inl ⟨_, r1, le8 q, (k.go g1).now S1 rfl⟩
    · cases run
  · split at run
    · rename_i q
      cases run
      exact .inl ⟨_, r1, by rw [dec_len]; exact le8 q, (k.go g1).now S1 rfl⟩
    · cases run
  · cases run
abbrev CJ : Type := Nat → En → List Nat → VH → Option (List Nat × VH)
def cJ0 : CJ := fun _ _ acc h => some (acc, h)
def cJC (ra : CE) (r : CJ) : CJ := fun lo e acc h => bd (ra lo e h) fun x h1 => ob (cod x) fun l => match ble8 (acc.length + l.length) with
  | true => r lo e (acc ++ l) h1
  | false => none
structure QJ (X : Cx) (es : List Expr) (r : CJ) : Prop where
  ex : ∃ ts, PJ X es ts ∧ ∀ {ρ : List Addr} {lo : Nat} {e : En} {h h' : VH} {σ : List (Option V)} {H : Hp} {acc z : List Nat} {Q : Str → Hp → Prop}, Sim X.K ρ h H → REn X.K ρ e σ → r lo e acc h = some (z, h') →
    (∀ ρ' H', Go ρ lo h H ρ' h' H' → Sim X.K ρ' h' H' → Q (mkS (z.map chD)) H') → tJs ts (mkS (acc.map chD)) σ H Q
theorem q_j0 : QJ X [] cJ0 := ⟨[], .nil, fun S E run k => by cases run; exact k _ _ Go.refl S⟩
theorem q_jc {rj : CJ} (he : QE X e ra) (r : QJ X es rj) : QJ X (e :: es) (cJC ra rj) := by
  obtain ⟨ts, h1, h2⟩ := r.ex
  refine ⟨_, .cons he h1, fun {ρ lo e h h' σ H acc z Q} S E run k => ?_⟩
  obtain ⟨x, h1, e1, run⟩ := bd_some run
  refine ⟨ρ, lo, e, h, x, h1, S, E, e1, fun ρ1 H1 v g1 S1 r1 => ?_⟩
  obtain ⟨l, e2, run⟩ := ob_some run
  split at run
  · rename_i q
    have ec : mkS (acc.map chD) ++ mkS (l.map chD) = mkS ((acc ++ l).map chD) := by rw [cat_list, List.map_append]
    refine ⟨_, cod_ok r1 e2, ?_, ?_⟩
    · rw [ec, mkS_len, List.length_map, List.length_append]
      exact le8 q
    · rw [ec]
      exact h2 S1 (E.mono g1.le) run fun ρ2 H2 g2 S2 => k ρ2 H2 (g1.trans g2) S2
  · cases run
def cFs (r : CJ) : CE := fun lo e h => bd (r lo e [] h) fun z h1 => some (nrm z, h1)
theorem q_fs {v1 v2 : Expr} {rest : List Expr} {rj : CJ} (r : QJ X (v1 :: v2 :: rest) rj) : QE X (.JoinedStr (v1 :: v2 :: rest) pos) (cFs rj) := by
  obtain ⟨ts, h1, h2⟩ := r.ex
  refine PE.imp (pe_joined h1) fun σ H Q d => ?_
  obtain ⟨ρ, lo, e, h, z, h', S, E, run, k⟩ := d
  obtain ⟨x, h1, e1, run⟩ := bd_some run
  cases run
  exact h2 (acc := []) S E e1 fun ρ1 H1 g1 S1 => k ρ1 H1 _ g1 S1 nrm_ok
/-! a try that goes through -/
theorem q_try {body orelse : List Stmt} {h₀ : ExceptHandler} {hs : List ExceptHandler} (hb : QSs X.nox body sa) (ho : QSs X orelse sb) : QS X (.Try body (h₀ :: hs) orelse [] pos) (cSeq sa sb) := PS.imp (ps_try_thru hb ho) fun D σ H d => i_seq d
/-! a property -/
def cPr (c : Cn) (f : CF) (ra : CE) : CE := fun lo e h => bd (ra lo e h) fun x h1 => match x with
  | .ref i => match h1.get i with
    | some (.ins c' _) => match c'.nat.beq c.nat with
      | true => f lo [x] h1
      | false => none
    | _ => none
  | _ => none
theorem i_pr {c : Cn} {f : CF} {E : XK} (d : den K (cPr c f ra) σ H Q) : tProp (c.ad K) (spC K f) [] E (den K ra) σ H Q := by
  obtain ⟨ρ, lo, e, h, z, h', S, E, run, k⟩ := d
  obtain ⟨x, h1, e1, run⟩ := bd_some run
  refine ⟨ρ, lo, e, h, x, h1, S, E, e1, fun ρ1 H1 v g1 S1 r1 => ?_⟩
  split at run
  · rename_i i
    split at run
    · rename_i c' fs q
      split at run
      · rename_i qc
        have r1' := r1
        obtain ⟨a, dx, gs, rfl, ea, eH, rf⟩ := insOf S1 r1 q
        exact ⟨a, dx, gs, rfl, Cn.inj qc ▸ eH, ρ1, lo, [VV.ref i], h1, z, h', S1, ⟨r1', True.intro⟩, run, k.go g1⟩
      · cases run
    · cases run
  · cases run
/-! isinstance with an own class: it is one -/
theorem insC_of {C : Addr} (cl : Cls K C) (ha : PySem.W.findIn K (.ref C) "__class__" = some (some (.builtin "object.__class__"))) (hn : PySem.W.specialIn K (.builtin "object.__class__") "__get__" = some (some (.builtin "getset_descriptor.__get__")))
    (htk : PySem.W.takesIn K (.builtin "object.__class__") = some true) (hm : PySem.W.mroIn K C (.type "object") = some true) : C8.InsC K C := ⟨cl, ha, hn, htk, hm, by unfold PySem.W.kitOne; rw [if_pos (beq_self_eq_true _)]⟩
def cIsC (c : Cn) (ra : CE) : CE := fun lo e h => bd (ra lo e h) fun x h1 => match x with
  | .ref i => match h1.get i with
    | some (.ins c' _) => match c'.nat.beq c.nat with
      | true => some (.bl true, h1)
      | false => none
    | _ => none
  | _ => none
theorem q_isC {T : Str} {C : Cn} (hi : X.mg "isinstance" = none) (ht : X.mg T = some (.ref (C.ad X.K))) (hc : C8.InsC X.K (C.ad X.K)) (he : QE X e ra) (hd : (T == ("__debug__" : Str)) = false := by decide) (hg : Gl X "isinstance" := by rfl) (hg2 : Gl X T := by rfl)
    (hs : starEach [e, .Name T p2] X.env = (false, eval e X.env) :: starEach [.Name T p2] X.env := by rfl) : QE X (.Call (.Name "isinstance" p) [e, .Name T p2] [] pos) (cIsC C ra) :=
  PE.imp (pe_callB (C8.call_isC hc) hg hi bt_isinstance (pa_cons he (pa_cons (pe_gr ht hg2 hd) pa_nil) hs) (he := hs)) fun σ H Q d => by
    obtain ⟨ρ, lo, e, h, z, h', S, E, run, k⟩ := d
    obtain ⟨x, h1, e1, run⟩ := bd_some run
    refine ⟨ρ, lo, e, h, x, h1, S, E, e1, fun ρ1 H1 v g1 S1 r1 => ?_⟩
    split at run
    · rename_i i
      split at run
      · rename_i c' fs q
        split at run
        · rename_i qc
          cases run
          obtain ⟨a, dx, gs, rfl, ea, eH, rf⟩ := insOf S1 r1 q
          exact ⟨a, dx, gs, rfl, Cn.inj qc ▸ eH, (k.go g1).now S1 rfl⟩
        · cases run
      · cases run
    · cases run
end
end
end K95

set_option maxRecDepth 100000
set_option maxHeartbeats 4000000
namespace K95
open PySem PySem.Spec PyProof.Rows L2
noncomputable section
variable [Nu]
/-! ### the defs known by laws of their own, as reckoned functions -/
theorem DefOk.of {P : Program} {w : World} {K : PySem.W.Frag} {mg : Str → Option Value} {base : Heap} {k : Nat} {x : Str} {dvs : List V} {sp sp' : Sp} (D : DefOk P w K mg base k x dvs sp) (g : ∀ vs H Q E, sp' vs H Q E → sp vs H Q E) : DefOk P w K mg base k x dvs sp' := by
  obtain ⟨f, fd, ps, ds, hm, hk, F, b, v⟩ := D.ex
  exact ⟨f, fd, ps, ds, hm, hk, K95.FnOk.of F g, b, v⟩
section
variable {P : Program} {w : World} {K : PySem.W.Frag} {mg : Str → Option Value} {base : Heap} {ρ : List Addr}
theorem RVs.thr {x y z : VV} {vs : List V} (r : RVs K ρ [x, y, z] vs) : ∃ v u t, vs = [v, u, t] ∧ RV K ρ x v ∧ RV K ρ y u ∧ RV K ρ z t := by
  match vs, r with
  | [v, u, t], r => exact ⟨v, u, t, rfl, r.1, r.2.1, r.2.2.1⟩
  | [_], r => exact r.2.elim
  | [_, _], r => exact r.2.2.elim
  | _ :: _ :: _ :: _ :: _, r => exact r.2.2.2.elim
def nmL : List Str := [mkS [113], mkS [97], mkS [122, 122], mkS [99, 104, 97, 112, 116, 101, 114], mkS [112, 97, 114, 116], mkS [122], mkS [102, 105, 103], mkS [109, 111, 114, 101], mkS [98], mkS [111, 110, 101], mkS [116, 119, 111], mkS [116, 104, 114, 101, 101]]
def figK : Str := mkS [102, 105, 103, 117, 114, 101, 115]
def letK : Str := mkS [108, 101, 116, 116, 101, 114, 115]
theorem figK_eq : figK = "figures" := by decide +kernel
theorem letK_eq : letK = "letters" := by decide +kernel
theorem nmL_ok : ∀ z ∈ nmL, NameOk z := by decide +kernel
def nmOk (z : Str) : Bool := nmL.any fun y => seqS z y
theorem nmOk_ok {z : Str} (h : nmOk z = true) : NameOk z := by
  obtain ⟨y, m, e⟩ := List.any_eq_true.1 h
  rw [seqS_t e]
  exact nmL_ok y m
def c_IsName : CF := fun _ xs h => match xs with
  | [.str z] => match nmOk z with
    | true => some (.bl true, h)
    | false => none
  | _ => none
theorem ok_IsName (c : Ctx w K mg) : DefOk P w K mg base 1 "is_name" [] (spC K c_IsName) := (ok_isName c).of fun vs H Q E d => by
  obtain ⟨ρ, lo, xs, h, z, h', S, r, run, k⟩ := d
  unfold c_IsName at run
  split at run
  · rename_i s
    split at run
    · rename_i q
      cases run
      obtain ⟨v, rfl, r9⟩ := r.one
      exact ⟨s, by rw [show v = _ from r9], nmOk_ok q, k.now S rfl⟩
    · cases run
  · cases run
def c_IsInteger : CF := fun _ xs h => match xs with
  | [.int i, .int l, .non] => some (.bl (decide (l ≤ i)), h)
  | [.int i, .int l, .int u] => some (.bl (decide (l ≤ i) && decide (i ≤ u)), h)
  | [.sy a _ _ _, .int (.ofNat l), .non] => match l.ble a with
    | true => some (.bl true, h)
    | false => none
  | [.sy a b c d, .int (.ofNat l), .int (.ofNat u)] => match l.ble a && (sHi a b c d).ble u with
    | true => some (.bl true, h)
    | false => none
  | _ => none
theorem c_isInteger {vs : List V} {H : Hp} {Q : VK} {E : XK} (d : spC K c_IsInteger vs H Q E) : spIsInt vs H Q E := by
  obtain ⟨ρ, lo, xs, h, z, h', S, r, run, k⟩ := d
  unfold c_IsInteger at run
  split at run
  · cases run
    obtain ⟨v, u, t, rfl, r1, r2, r3⟩ := r.thr
    exact .inl ⟨_, _, by rw [show v = _ from r1, show u = _ from r2, show t = _ from r3], k.now S rfl⟩
  · cases run
    obtain ⟨v, u, t, rfl, r1, r2, r3⟩ := r.thr
    exact .inr ⟨_, _, _, by rw [show v = _ from r1, show u = _ from r2, show t = _ from r3], k.now S rfl⟩
  · rename_i a b c d l
    split at run
    · rename_i q
      cases run
      obtain ⟨v, u, t, rfl, r1, r2, r3⟩ := r.thr
      refine .inl ⟨_, _, by rw [show v = _ from r1, show u = _ from r2, show t = _ from r3], k.now S ?_⟩
      have h1 := Nat.le_of_ble_eq_true q
      have h2 := svN_ge (a := a) (b := b) (c := c) (d := d)
      show V.bl _ = V.bl _
      congr 1
      exact decide_eq_true (by show ((l : Nat) : Int) ≤ (svN a b c d : Nat); omega)
    · cases run
  · rename_i a b c d l m
    split at run
    · rename_i q
      cases run
      obtain ⟨v, u, t, rfl, r1, r2, r3⟩ := r.thr
      refine .inr ⟨_, _, _, by rw [show v = _ from r1, show u = _ from r2, show t = _ from r3], k.now S ?_⟩
      obtain ⟨q1, q2⟩ := Bool.and_eq_true_iff.1 q
      have h1 := Nat.le_of_ble_eq_true q1
      have h2 := svN_ge (a := a) (b := b) (c := c) (d := d)
      have h3 := Nat.le_of_ble_eq_true q2
      have h4 := svN_le (a := a) (b := b) (c := c) (d := d)
      show V.bl _ = V.bl _
      congr 1
      refine Bool.and_eq_true_iff.2 ⟨decide_eq_true ?_, decide_eq_true ?_⟩
      · show ((l : Nat) : Int) ≤ (svN a b c d : Nat)
        omega
      · show ((svN a b c d : Nat) : Int) ≤ (m : Nat)
        omega
    · cases run
  · cases run
theorem ok_IsInteger2 (c : Ctx w K mg) : DefOk P w K mg base 1 "is_integer" [.non] (spC K c_IsInteger) := (ok_isInteger2 c).of fun _ _ _ _ d => c_isInteger d
theorem ok_IsInteger3 (c : Ctx w K mg) : DefOk P w K mg base 1 "is_integer" [] (spC K c_IsInteger) := (ok_isInteger3 c).of fun _ _ _ _ d => c_isInteger d
/-- the code of a sum -/
def codN (a b c d : Nat) : Nat := a + 8 * b + 64 * c + 512 * d
def codOk (q a b c d : Nat) : Bool := (q % 8).beq a && ((q / 8 % 8).beq b && ((q / 64 % 8).beq c && (q / 512 % 8).beq d))
theorem cod_sv {q a b c d : Nat} (h : codOk q a b c d = true) : svQ q = svN a b c d := by
  unfold codOk at h
  simp only [Bool.and_eq_true, Nat.beq_eq] at h
  obtain ⟨h1, h2, h3, h4⟩ := h
  unfold svQ
  rw [h1, h2, h3, h4]
theorem big_no {q r : Nat} : (4096 + 2 * q + r).blt 4096 = false := by
  cases e : (4096 + 2 * q + r).blt 4096 with
  | false => rfl
  | true =>
    rw [Nat.blt_eq] at e
    omega
theorem ch_fig {q : Nat} (h : svQ q ≤ 9) : chD (4096 + 2 * q + 0) = 48 + svQ q := by
  have e2 : (4096 + 2 * q + 0) % 2 = 0 := by omega
  have e3 : (4096 + 2 * q + 0 - 4096) / 2 = q := by omega
  unfold chD
  rw [big_no, e2, e3]
  show 48 + min 9 (svQ q) = _
  omega
theorem ch_let {q : Nat} (h : svQ q ≤ 26) : chD (4096 + 2 * q + 1) = if svQ q = 0 then 45 else 96 + svQ q := by
  have e2 : (4096 + 2 * q + 1) % 2 = 1 := by omega
  have e3 : (4096 + 2 * q + 1 - 4096) / 2 = q := by omega
  unfold chD
  rw [big_no, e2, e3]
  show (match svQ q with | 0 => 45 | v + 1 => 97 + min 25 v) = _
  cases e : svQ q with
  | zero => rfl
  | succ v =>
    rw [e] at h
    rw [if_neg (by omega)]
    show 97 + min 25 v = _
    omega
theorem fig_one {n : Nat} (h : n ≤ 9) : numT true n = mkS [48 + n] := by
  show digs n = _
  unfold digs
  rw [if_pos (by omega)]
  rfl
theorem let_one {n : Nat} : numT false n = mkS [if n = 0 then 45 else 96 + n] := by
  show (if n = 0 then _ else lett n) = _
  by_cases h : n = 0
  · rw [if_pos h, if_pos h]
    decide +kernel
  · rw [if_neg h, if_neg h]
    rfl
/-- the text of a sum -/
def numTS (f : Str) (a b c d : Nat) : Option VV := match codOk (codN a b c d) a b c d with
  | true => match seqS f figK && (sHi a b c d).ble 9 with
    | true => some (.tx (mkS [4096 + 2 * codN a b c d + 0]))
    | false => match seqS f letK && (sHi a b c d).ble 26 with
      | true => some (.tx (mkS [4096 + 2 * codN a b c d + 1]))
      | false => none
  | false => none
def c_NumberText : CF := fun _ xs h => match xs with
  | [.str f, .sy a b c d] => ob (numTS f a b c d) fun z => some (z, h)
  | [.str f, .int (.ofNat n)] => match seqS f figK && n.blt 100 with
    | true => some (.str (numT true n), h)
    | false => match seqS f letK && n.ble 26 with
      | true => some (.str (numT false n), h)
      | false => none
  | _ => none
theorem ok_NumberText (c : Ctx w K mg) : DefOk P w K mg base 2 "number_text" [] (spC K c_NumberText) := (ok_numberText c).of fun vs H Q E d => by
  obtain ⟨ρ, lo, xs, h, z, h', S, r, run, k⟩ := d
  unfold c_NumberText at run
  split at run
  · rename_i f a b c d
    obtain ⟨z', e1, run⟩ := ob_some run
    cases run
    obtain ⟨v, u, rfl, r1, r2⟩ := r.two
    rw [show v = _ from r1, show u = _ from r2]
    have hs := svN_le (a := a) (b := b) (c := c) (d := d)
    unfold numTS at e1
    split at e1
    · rename_i q0
      have ec := cod_sv q0
      split at e1
      · rename_i q
        cases e1
        obtain ⟨q1, q2⟩ := Bool.and_eq_true_iff.1 q
        have e := (seqS_t q1).trans figK_eq
        subst e
        have q2 := Nat.le_of_ble_eq_true q2
        refine ⟨true, svN a b c d, rfl, by show svN a b c d < 100; omega, k.now S ?_⟩
        show V.str _ = V.str _
        rw [dec_mk, List.map_cons, List.map_nil, ch_fig (by omega), ec, fig_one (by omega)]
      · split at e1
        · rename_i q
          cases e1
          obtain ⟨q1, q2⟩ := Bool.and_eq_true_iff.1 q
          have e := (seqS_t q1).trans letK_eq
          subst e
          have q2 := Nat.le_of_ble_eq_true q2
          refine ⟨false, svN a b c d, rfl, by show svN a b c d ≤ 26; omega, k.now S ?_⟩
          show V.str _ = V.str _
          rw [dec_mk, List.map_cons, List.map_nil, ch_let (by omega), ec, let_one]
        · cases e1
    · cases e1
  · rename_i f n
    obtain ⟨v, u, rfl, r1, r2⟩ := r.two
    rw [show v = _ from r1, show u = _ from r2]
    split at run
    · rename_i q
      cases run
      obtain ⟨q1, q2⟩ := Bool.and_eq_true_iff.1 q
      have e := (seqS_t q1).trans figK_eq
      subst e
      exact ⟨true, n, rfl, by simpa using q2, k.now S rfl⟩
    · split at run
      · rename_i q
        cases run
        obtain ⟨q1, q2⟩ := Bool.and_eq_true_iff.1 q
        have e := (seqS_t q1).trans letK_eq
        subst e
        exact ⟨false, n, rfl, Nat.le_of_ble_eq_true q2, k.now S rfl⟩
      · cases run
  · cases run
def c_ReadNumber : CF := fun _ xs h => match xs with
  | [.str f, .tx t] => match seqS f figK with
    | true => match lis t with
      | [c] => (fun q : Nat => match c.beq (4096 + 2 * q + 0) && (sHi (q % 8) (q / 8 % 8) (q / 64 % 8) (q / 512 % 8)).ble 9 with
        | true => some (.sy (q % 8) (q / 8 % 8) (q / 64 % 8) (q / 512 % 8), h)
        | false => none) ((c - 4096) / 2)
      | _ => none
    | false => none
  | [.str f, .str t] => match seqS f figK with
    | true => (fun n : Nat => match n.blt 100 && seqS (numT true n) t with
      | true => some (.int (n : Nat), h)
      | false => none) (match t.cps.toList with
        | [a] => a - 48
        | [a, b] => (a - 48) * 10 + (b - 48)
        | _ => 100)
    | false => (fun n : Nat => match seqS f letK && (Nat.ble 1 n && (n.ble 26 && seqS (numT false n) t)) with
      | true => some (.int (n : Nat), h)
      | false => none) (match t.cps.toList with
        | [a] => a - 96
        | _ => 100)
  | _ => none
theorem ok_ReadNumber (c : Ctx w K mg) : DefOk P w K mg base 1 "read_number" [] (spC K c_ReadNumber) := (ok_readNumber c).of fun vs H Q E d => by
  obtain ⟨ρ, lo, xs, h, z, h', S, r, run, k⟩ := d
  unfold c_ReadNumber at run
  split at run
  · rename_i f t
    split at run
    · rename_i q0
      have e0 := (seqS_t q0).trans figK_eq
      subst e0
      split at run
      · rename_i c ec
        revert run
        generalize (c - 4096) / 2 = q
        intro run
        dsimp only at run
        split at run
        · rename_i q2
          cases run
          obtain ⟨q2, q3⟩ := Bool.and_eq_true_iff.1 q2
          have q2 := beq_t q2
          have q3 := Nat.le_of_ble_eq_true q3
          obtain ⟨v, u, rfl, r1, r2⟩ := r.two
          have hs := svN_le (a := q % 8) (b := q / 8 % 8) (c := q / 64 % 8) (d := q / 512 % 8)
          have hq : svQ q ≤ 9 := by unfold svQ; omega
          have et : dec t = numT true (svQ q) := by
            rw [← mkS_lis (z := t), ec, dec_mk, List.map_cons, List.map_nil, q2, ch_fig hq, fig_one hq]
          rw [show v = _ from r1, show u = _ from r2, et]
          exact ⟨true, svQ q, rfl, by show svQ q < 100; omega, k.now S rfl⟩
        · cases run
      · cases run
    · cases run
  · rename_i f t
    obtain ⟨v, u, rfl, r1, r2⟩ := r.two
    rw [show v = _ from r1, show u = _ from r2]
    split at run
    · rename_i q0
      have e0 := (seqS_t q0).trans figK_eq
      subst e0
      revert run
      generalize (match t.cps.toList with | [a] => a - 48 | [a, b] => (a - 48) * 10 + (b - 48) | _ => 100) = n
      intro run
      dsimp only at run
      split at run
      · rename_i q
        cases run
        obtain ⟨q1, q2⟩ := Bool.and_eq_true_iff.1 q
        have e := seqS_t q2
        subst e
        exact ⟨true, n, rfl, by simpa using q1, k.now S rfl⟩
      · cases run
    · revert run
      generalize (match t.cps.toList with | [a] => a - 96 | _ => 100) = n
      intro run
      dsimp only at run
      split at run
      · rename_i q
        cases run
        obtain ⟨q1, q2⟩ := Bool.and_eq_true_iff.1 q
        obtain ⟨q5, q3⟩ := Bool.and_eq_true_iff.1 q2
        obtain ⟨q6, q4⟩ := Bool.and_eq_true_iff.1 q3
        have e := (seqS_t q1).trans letK_eq
        have e' := seqS_t q4
        subst e
        subst e'
        exact ⟨false, n, rfl, ⟨Nat.le_of_ble_eq_true q5, Nat.le_of_ble_eq_true q6⟩, k.now S rfl⟩
      · cases run
  · cases run
end
end
end K95

set_option maxRecDepth 100000
set_option maxHeartbeats 4000000
namespace K95
open PySem PySem.Spec PyProof.Rows L2
noncomputable section
variable [Nu]
/-! ### which dict is held -/
def hV (i : Nat) : Hint := fun _ e _ => match e[i]? with
  | some (some (.ref n)) => some n
  | _ => none
def hF (i : Nat) (f : Fn) : Hint := fun _ e h => match e[i]? with
  | some (some (.ref n)) => match h.get n with
    | some (.ins _ fs) => match lkF f fs with
      | some (.ref m) => some m
      | _ => none
    | _ => none
  | _ => none
section
variable {X : Cx} {ga : CG} {ct : CT} {ra : CE}
/-- name = [..] on one line, the name a local -/
theorem q_setLc {i : Nat} {y : Str} {py : Pos} {elt tg iter : Expr} {ifs : List Expr} {scope : Scope} {own : List (Str × Nat)} {pos spos : Pos} {wy : CI} (hc : X.calm = true) (hN : X.N.Nodup) (hy : X.N[i]? = some y) (hi : PIY X tg iter (denI X.K wy)) (ok : BlkOk X.N X.env.scope scope own)
    (hg : ∀ (s : Shared) (H : Hp) (C : Addr) (cl : List (Str × Addr)) (fp : List Addr), QG (X.blk s H scope (compEnvC scope cl C X.env) fp) tg ga) (ht : ∀ (s : Shared) (H : Hp) (C : Addr) (cl : List (Str × Addr)) (fp : List Addr), PTs (X.blk s H scope (compEnvC scope cl C X.env) fp) ifs (denT X.K ct))
    (he : ∀ (s : Shared) (H : Hp) (C : Addr) (cl : List (Str × Addr)) (fp : List Addr), QE (X.blk s H scope (compEnvC scope cl C X.env) fp) elt ra) (gi : GIn (own.map (·.2)) ga) (hyl : X.env.scope.names.lookup y = some .local := by rfl) (hk : X.env.scope.kind = .function := by rfl)
    (hl : (py.line == pos.line) = true := by rfl) (hn : (scope.names.any fun (n, k) => n == y && (k == .local || k == .cell)) = false := by rfl) (hs : ∀ x, foldedSetIterable iter X.env x = pure x := by intro _; rfl) :
    QS X (.Assign [.Name y py] (.ListComp elt [⟨tg, iter, ifs, 0⟩] scope pos) spos) (cAsg (cLc wy ga ct ra (own.map (·.2))) (cN i)) :=
  PS.imp (ps_setLc hc hN hy hyl (sw_true hk hyl hl hn) hi ok (fun s H C cl fp => pg_M (hg s H C cl fp)) (fun s H C cl fp => pts_M (ht s H C cl fp)) (fun s H C cl fp => pe_M (he s H C cl fp)) hs) fun D σ H d => by
    have q : den X.K (cLc wy ga ct ra (own.map (·.2))) σ H (fun x H1 => gName i x σ H1 D.nx) := by
      obtain ⟨ρ, lo, e, h, f, S, E, run, k⟩ := d
      obtain ⟨x, h1, e1, run⟩ := bd_some run
      cases run
      exact ⟨ρ, lo, e, h, x, _, S, E, e1, fun ρ1 H1 v g1 S1 r1 => k ρ1 _ H1 g1 S1 ((E.mono g1.le).set (x := some x) (v := some v) r1)⟩
    exact ⟨_, i_lc gi q, fun n G Y H1 q J w D nD => lc_unr w (q D nD)⟩
end
end
end K95

set_option maxRecDepth 100000
set_option maxHeartbeats 4000000
namespace K95
open PySem PySem.Spec PyProof.Rows L2
noncomputable section
variable [Nu]
/-! ### zip and enumerate over a list or a tuple -/
inductive SK where
  | l | t
def SK.at_ (k : SK) (K : PySem.W.Frag) (H : Hp) (a : Addr) (xs : List V) : Prop := match k with
  | .l => SqL K H a xs
  | .t => SqT K H a xs
def SK.it (k : SK) (h : Heap) (it a : Addr) (i : Nat) : Prop := match k with
  | .l => h.IsListIter it a i
  | .t => h.IsTupleIter it a i
def SK.is (k : SK) (h : Heap) (a : Addr) (items : Array Value) : Prop := match k with
  | .l => h.IsList a items
  | .t => h.IsTuple a items
def SK.io (k : SK) (a : Addr) : Obj := match k with
  | .l => { cls := .type "list_iterator", data := .fields #[.ref a, .int 0 0] }
  | .t => { cls := .type "tuple_iterator", data := .fields #[.ref a, .int 0 0] }
section
variable {X : Cx} {pins : List (Addr × Obj)} {σ : L2.St} {H : Hp} {s : Shared} {a it : Addr} {xs ys : List V} {h h' : Heap} {i : Nat} {items : Array Value}
theorem SK.get (k : SK) (I : Inv X pins σ H s) (q : k.at_ X.K H a xs) : ∃ its : List Value, Vals xs its ∧ k.is s.heap a its.toArray := by
  cases k with
  | l => obtain ⟨its, r, p, _⟩ := I.list q; exact ⟨its, r, p.isList⟩
  | t => obtain ⟨its, r, p, _⟩ := I.tuple q; exact ⟨its, r, p⟩
theorem SK.inj (k : SK) (I : Inv X pins σ H s) (q : k.at_ X.K H a xs) (q' : k.at_ X.K H a ys) : xs = ys := by
  cases k with
  | l => exact I.list_inj q q'
  | t => exact I.tuple_inj q q'
theorem SK.draws (k : SK) {prog : Program} {w : World} {A : Around} (hh : A.handled = none) (hne : a ≠ it) : Draws prog w A it [it, a] items.size (fun i v => items[i]? = some v) (fun i h => k.it h it a i ∧ k.is h a items) := by
  cases k with
  | l => exact Draws.list hh it a hne items
  | t => exact Draws.tuple hh it a hne items
theorem SK.begins (k : SK) (a : Addr) (items : Array Value) : Begins (.ref a) (k.io a) (fun h => k.is h a items) := by
  cases k with
  | l => exact begins_list a items
  | t => exact begins_tuple a items
theorem SK.it0 (k : SK) (e : h.get? it = some (k.io a)) : k.it h it a 0 := by
  cases k with
  | l => exact ⟨_, e, rfl, rfl⟩
  | t => exact ⟨_, e, rfl, rfl⟩
theorem SK.it_at (k : SK) (q : k.it h it a i) (e : ∀ o, h.get? it = some o → h'.get? it = some o) : k.it h' it a i := by
  cases k with
  | l => exact Heap.IsListIter.at q e
  | t => exact Heap.IsTupleIter.at q e
theorem SK.it_obj (k : SK) (q : k.it h it a i) : ∃ o vs, h.get? it = some o ∧ o.data = .fields vs := by
  cases k with
  | l => obtain ⟨o, e, _, d⟩ := q; exact ⟨o, _, e, d⟩
  | t => obtain ⟨o, e, _, d⟩ := q; exact ⟨o, _, e, d⟩
theorem SK.is_lt (k : SK) (q : k.is h a items) : a < h.objs.size := by
  cases k with
  | l => obtain ⟨o, e, _⟩ := q; exact Heap.lt_size e
  | t => obtain ⟨o, e, _⟩ := q; exact Heap.lt_size e
end
def ItzU (k1 k2 : SK) (K : PySem.W.Frag) (a b : Addr) : It :=
  ⟨fun i H => ∃ (xs ys : List V) (x y : V), k1.at_ K H a xs ∧ k2.at_ K H b ys ∧ xs[i]? = some x ∧ ys[i]? = some y,
    fun i H v H' => ∃ T x y, v = .ref T ∧ H T = none ∧ H' = upd H T (.tup [x, y]) ∧ (∀ xs, k1.at_ K H a xs → xs[i]? = some x) ∧ ∀ ys, k2.at_ K H b ys → ys[i]? = some y,
    fun i H => ∃ xs ys : List V, k1.at_ K H a xs ∧ k2.at_ K H b ys ∧ i ≤ xs.length ∧ i ≤ ys.length ∧ (i = xs.length ∨ i = ys.length)⟩
theorem sep_of {a b z TI TO i1 i2 : Addr} (D : ZipApart z TI TO i1 i2 a b) : ZipSep2 z TI TO i1 i2 [i1, a] [i2, b] where
  TIz := D.TIz
  TOz := D.TOz
  TITO := D.TITO
  TIi1 := D.TIi1
  mem1 := by simp
  zf1 := by simp [D.i1z.symm, D.l1z.symm]
  Tf1 := by simp [D.TOi1, D.l1TO.symm]
  TIi2 := D.TIi2
  mem2 := by simp
  zf2 := by simp [D.i2z.symm, D.l2z.symm]
  Tf2 := by simp [D.TOi2, D.l2TO.symm]
  sep1_2 := by simp [D.i12, D.l2i1.symm]
  sep2_1 := by simp [D.i12.symm, D.l1i2.symm]
theorem turn_zipU (k1 k2 : SK) {P : Program} {w : World} {K : PySem.W.Frag} {elts : List Expr} {kk : Nat} {tpos : Pos} {a b z TI TO i1 i2 : Addr} (D : ZipApart z TI TO i1 i2 a b) :
    Turn P w K (.Tuple elts kk tpos) (ItzU k1 k2 K a b) [z, TI, TO, i1, i2] z (fun i h => IsZip h z TI TO .none ∧ IsPair h TI (.ref i1) (.ref i2) ∧ (∃ x y, IsPair h TO x y) ∧ k1.it h i1 a i ∧ k2.it h i2 b i) where
  mem := by simp
  obj := fun i h st c hc => by
    obtain ⟨hz, hTI, ⟨x, y, hTO⟩, h1, h2⟩ := st
    obtain ⟨o1, vs1, e1, d1⟩ := k1.it_obj h1
    obtain ⟨o2, vs2, e2, d2⟩ := k2.it_obj h2
    have e' : c = z ∨ c = TI ∨ c = TO ∨ c = i1 ∨ c = i2 := by simpa using hc
    rcases e' with q | q | q | q | q
    · rw [q]; exact ⟨_, hz, fun v q => nomatch q⟩
    · rw [q]; exact ⟨_, hTI, fun v q => nomatch q⟩
    · rw [q]; exact ⟨_, hTO, fun v q => nomatch q⟩
    · rw [q]; exact ⟨o1, e1, fun v q => by rw [d1] at q; cases q⟩
    · rw [q]; exact ⟨o2, e2, fun v q => by rw [d2] at q; cases q⟩
  keep := fun i h h' st k => by
    obtain ⟨hz, hTI, ⟨x, y, hTO⟩, h1, h2⟩ := st
    exact ⟨k z (by simp) _ hz, k TI (by simp) _ hTI, ⟨x, y, k TO (by simp) _ hTO⟩, k1.it_at h1 fun o q => k i1 (by simp) o q, k2.it_at h2 fun o q => k i2 (by simp) o q⟩
  item := by
    intro X hP hw hK hc i pins s σ H E I hf st hg
    subst hP hw hK
    obtain ⟨hz, hTI, ⟨x0, y0, hTO⟩, h1, h2⟩ := st
    obtain ⟨xs, ys, x, y, hqx, hqy, hx, hy⟩ := hg
    obtain ⟨its, rv, p⟩ := k1.get I hqx
    obtain ⟨its2, rv2, p2⟩ := k2.get I hqy
    obtain ⟨u, hu, ru⟩ := rv.get hx
    obtain ⟨u2, hu2, ru2⟩ := rv2.get hy
    have hzl : z < s.heap.objs.size := Heap.lt_size hz
    have hh : X.A.in1.handled = none := I.ok.hd hc
    have lt1 : i < its.toArray.size := by simpa using (List.getElem?_eq_some_iff.1 hu).1
    have lt2 : i < its2.toArray.size := by simpa using (List.getElem?_eq_some_iff.1 hu2).1
    refine wpAny_pyNext_zipD2_item (sep_of D) (k1.draws hh D.l1i1) (k2.draws hh D.l2i2) hz hTI hTO ⟨h1, p⟩ ⟨h2, p2⟩ lt1 lt2 fun x1 x2 h' tk q1 q2 z' TO' st1 st2 hT hsz hk => ?_
    have ex1 : x1 = u := by
      have : its.toArray[i]? = some u := by simpa using hu
      rw [this] at q1
      exact (Option.some.inj q1).symm
    have ex2 : x2 = u2 := by
      have : its2.toArray[i]? = some u2 := by simpa using hu2
      rw [this] at q2
      exact (Option.some.inj q2).symm
    subst ex1
    subst ex2
    have hTIk : IsPair h' TI (.ref i1) (.ref i2) := hk _ _ D.TIz D.TITO D.TIi1 D.TIi2 hTI
    refine ⟨_, rfl, wpAny_letOwnedTupleGo_zip (s := { s with heap := h', toks := tk }) z' fun h'' z'' sb => ?_⟩
    have hT2 : h''.get? s.heap.objs.size = some { cls := .type "tuple", data := .seq #[x1, x2] } := (sb.2 _ (Nat.ne_of_gt hzl)).trans hT
    have new : ObjOk X.prog X.w (L2.upd H s.heap.objs.size (.tup [x, y])) h'' s.heap.objs.size (.tup [x, y]) :=
      ⟨by show 2 ≤ sizeLine; decide, [x1, x2], .cons ru (.cons ru2 .nil), ⟨_, hT2, rfl, _, rfl⟩⟩
    have I1 : Inv X pins σ (L2.upd H s.heap.objs.size (.tup [x, y])) { s with heap := h'', toks := tk } :=
      I.turnedNew (t' := tk) (ch := [z, TI, TO, i1, i2]) (fun c o hb q => (sb.2 c (fun q' => hb (by simp [q']))).trans (hk c o (fun q' => hb (by simp [q'])) (fun q' => hb (by simp [q'])) (fun q' => hb (by simp [q'])) (fun q' => hb (by simp [q'])) q)) hf (Nat.le_refl _) new
    refine ⟨.ref s.heap.objs.size, _, I1, rfl, ⟨_, x, y, rfl, I.hok.fresh (Nat.le_refl _), rfl, fun l hl => by rw [k1.inj I hl hqx]; exact hx, fun l hl => by rw [k2.inj I hl hqy]; exact hy⟩, ⟨z'', ?_, ⟨x1, x2, ?_⟩, ?_, ?_⟩, fun c hcm => ?_⟩
    · exact (sb.2 _ D.TIz).trans hTIk
    · exact (sb.2 _ D.TOz).trans TO'
    · exact k1.it_at st1.1 fun o q => (sb.2 _ D.i1z).trans q
    · exact k2.it_at st2.1 fun o q => (sb.2 _ D.i2z).trans q
    · have hlt : c < s.heap.objs.size := by
        have e' : c = z ∨ c = TI ∨ c = TO ∨ c = i1 ∨ c = i2 := by simpa using hcm
        obtain ⟨o1, _, e1, _⟩ := k1.it_obj h1
        obtain ⟨o2, _, e2, _⟩ := k2.it_obj h2
        rcases e' with q | q | q | q | q
        · rw [q]; exact hzl
        · rw [q]; exact Heap.lt_size hTI
        · rw [q]; exact Heap.lt_size hTO
        · rw [q]; exact Heap.lt_size e1
        · rw [q]; exact Heap.lt_size e2
      rw [upd_ne (Nat.ne_of_lt hlt)]
      exact (hf c hcm).1
  done := by
    intro X hP hw hK hc i pins s σ H E I hf st hg
    subst hP hw hK
    obtain ⟨hz, hTI, ⟨x0, y0, hTO⟩, h1, h2⟩ := st
    obtain ⟨xs, ys, hqx, hqy, le1, le2, hend⟩ := hg
    obtain ⟨its, rv, p⟩ := k1.get I hqx
    obtain ⟨its2, rv2, p2⟩ := k2.get I hqy
    have l1 := rv.length
    have l2 := rv2.length
    have hh : X.A.in1.handled = none := I.ok.hd hc
    exact wpAny_pyNext_zipD2_end (sep_of D) (k1.draws hh D.l1i1) (k2.draws hh D.l2i2) hz hTI hTO ⟨h1, p⟩ ⟨h2, p2⟩ (by simp; omega) (by simp; omega) (by simp; omega) fun h' tk hk => ⟨rfl, I.turnedL (t' := tk) (ch := [z, TI, TO, i1, i2]) (fun c o hb q =>
      hk c o (fun q' => hb (by simp [q'])) (fun q' => hb (by simp [q'])) (fun q' => hb (by simp [q'])) (fun q' => hb (by simp [q'])) q) hf⟩
  self := fun A i s Q E st h => wpAny_pyIter_zip st.1 h
def iZipU (K : PySem.W.Frag) (ta : TA) : TI := fun σ H R => ta σ H fun vs H1 => ∃ k1 k2 a b xs ys, vs = [.ref a, .ref b] ∧ SK.at_ k1 K H1 a xs ∧ SK.at_ k2 K H1 b ys ∧ R (ItzU k1 k2 K a b) H1
theorem pi_zipU {X : Cx} {e e2 : Expr} {ta : TA} {p pos tpos : Pos} {elts : List Expr} {kk : Nat} (hg : Gl X "zip") (hm : X.mg "zip" = none) (ha : PA X [e, e2] ta)
    (hs : starEach [e, e2] X.env = (false, eval e X.env) :: starEach [e2] X.env := by rfl) (hpl : (backTo pos (starEach [e2] X.env)).any (·.1) = false := by rfl) :
    PI X (.Tuple elts kk tpos) (.Call (.Name "zip" p) [e, e2] [] pos) (iZipU X.K ta) := by
  refine ⟨fun pins s σ H R I h => ?_⟩
  refine Call_ (ld_blt I hg hm PyProof.Rows.boot_zip (PyProof.Rows.callWith_type1 (thn (ha.run pos pins s σ H _ I h) fun us s1 ⟨vs, H1, I1, r1, q1⟩ => ?_) hs hpl))
  obtain ⟨k1, k2, a, b, xs, ys, ex, hqx, hqy, q⟩ := q1
  subst ex
  cases r1 with
  | cons r rr =>
    cases rr with
    | cons r' rr =>
      cases rr
      cases r
      cases r'
      have fresh5 : ∀ c, c ∈ [s1.heap.objs.size + 4, s1.heap.objs.size + 2, s1.heap.objs.size + 3, s1.heap.objs.size, s1.heap.objs.size + 1] → FpOk X pins H1 c := fun c hcm => by
        have e' : c = s1.heap.objs.size + 4 ∨ c = s1.heap.objs.size + 2 ∨ c = s1.heap.objs.size + 3 ∨ c = s1.heap.objs.size ∨ c = s1.heap.objs.size + 1 := by simpa using hcm
        have hle : s1.heap.objs.size ≤ c := by
          rcases e' with z | z | z | z | z
          · rw [z]; exact Nat.le_add_right _ _
          · rw [z]; exact Nat.le_add_right _ _
          · rw [z]; exact Nat.le_add_right _ _
          · rw [z]; exact Nat.le_refl _
          · rw [z]; exact Nat.le_add_right _ _
        exact I1.fpOk hle (I1.hok.fresh hle)
      obtain ⟨its, rv, p1⟩ := k1.get I1 hqx
      obtain ⟨its2, rv2, p2⟩ := k2.get I1 hqy
      refine zip_begins2 (k1.begins a its.toArray) (k2.begins b its2.toArray) p1 p2 fun h' hz hTI hTO h1 h2 hsz hk => wpAny_pyIter_zip hz ?_
      have I2 : Inv X pins σ H1 { s1 with heap := h' } := I1.kept (t' := s1.toks) hk
      exact ⟨s1.heap.objs.size + 4, [s1.heap.objs.size + 4, s1.heap.objs.size + 2, s1.heap.objs.size + 3, s1.heap.objs.size, s1.heap.objs.size + 1], _, _, H1, rfl, I2, turn_zipU k1 k2 (PySem.W.ktu_apart s1.heap.objs.size a b (k1.is_lt p1) (k2.is_lt p2)), ⟨hz, hTI, ⟨_, _, hTO⟩, k1.it0 h1, k2.it0 h2⟩, fresh5, q⟩
end
end K95

set_option maxRecDepth 100000
set_option maxHeartbeats 4000000
namespace K95
open PySem PySem.Spec PyProof.Rows L2
noncomputable section
variable [Nu]
/-! ### zip, reckoned -/
section
variable {X : Cx} {K : PySem.W.Frag} {σ : List (Option V)} {H H' : Hp} {la : CA} {ρ ρ' : List Addr} {lo : Nat} {h h' : VH} {x y z : VV} {v u : V} {a b : Addr} {xs ys : List V} {e e2 : Expr} {p pos tpos : Pos} {elts : List Expr} {kk : Nat}
theorem wy_zipU (k1 k2 : SK) : WalkY (ItzU k1 k2 K a b) (min xs.length ys.length) (fun H => k1.at_ K H a xs ∧ k2.at_ K H b ys) (yP xs ys) where
  goes := fun i H hi ⟨q1, q2⟩ => by
    have h1 : i < xs.length := by omega
    have h2 : i < ys.length := by omega
    exact ⟨xs, ys, xs[i], ys[i], q1, q2, List.getElem?_eq_getElem h1, List.getElem?_eq_getElem h2⟩
  stops := fun H ⟨q1, q2⟩ => ⟨xs, ys, q1, q2, by omega, by omega, by omega⟩
  yields := fun i H v H' k hi ⟨q1, q2⟩ y q => by
    obtain ⟨T, x, w, rfl, hn, rfl, e1, e2⟩ := y
    have e1 := e1 _ q1
    have e2 := e2 _ q2
    obtain ⟨x', e3, q⟩ := oV_inv q
    rw [e1] at e3
    cases e3
    obtain ⟨y', e3, q⟩ := oV_inv q
    rw [e2] at e3
    cases e3
    exact q T hn
def wZU (K : PySem.W.Frag) (ta : TA) : TIY := fun σ H k => ta σ H fun vs H1 => ∃ k1 k2 a b xs ys, vs = [.ref a, .ref b] ∧ SK.at_ k1 K H1 a xs ∧ SK.at_ k2 K H1 b ys ∧ k (min xs.length ys.length) (fun H => SK.at_ k1 K H a xs ∧ SK.at_ k2 K H b ys) (yP xs ys) H1
theorem piy_zipU {ta : TA} (hm : X.mg "zip" = none) (ha : PA X [e, e2] ta) (hg : Gl X "zip" := by rfl) (hs : starEach [e, e2] X.env = (false, eval e X.env) :: starEach [e2] X.env := by rfl) (hpl : (backTo pos (starEach [e2] X.env)).any (·.1) = false := by rfl) :
    PIY X (.Tuple elts kk tpos) (.Call (.Name "zip" p) [e, e2] [] pos) (wZU X.K ta) := PI.imp (pi_zipU hg hm (pa_M ha) hs hpl) fun σ H R ⟨R0, q, m⟩ => ⟨_, q, fun x H1 q => by
  obtain ⟨k1, k2, a, b, xs, ys, ex, q1, q2, q⟩ := q
  exact ⟨k1, k2, a, b, xs, ys, ex, q1, q2, m _ _ _ _ q _ (wy_zipU k1 k2)⟩⟩
def zipV : List VV → List VV → List Yv
  | x :: xs, y :: ys => .two x y :: zipV xs ys
  | _, _ => []
theorem zipV_at : ∀ {xs ys : List VV} {i : Nat} {it : Yv}, (zipV xs ys)[i]? = some it → ∃ x y, it = .two x y ∧ xs[i]? = some x ∧ ys[i]? = some y
  | x :: xs, y :: ys, 0, it, e => by cases e; exact ⟨x, y, rfl, rfl, rfl⟩
  | x :: xs, y :: ys, i + 1, it, e => zipV_at (xs := xs) (ys := ys) (i := i) e
  | [], _, _, _, e => by cases e
  | _ :: _, [], _, _, e => by cases e
theorem zipV_len : ∀ {xs ys : List VV}, (zipV xs ys).length = min xs.length ys.length
  | x :: xs, y :: ys => by show (zipV xs ys).length + 1 = _; rw [zipV_len]; simp
  | [], _ => by simp [zipV]
  | _ :: _, [] => by simp [zipV]
def cZip (la : CA) : CI := fun lo e h => bd (la lo e h) fun vs h1 => match vs with
  | [x, y] => ob (seqFz h1 x) fun p => ob (seqFz p.2 y) fun q => some (zipV p.1 q.1, q.2)
  | _ => none
def kindS (K : PySem.W.Frag) (lo : Nat) (ρ : List Addr) (h : VH) (H : Hp) (a : Addr) (vs : List V) : Prop := ∃ k : SK, ∀ ρ2 h2 H2, Go ρ lo h H ρ2 h2 H2 → k.at_ K H2 a vs
theorem Stays.kind {vs : List V} (s : Stays K lo ρ h H a vs) : kindS K lo ρ h H a vs := s.elim (fun s => ⟨.l, s⟩) fun s => ⟨.t, s⟩
theorem yok_zip {as bs : List VV} {vs us : List V} {ρ0 : List Addr} {h0 : VH} {H0 : Hp} {G : Hp → Prop} (r : RVs K ρ0 as vs) (q : RVs K ρ0 bs us) (g : ∀ ρ2 h2 H2, Go ρ0 lo h0 H0 ρ2 h2 H2 → G H2) : YOk K lo (zipV as bs) ρ0 h0 H0 (min vs.length us.length) G (yP vs us) := by
  refine ⟨by rw [r.len, q.len, zipV_len], fun ρ2 h2 H2 g2 _ => g _ _ _ g2, fun i it ρ2 h2 H2 k e g2 S2 z => ?_⟩
  obtain ⟨x, y, rfl, e1, e2⟩ := zipV_at e
  obtain ⟨v, e3, rv⟩ := r.at_ e1
  obtain ⟨u, e4, ru⟩ := q.at_ e2
  show oV _ vs[i]? _
  rw [e3]
  show oV (fun y => Al k H2 (.tup [v, y]) .mk) us[i]? .mk
  rw [e4]
  exact fun p hp => z v u p (rv.mono g2.le) (ru.mono g2.le) hp
theorem q_zip (hm : X.mg "zip" = none) (ha : QA X [e, e2] la) (hg : Gl X "zip" := by rfl) (hs : starEach [e, e2] X.env = (false, eval e X.env) :: starEach [e2] X.env := by rfl) (hpl : (backTo pos (starEach [e2] X.env)).any (·.1) = false := by rfl) :
    PIY X (.Tuple elts kk tpos) (.Call (.Name "zip" p) [e, e2] [] pos) (denI X.K (cZip la)) := PI.imp (piy_zipU hm ha hg hs hpl) fun σ H R ⟨R0, d, m⟩ => ⟨R0, (by
  obtain ⟨ρ, lo, e, h, its, h', S, E, run, k⟩ := d
  obtain ⟨vs, h1, e1, run⟩ := bd_some run
  refine ⟨ρ, lo, e, h, vs, h1, S, E, e1, fun ρ1 H1 us g1 S1 r1 => ?_⟩
  split at run
  · rename_i x y
    obtain ⟨p, e2, run⟩ := ob_some run
    obtain ⟨q, e3, run⟩ := ob_some run
    cases run
    obtain ⟨v, u, rfl, rx, ry⟩ := r1.two
    obtain ⟨a, as, rfl, ra, g2, S2, st1⟩ := seqFz_ok (lo := lo) S1 rx e2
    obtain ⟨b, bs, rfl, rb, g3, S3, st2⟩ := seqFz_ok (lo := lo) S2 ry e3
    obtain ⟨k1, st1⟩ := st1.kind
    obtain ⟨k2, st2⟩ := st2.kind
    exact ⟨k1, k2, a, b, as, bs, rfl, st1 _ _ _ g3, st2 _ _ _ Go.refl, k ρ1 H1 ((g1.trans g2).trans g3) S3 _ _ _ (yok_zip ra rb fun ρ2 h2 H2 g => ⟨st1 _ _ _ (g3.trans g), st2 _ _ _ g⟩)⟩
  · cases run), m⟩
end
/-! ### enumerate of a list or a tuple -/
def IteU (k : SK) (K : PySem.W.Frag) (a : Addr) : It :=
  ⟨fun i H => ∃ (xs : List V) (x : V), k.at_ K H a xs ∧ xs[i]? = some x, fun i H v H' => ∃ T x, v = .ref T ∧ H T = none ∧ H' = upd H T (.tup [.int (i : Nat), x]) ∧ ∀ xs, k.at_ K H a xs → xs[i]? = some x, fun i H => ∃ xs : List V, k.at_ K H a xs ∧ i = xs.length⟩
theorem turn_enumU (k : SK) {P : Program} {w : World} {K : PySem.W.Frag} {elts : List Expr} {kk : Nat} {tpos : Pos} (a e it : Addr) (hai : a ≠ it) (hae : a ≠ e) :
    Turn P w K (.Tuple elts kk tpos) (IteU k K a) [e, it] e (fun i h => (∃ old, IsEnum h e it ((i : Nat) : Int) old) ∧ k.it h it a i ∧ e ≠ it) where
  mem := by simp
  obj := fun i h st b hb => by
    obtain ⟨⟨old, he⟩, hi, _⟩ := st
    obtain ⟨o, vs, ho, hd⟩ := k.it_obj hi
    have e' : b = e ∨ b = it := by simpa using hb
    rcases e' with z | z
    · rw [z]; exact ⟨_, he, fun v q => nomatch q⟩
    · rw [z]; exact ⟨o, ho, fun v q => by rw [hd] at q; cases q⟩
  keep := fun i h h' st k' => let ⟨⟨old, he⟩, hi, hne⟩ := st; ⟨⟨old, k' e (by simp) _ he⟩, k.it_at hi fun o q => k' it (by simp) o q, hne⟩
  item := by
    intro X hP hw hK hc i pins s σ H E I hf st hg
    subst hP hw hK
    obtain ⟨⟨old, he⟩, hit, hne⟩ := st
    obtain ⟨xs, x, hq, hx⟩ := hg
    obtain ⟨its, rv, p⟩ := k.get I hq
    obtain ⟨u, hu, ru⟩ := rv.get hx
    have hel : e < s.heap.objs.size := Heap.lt_size he
    have hil : it < s.heap.objs.size := by obtain ⟨_, _, q, _⟩ := k.it_obj hit; exact Heap.lt_size q
    have hh : X.A.in1.handled = none := I.ok.hd hc
    have lt1 : i < its.toArray.size := by simpa using (List.getElem?_eq_some_iff.1 hu).1
    refine wpAny_pyNext_enum_itemD (k.draws hh hai) he ⟨hit, p⟩ lt1 hne (by simp [hne, hae.symm]) fun x1 h' tk q1 ho st1 hT hsz hk => ?_
    have ex1 : x1 = u := by
      have : its.toArray[i]? = some u := by simpa using hu
      rw [this] at q1
      exact (Option.some.inj q1).symm
    subst ex1
    refine ⟨_, rfl, wpAny_letOwnedTupleGo_enum (s := { s with heap := h', toks := tk + 1 }) ho fun h'' he' sb => ?_⟩
    have hT2 : h''.get? s.heap.objs.size = some { cls := .type "tuple", data := .seq #[.int i tk, x1] } := (sb.2 _ (Nat.ne_of_gt hel)).trans hT
    have new : ObjOk X.prog X.w (L2.upd H s.heap.objs.size (.tup [.int (i : Nat), x])) h'' s.heap.objs.size (.tup [.int (i : Nat), x]) :=
      ⟨by show 2 ≤ sizeLine; decide, [.int i tk, x1], .cons ⟨_, rfl⟩ (.cons ru .nil), ⟨_, hT2, rfl, _, rfl⟩⟩
    have I1 : Inv X pins σ (L2.upd H s.heap.objs.size (.tup [.int (i : Nat), x])) { s with heap := h'', toks := tk + 1 } :=
      I.turnedNew (ch := [e, it]) (fun b ob hb q => (sb.2 b (fun z => hb (by simp [z]))).trans (hk b ob (fun z => hb (by simp [z])) (fun z => hb (by simp [z])) q)) hf (Nat.le_refl _) new
    refine ⟨.ref s.heap.objs.size, _, I1, rfl, ⟨_, x, rfl, I.hok.fresh (Nat.le_refl _), rfl, fun ys hy => by rw [k.inj I hy hq]; exact hx⟩, ⟨⟨x1, ?_⟩, k.it_at st1.1 fun o q => (sb.2 it (Ne.symm hne)).trans q, hne⟩, fun b hb => ?_⟩
    · have e1 : ((i + 1 : Nat) : Int) = (i : Int) + 1 := by omega
      rw [e1]; exact he'
    · have hb' : b < s.heap.objs.size := by
        have e' : b = e ∨ b = it := by simpa using hb
        rcases e' with z | z
        · rw [z]; exact hel
        · rw [z]; exact hil
      rw [upd_ne (Nat.ne_of_lt hb')]
      exact (hf b hb).1
  done := by
    intro X hP hw hK hc i pins s σ H E I hf st hg
    subst hP hw hK
    obtain ⟨⟨old, he⟩, hit, hne⟩ := st
    obtain ⟨xs, hq, hx⟩ := hg
    obtain ⟨its, rv, p⟩ := k.get I hq
    obtain ⟨f0, f1, f2, f3, f4, f5⟩ := hf it (by simp)
    have hl := rv.length
    have hh : X.A.in1.handled = none := I.ok.hd hc
    have en : i = its.toArray.size := by simp; omega
    subst en
    exact wpAny_pyNext_enum_endD (k.draws hh hai (items := its.toArray)) he ⟨hit, p⟩ fun h' eb => ⟨rfl, I.turned (t' := s.toks) (fun b o hb q => eb b o hb q) f0 f1 f3 f4 f5⟩
  self := fun A i s Q E st h => let ⟨⟨_, he⟩, _⟩ := st; wpAny_pyIter_enum he h
end
end K95

set_option maxRecDepth 100000
set_option maxHeartbeats 4000000
namespace K95
open PySem PySem.Spec PyProof.Rows L2
noncomputable section
variable [Nu]
theorem meets_enum1 {v : Value} {o : Obj} {Hq : Heap → Prop} (B : Begins v o Hq) :
    Meets (Builtin.«enumerate.__new__» ⟨[.type "enumerate", v], []⟩) (fun _ R s => Hq s.heap ∧
      R (.ok (.ret (.ref (s.heap.push o).objs.size))) { s with heap := (s.heap.push o).push { cls := .type "enumerate", data := .fields #[.none, .bool false, .ref s.heap.objs.size, rawInt 0, .none, .none] } }) :=
  .of_wp fun prog w A R s h => by
    obtain ⟨hp, g, d, tk, os⟩ := s; obtain ⟨h1, h⟩ := h
    have hsub := sub_enumerate
    have q1 : ∀ {A' : Around} {E : Value → Shared → Prop} {Q : Value → Shared → Prop}, Q (.ref hp.objs.size) ⟨hp.push o, g, d, tk, os⟩ → wpAny (model prog w) A' (pyIter v) Q E ⟨hp, g, d, tk, os⟩ :=
      fun q => B.iter prog w _ _ ⟨hp, g, d, tk, os⟩ _ h1 q
    wp_walk using q1
    refine wpAny_stack_any fun st => wpAny_pure ?_
    split
    · rename_i c _ _ _ _ _
      cases (c == Value.type "enumerate")
      · wp_walk using q1
        exact ⟨_, rfl, h⟩
      · wp_walk using q1
        exact ⟨_, rfl, h⟩
    · wp_walk using q1
      exact ⟨_, rfl, h⟩
theorem enum_begins1 {prog : Program} {w : World} {A : Around} {E : Value → Shared → Prop} {s : Shared} {v : Value} {o : Obj} {Hq : Heap → Prop} {Q : Value → Shared → Prop} (B : Begins v o Hq) (h1 : Hq s.heap)
    (h : ∀ h', IsEnum h' (s.heap.objs.size + 1) s.heap.objs.size 0 .none → h'.get? s.heap.objs.size = some o → h'.objs.size = s.heap.objs.size + 2 →
      (∀ b o, s.heap.get? b = some o → h'.get? b = some o) → Q (.ref (s.heap.objs.size + 1)) { s with heap := h' }) :
    wpAny (model prog w) A (call (.type "enumerate") [v]) Q E s := by
  refine callType_new F.called_enumerate (by decide) (F.typeCall_enumerate_1 _) (F.newCall_enumerate_1 _) (fun obj => F.args_object_init_2 obj _) F.entry_enumerate_new
    (meets_enum1 B) ⟨h1, ?_⟩
  have hz : (s.heap.push o).objs.size = s.heap.objs.size + 1 := Heap.size_push ..
  show _ ∧ _
  rw [hz]
  have he : IsEnum ((s.heap.push o).push { cls := .type "enumerate", data := .fields #[.none, .bool false, .ref s.heap.objs.size, rawInt 0, .none, .none] }) (s.heap.objs.size + 1) s.heap.objs.size 0 .none := by
    have := Heap.get?_push_size (s.heap.push o) (o := { cls := .type "enumerate", data := .fields #[.none, .bool false, .ref s.heap.objs.size, rawInt 0, .none, .none] }) rfl
    rw [hz] at this; exact this
  exact ⟨⟨_, he, rfl⟩, h _ he (Heap.get?_push_of_some _ (Heap.get?_push_size _ B.free)) (by rw [Heap.size_push, hz]) fun b o x => Heap.get?_push_of_some _ (Heap.get?_push_of_some _ x)⟩
section
variable {X : Cx} {K : PySem.W.Frag} {σ : List (Option V)} {H H' : Hp} {la : CA} {ρ ρ' : List Addr} {lo : Nat} {h h' : VH} {x y z : VV} {v u : V} {a b : Addr} {xs ys : List V} {e e2 : Expr} {p pos tpos : Pos} {elts : List Expr} {kk : Nat}
def iEnumU (K : PySem.W.Frag) (ta : TA) : TI := fun σ H R => ta σ H fun vs H1 => ∃ k a xs, vs = [.ref a] ∧ SK.at_ k K H1 a xs ∧ R (IteU k K a) H1
theorem pi_enumU {ta : TA} (hg : Gl X "enumerate") (hm : X.mg "enumerate" = none) (ha : PA X [e] ta) (hs : starEach [e] X.env = [(false, eval e X.env)] := by rfl) :
    PI X (.Tuple elts kk tpos) (.Call (.Name "enumerate" p) [e] [] pos) (iEnumU X.K ta) := by
  refine ⟨fun pins s σ H R I h => ?_⟩
  refine Call_ (ld_blt I hg hm boot_enumerate (PyProof.Rows.callWith_type1 (thn (ha.run pos pins s σ H _ I h) fun us s1 ⟨vs, H1, I1, r1, q1⟩ => ?_) hs rfl))
  obtain ⟨k, a, xs, ex, hq, q⟩ := q1
  subst ex
  cases r1 with
  | cons r rr =>
    cases rr
    cases r
    obtain ⟨its, rv, p'⟩ := k.get I1 hq
    have ha := k.is_lt p'
    refine enum_begins1 (k.begins a its.toArray) p' fun h' he hit hsz hk => wpAny_pyIter_enum he ?_
    have I2 : Inv X pins σ H1 { s1 with heap := h' } := I1.kept (t' := s1.toks) hk
    refine ⟨s1.heap.objs.size + 1, [s1.heap.objs.size + 1, s1.heap.objs.size], _, _, H1, rfl, I2, turn_enumU k a (s1.heap.objs.size + 1) s1.heap.objs.size (Nat.ne_of_lt ha) (Nat.ne_of_lt (Nat.lt_succ_of_lt ha)), ⟨⟨.none, he⟩, k.it0 hit, Nat.succ_ne_self _⟩, fun b hb => ?_, q⟩
    have e' : b = s1.heap.objs.size + 1 ∨ b = s1.heap.objs.size := by simpa using hb
    have hle : s1.heap.objs.size ≤ b := by
      rcases e' with z | z
      · rw [z]; exact Nat.le_add_right _ _
      · rw [z]; exact Nat.le_refl _
    exact I1.fpOk hle (I1.hok.fresh hle)
theorem wy_enumU (k : SK) : WalkY (IteU k K a) xs.length (fun H => k.at_ K H a xs) (yE xs) where
  goes := fun i H hi q => ⟨xs, xs[i], q, List.getElem?_eq_getElem hi⟩
  stops := fun H q => ⟨xs, q, rfl⟩
  yields := fun i H v H' k hi q1 y q => by
    obtain ⟨T, x, rfl, hn, rfl, e1⟩ := y
    have e1 := e1 _ q1
    obtain ⟨x', e3, q⟩ := oV_inv q
    rw [e1] at e3
    cases e3
    exact q T hn
def wEU (K : PySem.W.Frag) (ta : TA) : TIY := fun σ H k => ta σ H fun vs H1 => ∃ q a xs, vs = [.ref a] ∧ SK.at_ q K H1 a xs ∧ k xs.length (fun H => SK.at_ q K H a xs) (yE xs) H1
theorem q_enum (hm : X.mg "enumerate" = none) (ha : QA X [e] la) (hg : Gl X "enumerate" := by rfl) (hs : starEach [e] X.env = [(false, eval e X.env)] := by rfl) :
    PIY X (.Tuple elts kk tpos) (.Call (.Name "enumerate" p) [e] [] pos) (denI X.K (cEnum la)) := PI.imp (pi_enumU hg hm (pa_M ha) hs) fun σ H R ⟨R0, d, m⟩ => by
  obtain ⟨ρ, lo, e, h, its, h', S, E, run, k⟩ := d
  obtain ⟨vs, h1, e1, run⟩ := bd_some run
  refine ⟨fun us H1 => ∃ q a xs, us = [.ref a] ∧ SK.at_ q X.K H1 a xs ∧ R0 xs.length (fun H => SK.at_ q X.K H a xs) (yE xs) H1, ⟨ρ, lo, e, h, vs, h1, S, E, e1, fun ρ1 H1 us g1 S1 r1 => ?_⟩, fun us H1 ⟨q, a, xs, ex, at_, r⟩ => ⟨q, a, xs, ex, at_, m _ _ _ _ r _ (wy_enumU q)⟩⟩
  split at run
  · rename_i x
    obtain ⟨p, e2, run⟩ := ob_some run
    cases run
    obtain ⟨v, rfl, rx⟩ := r1.one
    obtain ⟨a, as, rfl, ra, g2, S2, st1⟩ := seqFz_ok (lo := lo) S1 rx e2
    obtain ⟨k1, st1⟩ := st1.kind
    exact ⟨k1, a, as, rfl, st1 _ _ _ Go.refl, k ρ1 H1 (g1.trans g2) S2 _ _ _ (yok_enum ra st1)⟩
  · cases run
end
end
end K95

set_option maxRecDepth 100000
set_option maxHeartbeats 4000000
/-! two dicts of one model, compared value by value, where a comparison may run own code -/
namespace K95D
open PySem PySem.W PySem.Spec PyProof.Rows
section
variable {pg : Program} {wo : World} {KT : Type} [DecidableEq KT] {kd : KeyKind pg wo KT} {Ar : Around} {Er : Value → Shared → Prop} {s0 : Shared}
theorem dict_same {h h' : Heap} {p : Addr} {o : Obj} {l : List (KT × Value)} (q : h.get? p = some o) (q' : h'.get? p = some o) (x : h.DictOf kd p l) : h'.DictOf kd p l := by
  obtain ⟨o1, es, ep, e1, r⟩ := x
  rw [q] at e1
  cases e1
  exact ⟨o, es, ep, q', r⟩
theorem pairsG {nm : String} {p q : Addr} {la lb : List (KT × Value)} {op oq : Obj} {W : Bool → Shared → Prop} (np : (p == sysModules) = false) (nq : (q == sysModules) = false)
    (xp : s0.heap.get? p = some op) (xq : s0.heap.get? q = some oq) (dp : s0.heap.DictOf kd p la) (dq : s0.heap.DictOf kd q lb) (hl : la.length = lb.length) (J : Nat → Shared → Prop)
    (st : ∀ i s, J i s → s.heap.get? p = some op ∧ s.heap.get? q = some oq)
    (tn : ∀ i k v s, la[i]? = some (k, v) → J i s → ∃ y, valueAt lb k = some y ∧ wpAny (model pg wo) Ar (eqBool v y) (fun r s' => r = true ∧ J (i + 1) s') Er s)
    (j0 : J 0 s0) (fin : ∀ s, J la.length s → W true s) :
    wpAny (model pg wo) Ar (Builtin.Dict.samePairs nm p q) W Er s0 := by
  obtain ⟨o1, es, ep, x1, _, data1, keys1, prs1, _⟩ := dp
  obtain ⟨o2, fs, fp, x2, _, data2, keys2, prs2, _⟩ := dq
  rw [xp] at x1
  cases x1
  rw [xq] at x2
  cases x2
  have sz1 : la.length = es.size := by rw [← prs1.length]; exact Array.length_toList
  have sz2 : lb.length = fs.size := by rw [← prs2.length]; exact Array.length_toList
  have fnd : ∀ k, findBy kd.is fs k = valueAt lb k := fun k => by
    rw [← prs2.find k]
    clear sz2 prs2 keys2 data2 xq st tn hl
    obtain ⟨l⟩ := fs
    simp [findBy]
  have sz : es.size = fs.size := by omega
  unfold Builtin.Dict.samePairs Builtin.Dict.showsAll
  rw [if_neg (by rw [np]; exact Bool.false_ne_true : ¬ (p == sysModules) = true), if_neg (by rw [nq]; exact Bool.false_ne_true : ¬ (q == sysModules) = true)]
  refine wpAny_bind (wpAny_pure ?_)
  refine wpAny_bind (wpAny_pure ?_)
  refine wpAny_bind (wpAny_dictEntries xp data1 ?_)
  dsimp only
  refine wpAny_bind (wpAny_dictEntries xq data2 ?_)
  rw [if_neg (by rw [sz]; simp)]
  refine wpAny_bind (wpAny_dictEpoch xp data1 ?_)
  refine wpAny_bind ?_
  rw [Std.Legacy.Range.forIn_eq_forIn_range']
  simp only [Std.Legacy.Range.size, Nat.sub_zero, Nat.add_sub_cancel, Nat.div_one]
  refine wpAny_forIn_list _ (fun rest z s' => z = (none, ()) ∧ ∃ i, rest = List.range' i (es.size - i) ∧ i ≤ es.size ∧ J i s') _ ?_ ?_ _ _ ⟨rfl, 0, by simp, Nat.zero_le _, j0⟩
  · rintro x rest z s' ⟨rfl, i, hr, hi, hJ⟩
    have lt1 : i < es.size := by
      rcases Nat.lt_or_ge i es.size with c | c
      · exact c
      · rw [Nat.sub_eq_zero_of_le c] at hr; simp at hr
    obtain ⟨rfl, hrest⟩ : x = i ∧ rest = List.range' (i + 1) (es.size - (i + 1)) := by
      have e : es.size - i = (es.size - (i + 1)) + 1 := by omega
      rw [e, List.range'_succ] at hr
      injection hr with h1 h2
      exact ⟨h1, h2⟩
    obtain ⟨y1, y2⟩ := st _ _ hJ
    refine wpAny_bind (wpAny_dictEntries y1 data1 ?_)
    rw [Array.getElem?_eq_getElem lt1]
    have lt2 : x < la.length := by omega
    obtain ⟨k, v, ekv⟩ : ∃ k v, la[x] = (k, v) := ⟨_, _, rfl⟩
    have at_ : la[x]? = some (k, v) := by rw [List.getElem?_eq_getElem lt2, ekv]
    obtain ⟨ky, vl⟩ := prs1.get? (i := x) (e := es[x]) (k := k) (v := v) (by rw [Array.getElem?_toList]; exact Array.getElem?_eq_getElem lt1) at_
    obtain ⟨k', ky', hsh⟩ := keys1 es[x] (Array.getElem_mem lt1)
    have ek : k' = k := kd.inj _ _ _ ky' ky
    rw [ek] at hsh
    obtain ⟨y, ey, run⟩ := tn _ _ _ _ at_ hJ
    show wpAny _ _ (holding [es[x].key, es[x].val] _ >>= _) _ _ _
    rw [hsh]
    refine wpAny_bind (wpAny_holding (wpAny_bind (wpAny_dictFind_of ky y2 data2 keys2 ?_)))
    cases ej : fs.findIdx? fun e => kd.is k e.key with
    | none =>
      have n1 : valueAt lb k = none := by rw [← fnd k, findBy_of_findIdx?, ej]
      rw [n1] at ey
      cases ey
    | some j =>
      obtain ⟨ltj, _, _⟩ := Array.findIdx?_eq_some_iff_getElem.mp ej
      have e2 : valueAt lb k = some fs[j].val := by
        rw [← fnd k, findBy_of_findIdx?, ej]
        simp [Array.getElem?_eq_getElem ltj]
      rw [e2] at ey
      have ey : fs[j].val = y := Option.some.inj ey
      refine wpAny_bind (wpAny_dictEntries y2 data2 ?_)
      rw [Array.getElem?_eq_getElem ltj]
      rw [← ey, ← vl] at run
      refine wpAny_holding (wpAny_mono run (fun r s2 hq => ?_) fun _ _ z => z)
      obtain ⟨rfl, hJ2⟩ := hq
      show wpAny _ _ (if (!true) = true then _ else _) _ _ _
      rw [if_neg (by decide)]
      obtain ⟨z1, z2⟩ := st _ _ hJ2
      refine wpAny_bind (wpAny_dictEpoch z1 data1 ?_)
      rw [if_neg (by simp)]
      exact wpAny_pure ⟨rfl, x + 1, hrest, lt1, hJ2⟩
  · rintro z s' ⟨rfl, i, hr, hi, hJ⟩
    have ei : i = es.size := by
      rcases Nat.lt_or_ge i es.size with c | c
      · have e : es.size - i = (es.size - (i + 1)) + 1 := by omega
        rw [e, List.range'_succ] at hr
        cases hr
      · exact Nat.le_antisymm hi c
    rw [ei, ← sz1] at hJ
    exact wpAny_pure (fin _ hJ)
theorem rcG {op : CmpOp} {neg : Bool} (hop : (op = .Eq ∧ neg = false) ∨ (op = .NotEq ∧ neg = true)) {p q : Addr} {la lb : List (KT × Value)} {o1 o2 : Obj} {W : Value → Shared → Prop} (np : (p == sysModules) = false) (nq : (q == sysModules) = false)
    (xp : s0.heap.get? p = some o1) (xq : s0.heap.get? q = some o2) (dp : s0.heap.DictOf kd p la) (dq : s0.heap.DictOf kd q lb) (hu : Ar.units < cLine) (hl : la.length = lb.length) (J : Nat → Shared → Prop)
    (st : ∀ i s, J i s → s.heap.get? p = some o1 ∧ s.heap.get? q = some o2)
    (tn : ∀ i k v s, la[i]? = some (k, v) → J i s → ∃ y, valueAt lb k = some y ∧ wpAny (model pg wo) Ar.in1 (eqBool v y) (fun r s' => r = true ∧ J (i + 1) s') Er s)
    (j0 : J 0 s0) (fin : ∀ s, J la.length s → W (.bool (!neg)) s) : wpAny (model pg wo) Ar (compareOp op (.ref p) (.ref q)) W Er s0 := by
  rcases hop with ⟨rfl, rfl⟩ | ⟨rfl, rfl⟩
  · refine wpAny_richCompare_same_room (op := .Eq) dp.typeIs dq.typeIs PySem.F.slot_dict_eq (wpAny_call_entry PySem.F.slot_dict_eq dp.typeIs PySem.F.entry_dict_eq ?_ (PySem.F.args_dict_eq_2 _ _)) hu
    show wpAny _ _ (Builtin.Dict.dictSlotArgs "__eq__" ⟨[.ref p, .ref q], []⟩ >>= _) _ _ s0
    unfold Builtin.Dict.dictSlotArgs
    refine wpAny_bind (wpAny_bind (wpAny_notOrdered_dict dp.typeIs ?_))
    refine wpAny_pure (wpAny_bind (wpAny_isInstance (T := "dict") dq.typeIs PySem.F.sub_dict_dict ?_))
    rw [if_neg (by decide)]
    refine wpAny_bind (wpAny_pure (wpAny_bind (wpAny_pure (wpAny_bind ?_))))
    exact pairsG np nq xp xq dp dq hl J st tn j0 fun s hJ => wpAny_pure ⟨_, rfl, (fun z => nomatch z), fin s hJ⟩
  · refine wpAny_richCompare_same_room (op := .NotEq) dp.typeIs dq.typeIs PySem.F.slot_dict_ne (wpAny_call_entry PySem.F.slot_dict_ne dp.typeIs PySem.F.entry_dict_ne ?_ (PySem.F.args_dict_ne_2 _ _)) hu
    show wpAny _ _ (Builtin.Dict.dictSlotArgs "__ne__" ⟨[.ref p, .ref q], []⟩ >>= _) _ _ s0
    unfold Builtin.Dict.dictSlotArgs
    refine wpAny_bind (wpAny_bind (wpAny_notOrdered_dict dp.typeIs ?_))
    refine wpAny_pure (wpAny_bind (wpAny_isInstance (T := "dict") dq.typeIs PySem.F.sub_dict_dict ?_))
    rw [if_neg (by decide)]
    refine wpAny_bind (wpAny_pure (wpAny_bind (wpAny_pure (wpAny_bind ?_))))
    exact pairsG np nq xp xq dp dq hl J st tn j0 fun s hJ => wpAny_pure ⟨_, rfl, (fun z => nomatch z), fin s hJ⟩
end
end K95D

set_option maxRecDepth 100000
set_option maxHeartbeats 4000000
namespace K95
open PySem PySem.Spec PyProof.Rows L2
noncomputable section
variable [Nu]
/-! ### a def called below the running body -/
section
variable {X : Cx} {n : Nat} {A : Around} {C f : Addr} {fd : FuncData} {ps : List Str} {sp : Sp} {pins : List (Addr × Obj)} {σ : List (Option V)} {H : Hp} {s : Shared} {Q : VK} {us : List Value} {vs : List V}
theorem run_sub (F : FnOk X.prog X.w X.K X.mg X.base CX0 n f fd ps sp) (hb : Binds X.K fd ps []) (sb : Sub X n A) (I : Inv X pins σ H s) (r : Vals vs us) (h : sp vs H Q E0) : wpAny (model X.prog X.w) A (call (.ref f) us) (EP X pins σ Q) X.xe s := by
  have here : Env0 X.prog X.w X.K X.mg X.base A X.stack s H := by
    have q := I.env0
    exact ⟨by rw [sb.fr]; exact q.frames, q.mod, q.bs, q.bsz, q.funs, q.frf, q.hok, q.bare⟩
  have len := F.len _ _ _ _ h
  have lu : us.length = ps.length := by rw [← r.length]; exact len
  have bd := hb s us I.kIn (by simpa using lu)
  rw [List.append_nil] at bd
  refine wpAny_call (codeAny_mono (F.run A X.stack s H ⟨us, []⟩ us vs Q E0 sb.room here bd r h) fun res s' z => ?_)
  cases res with
  | error e => exact z.elim
  | ok fl =>
    cases fl with
    | ret v => exact I.after z
    | next => exact z.elim
    | brk => exact z.elim
    | cont => exact z.elim
/-- a == b by the class's own __eq__ -/
theorem rc_own {a b dx dy : Addr} {fs gs : List (Str × V)} (F : FnOk X.prog X.w X.K X.mg X.base CX0 n f fd ps sp) (hb : Binds X.K fd ps []) (M : Meth X.K C "__eq__" f) (sb : Sub X n A) (I : Inv X pins σ H s) (ea : H a = some (.ins C dx fs)) (eb : H b = some (.ins C dy gs))
    (h : sp [.ref a, .ref b] H (fun v H' => ∃ r, v = .bl r ∧ Q (.bl r) H') E0) : wpAny (model X.prog X.w) A (richCompare .Eq (.ref a) (.ref b)) (fun v s' => ∃ r, v = .bool r ∧ ∃ H', Inv X pins σ H' s' ∧ Q (.bl r) H') X.xe s := by
  obtain ⟨_, J1, _⟩ := ins_get I.hok ea
  obtain ⟨_, J2, _⟩ := ins_get I.hok eb
  obtain ⟨_, J1, _⟩ := J1.look
  obtain ⟨_, J2, _⟩ := J2.look
  obtain ⟨_, fr⟩ := I.fr
  refine PySem.W.cmp_K (op := .Eq) (tb := .ref C) sb.room.units0 fr I.ok.mod.kin J1 J2.type (by simp [PySem.W.notFirst]) M.at_ M.fn ?_
  refine wpAny_mono (run_sub (vs := [.ref a, .ref b]) (us := [.ref a, .ref b]) F hb sb I (.cons rfl (.cons rfl .nil)) h) (fun v s' z => ?_) fun _ _ z => z
  obtain ⟨u, H', I', ru, r, eu, q⟩ := z
  subst eu
  cases ru
  exact ⟨r, rfl, H', I', q⟩
end
/-! ### a == b, a != b of own objects as expressions -/
section
variable {K : PySem.W.Frag} {h : Heap} {C : Addr}
theorem look_fn {K : PySem.W.Frag} {f : Addr} (h : PySem.W.isFn K (.ref f) = true) : ∃ o, K.lookup f = some o ∧ o.cls = .type "function" := by
  have h : (K.lookup f).map (·.cls) = some (.type "function") := eq_of_beq h
  exact Option.map_eq_some_iff.1 h
theorem ns_some {N : Addr} {mg : Str → Option Value} {x : Str} {v : Value} (G : K.In h) (D : h.Ns N mg) (q : PySem.W.nsIn K N x = some (some v)) : mg x = some v := by
  obtain ⟨o, es, ep, ho, hd, _, hf⟩ := D
  unfold PySem.W.nsIn at q
  split at q
  · rename_i c d es' n' sl lk
    have same := G _ _ lk
    rw [ho] at same
    cases same
    cases hd
    split at q
    · rename_i e fe
      cases q
      rw [← hf]
      unfold nsFind findBy
      rw [← Array.find?_toList, fe]
      rfl
    · split at q <;> cases q
  · cases q
theorem obj_eq_look : typeLookup (.type "object") ("__eq__" : Str) = pure (some (.builtin "object.__eq__")) := by
  rw [typeLookup_type, builtinLookup_eq_fast]
  kernel_rfl
theorem own_ne {x f : Addr} {ox : Obj} (G : K.In h) (nb : neB K C = true) (ef : f = He.ma K C "__eq__") (fn : PySem.W.isFn K (.ref f) = true) (hx : h.get? x = some ox) (cx : ox.cls = .ref C) : h.OwnEqNoNe x C f "object" [.type "object"] := by
  unfold neB at nb
  split at nb
  · rename_i t dd cd sl lk
    simp only [Bool.and_eq_true, beq_iff_eq, Bool.not_eq_true'] at nb
    obtain ⟨rfl, hm, hdel, hsl, hok, qne, qeq⟩ := nb
    have hne := He.eqO_ok qne
    have heq := He.eqO_ok qeq
    clear qne qeq
    split at hsl
    · rename_i k0 k1 k2 k3 nid k5 es
      obtain ⟨nm, bs, mro, ns, qn, hd, sn, sub, ab, col, del⟩ := cd
      dsimp only at hm hdel hok hne heq
      subst hm hdel
      have esl : sl = #[k0, k1, k2, k3, some (.builtin nid), k5] := by
        obtain ⟨l⟩ := sl
        simp only at es
        rw [es]
      subst esl
      obtain ⟨fo, lf, cf⟩ := look_fn fn
      have N := Heap.Ns.of_isNs (PySem.W.isNs_of_in G hok)
      refine ⟨ox, fo, nm, qn, ns, bs, hd, sn, sub, ab, col, dd, k0, k1, k2, k3, k5, nid, h.nsMap ns, _, hx, cx, G _ _ lk, N, ?_, G _ _ lf, cf, PySem.F.mro_object, obj_eq_look, PySem.W.nsMap_none_of_in G hok hne⟩
      rw [ef]
      exact ns_some G N heq
    · cases hsl
  · cases nb
end
section
variable {X : Cx} {k : Nat} {C : Addr} {sp : Sp}
def rOwn (C : Addr) (sp : Sp) (neg : Bool) : R2 := fun x y H Q => ∃ a b dx dy fs gs, x = .ref a ∧ y = .ref b ∧ H a = some (.ins C dx fs) ∧ H b = some (.ins C dy gs) ∧ sp [.ref a, .ref b] H (fun v H' => ∃ r, v = .bl r ∧ Q (.bl (bne neg r)) H') E0
theorem op_ownEq (D : MethOk X.prog X.w X.K X.mg X.base k C "__eq__" [] sp) (hr : Room k X.A) : OpR X (compareOp .Eq) (rOwn C sp false) := by
  intro pins s σ H x y v u Q I rx ry q
  obtain ⟨a, b, dx, dy, fs, gs, rfl, rfl, ea, eb, q⟩ := q
  cases rx
  cases ry
  obtain ⟨f, fd, ps, ds, M, F, hb, hv⟩ := D.ex
  cases hv
  show wpAny _ X.A (richCompare .Eq (.ref a) (.ref b)) _ _ s
  refine wpAny_mono (rc_own (A := X.A) (Q := fun v H' => ∃ r, v = .bl r ∧ Q (.bl (bne false r)) H') F hb M ⟨hr, rfl⟩ I ea eb ?_) (fun v s' z => ?_) fun _ _ z => z
  · have e : (fun (v : V) (H' : Hp) => ∃ r, v = V.bl r ∧ ∃ r_1, V.bl r = V.bl r_1 ∧ Q (V.bl (bne false r_1)) H') = fun v H' => ∃ r, v = V.bl r ∧ Q (V.bl (bne false r)) H' := by
      funext v H'
      exact propext ⟨fun ⟨r, e1, r1, e2, q⟩ => by cases e2; exact ⟨r, e1, q⟩, fun ⟨r, e1, q⟩ => ⟨r, e1, r, rfl, q⟩⟩
    rw [e]
    exact q
  · obtain ⟨r, rfl, H', I', r', e, q⟩ := z
    cases e
    exact ⟨_, H', I', by cases r <;> rfl, q⟩
theorem op_ownNe (D : MethOk X.prog X.w X.K X.mg X.base k C "__eq__" [] sp) (nb : neB X.K C = true) (hm : ∀ f, Meth X.K C "__eq__" f → f = He.ma X.K C "__eq__") (hr : Room (k + 1) X.A) : OpR X (compareOp .NotEq) (rOwn C sp true) := by
  intro pins s σ H x y v u Q I rx ry q
  obtain ⟨a, b, dx, dy, fs, gs, rfl, rfl, ea, eb, q⟩ := q
  cases rx
  cases ry
  obtain ⟨f, fd, ps, ds, M, F, hb, hv⟩ := D.ex
  cases hv
  obtain ⟨_, J1, _⟩ := ins_get I.hok ea
  obtain ⟨_, J2, _⟩ := ins_get I.hok eb
  obtain ⟨o1, J1, _⟩ := J1.look
  obtain ⟨o2, J2, _⟩ := J2.look
  have hf := hm f M
  have Y := own_ne I.kIn nb hf M.fn J1.at_ J1.cls
  have room := hr.in1
  obtain ⟨hh, g, dd, t, os⟩ := s
  refine compareOp_ne_ownEq PySem.F.cmp_object Y J2.at_ J2.cls (by have := hr.un; omega) (wpAny_mono (run_sub (A := X.A.in1) (vs := [.ref a, .ref b]) (us := [.ref a, .ref b]) F hb ⟨room, rfl⟩ I (.cons rfl (.cons rfl .nil)) q) (fun v s' z => ?_) fun _ _ z => z)
  obtain ⟨u, H', I', ru, r, eu, q⟩ := z
  subst eu
  cases ru
  refine ⟨r, rfl, .bl (!r), H', I', rfl, ?_⟩
  have e : (bne true r) = !r := by cases r <;> rfl
  rw [← e]
  exact q
end
/-! reckoned -/
section
variable {X : Cx} {K : PySem.W.Frag} {σ : List (Option V)} {H : Hp} {Q : VK} {QB : Bool → Hp → Prop} {ra rb : CE} {ρ : List Addr} {lo k : Nat} {h h' : VH} {x y z : VV} {v u : V} {a b : Expr} {pos : Pos} {C : Cn} {f : CF}
theorem Go.weak {ρ' : List Addr} {H' : Hp} (S : Sim K ρ h H) (g : Go ρ h.n h H ρ' h' H') : Go ρ lo h H ρ' h' H' := ⟨g.ext, fun a o e _ => g.keep a o e fun i hi => .inl (S.lt hi), g.stay, g.dom⟩
/-- one == other by the own __eq__ f: what f makes is kept -/
def fOwn (c : Cn) (f : CF) (neg : Bool) : VV → VV → VH → Option (VV × VH)
  | .ref i, .ref j, h => match h.get i, h.get j with
    | some (.ins c1 _), some (.ins c2 _) => match c1.nat.beq c.nat && c2.nat.beq c.nat with
      | true => bd (f h.n [.ref i, .ref j] h) fun r h1 => match r with
        | .bl r => some (.bl (bne neg r), h1)
        | _ => none
      | false => none
    | _, _ => none
  | _, _, _ => none
theorem oc_own {neg : Bool} : OpC K (rOwn (C.ad K) (spC K f) neg) (fOwn C f neg) := by
  intro ρ lo h h' H x y z v u Q S r1 r2 run k
  unfold fOwn at run
  split at run
  · rename_i i j
    split at run
    · rename_i c1 fs1 c2 fs2 q1 q2
      split at run
      · rename_i q3
        obtain ⟨s1, s2⟩ := Bool.and_eq_true_iff.1 q3
        obtain ⟨r, h1, e1, run⟩ := bd_some run
        split at run
        · rename_i b
          cases run
          have r1' := r1
          have r2' := r2
          obtain ⟨p, dx, gs, rfl, _, ep, _⟩ := insOf S r1 q1
          obtain ⟨q, dy, gt, rfl, _, eq, _⟩ := insOf S r2 q2
          refine ⟨p, q, dx, dy, gs, gt, rfl, rfl, Cn.inj s1 ▸ ep, Cn.inj s2 ▸ eq, ρ, h.n, [.ref i, .ref j], h, .bl b, h', S, ⟨r1', r2', True.intro⟩, e1, fun ρ1 H1 w g1 S1 rw1 => ⟨b, rw1, ?_⟩⟩
          exact (k.go (Go.weak S g1)).now S1 rfl
        · cases run
      · cases run
    · cases run
  · cases run
end
end
end K95

set_option maxRecDepth 100000
set_option maxHeartbeats 4000000
namespace K95
open PySem PySem.Spec PyProof.Rows L2
noncomputable section
/-! ### first, *rest = a list -/
section
variable {pg : Program} {wo : World} {Ar : Around} {Er : Value → Shared → Prop} {s0 : Shared}
theorem star2 {l : Addr} {its : Array Value} {v0 : Value} {vr : List Value} {W : List Value → Shared → Prop} (hl : s0.heap.IsList l its) (hh : Ar.handled = none) (ei : its.toList = v0 :: vr) (hz : its.size ≤ 16384)
    (k : ∀ (h' : Heap) (tk : Nat), (∀ b o, s0.heap.get? b = some o → h'.get? b = some o) → W [v0, .ref h'.objs.size] { s0 with heap := h'.push { cls := .type "list", data := .seq vr.toArray }, toks := tk }) :
    wpAny (model pg wo) Ar (unpackItems (.ref l) 2 (some 1)) W Er s0 := by
  have sz : its.size = vr.length + 1 := by rw [← Array.length_toList, ei]; rfl
  have ne : l ≠ s0.heap.objs.size := let ⟨o, ho, _⟩ := hl; Nat.ne_of_lt (Heap.lt_size ho)
  unfold unpackItems
  refine wpAny_bind ?_
  unfold notIterableAtAll
  refine wpAny_bind (wpAny_specialOf hl.typeIs PySem.F.slot_list_iter.lookup ?_)
  refine wpAny_pure ?_
  simp only [Bool.false_eq_true, if_false]
  refine wpAny_bind (wpAny_holding (wpAny_pyIter_list hl (wpAny_bind (wpAny_holding ?_))))
  refine PySem.W.kun_draw ne 1 0 _ _ ⟨_, Heap.get?_push_size _ rfl, rfl, rfl⟩ (hl.push _) (by omega) fun h1 it1 same1 => ?_
  have hl1 : h1.IsList l its := (hl.push _).extBut same1.extBut ne
  rw [Nat.zero_add] at it1
  have ai : ∃ o, h1.get? s0.heap.objs.size = some o := let ⟨o, e, _⟩ := id it1; ⟨o, e⟩
  have al : ∃ o, h1.get? l = some o := let ⟨o, e, _⟩ := id hl1; ⟨o, e⟩
  obtain ⟨oi, ai⟩ := ai
  obtain ⟨ol, al⟩ := al
  rw [List.drop_zero, ei]
  show wpAny _ _ (if ([v0] : List Value).length < 1 then _ else _) _ _ _
  rw [if_neg (by simp)]
  refine wpAny_bind (wpAny_holding (PySem.W.kun_collect (s := { s0 with heap := h1 }) (T := "list_iterator") (.inr (.inr (.inl rfl))) (Walks.list (A := Ar.in1) hh s0.heap.objs.size l ne its) (fun j u st => st.1.typeIs) (k := 1) (by omega) ⟨it1, hl1⟩ (Heap.lt_size ai) (Heap.lt_size al) (fun h2 tk same2 => ?_) (by have := sizeLine_eq; omega)))
  rw [ei]
  show wpAny _ _ (if vr.length < 2 - 1 - 1 then _ else _) _ _ _
  rw [if_neg (by omega)]
  have em : vr.length - (2 - 1 - 1) = vr.length := by omega
  show wpAny _ _ (newList (vr.take (vr.length - (2 - 1 - 1))) >>= fun d => pure ([v0] ++ [d] ++ vr.drop (vr.length - (2 - 1 - 1)))) _ _ _
  rw [em, List.take_length, List.drop_length]
  have old : ∀ b o, s0.heap.get? b = some o → h2.get? b = some o := fun b o e => same2 b o (Nat.ne_of_lt (Heap.lt_size e)) (same1.extBut b o (Nat.ne_of_lt (Heap.lt_size e)) (Heap.get?_push_of_some _ e))
  refine wpAny_bind (wpAny_newList ?_ (by have := sizeLine_eq; omega))
  exact wpAny_pure (k h2 tk old)
end
section
variable {X : Cx} {K : PySem.W.Frag} {e : Expr} {es : List Expr} {pos p : Pos} {t : TG} {u : TGs}
theorem pgs_star (h1 : PG X e t) (h2 : PGs X es u) (hs : (assignEach (.Starred e p :: es) X.env).map (·.2) = assign e X.env :: (assignEach es X.env).map (·.2) := by rfl) : PGs X (.Starred e p :: es) (gCons t u) := by
  refine ⟨fun pins s σ H vs us Q I r h => ?_⟩
  obtain ⟨v, vr, ev, h⟩ := h
  subst ev
  cases r with
  | cons r rr =>
    rw [hs]
    exact assignInOrder_cons (thn (h1.run pins s σ H _ _ _ I r h) fun _ s1 ⟨σ1, H1, I1, q1⟩ => h2.run pins s1 σ1 H1 _ _ Q I1 rr q1)
/-- first, *rest = a list of one item or more -/
def gStar (K : PySem.W.Frag) (t : TGs) : TG := fun v σ H Q => ∃ a x xs, v = .ref a ∧ SqL K H a (x :: xs) ∧ xs.length ≤ 10000 ∧ ∀ D, H D = none → t [x, .ref D] σ (upd H D (.lst xs)) Q
theorem pg_star {k : Nat} {t : TGs} (hc : X.calm = true) (h : PGs X es t) (hn : (assignEach es X.env).length = 2 := by rfl) (hst : (assignEach es X.env).findIdx? (·.1) = some 1 := by rfl) : PG X (.Tuple es k pos) (gStar X.K t) := by
  refine ⟨fun pins s σ H v u Q I r hw => ?_⟩
  obtain ⟨a, x, xs, ev, hq, hl, hw⟩ := hw
  subst ev
  cases r
  obtain ⟨its, rv, pl, hz⟩ := I.list hq
  cases rv with
  | @cons _ v0 _ vr r0 rr =>
    rw [assign_Tuple]
    refine wpAny_bind (wpAny_standAt ?_)
    unfold unpack
    rw [hn, hst]
    have ln := rr.length
    refine wpAny_bind (wpAny_holding (star2 pl.isList (I.ok.hd hc) rfl (by simp; omega) fun h' tk old => ?_))
    have I1 : Inv X pins σ H { s with heap := h', toks := tk } := I.kept old
    have I2 := I1.laid (h' := h'.push { cls := .type "list", data := .seq vr.toArray }) (a := h'.objs.size) (o := .lst xs) (t' := tk) (fun b o e => Heap.get?_push_of_some _ e) (Nat.le_refl _) ⟨by have := sizeLine_eq; omega, vr, 0, rr, Heap.get?_push_size _ rfl⟩
    exact h.run pins _ σ _ [x, .ref h'.objs.size] [v0, .ref h'.objs.size] Q I2 (.cons r0 (.cons rfl .nil)) (hw _ (I1.hok.fresh (Nat.le_refl _)))
end
section
variable [Nu]
variable {X : Cx} {K : PySem.W.Frag} {σ : List (Option V)} {H : Hp} {Q : VK} {gs : CGs} {ga gb : CG} {ρ : List Addr} {lo : Nat} {h h' : VH} {x y z : VV} {v u : V} {e : Expr} {es : List Expr} {pos p : Pos}
def cStarT (gs : CGs) : CG := fun x lo e h => match lstOf h x with
  | some (y :: ys) => match ys.length.ble 100 with
    | true => ob (h.push (.lst ys)) fun h2 => gs [y, .ref h.n] lo e h2
    | false => none
  | _ => none
theorem q_starT (hc : X.calm = true) (g : PGs X es (denGs X.K gs)) {kk : Nat} (hn : (assignEach es X.env).length = 2 := by rfl) (hst : (assignEach es X.env).findIdx? (·.1) = some 1 := by rfl) : QG X (.Tuple es kk pos) (cStarT gs) := PG.imp (pg_star hc g hn hst) fun v σ H Q d => by
  obtain ⟨ρ, lo, e, h, x, e', h', S, E, r, run, k⟩ := d
  unfold cStarT at run
  split at run
  · rename_i y ys q
    split at run
    · rename_i ql
      obtain ⟨h2, e2, run⟩ := ob_some run
      obtain ⟨a, vs, rfl, ea, rs⟩ := lstOf_ok S r q
      cases vs with
      | nil => exact rs.elim
      | cons w ws =>
        refine ⟨a, w, ws, rfl, SqL.of ea, by have := Nat.le_of_ble_eq_true ql; rw [rs.2.len]; omega, fun D hD => ?_⟩
        obtain ⟨g1, S1, r1⟩ := S.alloc (lo := lo) (o := .lst ws) (w := .lst ys) hD True.intro e2 fun H' q => ⟨ws, q, rs.2.mono ⟨_, rfl⟩⟩
        exact ⟨_, lo, e, h2, [y, .ref h.n], e', h', S1, E.mono g1.le, ⟨rs.1.mono g1.le, r1, True.intro⟩, run, AftE.go g1 k⟩
    · cases run
  · cases run
theorem q_gst {gs : CGs} (h : QG X e ga) (r : PGs X es (denGs X.K gs)) (hs : (assignEach (.Starred e p :: es) X.env).map (·.2) = assign e X.env :: (assignEach es X.env).map (·.2) := by rfl) : PGs X (.Starred e p :: es) (denGs X.K (cGC ga gs)) := PGs.imp (pgs_star h r hs) fun _ _ _ _ d => i_gc d
end
end
end K95

set_option maxRecDepth 100000
set_option maxHeartbeats 4000000
namespace K95
open PySem PySem.Spec PyProof.Rows L2
noncomputable section
variable [Nu]
/-! ### a + b of two instances of one class -/
section
variable {X : Cx} {k : Nat} {C : Addr} {sp : Sp}
def rAddOwn (C : Addr) (sp : Sp) : R2 := fun x y H Q => ∃ a b dx dy fs gs, x = .ref a ∧ y = .ref b ∧ H a = some (.ins C dx fs) ∧ H b = some (.ins C dy gs) ∧ sp [.ref a, .ref b] H Q E0
theorem op_addOwn (D : MethOk X.prog X.w X.K X.mg X.base k C "__add__" [] sp) (sf : PySem.W.selfFirst X.K C = true) (hr : Room k X.A) : OpR X (binaryOp .Add) (rAddOwn C sp) := by
  intro pins s σ H x y v u Q I rx ry q
  obtain ⟨a, b, dx, dy, fs, gs, rfl, rfl, ea, eb, q⟩ := q
  cases rx
  cases ry
  obtain ⟨f, fd, ps, ds, M, F, hb, hv⟩ := D.ex
  cases hv
  obtain ⟨_, J1, _⟩ := ins_get I.hok ea
  obtain ⟨_, J2, _⟩ := ins_get I.hok eb
  obtain ⟨_, J1, _⟩ := J1.look
  obtain ⟨_, J2, _⟩ := J2.look
  have G := I.kIn
  have run := run_sub (A := X.A) (vs := [.ref a, .ref b]) (us := [.ref a, .ref b]) F hb ⟨hr, rfl⟩ I (.cons rfl (.cons rfl .nil)) q
  have one : wpAny (model X.prog X.w) X.A (tryMethod (.ref a) (PySem.dunder "add") (.ref b)) (fun r s' => ∃ v, r = some v ∧ EP X pins σ Q v s') X.xe s := by
    refine PySem.W.ksp_try G J1 M.at_ M.fn (wpAny_mono run (fun v s' z => ?_) fun _ _ z => z)
    have z0 := z
    obtain ⟨v', H', _, rv, _⟩ := z
    cases v <;> first | exact z0 | (cases v' <;> first | (cases rv; done) | (obtain ⟨_, e⟩ := rv; cases e; done) | skip)
  obtain ⟨cd, rest, hcd, hm⟩ := PySem.W.ksp_first sf
  obtain ⟨hh, g, d, tt, os⟩ := s
  have L1 : PySem.W.Looks (model X.prog X.w) hh (typeOf (.ref a)) (.ref C) := J1.type
  have L2 : PySem.W.Looks (model X.prog X.w) hh (typeOf (.ref b)) (.ref C) := J2.type
  have L3 : PySem.W.Looks (model X.prog X.w) hh (fillsNumberSlot (.ref C) "add") true := PySem.W.fills_K G hcd hm M.at_
  show wpAny _ _ (binaryOp .Add _ _) _ _ _
  unfold binaryOp
  refine wpAny_holding (wpAny_bind ?_)
  unfold binaryOp1
  refine wpAny_bind (L1.at (wpAny_bind (L2.at (wpAny_bind (L3.at ?_)))))
  have same : (Value.ref C == Value.ref C) = true := beq_self_eq_true _
  simp only [same, if_true]
  ksp_lk
  refine wpAny_mono one (fun r s' z => ?_) fun _ _ z => z
  obtain ⟨v, rfl, z⟩ := z
  ksp_lk
  exact z
end
end
end K95

set_option maxRecDepth 100000
set_option maxHeartbeats 4000000
namespace K95
open PySem PySem.Spec PyProof.Rows L2
noncomputable section
variable [Nu]
/-! ### two dicts that are held: every value of the first stands in the other -/
section
variable {X : Cx} {n k : Nat} {A : Around} {pins : List (Addr × Obj)} {σ : List (Option V)} {H H' : Hp} {s : Shared} {ρ ρ' : List Addr} {lo : Nat} {h h' : VH} {x y z : VV} {v u : V} {v' u' : Value} {feq : CF}
/-- two values that are seen to be equal; the labels by feq -/
def cqV (feq : CF) (h : VH) : VV → VV → Bool
  | .ref i, .ref j => match i.beq j with
    | true => true
    | false => match h.get i, h.get j with
      | some (.ins .label _), some (.ins .label _) => match feq h.n [.ref i, .ref j] h with
        | some (.bl true, h1) => h1.n.beq h.n
        | _ => false
      | _, _ => match deq (.ref i) (.ref j) h with
        | some true => true
        | _ => false
  | x, y => match deq x y h with
    | some true => true
    | _ => false
/-- behind such a comparison: nothing old has changed -/
def Kept (X : Cx) (pins : List (Addr × Obj)) (σ : List (Option V)) (ρ : List Addr) (h : VH) (H : Hp) (s : Shared) : Prop := ∃ ρ' H', Go ρ h.n h H ρ' h H' ∧ Sim X.K ρ' h H' ∧ Inv X pins σ H' s
theorem Kept.now (S : Sim X.K ρ h H) (I : Inv X pins σ H s) : Kept X pins σ ρ h H s := ⟨ρ, H, Go.refl, S, I⟩
theorem cq_data {b : Bool} (S : Sim X.K ρ h H) (I : Inv X pins σ H s) (sb : Sub X n A) (r1 : RV X.K ρ x v) (r2 : RV X.K ρ y u) (q1 : RelV v v') (q2 : RelV u u') (e : deq x y h = some true) :
    wpAny (model X.prog X.w) A (eqBool v' u') (fun r s' => r = true ∧ Kept X pins σ ρ h H s') X.xe s := by
  obtain ⟨d, d', p1, p2, s1, s2, eq⟩ := deq_ok S r1 r2 e
  obtain ⟨as, a1⟩ := Dp.reads I d v v' p1 q1
  obtain ⟨bs, a2⟩ := Dp.reads I d' u u' p2 q2
  have at_ := SeqAt.eqAt_reads d d' A s v' u' as bs a1 a2 (SeqAt.canLay_of_shaped s1) (SeqAt.canLay_of_shaped s2) (SeqAt.room_of_shaped s1 (by have := sb.room.un; omega))
  rw [eq] at at_
  exact at_ X.prog X.w X.xe _ ⟨rfl, Kept.now S I⟩
def lblOk (o : Option VO) : Bool := match o with
  | some (.ins .label _) => true
  | _ => false
theorem cq_ok (D : MethOk X.prog X.w X.K X.mg X.base k (Cn.label.ad X.K) "__eq__" [] (spC X.K (fgF feq))) (S : Sim X.K ρ h H) (I : Inv X pins σ H s) (sb : Sub X k A) (r1 : RV X.K ρ x v) (r2 : RV X.K ρ y u) (q1 : RelV v v') (q2 : RelV u u') (e : cqV (fgF feq) h x y = true) :
    wpAny (model X.prog X.w) A (eqBool v' u') (fun r s' => r = true ∧ Kept X pins σ ρ h H s') X.xe s := by
  unfold cqV at e
  split at e
  · rename_i i j
    split at e
    · rename_i ij
      have ij := beq_t ij
      subst ij
      obtain ⟨a, rfl, e1⟩ := r1
      obtain ⟨b, rfl, e2⟩ := r2
      rw [e1] at e2
      cases e2
      cases q1
      cases q2
      exact SeqAt.EqAt.same (A := A) (s := s) (.ref a) X.prog X.w X.xe _ ⟨rfl, Kept.now S I⟩
    · rename_i ij
      have ij := beq_f ij
      split at e
      · rename_i fs gs g1 g2
        split at e
        · rename_i h1 run
          have r1' := r1
          have r2' := r2
          obtain ⟨a, dx, ws, rfl, e1, ea, _⟩ := insOf S r1 g1
          obtain ⟨b, dy, us, rfl, e2, eb, _⟩ := insOf S r2 g2
          have eh : h1 = h := by
            obtain ⟨z, h2, _, run2⟩ := bd_some run
            split at run2
            · cases run2; rfl
            · cases run2
          subst eh
          cases q1
          cases q2
          have ne : a ≠ b := fun z => ij (S.inj e1 (z ▸ e2))
          obtain ⟨f, fd, ps, ds, M, F, hb, hv⟩ := D.ex
          cases hv
          have I0 := I
          refine GQ.eqBool_refG ne (wpAny_mono (rc_own (Q := fun w H' => w = .bl true ∧ ∃ ρ', Go ρ h1.n h1 H ρ' h1 H' ∧ Sim X.K ρ' h1 H') F hb M sb I ea eb ?_) (fun w s' z => ?_) fun _ _ z => z)
          · exact ⟨ρ, h1.n, [.ref i, .ref j], h1, .bl true, h1, S, ⟨r1', r2', True.intro⟩, run, fun ρ1 H1 w g1 S1 rw1 => ⟨true, rw1, rfl, ρ1, g1, S1⟩⟩
          · obtain ⟨r, ew, H1, I1, er, ρ1, g, S1⟩ := z
            cases er
            exact ⟨true, ew, rfl, ρ1, H1, g, S1, I1⟩
        · cases e
      · split at e
        · rename_i q
          exact cq_data (b := true) S I sb r1 r2 q1 q2 q
        · cases e
  · split at e
    · rename_i q
      exact cq_data (b := true) S I sb r1 r2 q1 q2 q
    · cases e
def dqAll (feq : CF) (h : VH) (ls : List (Str × VV)) : List (Str × VV) → Bool
  | [] => true
  | (k, x) :: r => match lkK k ls with
    | some y => match cqV feq h x y with
      | true => dqAll feq h ls r
      | false => false
    | none => false
theorem dqAll_at {ls : List (Str × VV)} : ∀ {ks : List (Str × VV)} {i : Nat} {p : Str × VV}, dqAll feq h ls ks = true → ks[i]? = some p → ∃ y, lkK p.1 ls = some y ∧ cqV feq h p.2 y = true
  | [], _, _, _, e => by cases e
  | (k, x) :: r, 0, p, g, e => by
    cases e
    unfold dqAll at g
    split at g
    · rename_i y q
      split at g
      · rename_i q2
        exact ⟨y, q, q2⟩
      · cases g
    · cases g
  | (k, x) :: r, i + 1, p, g, e => by
    unfold dqAll at g
    split at g
    · split at g
      · exact dqAll_at (i := i) g e
      · cases g
    · cases g
def fDq (feq : CF) (neg : Bool) : VV → VV → VH → Option (VV × VH)
  | .ref i, .ref j, h => match h.get i, h.get j with
    | some (.fk ks), some (.fk ls) => match ks.length.beq ls.length && dqAll feq h ls ks with
      | true => some (.bl (!neg), h)
      | false => none
    | _, _ => none
  | _, _, _ => none
def rDq (K : PySem.W.Frag) (feq : CF) (neg : Bool) : R2 := fun x y H Q => ∃ ρ h a b z, Sim K ρ h H ∧ RV K ρ a x ∧ RV K ρ b y ∧ fDq feq neg a b h = some (z, h) ∧ ∀ ρ' H' v, Go ρ h.n h H ρ' h H' → Sim K ρ' h H' → RV K ρ' z v → Q v H'
theorem RKs.at2 {K : PySem.W.Frag} : ∀ {xs : List (Str × VV)} {vs : List (Key × V)} {i : Nat} {p : Key × V}, RKs K ρ xs vs → vs[i]? = some p → ∃ q, xs[i]? = some q ∧ p.1 = Sum.inr q.1 ∧ RV K ρ q.2 p.2
  | [], [], _, _, _, e => by cases e
  | q :: _, _ :: _, 0, _, r, e => by cases e; exact ⟨q, rfl, r.1.1, r.1.2⟩
  | _ :: _, _ :: _, i + 1, _, r, e => RKs.at2 (i := i) r.2 e
  | [], _ :: _, _, _, r, _ => r.elim
  | _ :: _, [], _, _, r, _ => r.elim
theorem KV.at2 {κ : Type} {ks : List (κ × V)} {vs : List (κ × Value)} (r : KV ks vs) : ∀ {i : Nat} {k : κ} {v : Value}, vs[i]? = some (k, v) → ∃ x, ks[i]? = some (k, x) ∧ RelV x v := by
  unfold KV at r
  induction r with
  | nil => intro i k v e; cases e
  | @cons p q ps qs h t ih =>
    intro i k v e
    cases i with
    | zero =>
      cases e
      exact ⟨p.2, by obtain ⟨a, b⟩ := p; obtain ⟨h1, _⟩ := h; cases h1; rfl, h.2⟩
    | succ i => exact ih e
theorem op_dq {op : CmpOp} {neg : Bool} (hop : (op = .Eq ∧ neg = false) ∨ (op = .NotEq ∧ neg = true)) (D : MethOk X.prog X.w X.K X.mg X.base k (Cn.label.ad X.K) "__eq__" [] (spC X.K (fgF feq))) (hr : Room (k + 1) X.A) : OpR X (compareOp op) (rDq X.K (fgF feq) neg) := by
  intro pins s σ H x y v u Q I rx ry q
  obtain ⟨ρ, h, a, b, z, S, r1, r2, run, k0⟩ := q
  unfold fDq at run
  split at run
  · rename_i i j
    split at run
    · rename_i ks ls g1 g2
      split at run
      · rename_i q
        cases run
        obtain ⟨q1, q2⟩ := Bool.and_eq_true_iff.1 q
        have q1 := beq_t q1
        obtain ⟨p1, rfl, ea, od1, ws1, eH1, rk1⟩ := S.ref g1 r1
        obtain ⟨p2, rfl, eb, od2, ws2, eH2, rk2⟩ := S.ref g2 r2
        cases rx
        cases ry
        obtain ⟨c1, _, y1, va, kv1, d1⟩ := (show ObjOk X.prog X.w H s.heap p1 (.frz od1 (.dK ws1)) from I.hok p1 _ eH1)
        obtain ⟨c2, _, y2, vb, kv2, d2⟩ := (show ObjOk X.prog X.w H s.heap p2 (.frz od2 (.dK ws2)) from I.hok p2 _ eH2)
        have len : va.length = vb.length := by rw [← Paired.length kv1, ← Paired.length kv2, rk1.len, rk2.len, q1]
        refine K95D.rcG (kd := mixKind X.prog X.w) hop y1 y2 c1 c2 d1 d2 hr.units0 len (fun _ s' => Kept X pins σ ρ h H s') (fun i s' J => ?_) (fun i k v s' at_ J => ?_) (Kept.now S I) fun s' J => ?_
        · obtain ⟨ρ', H', g, S', I'⟩ := J
          have k1 := g.keep p1 _ eH1 fun i hi => .inl (S.lt hi)
          have k2 := g.keep p2 _ eH2 fun i hi => .inl (S.lt hi)
          exact ⟨(show ObjOk X.prog X.w H' s'.heap p1 (.frz od1 (.dK ws1)) from I'.hok p1 _ k1).1, (show ObjOk X.prog X.w H' s'.heap p2 (.frz od2 (.dK ws2)) from I'.hok p2 _ k2).1⟩
        · obtain ⟨ρ', H', g, S', I'⟩ := J
          obtain ⟨w1, e1, rel1⟩ := KV.at2 kv1 at_
          obtain ⟨p, e2, ek, rv⟩ := rk1.at2 e1
          simp only at ek rv
          obtain ⟨yy, e3, e4⟩ := dqAll_at q2 e2
          obtain ⟨w2, e5, rv2⟩ := lkK_some rk2 e3
          have ro := kv2.val k
          rw [ek, e5] at ro
          obtain ⟨u2, e6, rel2⟩ := ro.some_of
          refine ⟨u2, by rw [ek]; exact e6, wpAny_mono (cq_ok (A := X.A.in1) D S' I' ⟨hr.in1, rfl⟩ (rv.mono g.le) (rv2.mono g.le) rel1 rel2 e4) (fun r s2 z => ?_) fun _ _ z => z⟩
          obtain ⟨er, ρ2, H2, g2, S2, I2⟩ := z
          exact ⟨er, ρ2, H2, g.trans g2, S2, I2⟩
        · obtain ⟨ρ', H', g, S', I'⟩ := J
          exact ⟨.bl (!neg), H', I', rfl, k0 ρ' H' _ g S' rfl⟩
      · cases run
    · cases run
  · cases run
theorem oc_dq {K : PySem.W.Frag} {neg : Bool} : OpC K (rDq K feq neg) (fDq feq neg) := by
  intro ρ lo h h' H x y z v u Q S r1 r2 run k
  have e : h' = h := by
    unfold fDq at run
    split at run
    · split at run
      · split at run
        · cases run; rfl
        · cases run
      · cases run
    · cases run
  subst e
  exact ⟨ρ, h', x, y, z, S, r1, r2, run, fun ρ' H' v g S' r => k ρ' H' v (Go.weak S g) S' r⟩
end
end
end K95

set_option maxRecDepth 100000
set_option maxHeartbeats 4000000
namespace K95
open PySem PySem.Spec PyProof.Rows L2
noncomputable section
variable [Nu]
/-! ### what else the head says -/
section
variable {P : Program} {w : World} {K : PySem.W.Frag} {mg : Str → Option Value} {base : Heap} {k : Nat}
theorem band {a b : Bool} (h : (a && b) = true) : a = true ∧ b = true := Bool.and_eq_true_iff.1 h
theorem Ctx.exb (c : Ctx w K mg) : exB K = true := (band c.b).1
theorem Ctx.prb (c : Ctx w K mg) : prB K = true := (band c.b).2
theorem Ctx.e1 (c : Ctx w K mg) : PySem.W.specialIn K (.builtin "object.__class__") "__get__" = some (some (.builtin "getset_descriptor.__get__")) ∧ PySem.W.takesIn K (.builtin "object.__class__") = some true := by
  obtain ⟨h1, h2⟩ := band (band c.exb).1
  exact ⟨He.eqO_ok h1, of_decide_eq_true h2⟩
theorem Ctx.e2 (c : Ctx w K mg) : clB K (cLabel K) = true ∧ clB K (cScheme K) = true ∧ clB K (cAction K) = true := by
  obtain ⟨h1, h2⟩ := band (band (band c.exb).2).1
  obtain ⟨h2, h3⟩ := band h2
  exact ⟨h1, h2, h3⟩
theorem Ctx.e3 (c : Ctx w K mg) : PySem.W.selfFirst K (cAction K) = true := (band (band (band (band c.exb).2).2).1).1
theorem Ctx.e4 (c : Ctx w K mg) : He.tupB K "JOINTS" [.str ".", .str ":", .str "/"] = true ∧ He.valsB K (He.ga K "LEAST") [("add", .int 1), ("set", .int 0)] = true := band (band (band (band (band c.exb).2).2).2).1
theorem Ctx.insC (c : Ctx w K mg) {C : Addr} (cl : Cls K C) (h : clB K C = true) : C8.InsC K C := by
  obtain ⟨h1, h2⟩ := band h
  obtain ⟨h2, _⟩ := band h2
  exact insC_of cl (He.eqO_ok h1) c.e1.1 c.e1.2 (of_decide_eq_true h2)
theorem Ctx.ne_of (h : clB K C = true) : neB K C = true := (band (band h).2).2
theorem Ctx.isLabel (c : Ctx w K mg) : C8.InsC K (Cn.label.ad K) := c.insC c.clLabel c.e2.1
theorem Ctx.isScheme (c : Ctx w K mg) : C8.InsC K (Cn.scheme.ad K) := c.insC c.clScheme c.e2.2.1
theorem Ctx.isAction (c : Ctx w K mg) : C8.InsC K (Cn.action.ad K) := c.insC c.clAction c.e2.2.2
theorem meth_uni {C : Addr} {m : Str} {f g : Addr} (a : Meth K C m f) (b : Meth K C m g) : f = g := by
  have := a.at_.symm.trans b.at_
  cases this
  rfl
/-- the default of Label.__init__ -/
theorem dfl_tup (c : Ctx w K mg) : ∀ H, SqT K H (ktA K) [] := by
  have h := (band (band (band (band c.exb).2).2).2).2
  intro H
  unfold SqT
  split at h
  · rename_i t dd its n sl lk
    obtain ⟨h1, h2⟩ := band h
    have h1 : t = "tuple" := by simpa using h1
    subst h1
    have h2 : its.toList = [] := by simpa using h2
    refine .inr ⟨_, its, n, lk, rfl, rfl, ?_, ?_⟩
    · rw [← Array.length_toList, h2]
      exact Nat.zero_le _
    · rw [h2]
      exact .nil
  · cases h
theorem rd_kt (c : Ctx w K mg) : ∀ ρ, RVs K ρ [.kt] [.ref (ktA K)] := fun _ => ⟨⟨_, rfl, rfl, dfl_tup c⟩, True.intro⟩
end
/-! ### in JOINTS, in LEAST, LEAST[word] -/
section
variable {P : Program} {w : World} {X : Cx} {mg : Str → Option Value} {base : Heap} {k : Nat} {ra : CE} {a : Expr} {pos p : Pos} {σ : List (Option V)} {H : Hp} {Q : VK}
def jnts : List Nat := [46, 58, 47]
def cInJ (ra : CE) : CE := fun lo e h => bd (ra lo e h) fun x h1 => match x with
  | .str z => match lis z with
    | [c] => some (.bl (c.beq 46 || (c.beq 58 || c.beq 47)), h1)
    | _ => none
  | _ => none
theorem q_inJ (c : Ctx X.w X.K X.mg) (ha : QE X a ra) (hg : Gl X "JOINTS" := by rfl) (hm : behindInMarks .In (.Name "JOINTS" p) = false := by rfl) : QE X (.Compare a [.In] [.Name "JOINTS" p] pos) (cInJ ra) :=
  PE.imp (pe_cmpR op_in_seq ha (pe_gr c.g_JOINTS hg) hm) fun σ H Q d => by
    obtain ⟨ρ, lo, e, h, z, h', S, E, run, k⟩ := d
    obtain ⟨x, h1, e1, run⟩ := bd_some run
    refine ⟨ρ, lo, e, h, x, h1, S, E, e1, fun ρ1 H1 v g1 S1 r1 => ?_⟩
    split at run
    · rename_i t
      split at run
      · rename_i n el
        cases run
        have ev : v = .str t := r1
        subst ev
        have et : t = mkS [n] := by rw [← el, mkS_lis]
        subst et
        refine ⟨_, _, rfl, .inr (He.tupB_ok c.e4.1 H1), rfl, rfl, ?_⟩
        have e0 : (if false = true then !inV (V.str (mkS [n])) (List.map (He.Dv.v X.K) [He.Dv.str ".", He.Dv.str ":", He.Dv.str "/"]) else inV (V.str (mkS [n])) (List.map (He.Dv.v X.K) [He.Dv.str ".", He.Dv.str ":", He.Dv.str "/"])) = (n.beq 46 || (n.beq 58 || n.beq 47)) := by
          have one : ∀ (z : Str) (m : Nat), z = mkS [m] → eqV (V.str z) (V.str (mkS [n])) = n.beq m := fun z m ez => by
            subst ez
            show (mkS [m] == mkS [n]) = n.beq m
            cases q : n.beq m with
            | true => rw [beq_t q]; exact beq_self_eq_true _
            | false =>
              refine beq_eq_false_iff_ne.2 fun z => beq_f q ?_
              have z : [m] = [n] := congrArg (fun s => s.cps.toList) z
              cases z
              rfl
          show inV _ _ = _
          unfold inV
          have j1 := one "." 46 (by decide +kernel)
          have j2 := one ":" 58 (by decide +kernel)
          have j3 := one "/" 47 (by decide +kernel)
          show (eqV (V.str ".") _ || (eqV (V.str ":") _ || (eqV (V.str "/") _ || false))) = _
          rw [j1, j2, j3, Bool.or_false]
        rw [e0]
        exact (k.go g1).now S1 rfl
      · cases run
    · cases run
/-- the values of LEAST -/
def addK : Str := mkS [97, 100, 100]
def setK : Str := mkS [115, 101, 116]
theorem addK_eq : addK = "add" := by decide +kernel
theorem setK_eq : setK = "set" := by decide +kernel
def lstK (z : Str) : Option Int := match seqS z addK with
  | true => some 1
  | false => match seqS z setK with
    | true => some 0
    | false => none
theorem lst_ok {K : PySem.W.Frag} (h : He.valsB K (He.ga K "LEAST") [("add", .int 1), ("set", .int 0)] = true) {z : Str} {i : Int} (e : lstK z = some i) : ∃ u, PySem.W.nsIn K (He.ga K "LEAST") z = some (some u) ∧ RelV (.int i) u := by
  unfold lstK at e
  split at e
  · rename_i q
    cases e
    rw [seqS_t q, addK_eq]
    exact He.valsB_ok h (q := ("add", .int 1)) (.head _)
  · split at e
    · rename_i q
      cases e
      rw [seqS_t q, setK_eq]
      exact He.valsB_ok h (q := ("set", .int 0)) (.tail _ (.head _))
    · cases e
def cNinL (ra : CE) : CE := fun lo e h => bd (ra lo e h) fun x h1 => match x with
  | .str z => match lstK z with
    | some _ => some (.bl false, h1)
    | none => none
  | _ => none
theorem q_ninL (c : Ctx X.w X.K X.mg) (ha : QE X a ra) (hg : Gl X "LEAST" := by rfl) (hm : behindInMarks .NotIn (.Name "LEAST" p) = false := by rfl) : QE X (.Compare a [.NotIn] [.Name "LEAST" p] pos) (cNinL ra) := by
  obtain ⟨es, n, D⟩ := c.t.tab 0
  exact PE.imp (pe_cmpR (op_notIn_kd D) ha (pe_gr c.g_LEAST hg) hm) fun σ H Q d => by
    obtain ⟨ρ, lo, e, h, z, h', S, E, run, k⟩ := d
    obtain ⟨x, h1, e1, run⟩ := bd_some run
    refine ⟨ρ, lo, e, h, x, h1, S, E, e1, fun ρ1 H1 v g1 S1 r1 => ?_⟩
    split at run
    · split at run
      · rename_i i q
        cases run
        obtain ⟨u, e2, _⟩ := lst_ok c.e4.2 q
        exact ⟨_, _, r1, rfl, e2, (k.go g1).now S1 rfl⟩
      · cases run
    · cases run
theorem q_tninL (c : Ctx X.w X.K X.mg) (ha : QE X a ra) (hg : Gl X "LEAST" := by rfl) (hm : behindInMarks .NotIn (.Name "LEAST" p) = false := by rfl) : QT X (.Compare a [.NotIn] [.Name "LEAST" p] pos) (cB (cNinL ra)) := by
  obtain ⟨es, n, D⟩ := c.t.tab 0
  exact PT.imp (pt_cmpR (op_notIn_kd D) ha (pe_gr c.g_LEAST hg) hm) fun σ H Q d => by
    obtain ⟨ρ, lo, e, h, z, h', S, E, run, k⟩ := d
    obtain ⟨y, h0, e0, run⟩ := bd_some run
    obtain ⟨x, h1, e1, e0⟩ := bd_some e0
    refine ⟨ρ, lo, e, h, x, h1, S, E, e1, fun ρ1 H1 v g1 S1 r1 => ?_⟩
    split at e0
    · split at e0
      · rename_i i q
        cases e0
        cases run
        obtain ⟨u, e2, _⟩ := lst_ok c.e4.2 q
        refine ⟨_, _, r1, rfl, e2, false, rfl, k ρ1 H1 g1 S1⟩
      · cases e0
    · cases e0
end
end
end K95

set_option maxRecDepth 100000
set_option maxHeartbeats 4000000
namespace K95
open PySem PySem.Spec PyProof.Rows L2
noncomputable section
variable [Nu]
section
variable {P : Program} {w : World} {X : Cx} {mg : Str → Option Value} {base : Heap} {k : Nat} {ra : CE} {a e : Expr} {pos p : Pos} {σ : List (Option V)} {H : Hp} {Q : VK}
/-! ### LEAST[word] -/
theorem ix_kd {d : Addr} {es : Array DictEntry} {n : Nat} (D : KDict X.K X.w d es n) : IxR X (fun x y H Q => ∃ (z : Str) (u0 : Value) (v0 : V), x = .ref d ∧ y = .str z ∧ PySem.W.nsIn X.K d z = some (some u0) ∧ RelV v0 u0 ∧ Q v0 H) := by
  intro value slice pins s σ H x y v u Q I rx ry h hs
  obtain ⟨z, u0, v0, rfl, rfl, en, r, q⟩ := h
  cases rx
  obtain ⟨t, rfl⟩ := ry
  refine subscriptTail_builtinR (x := u0) (kd_type D I) PySem.F.slot_dict_getitem.lookup ?_ hs
  exact wpAny_getItem_of (PySem.strKind_is X.prog X.w z t) (PySem.W.mapOf_K (prog := X.prog) I.kIn D.at_ D.lit) (PySem.W.find_K D.at_ en) ⟨rfl, v0, H, I.tok _, r, q⟩
def cLst1 (ra : CE) : CE := fun lo e h => bd (ra lo e h) fun x h1 => match x with
  | .str z => match lstK z with
    | some i => some (.int i, h1)
    | none => none
  | _ => none
theorem q_ixL (c : Ctx X.w X.K X.mg) (ha : QE X a ra) (hg : Gl X "LEAST" := by rfl) (hs : ∀ o i, subscripted a false o i = operate [o, i] (getItem o i) := by intro _ _; rfl) : QE X (.Subscript (.Name "LEAST" p) a pos) (cLst1 ra) := by
  obtain ⟨es, n, D⟩ := c.t.tab 0
  exact PE.imp (pe_ix (ix_kd D) (pe_gr c.g_LEAST hg) ha hs) fun σ H Q d => by
    obtain ⟨ρ, lo, e, h, z, h', S, E, run, k⟩ := d
    obtain ⟨x, h1, e1, run⟩ := bd_some run
    refine ⟨ρ, lo, e, h, x, h1, S, E, e1, fun ρ1 H1 v g1 S1 r1 => ?_⟩
    split at run
    · split at run
      · rename_i i q
        cases run
        obtain ⟨u, e2, r2⟩ := lst_ok c.e4.2 q
        exact ⟨_, u, _, rfl, r1, e2, r2, (k.go g1).now S1 rfl⟩
      · cases run
    · cases run
/-! ### label.shown -/
theorem prop_of {K : PySem.W.Frag} (h : prB K = true) : PropOf K (cLabel K) "shown" (prP K) (prG K) := by
  unfold prB at h
  obtain ⟨h1, h⟩ := band h
  obtain ⟨h2, h⟩ := band h
  obtain ⟨h3, h⟩ := band h
  obtain ⟨h4, h⟩ := band h
  refine ⟨He.eqO_ok h1, He.eqO_ok h2, of_decide_eq_true h3, ?_⟩
  unfold prG
  split at h4
  · rename_i g rest q
    rw [q]
    exact ⟨rest, rfl⟩
  · cases h4
def c_LabelShown : CF := fun _ xs h => match xs with
  | [.ref i] => match h.get i with
    | some (.ins c fs) => match c.nat.beq Cn.label.nat with
      | true => ob (lkF 1 fs) fun y => some (y, h)
      | false => none
    | _ => none
  | _ => none
theorem q_shown (c : Ctx X.w X.K X.mg) (he : QE X e ra) (hr : Room 2 X.A) (hab : attributeBase e "shown" X.env (eval e X.env) = eval e X.env := by rfl) : QE X (.Attribute e "shown" pos) (cPr .label c_LabelShown ra) := by
  have hp := prop_of c.prb
  have h9 := c.prb
  unfold prB at h9
  obtain ⟨_, h9⟩ := band h9
  obtain ⟨_, h9⟩ := band h9
  obtain ⟨_, h9⟩ := band h9
  obtain ⟨_, h9⟩ := band h9
  obtain ⟨_, h9⟩ := band h9
  have sh : fnA X.K (prG X.K) = shownW := congrArg (fun z : AlK => z.2.2) c.says
  unfold fnA at sh
  cases q : X.K.lookup (prG X.K) with
  | none =>
    rw [q] at h9
    cases h9
  | some o =>
    obtain ⟨oc, od, dt, osl⟩ := o
    rw [q] at h9 sh
    cases dt with
    | func fd =>
      obtain ⟨n1, n2, n3, n4, n5, n6, n7, n8, n9, n10, n11, n12, n13, n14, n15⟩ := fd
      have sh : (some (n1, n2, n3, n4, n5, n6, n7, n15) : He.FnW) = shownW := sh
      unfold shownW at sh
      simp only [Option.some.injEq, Prod.mk.injEq] at sh
      obtain ⟨h1, h2, h3, h4, h5, h6, h7, h8⟩ := sh
      subst h1 h2 h3 h4 h5 h6 h7 h8
      obtain ⟨h9, hd⟩ := band h9
      rcases He.dflB_ok hd with ⟨_, ed⟩ | ⟨ed, _⟩
      case inr => exact absurd rfl ed
      have ed : n8 = .none := ed
      subst ed
      have F := fn_getter (CX := CX0) (P := X.prog) (w := X.w) (mg := X.mg) (base := X.base) (k := 0) (f := "slots") q h9 scLabelShown rfl rfl c.clLabel c.nLabel_slots
      refine PE.imp (pe_prop he c.clLabel hp F hr (.all fun us hl => match us, hl with | [_], _ => rfl) .nil (E := E0) (fun _ _ _ _ _ _ _ h => h.elim) hab) fun σ H Q d => ?_
      obtain ⟨ρ, lo, e, h, z, h', S, E, run, k⟩ := d
      obtain ⟨x, h1, e1, run⟩ := bd_some run
      refine ⟨ρ, lo, e, h, x, h1, S, E, e1, fun ρ1 H1 v g1 S1 r1 => ?_⟩
      split at run
      · rename_i i
        split at run
        · rename_i c' fs q1
          split at run
          · rename_i qc
            unfold c_LabelShown at run
            dsimp only at run
            rw [q1] at run
            dsimp only at run
            rw [Cn.inj qc] at run
            obtain ⟨y, e2, run⟩ := ob_some run
            cases run
            obtain ⟨a, dx, gs, rfl, ea, eH, rf⟩ := insOf S1 r1 q1
            obtain ⟨w', e5, e6⟩ := lkF_ok rf e2
            have eH' := Cn.inj qc ▸ eH
            exact ⟨a, dx, gs, rfl, eH', a, dx, gs, w', rfl, eH', e5, (k.go g1).now S1 e6⟩
          · cases run
        · cases run
      · cases run
    | _ => cases h9
end
/-! ### calls with keywords -/
def pk {α : Type} (is : List Nat) (xs : List α) : List α := is.filterMap fun i => xs[i]?
theorem Vals.pk {vs : List V} {us : List Value} (r : Vals vs us) : ∀ (is : List Nat), Vals (pk is vs) (pk is us)
  | [] => .nil
  | i :: is => by
    unfold K95.pk
    rw [List.filterMap_cons, List.filterMap_cons]
    cases q : vs[i]? with
    | none =>
      have : us[i]? = none := by
        rw [List.getElem?_eq_none_iff] at q ⊢
        rw [← r.length]
        exact q
      rw [this]
      exact Vals.pk r is
    | some v =>
      obtain ⟨u, e, ru⟩ := r.get q
      rw [e]
      exact .cons ru (Vals.pk r is)
theorem RVs.pk {K : PySem.W.Frag} {ρ : List Addr} {xs : List VV} {vs : List V} (r : RVs K ρ xs vs) : ∀ (is : List Nat), RVs K ρ (pk is xs) (pk is vs)
  | [] => True.intro
  | i :: is => by
    unfold K95.pk
    rw [List.filterMap_cons, List.filterMap_cons]
    cases q : xs[i]? with
    | none =>
      have : vs[i]? = none := by
        rw [List.getElem?_eq_none_iff] at q ⊢
        rw [r.len]
        exact q
      rw [this]
      exact RVs.pk r is
    | some x =>
      obtain ⟨v, e, rv⟩ := r.at_ q
      rw [e]
      exact ⟨rv, RVs.pk r is⟩
/-- a def at f that is called with n values and keywords ks: they stand in the order of the names by is -/
structure FnK (P : Program) (w : World) (K : PySem.W.Frag) (mg : Str → Option Value) (base : Heap) (k n : Nat) (ks : List Str) (is : List Nat) (f : Addr) (sp : Sp) : Prop where
  ex : ∃ (fd : FuncData) (ps : List Str) (g : List Value → List Value → List Value), FnOk P w K mg base CX0 k f fd ps sp ∧ KBn K fd ps n ks g (fun vs zs => vs ++ pk is zs)
section
variable {K : PySem.W.Frag} {x qual : Str} {params : Arguments} {body : List Stmt} {scope : Scope} {dvs : List V} {kws : List (Str × V)} {f : Addr} {fd : FuncData} {ps : List Str}
theorem FunD.kbP (F : FunD K x qual params body scope [] kws f fd) (n : Nat) (ks : List Str) (is : List Nat)
    (h : ∀ (kV doc pm : Value) (an : Option Addr) (cdv ct : Value) (us ws : List Value), us.length = n → ws.length = ks.length → bindArgs (PySem.W.fnOf x qual params body scope .none kV doc pm an cdv ct) ⟨us, ks.zip ws⟩ = pure (ps.zip (us ++ pk is ws))) :
    KBn K fd ps n ks (fun us ws => us ++ pk is ws) (fun vs zs => vs ++ pk is zs) := by
  obtain ⟨oc, od, dV, kV, doc, pm, an, cdv, ct, osl, rfl, lk, hcd, hD, hK⟩ := F.ex
  rcases hD with ⟨_, rfl⟩ | ⟨e, _⟩
  · exact ⟨fun s us ws _ l1 l2 => .of_eq (h kV doc pm an cdv ct us ws l1 l2), fun r1 r2 => r1.append (K95.Vals.pk r2 is)⟩
  · exact absurd rfl e
end
abbrev QK (X : Cx) (kws : List Keyword) (r : CA) : Prop := PK X kws (denA X.K r)
section
variable {X : Cx} {K : PySem.W.Frag} {σ : List (Option V)} {H : Hp} {Q : VK} {ra ro : CE} {la lk : CA} {k n : Nat} {F : CF} {C : Cn} {f : Addr} {x m : Str} {e o : Expr} {es : List Expr} {kws : List Keyword} {ks : List Str} {is : List Nat} {pos p apos kpos : Pos} {nm : Option Str} {t tk : TA} {ta : TE} {sp : Sp}
theorem PK.imp {t t' : TA} (h : PK X kws t) (g : ∀ σ H Q, t' σ H Q → t σ H Q) : PK X kws t' := ⟨fun pos pins s σ H Q I q => h.run pos pins s σ H Q I (g σ H Q q)⟩
theorem q_k0 : QK X [] cNil := PK.imp pk_nil fun _ _ _ d => i_nil d
theorem q_kc (ha : QE X e ra) (hb : QK X kws la) : QK X (⟨nm, e, kpos⟩ :: kws) (cCons ra la) := PK.imp (pk_cons ha hb) fun _ _ _ d => i_cons d
/-- f(k = v, ..) -/
def cFnK (F : CF) (m : Nat) (is : List Nat) (lk : CA) : CE := fun lo e h => bd (lk lo e h) fun xs h1 => match xs.length.beq m with
  | true => F lo (pk is xs) h1
  | false => none
theorem q_fK (hm : X.mg x = some (.ref f)) (hk : PySem.W.keepIn X.K (.ref f) = true) (D : FnK X.prog X.w X.K X.mg X.base k 0 ks is f (spC X.K F)) (hr : Room k X.A) (hkw : QK X kws lk) (hg : Gl X x := by rfl) (hall : (backToKw pos (keywordEach kws X.env)).all (·.1.isSome) = true := by rfl)
    (hks : (backToKw pos (keywordEach kws X.env)).filterMap (·.1) = ks := by rfl) (hdb : (x == ("__debug__" : Str)) = false := by decide)
    (hpl : ((backTo pos (starEach [] X.env)).any (·.1) || (backToKw pos (keywordEach kws X.env)).any (·.1.isNone)) = false := by rfl) : QE X (.Call (.Name x p) [] kws pos) (cFnK F ks.length is lk) := by
  obtain ⟨fd, ps, g, Fo, hb⟩ := D.ex
  refine ⟨fun pins s σ H Q I d => ?_⟩
  refine wpAny_Call_Name_kw (ld_glob I hg hm ?_ hdb)
  refine PySem.W.callWith_KW0 (h₀ := X.base) I.ok.mod.kin hk hall ?_ hpl
  obtain ⟨ρ, lo, e, h, z, h', S, E, run, kk⟩ := d
  obtain ⟨xs, h1, e1, run⟩ := bd_some run
  refine thn (hkw.run pos pins s σ H _ I ⟨ρ, lo, e, h, xs, h1, S, E, e1, fun ρ1 H1 vs g1 S1 r1 => (⟨ρ1, g1, S1, r1⟩ : (fun vs H1 => ∃ ρ1, Go ρ lo h H ρ1 h1 H1 ∧ Sim X.K ρ1 h1 H1 ∧ RVs X.K ρ1 xs vs) vs H1)⟩) fun ws s2 ⟨zs, H2, I2, rz, ρ1, g1, S1, r1⟩ => ⟨I2.kIn, ?_⟩
  split at run
  · rename_i ql
    rw [hks]
    exact run_fnN (us := []) (vs := []) (E := E0) Fo hr hb pass0 I2 .nil rz rfl (by rw [r1.len]; exact beq_t ql) ⟨ρ1, lo, pk is xs, h1, z, h', S1, K95.RVs.pk r1 is, run, kk.go g1⟩
  · cases run
end
end
end K95

set_option maxRecDepth 100000
set_option maxHeartbeats 4000000
namespace K95
open PySem PySem.Spec PyProof.Rows L2
noncomputable section
variable [Nu]
section
variable {X : Cx} {K : PySem.W.Frag} {σ : List (Option V)} {H : Hp} {Q : VK} {ra ro : CE} {la lk : CA} {sa sb : CS} {k n : Nat} {F fEn fEx : CF} {C : Cn} {f : Addr} {x m : Str} {e o ctx : Expr} {es : List Expr} {body : List Stmt} {kws : List Keyword} {ks : List Str} {is : List Nat} {pos p apos kpos : Pos} {nm : Option Str} {t tk : TA} {ta : TE} {sp : Sp}
/-! ### C(k = v, ..), C(e, .., k = v, ..) -/
def cMkK (c : Cn) (F : CF) (m : Nat) (is : List Nat) (la lk : CA) : CE := fun lo e h => bd (la lo e h) fun xs h1 => bd (lk lo e h1) fun ys h2 => match ys.length.beq m with
  | true => ob (h2.push (.ins c [])) fun h3 => bd (F lo (.ref h2.n :: (xs ++ pk is ys)) h3) fun y h4 => match y with
    | .non => some (.ref h2.n, h4)
    | _ => none
  | false => none
theorem q_mkK0 (hm : X.mg x = some (.ref (C.ad X.K))) (M : Mk X.K (C.ad X.K) f) (D : FnK X.prog X.w X.K X.mg X.base k 1 ks is f (spC X.K F)) (hr : Room (k + 1) X.A) (hkw : QK X kws lk) (hg : Gl X x := by rfl) (hall : (backToKw pos (keywordEach kws X.env)).all (·.1.isSome) = true := by rfl)
    (hks : (backToKw pos (keywordEach kws X.env)).filterMap (·.1) = ks := by rfl) (hdb : (x == ("__debug__" : Str)) = false := by decide)
    (hpl : ((backTo pos (starEach [] X.env)).any (·.1) || (backToKw pos (keywordEach kws X.env)).any (·.1.isNone)) = false := by rfl) : QE X (.Call (.Name x p) [] kws pos) (cMkK C F ks.length is cNil lk) := by
  obtain ⟨fd, ps, g, Fo, hb⟩ := D.ex
  refine PE.imp (pe_makeK0 (E := E0) M Fo hr hg hm hb pass0 hkw hall hks hdb hpl) fun σ H Q d => ?_
  obtain ⟨ρ, lo, e, h, z, h', S, E, run, kk⟩ := d
  obtain ⟨xs, h1, e1, run⟩ := bd_some run
  cases e1
  obtain ⟨ys, h2, e2, run⟩ := bd_some run
  refine ⟨ρ, lo, e, h, ys, h2, S, E, e2, fun ρ1 H1 vs g1 S1 r1 => ?_⟩
  split at run
  · rename_i ql
    refine ⟨rfl, by rw [r1.len]; exact beq_t ql, fun x dx n1 n2 ne => ?_⟩
    exact mk_run (c := C) (xs := pk is ys) (vs := pk is vs) S1 (K95.RVs.pk r1 is) (kk.go g1) run x dx n1 n2 ne
  · cases run
theorem q_mkK (hm : X.mg x = some (.ref (C.ad X.K))) (M : Mk X.K (C.ad X.K) f) (n : Nat) (D : FnK X.prog X.w X.K X.mg X.base k (n + 1) ks is f (spC X.K F)) (hr : Room (k + 1) X.A) (ha : QA X (e :: es) la) (hkw : QK X kws lk) (hg : Gl X x := by rfl) (hall : (backToKw pos (keywordEach kws X.env)).all (·.1.isSome) = true := by rfl)
    (hks : (backToKw pos (keywordEach kws X.env)).filterMap (·.1) = ks := by rfl) (hdb : (x == ("__debug__" : Str)) = false := by decide)
    (he : starEach (e :: es) X.env = (false, eval e X.env) :: starEach es X.env := by rfl)
    (hpl : ((backTo pos (starEach (e :: es) X.env)).any (·.1) || (backToKw pos (keywordEach kws X.env)).any (·.1.isNone)) = false := by rfl)
    (hl : ∀ lo e h xs h1, la lo e h = some (xs, h1) → xs.length = n) : QE X (.Call (.Name x p) (e :: es) kws pos) (cMkK C F ks.length is la lk) := by
  obtain ⟨fd, ps, g, Fo, hb⟩ := D.ex
  refine PE.imp (pe_makeK (E := E0) M Fo hr hg hm hb pass0 ha hkw hall hks hdb he hpl) fun σ H Q d => ?_
  obtain ⟨ρ, lo, e, h, z, h', S, E, run, kk⟩ := d
  obtain ⟨xs, h1, e1, run⟩ := bd_some run
  obtain ⟨ys, h2, e2, run⟩ := bd_some run
  refine ⟨ρ, lo, e, h, xs, h1, S, E, e1, fun ρ1 H1 us g1 S1 r1 => ⟨ρ1, lo, e, h1, ys, h2, S1, E.mono g1.le, e2, fun ρ2 H2 vs g2 S2 r2 => ?_⟩⟩
  split at run
  · rename_i ql
    refine ⟨by rw [r1.len]; exact hl _ _ _ _ _ e1, by rw [r2.len]; exact beq_t ql, fun x dx n1 n2 ne => ?_⟩
    exact mk_run (c := C) (xs := xs ++ pk is ys) (vs := us ++ pk is vs) S2 ((r1.mono g2.le).app (K95.RVs.pk r2 is)) ((kk.go g1).go g2) run x dx n1 n2 ne
  · cases run
theorem len_nil : ∀ lo e h xs h1, cNil lo e h = some (xs, h1) → xs.length = 0 := fun lo e h xs h1 r => by cases r; rfl
theorem len_cons {j : Nat} (hl : ∀ lo e h xs h1, la lo e h = some (xs, h1) → xs.length = j) : ∀ lo e h xs h1, cCons ra la lo e h = some (xs, h1) → xs.length = j + 1 := fun lo e h xs h1 r => by
  obtain ⟨y, h2, _, r⟩ := bd_some r
  obtain ⟨ys, h3, q, r⟩ := bd_some r
  cases r
  show ys.length + 1 = _
  rw [hl _ _ _ _ _ q]
/-! ### o.m(k = v, ..) -/
def cMtK (c : Cn) (F : CF) (m : Nat) (is : List Nat) (ra : CE) (lk : CA) : CE := fun lo e h => bd (ra lo e h) fun x h1 => match x with
  | .ref i => match h1.get i with
    | some (.ins c' fs) => match c'.nat.beq c.nat with
      | true => bd (lk lo e h1) fun ys h2 => match ys.length.beq m with
        | true => F lo (x :: pk is ys) h2
        | false => none
      | false => none
    | _ => none
  | _ => none
theorem q_mK {pl : Sem Bool} (cl : Cls X.K (C.ad X.K)) (hm : Meth X.K (C.ad X.K) m f) (D : FnK X.prog X.w X.K X.mg X.base k 1 ks is f (spC X.K F)) (hf : ∀ n : Fn, fnm n ≠ m) (hr : Room k X.A) (ho : QE X o ro) (hkw : QK X kws lk)
    (hall : (backToKw pos (keywordEach kws X.env)).all (·.1.isSome) = true := by rfl)
    (hks : (backToKw pos (keywordEach kws X.env)).filterMap (·.1) = ks := by rfl)
    (hpl : ((backTo pos (starEach [] X.env)).any (·.1) || (backToKw pos (keywordEach kws X.env)).any (·.1.isNone)) = false := by rfl)
    (ht : eval (.Call (.Attribute o m apos) [] kws pos) X.env = (do
      let ov ← eval o X.env
      standAt apos.atName
      let (f, first) ← holding [ov] (getMethod ov m pl)
      callWith pos f first (backTo pos (starEach [] X.env)) (backToKw pos (keywordEach kws X.env))) := by rfl) :
    QE X (.Call (.Attribute o m apos) [] kws pos) (cMtK C F ks.length is ro lk) := by
  obtain ⟨fd, ps, g, Fo, hb⟩ := D.ex
  refine ⟨fun pins s σ H Q I d => ?_⟩
  obtain ⟨ρ, lo, e, h, z, h', S, E, run, kk⟩ := d
  obtain ⟨y, h1, e1, run⟩ := bd_some run
  refine PySem.W.methodCall_KW (pl := pl) (thn (ho.run pins s σ H _ I ⟨ρ, lo, e, h, y, h1, S, E, e1, fun ρ1 H1 v g1 S1 r1 => (⟨ρ1, g1, S1, r1⟩ : (fun v H1 => ∃ ρ1, Go ρ lo h H ρ1 h1 H1 ∧ Sim X.K ρ1 h1 H1 ∧ RV X.K ρ1 y v) v H1)⟩) fun u s1 z1 => ?_) ht
  obtain ⟨v, H1, I1, rv, ρ1, g1, S1, r1⟩ := z1
  split at run
  · split at run
    · rename_i i _ c' fs q
      split at run
      · rename_i qc
        obtain ⟨ys, h2, e2, run⟩ := bd_some run
        split at run
        · rename_i ql
          have r1' := r1
          obtain ⟨a, dx, gs, rfl, ea, eH, rf⟩ := insOf S1 r1 q
          obtain rfl : u = Value.ref a := rv
          refine getmeth_ok I1 (Cn.inj qc ▸ eH) cl hm (no_lk hf rf) ?_
          refine PySem.W.callWith_KW0 (first := [.ref a]) (h₀ := X.base) I.ok.mod.kin hm.kp hall ?_ hpl
          refine thn (hkw.run pos pins s1 σ H1 _ I1 ⟨ρ1, lo, e, h1, ys, h2, S1, E.mono g1.le, e2, fun ρ2 H2 vs g2 S2 r2 => (⟨ρ2, g2, S2, r2⟩ : (fun vs H2 => ∃ ρ2, Go ρ1 lo h1 H1 ρ2 h2 H2 ∧ Sim X.K ρ2 h2 H2 ∧ RVs X.K ρ2 ys vs) vs H2)⟩) fun ws s2 z2 => ?_
          obtain ⟨zs, H2, I2, rz, ρ2, g2, S2, r2⟩ := z2
          refine ⟨I2.kIn, ?_⟩
          rw [hks]
          exact run_fnN (us := [.ref a]) (vs := [.ref a]) (E := E0) Fo hr hb pass0 I2 (.cons rfl .nil) rz rfl (by rw [r2.len]; exact beq_t ql) ⟨ρ2, lo, .ref i :: pk is ys, h2, _, h', S2, ⟨r1'.mono g2.le, K95.RVs.pk r2 is⟩, run, (kk.go g1).go g2⟩
        · cases run
      · cases run
    · cases run
  · cases run
/-! ### a local that holds a def of the module -/
def cCallL (i : Nat) (z : Str) (F : CF) (la : CA) : CE := fun lo e h => match e[i]? with
  | some (some (.fn z')) => match seqS z' z with
    | true => bd (la lo e h) fun xs h1 => F lo xs h1
    | false => none
  | _ => none
theorem q_callL {i : Nat} {z : Str} (D : DefOk X.prog X.w X.K X.mg X.base k z [] (spC X.K F)) (hz : X.mg z = some (.ref (He.ga X.K z))) (hr : Room k X.A) (ha : QA X (e :: es) la) (hN : X.N[i]? = some x := by rfl) (hv : Vis X.env.scope x := by first | exact Or.inl rfl | exact Or.inr (Or.inl rfl) | exact Or.inr (Or.inr rfl))
    (hdb : (x == ("__debug__" : Str)) = false := by decide) (hcd : (x == ("__classdict__" : Str)) = false := by decide)
    (he : starEach (e :: es) X.env = (false, eval e X.env) :: starEach es X.env := by rfl) (hpl : (backTo pos (starEach es X.env)).any (·.1) = false := by rfl) :
    QE X (.Call (.Name x p) (e :: es) [] pos) (cCallL i z F la) := by
  obtain ⟨f, fd, ps, ds, hm, hk, Fo, hb, hd⟩ := D.ex
  cases hd
  rw [hz] at hm
  cases hm
  refine PE.imp (pe_callL (i := i) (E := E0) Fo hr hN hv hk hb .nil pass0 ha hdb hcd he hpl) fun σ H Q d => ?_
  obtain ⟨ρ, lo, e, h, y, h', S, E, run, kk⟩ := d
  unfold cCallL at run
  split at run
  · rename_i z' q
    split at run
    · rename_i qz
      have qz := seqS_t qz
      subst qz
      obtain ⟨xs, h1, e1, run⟩ := bd_some run
      obtain ⟨v, ev, r⟩ := E.at_ q
      refine ⟨by rw [ev, show v = _ from r], ρ, lo, e, h, xs, h1, S, E, e1, fun ρ1 H1 vs g1 S1 r1 => ?_⟩
      show spC X.K F (vs ++ []) H1 Q E0
      rw [List.append_nil]
      exact ⟨ρ1, lo, xs, h1, y, h', S1, r1, run, kk.go g1⟩
    · cases run
  · cases run
/-! ### with c: .. -/
def exF (fEx : CF) (lo i : Nat) : Fl → Option Fl
  | .nx e h => bd (fEx lo [.ref i, .non, .non, .non] h) fun _ h2 => some (.nx e h2)
  | .rt x h => bd (fEx lo [.ref i, .non, .non, .non] h) fun _ h2 => some (.rt x h2)
  | _ => none
def cWith (c : Cn) (fEn fEx : CF) (ra : CE) (sb : CS) : CS := fun lo e h => bd (ra lo e h) fun x h1 => match x with
  | .ref i => match h1.get i with
    | some (.ins c' _) => match c'.nat.beq c.nat with
      | true => bd (fEn lo [.ref i] h1) fun _ h2 => ob (sb lo e h2) fun f => exF fEx lo i f
      | false => none
    | _ => none
  | _ => none
theorem q_with (De : MethOk X.nox.prog X.nox.w X.nox.K X.nox.mg X.nox.base k (C.ad X.nox.K) "__enter__" [] (spC X.nox.K fEn)) (Dx : MethOk X.nox.prog X.nox.w X.nox.K X.nox.mg X.nox.base k (C.ad X.nox.K) "__exit__" [] (spC X.nox.K fEx)) (hr : Room k X.nox.A) (hc : QE X.nox ctx ra) (hb : QSs X.nox body sb) :
    QS X.nox (.With [⟨ctx, none⟩] body pos) (cWith C fEn fEx ra sb) := by
  obtain ⟨fe, fde, pse, dse, Me, Fe, be, ve⟩ := De.ex
  obtain ⟨fx, fdx, psx, dsx, Mx, Fx, bx, vx⟩ := Dx.ex
  cases ve
  cases vx
  refine ⟨fun pins s σ H D I d => ?_⟩
  obtain ⟨ρ, lo, e, h, f, S, E, run, kk⟩ := d
  obtain ⟨y, h1, e1, run⟩ := bd_some run
  refine PySem.W.kw_exec0 (thn (hc.run pins s σ H _ I ⟨ρ, lo, e, h, y, h1, S, E, e1, fun ρ1 H1 v g1 S1 r1 => (⟨ρ1, g1, S1, r1⟩ : (fun v H1 => ∃ ρ1, Go ρ lo h H ρ1 h1 H1 ∧ Sim X.nox.K ρ1 h1 H1 ∧ RV X.nox.K ρ1 y v) v H1)⟩) fun u s1 z1 => ?_)
  obtain ⟨v, H1, I1, rv, ρ1, g1, S1, r1⟩ := z1
  split at run
  · split at run
    · rename_i i _ c' fs q
      split at run
      · rename_i qc
        obtain ⟨y2, h2, e2, run⟩ := bd_some run
        obtain ⟨f1, e3, run⟩ := ob_some run
        have r1' := r1
        obtain ⟨a, dx, gs, rfl, ea, eH, rf⟩ := insOf S1 r1 q
        obtain rfl : u = Value.ref a := rv
        obtain ⟨_, J, _⟩ := ins_get I1.hok (show H1 a = some (.ins (C.ad X.nox.K) dx gs) from Cn.inj qc ▸ eH)
        obtain ⟨_, J, _⟩ := J.look
        obtain ⟨_, fr⟩ := I1.fr
        refine PySem.W.kw_in0 fr I1.ok.mod.kin J Me.at_ Me.fn Mx.at_ Mx.fn ?_
        refine thn (run_fn (us := [.ref a]) (vs := [.ref a]) (E := E0) (Q := fun _ H2 => ∃ ρ2, Go ρ1 lo h1 H1 ρ2 h2 H2 ∧ Sim X.nox.K ρ2 h2 H2) Fe hr be .nil pass0 I1 (.cons rfl .nil) ⟨ρ1, lo, [.ref i], h1, y2, h2, S1, ⟨r1', True.intro⟩, e2, fun ρ2 H2 w g2 S2 _ => ⟨ρ2, g2, S2⟩⟩) fun w2 s2 z2 => ?_
        obtain ⟨_, H2, I2, _, ρ2, g2, S2⟩ := z2
        have r2 : RV X.nox.K ρ2 (.ref i) (.ref a) := r1'.mono g2.le
        have E2 := (E.mono g1.le).mono g2.le
        let D' : Ends := { nx := fun σ3 H3 => ∃ e4 h4 ρ3, f1 = .nx e4 h4 ∧ Go ρ2 lo h2 H2 ρ3 h4 H3 ∧ Sim X.nox.K ρ3 h4 H3 ∧ REn X.nox.K ρ3 e4 σ3, rt := fun v3 H3 => ∃ x4 h4 ρ3, f1 = .rt x4 h4 ∧ Go ρ2 lo h2 H2 ρ3 h4 H3 ∧ Sim X.nox.K ρ3 h4 H3 ∧ RV X.nox.K ρ3 x4 v3 }
        have aft : AftF X.nox.K ρ2 lo h2 H2 D' f1 := by
          cases f1 with
          | nx e4 h4 => exact fun ρ3 σ3 H3 g3 S3 E3 => ⟨e4, h4, ρ3, rfl, g3, S3, E3⟩
          | rt x4 h4 => exact fun ρ3 H3 v3 g3 S3 r3 => ⟨x4, h4, ρ3, rfl, g3, S3, r3⟩
          | bk e4 h4 => cases run
          | ct e4 h4 => cases run
        refine thn (hb.run pins s2 σ H2 D' I2 ⟨ρ2, lo, e, h2, f1, S2, E2, e3, aft⟩) fun fl s3 z3 => ?_
        unfold PySem.W.KwOut
        have four : Vals [V.ref a, .non, .non, .non] [Value.ref a, .none, .none, .none] := .cons rfl (.cons rfl (.cons rfl (.cons rfl .nil)))
        cases fl with
        | next =>
          obtain ⟨σ3, H3, I3, e4, h4, ρ3, rfl, g3, S3, E3⟩ := z3
          obtain ⟨y5, h5, e5, run⟩ := bd_some run
          cases run
          refine thn (run_fn (E := E0) (Q := fun _ H4 => ∃ ρ4, Go ρ3 lo h4 H3 ρ4 h5 H4 ∧ Sim X.nox.K ρ4 h5 H4) Fx hr bx .nil pass0 I3 four ⟨ρ3, lo, [.ref i, .non, .non, .non], h4, y5, h5, S3, ⟨r2.mono g3.le, rfl, rfl, rfl, True.intro⟩, e5, fun ρ4 H4 w g4 S4 _ => ⟨ρ4, g4, S4⟩⟩) fun w4 s4 z4 => ?_
          obtain ⟨_, H4, I4, _, ρ4, g4, S4⟩ := z4
          exact ⟨σ3, H4, I4, kk ρ4 σ3 H4 (((g1.trans g2).trans g3).trans g4) S4 (E3.mono g4.le)⟩
        | ret u3 =>
          obtain ⟨v3, σ3, H3, I3, rv3, x4, h4, ρ3, rfl, g3, S3, r3⟩ := z3
          obtain ⟨y5, h5, e5, run⟩ := bd_some run
          cases run
          refine thn (run_fn (E := E0) (Q := fun _ H4 => ∃ ρ4, Go ρ3 lo h4 H3 ρ4 h5 H4 ∧ Sim X.nox.K ρ4 h5 H4) Fx hr bx .nil pass0 I3 four ⟨ρ3, lo, [.ref i, .non, .non, .non], h4, y5, h5, S3, ⟨r2.mono g3.le, rfl, rfl, rfl, True.intro⟩, e5, fun ρ4 H4 w g4 S4 _ => ⟨ρ4, g4, S4⟩⟩) fun w4 s4 z4 => ?_
          obtain ⟨_, H4, I4, _, ρ4, g4, S4⟩ := z4
          exact ⟨v3, σ3, H4, I4, rv3, kk ρ4 H4 v3 (((g1.trans g2).trans g3).trans g4) S4 (r3.mono g4.le)⟩
        | brk =>
          obtain ⟨_, _, _, z⟩ := z3
          exact z.elim
        | cont =>
          obtain ⟨_, _, _, z⟩ := z3
          exact z.elim
      · cases run
    · cases run
  · cases run
end
end
end K95

set_option maxRecDepth 100000
set_option maxHeartbeats 4000000
namespace K95
open PySem PySem.Spec PyProof.Rows L2
noncomputable section
variable [Nu]
section
variable {X : Cx} {K : PySem.W.Frag} {op : CmpOp} {g : Value → Value → Sem Value} {R R' : R2} {f f' : VV → VV → VH → Option (VV × VH)} {sel : VV → VV → VV} {k : Nat}
/-! ### an operation while a dict is held -/
def lkR (R : R2) : R2 := fun x y H Q => ∃ d u, H d = some u ∧ Mut (some u) ∧ ∀ od, R x y (upd H d (.frz od u)) fun v H' => H' d = some (.frz od u) ∧ Q v (upd H' d u)
theorem OpR.lk (h : OpR X g R) : OpR X g (lkR R) := by
  intro pins s σ H x y v u Q I rx ry q
  obtain ⟨d, o, hd, mu, q⟩ := q
  obtain ⟨od, I1⟩ := I.lock hd mu
  refine thn (h pins s σ _ x y v u _ I1 rx ry (q od)) fun w s1 z => ?_
  obtain ⟨z1, H1, I2, r, e2, q2⟩ := z
  exact ⟨z1, _, I2.unlock e2 (I.nofrz hd mu), r, q2⟩
def selL : VV → VV → VV := fun x _ => x
def selR : VV → VV → VV := fun _ y => y
def fLk (sel : VV → VV → VV) (f : VV → VV → VH → Option (VV × VH)) : VV → VV → VH → Option (VV × VH) := fun x y h => match sel x y with
  | .ref i => match h.get i with
    | some (.dk kvs) => ob (h.set i (.fk kvs)) fun h1 => bd (f x y h1) fun z h2 => ob (h2.set i (.dk kvs)) fun h3 => some (z, h3)
    | _ => none
  | _ => none
theorem oc_lk (oc : OpC K R f) : OpC K (lkR R) (fLk sel f) := by
  intro ρ lo h h' H x y z v u Q S r1 r2 run k
  unfold fLk at run
  split at run
  · rename_i i _
    split at run
    · rename_i kvs e0
      obtain ⟨h1, e1, run⟩ := ob_some run
      obtain ⟨w, h2, e2, run⟩ := bd_some run
      obtain ⟨h3, e3, run⟩ := ob_some run
      cases run
      obtain ⟨a, ea, ws, eH, rk⟩ := S.ob i _ e0
      refine ⟨a, _, eH, True.intro, fun od => ?_⟩
      have S1 : Sim K ρ h1 (L2.upd H a (.frz od (.dK ws))) := S.put0 ea True.intro e1 fun H' q => ⟨od, ws, q, rk⟩
      refine oc (lo := lo) S1 r1 r2 e2 fun ρ2 H2 t g S2 rt => ?_
      obtain ⟨z1, z2, z3⟩ := unlock S e0 ea eH rk e1 g S2 e3
      exact ⟨z1, k ρ2 _ t z2 z3 rt⟩
    · cases run
  · cases run
/-! two dicts compared -/
def fDq2 (feq : CF) (neg : Bool) : VV → VV → VH → Option (VV × VH) := fLk selL (fLk selR (fDq (fgF feq) neg))
def rDq2 (K : PySem.W.Frag) (feq : CF) (neg : Bool) : R2 := lkR (lkR (rDq K (fgF feq) neg))
theorem op_dq2 {neg : Bool} {feq : CF} (hop : (op = .Eq ∧ neg = false) ∨ (op = .NotEq ∧ neg = true)) (D : MethOk X.prog X.w X.K X.mg X.base k (Cn.label.ad X.K) "__eq__" [] (spC X.K (fgF feq))) (hr : Room (k + 1) X.A) : OpR X (compareOp op) (rDq2 X.K feq neg) := OpR.lk (OpR.lk (op_dq hop D hr))
theorem oc_dq2 {neg : Bool} {feq : CF} : OpC K (rDq2 K feq neg) (fDq2 feq neg) := oc_lk (oc_lk oc_dq)
/-! two dicts of unlike lengths, two empty dicts -/
def rDl : R2 := fun x y H Q => ∃ a b ks ls, x = .ref a ∧ y = .ref b ∧ H a = some (.dK ks) ∧ H b = some (.dK ls) ∧ (ks.length = 0 ∨ ks.length ≠ ls.length) ∧ Q (.bl (decide (ks.length = ls.length))) H
theorem op_dl (hu : X.A.units < cLine) : OpR X (compareOp .Eq) rDl := by
  intro pins s σ H x y v u Q I rx ry q
  obtain ⟨a, b, ks, ls, rfl, rfl, ea, eb, hl, q⟩ := q
  cases rx
  cases ry
  obtain ⟨_, y1, va, r1, d1⟩ := (show ObjOk X.prog X.w H s.heap a (.dK ks) from I.hok a _ ea)
  obtain ⟨_, y2, vb, r2, d2⟩ := (show ObjOk X.prog X.w H s.heap b (.dK ls) from I.hok b _ eb)
  have l1 : va.length = ks.length := r1.length.symm
  have l2 : vb.length = ls.length := r2.length.symm
  refine PySem.W.keq_eq (knd := mixKind X.prog X.w) (r := true) y1 y2 d1 d2 hu (fun z => ?_) ⟨.bl (decide (ks.length = ls.length)), H, I, ?_, q⟩
  · rcases hl with hl | hl
    · have : va = [] := List.length_eq_zero_iff.1 (by omega)
      subst this
      exact .nil
    · omega
  · show Value.bool _ = Value.bool _
    rw [l1, l2, Bool.and_true]
    congr 1
def fDl : VV → VV → VH → Option (VV × VH)
  | .ref i, .ref j, h => match h.get i, h.get j with
    | some (.dk ks), some (.dk ls) => match ks.length.beq 0 || !ks.length.beq ls.length with
      | true => some (.bl (ks.length.beq ls.length), h)
      | false => none
    | _, _ => none
  | _, _, _ => none
theorem oc_dl : OpC K rDl fDl := by
  intro ρ lo h h' H x y z v u Q S r1 r2 run k
  unfold fDl at run
  split at run
  · split at run
    · rename_i ks ls g1 g2
      split at run
      · rename_i q
        cases run
        obtain ⟨a, rfl, _, ws, eH, rk⟩ := S.ref g1 r1
        obtain ⟨b, rfl, _, us, eH2, rk2⟩ := S.ref g2 r2
        refine ⟨a, b, ws, us, rfl, rfl, eH, eH2, ?_, ?_⟩
        · rw [rk.len, rk2.len]
          rcases Bool.or_eq_true_iff.1 q with q | q
          · exact .inl (beq_t q)
          · exact .inr (beq_f (by simpa using q))
        · rw [rk.len, rk2.len]
          have e : decide (ks.length = ls.length) = ks.length.beq ls.length := by
            cases c : ks.length.beq ls.length with
            | true => exact decide_eq_true (beq_t c)
            | false => exact decide_eq_false (beq_f c)
          rw [e]
          exact k.now S rfl
      · cases run
    · cases run
  · cases run
/-! is not True -/
def fIsNotB : VV → VV → VH → Option (VV × VH)
  | .bl a, .bl b, h => some (.bl (!(a == b)), h)
  | _, _, _ => none
theorem oc_notB : OpC K rNotB fIsNotB := by
  intro ρ lo h h' H x y z v u Q S r1 r2 run k
  unfold fIsNotB at run
  split at run
  · rename_i a b
    cases run
    refine ⟨a, b, r1, r2, ?_⟩
    have e : (!decide (a = b)) = !(a == b) := by cases a <;> cases b <;> rfl
    rw [e]
    exact k.now S rfl
  · cases run
/-! a + b of own objects -/
def fAddO (c : Cn) (f : CF) : VV → VV → VH → Option (VV × VH)
  | .ref i, .ref j, h => match h.get i, h.get j with
    | some (.ins c1 _), some (.ins c2 _) => match c1.nat.beq c.nat && c2.nat.beq c.nat with
      | true => f h.n [.ref i, .ref j] h
      | false => none
    | _, _ => none
  | _, _, _ => none
theorem oc_addO {C : Cn} {f : CF} : OpC K (rAddOwn (C.ad K) (spC K f)) (fAddO C f) := by
  intro ρ lo h h' H x y z v u Q S r1 r2 run k
  unfold fAddO at run
  split at run
  · rename_i i j
    split at run
    · rename_i c1 fs1 c2 fs2 q1 q2
      split at run
      · rename_i q3
        obtain ⟨s1, s2⟩ := Bool.and_eq_true_iff.1 q3
        have r1' := r1
        have r2' := r2
        obtain ⟨p, dx, gs, rfl, _, ep, _⟩ := insOf S r1 q1
        obtain ⟨q, dy, gt, rfl, _, eq, _⟩ := insOf S r2 q2
        exact ⟨p, q, dx, dy, gs, gt, rfl, rfl, Cn.inj s1 ▸ ep, Cn.inj s2 ▸ eq, ρ, h.n, [.ref i, .ref j], h, z, h', S, ⟨r1', r2', True.intro⟩, run, fun ρ1 H1 w g1 S1 rw1 => k ρ1 H1 w (Go.weak S g1) S1 rw1⟩
      · cases run
    · cases run
  · cases run
end
end
end K95

set_option maxRecDepth 100000
set_option maxHeartbeats 4000000
namespace K95
open PySem PySem.Spec PyProof.Rows L2
noncomputable section
variable [Nu]
section
variable {X : Cx} {K : PySem.W.Frag} {k : Nat} {sp : Sp} {C : Cn} {f : CF} {la : CA} {e : Expr} {es : List Expr} {p pos : Pos}
/-! ### len of an own object -/
theorem call_lenO {C : Addr} (D : MethOk X.prog X.w X.K X.mg X.base k C "__len__" [] sp) (hr : Room (k + 1) X.A) :
    CallR X (.builtin "len") (fun xs H Q => ∃ a dx fs, xs = [.ref a] ∧ H a = some (.ins C dx fs) ∧ sp [.ref a] H (fun v H' => ∃ n : Nat, v = .int n ∧ n ≤ 1000 ∧ Q (.int n) H') E0) := by
  intro pins s σ H xs us Q I r q
  obtain ⟨a, dx, fs, rfl, ea, q⟩ := q
  obtain ⟨u, rfl, ru⟩ := vals1 r
  cases ru
  obtain ⟨g, fd, ps, ds, M, F, hb, hv⟩ := D.ex
  cases hv
  obtain ⟨_, J, _⟩ := ins_get I.hok ea
  obtain ⟨_, J, _⟩ := J.look
  obtain ⟨_, fr⟩ := I.fr
  refine PySem.W.len_K fr I.ok.mod.kin J M.at_ M.fn (wpAny_mono (run_sub (A := X.A.in1) (vs := [.ref a]) (us := [.ref a]) F hb ⟨hr.in1, rfl⟩ I (.cons rfl .nil) q) (fun v s' z => ?_) fun _ _ z => z)
  obtain ⟨w, H', I', rw', n, ew, hn, q⟩ := z
  subst ew
  obtain ⟨t, rfl⟩ := rw'
  refine ⟨⟨by omega, by omega⟩, ?_⟩
  exact ⟨.int n, H', I'.tok _, ⟨_, rfl⟩, q⟩
def fLenO (c : Cn) (f : CF) : Nat → List VV → VH → Option (VV × VH)
  | lo, [.ref i], h => match h.get i with
    | some (.ins c' _) => match c'.nat.beq c.nat with
      | true => bd (f lo [.ref i] h) fun z h1 => match z with
        | .int (.ofNat n) => match n.ble 1000 with
          | true => some (.int n, h1)
          | false => none
        | _ => none
      | false => none
    | _ => none
  | _, _, _ => none
theorem cc_lenO : CallC K (fun xs H Q => ∃ a dx fs, xs = [.ref a] ∧ H a = some (.ins (C.ad K) dx fs) ∧ spC K f [.ref a] H (fun v H' => ∃ n : Nat, v = .int n ∧ n ≤ 1000 ∧ Q (.int n) H') E0) (fLenO C f) := by
  intro ρ lo h h' H xs z vs Q S r run k
  unfold fLenO at run
  split at run
  · rename_i i
    obtain ⟨v, rfl, r9⟩ := r.one
    split at run
    · rename_i c' fs q
      split at run
      · rename_i qc
        obtain ⟨y, h1, e1, run⟩ := bd_some run
        split at run
        · rename_i n
          split at run
          · rename_i qn
            cases run
            have r9' := r9
            obtain ⟨a, dx, gs, rfl, _, eH, _⟩ := insOf S r9 q
            refine ⟨a, dx, gs, rfl, Cn.inj qc ▸ eH, ρ, lo, [.ref i], h, _, h', S, ⟨r9', True.intro⟩, e1, fun ρ1 H1 w g1 S1 rw1 => ⟨n, rw1, Nat.le_of_ble_eq_true qn, ?_⟩⟩
            exact (k.go g1).now S1 rfl
          · cases run
        · cases run
      · cases run
    · cases run
  · cases run
theorem q_lenO (D : MethOk X.prog X.w X.K X.mg X.base k (C.ad X.K) "__len__" [] (spC X.K f)) (hr : Room (k + 1) X.A) (hm : X.mg "len" = none) (ha : QA X (e :: es) la) (hg : Gl X "len" := by rfl) (he : starEach (e :: es) X.env = (false, eval e X.env) :: starEach es X.env := by rfl) (hpl : (backTo pos (starEach es X.env)).any (·.1) = false := by rfl) :
    QE X (.Call (.Name "len" p) (e :: es) [] pos) (cCB (fLenO C f) la) := PE.imp (pe_callB (call_lenO D hr) hg hm PySem.boot_len ha (by decide) (by decide) he hpl) fun _ _ _ d => i_cb cc_lenO d
end
end
end K95

set_option maxRecDepth 100000
set_option maxHeartbeats 4000000
set_option pp.deepTerms false
set_option pp.maxSteps 600
namespace K95
open PySem PySem.Spec PyProof.Rows L2
noncomputable section
section
variable {P : Program} {w : World} {K : PySem.W.Frag} {mg : Str → Option Value} {base : Heap}

theorem q_strL [Nu] {X : Cx} {pos : Pos} {i z : Str} {j : Nat} (e : i = z) : QE X (.Constant (.str i) j pos) (cK (.str z)) := by
  subst e
  exact q_str
theorem q_gsL [Nu] {X : Cx} {pos : Pos} {x i z : Str} (h : ∃ t, X.mg x = some (.str i t)) (e : i = z) (hg : Gl X x := by rfl) (hd : (x == ("__debug__" : Str)) = false := by decide) : QE X (.Name x pos) (cK (.str z)) := by
  subst e
  exact q_gs h hg hd
theorem lt_0 : ("set" : Str) = mkS [115, 101, 116] := by decide +kernel
theorem lt_1 : ("" : Str) = mkS [] := by decide +kernel
theorem lt_2 : (" " : Str) = mkS [32] := by decide +kernel
theorem lt_3 : ("\n" : Str) = mkS [10] := by decide +kernel
theorem lt_4 : ("abcdefghijklmnopqrstuvwxyzABCDEFGHIJKLMNOPQRSTUVWXYZ" : Str) = mkS [97, 98, 99, 100, 101, 102, 103, 104, 105, 106, 107, 108, 109, 110, 111, 112, 113, 114, 115, 116, 117, 118, 119, 120, 121, 122, 65, 66, 67, 68, 69, 70, 71, 72, 73, 74, 75, 76, 77, 78, 79, 80, 81, 82, 83, 84, 85, 86, 87, 88, 89, 90] := by decide +kernel
theorem lt_5 : (":a" : Str) = mkS [58, 97] := by decide +kernel
theorem lt_6 : ("letters" : Str) = mkS [108, 101, 116, 116, 101, 114, 115] := by decide +kernel
theorem lt_7 : ("figures" : Str) = mkS [102, 105, 103, 117, 114, 101, 115] := by decide +kernel
theorem lt_8 : ("add" : Str) = mkS [97, 100, 100] := by decide +kernel
theorem lt_9 : ("counters " : Str) = mkS [99, 111, 117, 110, 116, 101, 114, 115, 32] := by decide +kernel
theorem lt_10 : (", " : Str) = mkS [44, 32] := by decide +kernel
theorem lt_11 : ("{" : Str) = mkS [123] := by decide +kernel
theorem lt_12 : ("}" : Str) = mkS [125] := by decide +kernel
theorem lt_13 : ("kind " : Str) = mkS [107, 105, 110, 100, 32] := by decide +kernel
theorem lt_14 : (":" : Str) = mkS [58] := by decide +kernel
theorem lt_15 : ("," : Str) = mkS [44] := by decide +kernel
theorem lt_16 : ("label " : Str) = mkS [108, 97, 98, 101, 108, 32] := by decide +kernel
theorem lt_17 : ("begins" : Str) = mkS [98, 101, 103, 105, 110, 115] := by decide +kernel
theorem lt_18 : ("after " : Str) = mkS [97, 102, 116, 101, 114, 32] := by decide +kernel
theorem lt_19 : ("A " : Str) = mkS [65, 32] := by decide +kernel
theorem lt_20 : ("q" : Str) = mkS [113] := by decide +kernel
theorem lt_21 : ("." : Str) = mkS [46] := by decide +kernel
theorem lt_22 : ("A 3.b" : Str) = mkS [65, 32, 51, 46, 98] := by decide +kernel
theorem lt_23 : ("two" : Str) = mkS [116, 119, 111] := by decide +kernel
theorem lt_24 : ("one" : Str) = mkS [111, 110, 101] := by decide +kernel
theorem lt_25 : ("{two}" : Str) = mkS [123, 116, 119, 111, 125] := by decide +kernel
theorem lt_26 : ("three" : Str) = mkS [116, 104, 114, 101, 101] := by decide +kernel
theorem lt_27 : ("chapter" : Str) = mkS [99, 104, 97, 112, 116, 101, 114] := by decide +kernel
theorem lt_28 : ("zz" : Str) = mkS [122, 122] := by decide +kernel
theorem lt_29 : ("a" : Str) = mkS [97] := by decide +kernel
theorem lt_30 : ("fig" : Str) = mkS [102, 105, 103] := by decide +kernel
theorem lt_31 : ("z" : Str) = mkS [122] := by decide +kernel
theorem lt_32 : ("part" : Str) = mkS [112, 97, 114, 116] := by decide +kernel
theorem lt_33 : ("b" : Str) = mkS [98] := by decide +kernel
theorem lt_34 : ("more" : Str) = mkS [109, 111, 114, 101] := by decide +kernel
end
end
end K95
set_option maxRecDepth 100000
set_option maxHeartbeats 4000000
namespace K95
open PySem PySem.Spec PyProof.Rows L2
noncomputable section
variable [Nu]
theorem iF {c : Bool} {a b : Prop} (h : c = false) (q : b) : if c = true then a else b := by
  subst h
  exact q
theorem iT {c : Bool} {a b : Prop} (h : c = true) (q : a) : if c = true then a else b := by
  subst h
  exact q
section
variable {P : Program} {w : World} {K : PySem.W.Frag} {mg : Str → Option Value} {base : Heap}
def spTape (K : PySem.W.Frag) : Sp := fun vs H Q _ => ∃ (a : Addr) (ns : List Int), vs = [.ref a, .int 0] ∧ SqL K H a (ns.map V.int) ∧ ∀ p, H p = none → Q (.ref p) (upd H p (.lst [.int (cell0 ns), .int 104729]))
theorem ok_tape0 (c : Ctx w K mg) : DefOk P w K mg base 1 "_law_tape" [] (spTape K) := by
  obtain ⟨fd, D⟩ := c.defLawTape
  refine ⟨_, fd, ["_law_script", "_law_k"], [], D.g, D.F.kp, ?_, D.F.bindsN fun _ _ _ _ _ _ us hl => match us, hl with | [_, _], _ => rfl, .nil⟩
  refine ok0 D.F scLawTape (fun vs H Q E h => ?_) (fun cdv A outer s H vs Q E hr h => ?_)
  · obtain ⟨a, ns, rfl, _⟩ := h
    rfl
  · have nd := scLawTape.nd
    refine ⟨_, pss_cons (ps_set (i := 2) nd rfl (Or.inl rfl) (pe_ifExp (pt_cmpR op_lt (pv 1) (pe_callB call_len_seq (by rfl) c.f_len PySem.boot_len (pa_cons (pv 0) pa_nil)) (nomark _)) (pe_ix ix_list (pv 0) (pv 1) (fun _ _ => rfl)) pe_int))
      (pss_one (ps_ret (pe_lst (pa_cons (pe_callB call_abs (by rfl) c.f_abs bt_abs (pa_cons (pv 2) pa_nil)) (pa_cons (pe_op op_add (pe_op op_mul pe_int (pv 1)) pe_int) pa_nil))))), ?_⟩
    obtain ⟨a, ns, rfl, hS, q⟩ := h
    refine ⟨_, rfl, _, rfl, a, _, rfl, .inl hS, ?_⟩
    refine ⟨_, _, rfl, rfl, decide ((0 : Int) < ((ns.map V.int).length : Nat)), rfl, ?_⟩
    have fin : ∀ (i : Int), (if i < 0 then -i else i) = cell0 ns → tSeq (fun D σ H => D.nx σ H) (tRet (tLst (tCons (tCB (fun xs H Q => ∃ i, xs = [V.int i] ∧ Q (.int (if i < 0 then -i else i)) H) (tCons (tVar 2) tNil)) (tCons (tOp (rI0 fun i j => V.int (i + j)) (tOp (rI CMul fun i j => V.int (i * j)) (tC (.int 7919)) (tVar 1)) (tC (.int 104729))) tNil)))) { nx := fun _ H' => Q .non H', rt := Q } [some (.ref a), some (.int 0), some (.int i)] H := by
      intro i ei
      refine ⟨_, rfl, i, rfl, ?_⟩
      rw [ei]
      refine ⟨_, rfl, _, _, rfl, rfl, .inl ⟨by decide, by decide⟩, _, _, rfl, rfl, ?_⟩
      exact ⟨by have := sizeLine_eq; show 2 ≤ sizeLine; omega, q⟩
    cases ns with
    | nil =>
      refine iF (by decide) ?_
      exact fin 0 rfl
    | cons i r =>
      have e : decide ((0 : Int) < (((i :: r).map V.int).length : Nat)) = true := decide_eq_true (by rw [List.length_map, List.length_cons]; omega)
      refine iT e ?_
      refine ⟨_, rfl, _, rfl, a, _, _, _, rfl, rfl, hS, atI_nat (j := 0) rfl, ?_⟩
      exact fin i rfl
def spPick : Sp := fun vs H Q _ => ∃ (p : Addr) (x y m : Int), vs = [.ref p, .int m] ∧ H p = some (.lst [.int x, .int y]) ∧ 0 ≤ x ∧ 0 ≤ y ∧ y < 2147483647 ∧ 0 < m ∧ m < 1000 ∧
  Q (.int (pickV x y m).1) (upd H p (.lst [.int (pickV x y m).2.1, .int (pickV x y m).2.2]))
theorem upd_upd {H : Hp} {p : Addr} {o o' : HO} : upd (upd H p o) p o' = upd H p o' := by
  funext b
  by_cases e : b = p
  · rw [e, upd_same, upd_same]
  · rw [upd_ne e, upd_ne e, upd_ne e]
theorem ok_pick0 (c : Ctx w K mg) : DefOk P w K mg base 1 "_law_pick" [] spPick := by
  obtain ⟨fd, D⟩ := c.defLawPick
  refine ⟨_, fd, ["_law_tape_here", "_law_many"], [], D.g, D.F.kp, ?_, D.F.bindsN fun _ _ _ _ _ _ us hl => match us, hl with | [_, _], _ => rfl, .nil⟩
  refine ok0 D.F scLawPick (fun vs H Q E h => ?_) (fun cdv A outer s H vs Q E hr h => ?_)
  · obtain ⟨p, x, y, m, rfl, _⟩ := h
    rfl
  · have nd := scLawPick.nd
    refine ⟨_, pss_cons (ps_if (pt_cmpR op_ge (pe_ix ix_list (pv 0) pe_int (fun _ _ => rfl)) (pe_op op_pow pe_int pe_int) (nomark _))
        (pss_cons (ps_set (i := 2) nd rfl (Or.inl rfl) (pe_op op_mod (pe_callTy call_int1 (by rfl) c.f_int bt_int (pa_cons (pe_ix ix_list (pv 0) pe_int (fun _ _ => rfl)) pa_nil)) (pv 1)))
          (pss_cons (ps_asg (pe_op op_fdiv (pe_ix ix_list (pv 0) pe_int (fun _ _ => rfl)) (pv 1)) (pg_sub (pv 0) pe_int set_list)) (pss_one (ps_ret (pv 2))))) pss_nil)
      (pss_cons (ps_asg (pe_op op_mod (pe_callTy call_int1 (by rfl) c.f_int bt_int (pa_cons (pe_op op_add (pe_op op_add (pe_op op_mul (pe_ix ix_list (pv 0) pe_int (fun _ _ => rfl)) pe_int) (pe_op op_mul (pe_ix ix_list (pv 0) pe_int (fun _ _ => rfl)) pe_int)) pe_int) pa_nil)) pe_int) (pg_sub (pv 0) pe_int set_list))
      (pss_cons (ps_set (i := 3) nd rfl (Or.inl rfl) (pe_op op_mod (pe_callTy call_int1 (by rfl) c.f_int bt_int (pa_cons (pe_op op_add (pe_op op_add (pe_op op_mul (pe_ix ix_list (pv 0) pe_int (fun _ _ => rfl)) (pe_ix ix_list (pv 0) pe_int (fun _ _ => rfl))) (pe_op op_mul (pe_ix ix_list (pv 0) pe_int (fun _ _ => rfl)) pe_int)) pe_int) pa_nil)) pe_int))
      (pss_one (ps_ret (pe_op op_mod (pe_callTy call_int1 (by rfl) c.f_int bt_int (pa_cons (pe_op op_fdiv (pv 3) pe_int) pa_nil)) (pv 1)))))), ?_⟩
    obtain ⟨p, x, y, m, rfl, eH, hx, hy, hy2, hm, hm2, q⟩ := h
    have s0 : SqL K H p [.int x, .int y] := SqL.of eH
    refine ⟨_, rfl, p, _, _, _, rfl, rfl, s0, atI_nat (j := 0) rfl, ?_⟩
    refine ⟨_, _, rfl, rfl, ⟨by decide, by decide, by decide⟩, ?_⟩
    refine ⟨_, _, rfl, rfl, decide ((10 : Int) ^ (18 : Int).toNat ≤ x), rfl, ?_⟩
    have e18 : ((10 : Int) ^ (18 : Int).toNat) = 1000000000000000000 := by decide
    rw [e18]
    by_cases hb : (1000000000000000000 : Int) ≤ x
    · refine iT (decide_eq_true hb) ?_
      have ev : pickV x y m = (x % m, x / m, y) := by
        unfold pickV
        rw [if_pos hb]
      rw [ev] at q
      refine ⟨_, rfl, p, _, _, _, rfl, rfl, s0, atI_nat (j := 0) rfl, ?_⟩
      refine .inl ⟨x, rfl, ?_⟩
      refine ⟨_, rfl, _, _, rfl, rfl, hm, ?_⟩
      refine ⟨_, rfl, p, _, _, _, rfl, rfl, s0, atI_nat (j := 0) rfl, ?_⟩
      refine ⟨_, rfl, _, _, rfl, rfl, ⟨hm, by omega⟩, ?_⟩
      refine ⟨_, rfl, p, _, 0, 0, rfl, rfl, eH, rfl, ?_⟩
      exact ⟨_, rfl, q⟩
    · refine iF (decide_eq_false hb) ?_
      have ev : pickV x y m = (((((y * 48271 + x * 69621 + 11) % 2147483647) * ((y * 48271 + x * 69621 + 11) % 2147483647) + ((y * 48271 + x * 69621 + 11) % 2147483647) * 40692 + 7) % 2147483399) / 64 % m, x, (y * 48271 + x * 69621 + 11) % 2147483647) := by
        unfold pickV
        rw [if_neg hb]
      rw [ev] at q
      have b1 : 0 ≤ (y * 48271 + x * 69621 + 11) % 2147483647 := Int.emod_nonneg _ (by decide)
      have b2 : (y * 48271 + x * 69621 + 11) % 2147483647 < 2147483647 := Int.emod_lt_of_pos _ (by decide)
      refine ⟨_, rfl, p, _, _, _, rfl, rfl, s0, atI_nat (j := 1) rfl, ?_⟩
      refine ⟨_, _, rfl, rfl, .inr ⟨by decide, by decide⟩, ?_⟩
      refine ⟨_, rfl, p, _, _, _, rfl, rfl, s0, atI_nat (j := 0) rfl, ?_⟩
      refine ⟨_, _, rfl, rfl, .inr ⟨by decide, by decide⟩, ?_⟩
      refine ⟨_, _, rfl, rfl, ?_⟩
      refine ⟨_, _, rfl, rfl, ?_⟩
      refine .inl ⟨_, rfl, ?_⟩
      refine ⟨_, _, rfl, rfl, (by show (0 : Int) < 2147483647; decide), ?_⟩
      refine ⟨_, rfl, p, _, 1, 1, rfl, rfl, eH, rfl, ?_⟩
      have s1 : SqL K (upd H p (.lst [.int x, .int ((y * 48271 + x * 69621 + 11) % 2147483647)])) p [.int x, .int ((y * 48271 + x * 69621 + 11) % 2147483647)] := SqL.of upd_same
      refine ⟨_, rfl, p, _, _, _, rfl, rfl, s1, atI_nat (j := 1) (v := .int ((y * 48271 + x * 69621 + 11) % 2147483647)) rfl, ?_⟩
      refine ⟨_, rfl, p, _, _, _, rfl, rfl, s1, atI_nat (j := 1) (v := .int ((y * 48271 + x * 69621 + 11) % 2147483647)) rfl, ?_⟩
      refine ⟨_, _, rfl, rfl, .inl ⟨by omega, by omega⟩, ?_⟩
      refine ⟨_, rfl, p, _, _, _, rfl, rfl, s1, atI_nat (j := 1) (v := .int ((y * 48271 + x * 69621 + 11) % 2147483647)) rfl, ?_⟩
      refine ⟨_, _, rfl, rfl, .inr ⟨by decide, by decide⟩, ?_⟩
      refine ⟨_, _, rfl, rfl, ?_⟩
      refine ⟨_, _, rfl, rfl, ?_⟩
      refine .inl ⟨_, rfl, ?_⟩
      refine ⟨_, _, rfl, rfl, (by show (0 : Int) < 2147483399; decide), ?_⟩
      refine ⟨_, rfl, ?_⟩
      refine ⟨_, _, rfl, rfl, ⟨by decide, by decide⟩, ?_⟩
      refine .inl ⟨_, rfl, ?_⟩
      exact ⟨_, rfl, _, _, rfl, rfl, hm, q⟩
/-! ### the draws, reckoned -/
theorem pick_ok {x y : Int} {m : Nat} {r : VV} {l : List (Nat × VV)} {ρ : List Addr} (h : Tp x y ((m, r) :: l)) : 0 ≤ x ∧ 0 ≤ y ∧ y < 2147483647 ∧ 0 < (m : Int) ∧ (m : Int) < 1000 ∧ RV K ρ r (.int (pickV x y m).1) ∧ Tp (pickV x y m).2.1 (pickV x y m).2.2 l := by
  obtain ⟨h1, h2, h3, h4, h5, h6, h7⟩ := h
  refine ⟨h1, h2, h3, by omega, by omega, ?_, h7⟩
  unfold PV at h6
  split at h6
  · show V.int _ = V.int _
    rw [h6]
  · show V.int _ = V.int _
    rw [h6]
  · exact h6.elim
def c_LawPick : CF := fun lo xs h => match xs with
  | [.ref i, .int (.ofNat m)] => match lo.ble i with
    | true => match h.get i with
      | some (.tape ((m', r) :: l)) => match m'.beq m with
        | true => ob (h.set i (.tape l)) fun h2 => some (r, h2)
        | false => none
      | _ => none
    | false => none
  | _ => none
theorem ok_LawPick (c : Ctx w K mg) : DefOk P w K mg base 1 "_law_pick" [] (spC K c_LawPick) := (ok_pick0 c).of fun vs H Q E d => by
  obtain ⟨ρ, lo, xs, h, z, h', S, r, run, k⟩ := d
  unfold c_LawPick at run
  split at run
  · rename_i i m
    split at run
    · rename_i ql
      split at run
      · rename_i m' r0 l q
        split at run
        · rename_i qm
          have qm := beq_t qm
          subst qm
          obtain ⟨h2, e2, run⟩ := ob_some run
          cases run
          obtain ⟨v, u, rfl, r1, r2⟩ := r.two
          obtain ⟨a, rfl, ea, x, y, eH, tp⟩ := S.ref q r1
          obtain ⟨t1, t2, t3, t4, t5, t6, t7⟩ := pick_ok (K := K) (ρ := ρ) tp
          refine ⟨a, x, y, (m' : Nat), by rw [show u = _ from r2]; rfl, eH, t1, t2, t3, t4, t5, ?_⟩
          obtain ⟨g, S2⟩ := S.put (lo := lo) (o := .lst [.int (pickV x y (m' : Nat)).2.1, .int (pickV x y (m' : Nat)).2.2]) (w := .tape l) (Nat.le_of_ble_eq_true ql) q rfl ea True.intro e2 fun H' q => ⟨_, _, q, t7⟩
          exact k _ _ _ g S2 t6
        · cases run
      · cases run
    · cases run
  · cases run
end
end
end K95

set_option maxRecDepth 100000
set_option maxHeartbeats 4000000
namespace K95
open PySem PySem.Spec PyProof.Rows L2
/-! ### the draws of any script -/
def orc (i1 i2 i3 i7 : Int) : List (Nat × VV) := [(3, .int i1), (3, .int i2), (2, .int i3), (3, .sy 0 1 0 0), (9, .sy 0 0 1 0), (3, .sy 0 0 0 1), (3, .int i7)]
theorem pick_step {x y m : Int} (hx : 0 ≤ x) (hy : 0 ≤ y ∧ y < 2147483647) (hm : 0 < m) : (0 ≤ (pickV x y m).1 ∧ (pickV x y m).1 < m) ∧ 0 ≤ (pickV x y m).2.1 ∧ 0 ≤ (pickV x y m).2.2 ∧ (pickV x y m).2.2 < 2147483647 := by
  unfold pickV
  split
  · exact ⟨⟨Int.emod_nonneg _ (by omega), Int.emod_lt_of_pos _ hm⟩, Int.ediv_nonneg hx (by omega), hy⟩
  · exact ⟨⟨Int.emod_nonneg _ (by omega), Int.emod_lt_of_pos _ hm⟩, hx, Int.emod_nonneg _ (by decide), Int.emod_lt_of_pos _ (by decide)⟩
theorem cell0_nn (ns : List Int) : 0 ≤ cell0 ns := by
  unfold cell0
  split
  · split <;> omega
  · exact Int.le_refl _
theorem tape_any (x0 : Int) (hx0 : 0 ≤ x0) : ∃ (nu : Nu) (i1 i2 i3 i7 : Int), (0 ≤ i1 ∧ i1 < 3) ∧ (0 ≤ i2 ∧ i2 < 3) ∧ (0 ≤ i3 ∧ i3 < 2) ∧ (0 ≤ i7 ∧ i7 < 3) ∧ @Tp nu x0 104729 (orc i1 i2 i3 i7) := by
  obtain ⟨b1, c1, d1⟩ := pick_step (x := x0) (y := 104729) (m := 3) hx0 ⟨by decide, by decide⟩ (by decide)
  generalize e1 : pickV x0 104729 3 = p1 at b1 c1 d1
  obtain ⟨v1, x1, y1⟩ := p1
  obtain ⟨b2, c2, d2⟩ := pick_step (m := 3) c1 d1 (by decide)
  dsimp only at b1 c1 d1 b2 c2 d2
  generalize e2 : pickV x1 y1 3 = p2 at b2 c2 d2
  obtain ⟨v2, x2, y2⟩ := p2
  obtain ⟨b3, c3, d3⟩ := pick_step (m := 2) c2 d2 (by decide)
  dsimp only at b2 c2 d2 b3 c3 d3
  generalize e3 : pickV x2 y2 2 = p3 at b3 c3 d3
  obtain ⟨v3, x3, y3⟩ := p3
  obtain ⟨b4, c4, d4⟩ := pick_step (m := 3) c3 d3 (by decide)
  dsimp only at b3 c3 d3 b4 c4 d4
  generalize e4 : pickV x3 y3 3 = p4 at b4 c4 d4
  obtain ⟨v4, x4, y4⟩ := p4
  obtain ⟨b5, c5, d5⟩ := pick_step (m := 9) c4 d4 (by decide)
  dsimp only at b4 c4 d4 b5 c5 d5
  generalize e5 : pickV x4 y4 9 = p5 at b5 c5 d5
  obtain ⟨v5, x5, y5⟩ := p5
  obtain ⟨b6, c6, d6⟩ := pick_step (m := 3) c5 d5 (by decide)
  dsimp only at b5 c5 d5 b6 c6 d6
  generalize e6 : pickV x5 y5 3 = p6 at b6 c6 d6
  obtain ⟨v6, x6, y6⟩ := p6
  obtain ⟨b7, c7, d7⟩ := pick_step (m := 3) c6 d6 (by decide)
  dsimp only at b6 c6 d6 b7 c7 d7
  generalize e7 : pickV x6 y6 3 = p7 at b7 c7 d7
  obtain ⟨v7, x7, y7⟩ := p7
  dsimp only at b7 c7 d7
  refine ⟨⟨v4.toNat, v5.toNat, v6.toNat, by omega, by omega, by omega⟩, v1, v2, v3, v7, b1, b2, b3, b7, ?_⟩
  unfold orc
  refine ⟨hx0, by decide, by decide, by decide, by decide, ?_, ?_⟩
  · show _ = _
    rw [show ((3 : Nat) : Int) = 3 from rfl, e1]
  rw [show ((3 : Nat) : Int) = 3 from rfl, e1]
  refine ⟨c1, d1.1, d1.2, by decide, by decide, ?_, ?_⟩
  · show _ = _
    rw [show ((3 : Nat) : Int) = 3 from rfl, e2]
  rw [show ((3 : Nat) : Int) = 3 from rfl, e2]
  refine ⟨c2, d2.1, d2.2, by decide, by decide, ?_, ?_⟩
  · show _ = _
    rw [show ((2 : Nat) : Int) = 2 from rfl, e3]
  rw [show ((2 : Nat) : Int) = 2 from rfl, e3]
  refine ⟨c3, d3.1, d3.2, by decide, by decide, ?_, ?_⟩
  · show _ = _
    rw [show ((3 : Nat) : Int) = 3 from rfl, e4]
    simp only [svN]
    omega
  rw [show ((3 : Nat) : Int) = 3 from rfl, e4]
  refine ⟨c4, d4.1, d4.2, by decide, by decide, ?_, ?_⟩
  · show _ = _
    rw [show ((9 : Nat) : Int) = 9 from rfl, e5]
    simp only [svN]
    omega
  rw [show ((9 : Nat) : Int) = 9 from rfl, e5]
  refine ⟨c5, d5.1, d5.2, by decide, by decide, ?_, ?_⟩
  · show _ = _
    rw [show ((3 : Nat) : Int) = 3 from rfl, e6]
    simp only [svN]
    omega
  rw [show ((3 : Nat) : Int) = 3 from rfl, e6]
  refine ⟨c6, d6.1, d6.2, by decide, by decide, ?_, True.intro⟩
  show _ = _
  rw [show ((3 : Nat) : Int) = 3 from rfl, e7]
end K95

set_option maxRecDepth 100000
set_option maxHeartbeats 4000000
set_option pp.deepTerms false
set_option pp.maxSteps 600
namespace K95
open PySem PySem.Spec PyProof.Rows L2
noncomputable section
variable [Nu]
section
variable {P : Program} {w : World} {K : PySem.W.Frag} {mg : Str → Option Value} {base : Heap}

def c_Behind : CF := bodyC 2 0 (cSeq (cIfS (cB (cOp (fEq false) (cOp fIx (cVar 1) (cK (.int 0))) (cK (.str (mkS [115, 101, 116]))))) (cRet (cVar 1)) (cSkip)) (cRet (cTup (cCons (cOp fIx (cVar 0) (cK (.int 0))) (cCons (cOp fAdd (cOp fIx (cVar 0) (cK (.int 1))) (cOp fIx (cVar 1) (cK (.int 1)))) (cNil))))))
theorem fn_Behind (c : Ctx w K mg) {fd : FuncData} (Df : DefAt K mg "behind" sBehind [] [] (He.ga K "behind") fd) : FnOk P w K mg base CX0 2 (He.ga K "behind") fd ["one", "other"] (spC K c_Behind) := by
  have nd := scBehind.nd
  exact (ok_body Df.F scBehind rfl rfl fun cdv A outer s H E hr => q_seq (q_if (q_tcmp (op_eqU hr.units) oc_eq (q_ix hr.units (q_v 1) (q_int) (fun _ _ => rfl)) (q_gsL c.s_SET lt_0)) (q_one (q_ret (q_v 1))) (q_skip)) (q_one (q_ret (q_tup (q_cons (q_ix hr.units (q_v 0) (q_int) (fun _ _ => rfl)) (q_cons (q_add (q_ix hr.units (q_v 0) (q_int) (fun _ _ => rfl)) (q_ix hr.units (q_v 1) (q_int) (fun _ _ => rfl))) (q_nil)))))))
theorem ok_Behind (c : Ctx w K mg) : DefOk P w K mg base 2 "behind" [] (spC K c_Behind) := by
  obtain ⟨fd, Df⟩ := c.defBehind
  exact ⟨_, fd, ["one", "other"], [], Df.g, Df.F.kp, fn_Behind c Df, Df.F.bindsN fun _ _ _ _ _ _ us hl => match us, hl with | [_, _], _ => rfl, .nil⟩
def c_CheckKnown0 : CF := bodyC 2 1 (cFor (cSq (cVar 0)) (cN 2) (cIfS (cB (cOp (fIn true) (cVar 2) (cVar 1))) (cNever) (cSkip)))
def c_CheckKnown : CF := fgF c_CheckKnown0
theorem fn_CheckKnown (c : Ctx w K mg) {fd : FuncData} (Df : DefAt K mg "check_known" sCheckKnown [] [] (He.ga K "check_known") fd) : FnOk P w K mg base CX0 2 (He.ga K "check_known") fd ["names", "known"] (spC K c_CheckKnown) := by
  have nd := scCheckKnown.nd
  exact FnOk.spc_fg (ok_body Df.F scCheckKnown rfl rfl fun cdv A outer s H E hr => q_one (q_for PassesOwn.never rfl (q_sq (q_v 0)) (q_gname (i := 2) nd rfl (by first | exact Or.inl rfl | exact Or.inr rfl)) (q_one (q_if (q_tnin (hu65 hr) (q_v 2) (q_v 1)) (q_one (q_never)) (q_skip)))))
theorem ok_CheckKnown (c : Ctx w K mg) : DefOk P w K mg base 2 "check_known" [] (spC K c_CheckKnown) := by
  obtain ⟨fd, Df⟩ := c.defCheckKnown
  exact ⟨_, fd, ["names", "known"], [], Df.g, Df.F.kp, fn_CheckKnown c Df, Df.F.bindsN fun _ _ _ _ _ _ us hl => match us, hl with | [_, _], _ => rfl, .nil⟩
def c_SchemeCounters : CF := bodyC 1 0 (cRet (cCB fLst (cCons (cFd .scheme 3 (cVar 0)) (cNil))))
theorem fn_SchemeCounters (c : Ctx w K mg) {fd : FuncData} (Df : MethAt K (cScheme K) "counters" "Scheme.counters" sSchemeCounters [] [] (He.ma K (cScheme K) "counters") fd) : FnOk P w K mg base CX0 2 (He.ma K (cScheme K) "counters") fd ["self"] (spC K c_SchemeCounters) := by
  have nd := scSchemeCounters.nd
  exact (ok_body Df.F scSchemeCounters rfl rfl fun cdv A outer s H E hr => q_one (q_ret (q_list rfl c.f_list (q_cons (q_fd c.clScheme 3 (by decide +kernel) c.nScheme_first_values (q_v 0)) (q_nil)))))
theorem ok_SchemeCounters (c : Ctx w K mg) : MethOk P w K mg base 2 (cScheme K) "counters" [] (spC K c_SchemeCounters) := by
  obtain ⟨fd, Df⟩ := c.defSchemeCounters
  exact ⟨c.clScheme, _, fd, ["self"], [], Df.me, fn_SchemeCounters c Df, Df.F.bindsN fun _ _ _ _ _ _ us hl => match us, hl with | [_], _ => rfl, .nil⟩
def c_SchemeKinds : CF := bodyC 1 0 (cRet (cCB fLst (cCons (cFd .scheme 4 (cVar 0)) (cNil))))
theorem fn_SchemeKinds (c : Ctx w K mg) {fd : FuncData} (Df : MethAt K (cScheme K) "kinds" "Scheme.kinds" sSchemeKinds [] [] (He.ma K (cScheme K) "kinds") fd) : FnOk P w K mg base CX0 2 (He.ma K (cScheme K) "kinds") fd ["self"] (spC K c_SchemeKinds) := by
  have nd := scSchemeKinds.nd
  exact (ok_body Df.F scSchemeKinds rfl rfl fun cdv A outer s H E hr => q_one (q_ret (q_list rfl c.f_list (q_cons (q_fd c.clScheme 4 (by decide +kernel) c.nScheme_all_deeds (q_v 0)) (q_nil)))))
theorem ok_SchemeKinds (c : Ctx w K mg) : MethOk P w K mg base 2 (cScheme K) "kinds" [] (spC K c_SchemeKinds) := by
  obtain ⟨fd, Df⟩ := c.defSchemeKinds
  exact ⟨c.clScheme, _, fd, ["self"], [], Df.me, fn_SchemeKinds c Df, Df.F.bindsN fun _ _ _ _ _ _ us hl => match us, hl with | [_], _ => rfl, .nil⟩
def c_SchemeStart0 : CF := bodyC 2 0 (cSeq (cDrop (cFn c_CheckKnown (cCons (cLst (cCons (cVar 1) (cNil))) (cCons (cFd .scheme 3 (cVar 0)) (cNil))))) (cRet (cOp fIx (cFd .scheme 3 (cVar 0)) (cVar 1))))
def c_SchemeStart : CF := fgF c_SchemeStart0
theorem fn_SchemeStart (c : Ctx w K mg) {fd : FuncData} (Df : MethAt K (cScheme K) "start" "Scheme.start" sSchemeStart [] [] (He.ma K (cScheme K) "start") fd) : FnOk P w K mg base CX0 4 (He.ma K (cScheme K) "start") fd ["self", "counter"] (spC K c_SchemeStart) := by
  have nd := scSchemeStart.nd
  exact FnOk.spc_fg (ok_body Df.F scSchemeStart rfl rfl fun cdv A outer s H E hr => q_seq (q_expr (q_f (ok_CheckKnown c) (hr.mono (by decide)) (q_cons (q_lst (q_cons (q_v 1) (q_nil))) (q_cons (q_fd c.clScheme 3 (by decide +kernel) c.nScheme_first_values (q_v 0)) (q_nil))))) (q_one (q_ret (q_ix hr.units (q_fd c.clScheme 3 (by decide +kernel) c.nScheme_first_values (q_v 0)) (q_v 1) (fun _ _ => rfl)))))
theorem ok_SchemeStart (c : Ctx w K mg) : MethOk P w K mg base 4 (cScheme K) "start" [] (spC K c_SchemeStart) := by
  obtain ⟨fd, Df⟩ := c.defSchemeStart
  exact ⟨c.clScheme, _, fd, ["self", "counter"], [], Df.me, fn_SchemeStart c Df, Df.F.bindsN fun _ _ _ _ _ _ us hl => match us, hl with | [_, _], _ => rfl, .nil⟩
def c_SchemeDeeds : CF := bodyC 2 0 (cSeq (cDrop (cFn c_CheckKnown (cCons (cLst (cCons (cVar 1) (cNil))) (cCons (cFd .scheme 4 (cVar 0)) (cNil))))) (cRet (cCB fLst (cCons (cOp fIx (cFd .scheme 4 (cVar 0)) (cVar 1)) (cNil)))))
theorem fn_SchemeDeeds (c : Ctx w K mg) {fd : FuncData} (Df : MethAt K (cScheme K) "deeds" "Scheme.deeds" sSchemeDeeds [] [] (He.ma K (cScheme K) "deeds") fd) : FnOk P w K mg base CX0 4 (He.ma K (cScheme K) "deeds") fd ["self", "kind"] (spC K c_SchemeDeeds) := by
  have nd := scSchemeDeeds.nd
  exact (ok_body Df.F scSchemeDeeds rfl rfl fun cdv A outer s H E hr => q_seq (q_expr (q_f (ok_CheckKnown c) (hr.mono (by decide)) (q_cons (q_lst (q_cons (q_v 1) (q_nil))) (q_cons (q_fd c.clScheme 4 (by decide +kernel) c.nScheme_all_deeds (q_v 0)) (q_nil))))) (q_one (q_ret (q_list rfl c.f_list (q_cons (q_ix hr.units (q_fd c.clScheme 4 (by decide +kernel) c.nScheme_all_deeds (q_v 0)) (q_v 1) (fun _ _ => rfl)) (q_nil))))))
theorem ok_SchemeDeeds (c : Ctx w K mg) : MethOk P w K mg base 4 (cScheme K) "deeds" [] (spC K c_SchemeDeeds) := by
  obtain ⟨fd, Df⟩ := c.defSchemeDeeds
  exact ⟨c.clScheme, _, fd, ["self", "kind"], [], Df.me, fn_SchemeDeeds c Df, Df.F.bindsN fun _ _ _ _ _ _ us hl => match us, hl with | [_, _], _ => rfl, .nil⟩
def c_SchemeLabel : CF := bodyC 2 0 (cSeq (cDrop (cFn c_CheckKnown (cCons (cLst (cCons (cVar 1) (cNil))) (cCons (cFd .scheme 4 (cVar 0)) (cNil))))) (cRet (cOp fIx (cFd .scheme 5 (cVar 0)) (cVar 1))))
theorem fn_SchemeLabel (c : Ctx w K mg) {fd : FuncData} (Df : MethAt K (cScheme K) "label" "Scheme.label" sSchemeLabel [] [] (He.ma K (cScheme K) "label") fd) : FnOk P w K mg base CX0 4 (He.ma K (cScheme K) "label") fd ["self", "kind"] (spC K c_SchemeLabel) := by
  have nd := scSchemeLabel.nd
  exact (ok_body Df.F scSchemeLabel rfl rfl fun cdv A outer s H E hr => q_seq (q_expr (q_f (ok_CheckKnown c) (hr.mono (by decide)) (q_cons (q_lst (q_cons (q_v 1) (q_nil))) (q_cons (q_fd c.clScheme 4 (by decide +kernel) c.nScheme_all_deeds (q_v 0)) (q_nil))))) (q_one (q_ret (q_ix hr.units (q_fd c.clScheme 5 (by decide +kernel) c.nScheme_all_labels (q_v 0)) (q_v 1) (fun _ _ => rfl)))))
theorem ok_SchemeLabel (c : Ctx w K mg) : MethOk P w K mg base 4 (cScheme K) "label" [] (spC K c_SchemeLabel) := by
  obtain ⟨fd, Df⟩ := c.defSchemeLabel
  exact ⟨c.clScheme, _, fd, ["self", "kind"], [], Df.me, fn_SchemeLabel c Df, Df.F.bindsN fun _ _ _ _ _ _ us hl => match us, hl with | [_, _], _ => rfl, .nil⟩
def c_SchemeFollowers : CF := bodyC 2 0 (cSeq (cDrop (cFn c_CheckKnown (cCons (cLst (cCons (cVar 1) (cNil))) (cCons (cFd .scheme 4 (cVar 0)) (cNil))))) (cRet (cCB fLst (cCons (cOp fIx (cFd .scheme 6 (cVar 0)) (cVar 1)) (cNil)))))
theorem fn_SchemeFollowers (c : Ctx w K mg) {fd : FuncData} (Df : MethAt K (cScheme K) "followers" "Scheme.followers" sSchemeFollowers [] [] (He.ma K (cScheme K) "followers") fd) : FnOk P w K mg base CX0 4 (He.ma K (cScheme K) "followers") fd ["self", "kind"] (spC K c_SchemeFollowers) := by
  have nd := scSchemeFollowers.nd
  exact (ok_body Df.F scSchemeFollowers rfl rfl fun cdv A outer s H E hr => q_seq (q_expr (q_f (ok_CheckKnown c) (hr.mono (by decide)) (q_cons (q_lst (q_cons (q_v 1) (q_nil))) (q_cons (q_fd c.clScheme 4 (by decide +kernel) c.nScheme_all_deeds (q_v 0)) (q_nil))))) (q_one (q_ret (q_list rfl c.f_list (q_cons (q_ix hr.units (q_fd c.clScheme 6 (by decide +kernel) c.nScheme_next_kinds (q_v 0)) (q_v 1) (fun _ _ => rfl)) (q_nil))))))
theorem ok_SchemeFollowers (c : Ctx w K mg) : MethOk P w K mg base 4 (cScheme K) "followers" [] (spC K c_SchemeFollowers) := by
  obtain ⟨fd, Df⟩ := c.defSchemeFollowers
  exact ⟨c.clScheme, _, fd, ["self", "kind"], [], Df.me, fn_SchemeFollowers c Df, Df.F.bindsN fun _ _ _ _ _ _ us hl => match us, hl with | [_, _], _ => rfl, .nil⟩
def c_SchemeBeginners : CF := bodyC 1 0 (cRet (cCB fLst (cCons (cFd .scheme 7 (cVar 0)) (cNil))))
theorem fn_SchemeBeginners (c : Ctx w K mg) {fd : FuncData} (Df : MethAt K (cScheme K) "beginners" "Scheme.beginners" sSchemeBeginners [] [] (He.ma K (cScheme K) "beginners") fd) : FnOk P w K mg base CX0 2 (He.ma K (cScheme K) "beginners") fd ["self"] (spC K c_SchemeBeginners) := by
  have nd := scSchemeBeginners.nd
  exact (ok_body Df.F scSchemeBeginners rfl rfl fun cdv A outer s H E hr => q_one (q_ret (q_list rfl c.f_list (q_cons (q_fd c.clScheme 7 (by decide +kernel) c.nScheme_first_kinds (q_v 0)) (q_nil)))))
theorem ok_SchemeBeginners (c : Ctx w K mg) : MethOk P w K mg base 2 (cScheme K) "beginners" [] (spC K c_SchemeBeginners) := by
  obtain ⟨fd, Df⟩ := c.defSchemeBeginners
  exact ⟨c.clScheme, _, fd, ["self"], [], Df.me, fn_SchemeBeginners c Df, Df.F.bindsN fun _ _ _ _ _ _ us hl => match us, hl with | [_], _ => rfl, .nil⟩
def c_SchemeMayBegin0 : CF := bodyC 2 0 (cSeq (cDrop (cFn c_CheckKnown (cCons (cLst (cCons (cVar 1) (cNil))) (cCons (cFd .scheme 4 (cVar 0)) (cNil))))) (cRet (cOp (fIn false) (cVar 1) (cFd .scheme 7 (cVar 0)))))
def c_SchemeMayBegin : CF := fgF c_SchemeMayBegin0
theorem fn_SchemeMayBegin (c : Ctx w K mg) {fd : FuncData} (Df : MethAt K (cScheme K) "may_begin" "Scheme.may_begin" sSchemeMayBegin [] [] (He.ma K (cScheme K) "may_begin") fd) : FnOk P w K mg base CX0 4 (He.ma K (cScheme K) "may_begin") fd ["self", "kind"] (spC K c_SchemeMayBegin) := by
  have nd := scSchemeMayBegin.nd
  exact FnOk.spc_fg (ok_body Df.F scSchemeMayBegin rfl rfl fun cdv A outer s H E hr => q_seq (q_expr (q_f (ok_CheckKnown c) (hr.mono (by decide)) (q_cons (q_lst (q_cons (q_v 1) (q_nil))) (q_cons (q_fd c.clScheme 4 (by decide +kernel) c.nScheme_all_deeds (q_v 0)) (q_nil))))) (q_one (q_ret (q_in (hu65 hr) (q_v 1) (q_fd c.clScheme 7 (by decide +kernel) c.nScheme_first_kinds (q_v 0))))))
theorem ok_SchemeMayBegin (c : Ctx w K mg) : MethOk P w K mg base 4 (cScheme K) "may_begin" [] (spC K c_SchemeMayBegin) := by
  obtain ⟨fd, Df⟩ := c.defSchemeMayBegin
  exact ⟨c.clScheme, _, fd, ["self", "kind"], [], Df.me, fn_SchemeMayBegin c Df, Df.F.bindsN fun _ _ _ _ _ _ us hl => match us, hl with | [_, _], _ => rfl, .nil⟩
def c_SchemeMayFollow0 : CF := bodyC 3 0 (cSeq (cDrop (cFn c_CheckKnown (cCons (cLst (cCons (cVar 1) (cCons (cVar 2) (cNil)))) (cCons (cFd .scheme 4 (cVar 0)) (cNil))))) (cRet (cOp (fIn false) (cVar 2) (cOp fIx (cFd .scheme 6 (cVar 0)) (cVar 1)))))
def c_SchemeMayFollow : CF := fgF c_SchemeMayFollow0
theorem fn_SchemeMayFollow (c : Ctx w K mg) {fd : FuncData} (Df : MethAt K (cScheme K) "may_follow" "Scheme.may_follow" sSchemeMayFollow [] [] (He.ma K (cScheme K) "may_follow") fd) : FnOk P w K mg base CX0 4 (He.ma K (cScheme K) "may_follow") fd ["self", "kind", "other"] (spC K c_SchemeMayFollow) := by
  have nd := scSchemeMayFollow.nd
  exact FnOk.spc_fg (ok_body Df.F scSchemeMayFollow rfl rfl fun cdv A outer s H E hr => q_seq (q_expr (q_f (ok_CheckKnown c) (hr.mono (by decide)) (q_cons (q_lst (q_cons (q_v 1) (q_cons (q_v 2) (q_nil)))) (q_cons (q_fd c.clScheme 4 (by decide +kernel) c.nScheme_all_deeds (q_v 0)) (q_nil))))) (q_one (q_ret (q_in (hu65 hr) (q_v 2) (q_ix hr.units (q_fd c.clScheme 6 (by decide +kernel) c.nScheme_next_kinds (q_v 0)) (q_v 1) (fun _ _ => rfl))))))
theorem ok_SchemeMayFollow (c : Ctx w K mg) : MethOk P w K mg base 4 (cScheme K) "may_follow" [] (spC K c_SchemeMayFollow) := by
  obtain ⟨fd, Df⟩ := c.defSchemeMayFollow
  exact ⟨c.clScheme, _, fd, ["self", "kind", "other"], [], Df.me, fn_SchemeMayFollow c Df, Df.F.bindsN fun _ _ _ _ _ _ us hl => match us, hl with | [_, _, _], _ => rfl, .nil⟩
def c_MayStand0 : CF := bodyC 3 0 (cSeq (cIfS (cB (cOp (fIn true) (cVar 1) (cMt .scheme c_SchemeKinds (cVar 0) cNil))) (cRet (cK (.bl false))) (cSkip)) (cRet (cIfE (cB (cIsN false (cVar 2))) (cMt .scheme c_SchemeMayBegin (cVar 0) (cCons (cVar 1) (cNil))) (cMt .scheme c_SchemeMayFollow (cVar 0) (cCons (cVar 2) (cCons (cVar 1) (cNil)))))))
def c_MayStand : CF := fgF c_MayStand0
theorem fn_MayStand (c : Ctx w K mg) {fd : FuncData} (Df : DefAt K mg "may_stand" sMayStand [] [] (He.ga K "may_stand") fd) : FnOk P w K mg base CX0 6 (He.ga K "may_stand") fd ["scheme", "kind", "before"] (spC K c_MayStand) := by
  have nd := scMayStand.nd
  exact FnOk.spc_fg (ok_body Df.F scMayStand rfl rfl fun cdv A outer s H E hr => q_seq (q_if (q_tnin (hu65 hr) (q_v 1) (q_m0 (C := .scheme) (ok_SchemeKinds c) (by decide +kernel) (hr.mono (by decide)) (q_v 0))) (q_one (q_ret (q_bl))) (q_skip)) (q_one (q_ret (q_ifE (q_tisN (q_v 2)) (q_m (C := .scheme) (ok_SchemeMayBegin c) (by decide +kernel) (hr.mono (by decide)) (q_v 0) (q_cons (q_v 1) (q_nil))) (q_m (C := .scheme) (ok_SchemeMayFollow c) (by decide +kernel) (hr.mono (by decide)) (q_v 0) (q_cons (q_v 2) (q_cons (q_v 1) (q_nil))))))))
theorem ok_MayStand (c : Ctx w K mg) : DefOk P w K mg base 6 "may_stand" [] (spC K c_MayStand) := by
  obtain ⟨fd, Df⟩ := c.defMayStand
  exact ⟨_, fd, ["scheme", "kind", "before"], [], Df.g, Df.F.kp, fn_MayStand c Df, Df.F.bindsN fun _ _ _ _ _ _ us hl => match us, hl with | [_, _, _], _ => rfl, .nil⟩
def c_StartsOf : CF := bodyC 1 1 (cRet (cDc (cSq (cMt .scheme c_SchemeCounters (cVar 0) cNil)) (cN 1) (cYes) (cVar 1) (cMt .scheme c_SchemeStart (cVar 0) (cCons (cVar 1) (cNil))) [1]))
theorem fn_StartsOf (c : Ctx w K mg) {fd : FuncData} (Df : DefAt K mg "starts_of" sStartsOf [] [] (He.ga K "starts_of") fd) : FnOk P w K mg base CX0 6 (He.ga K "starts_of") fd ["scheme"] (spC K c_StartsOf) := by
  have nd := scStartsOf.nd
  exact (ok_body Df.F scStartsOf rfl rfl fun cdv A outer s H E hr => q_one (q_ret (q_dc (own := [("counter", 1)]) rfl nd (q_sq (q_m0 (C := .scheme) (ok_SchemeCounters c) (by decide +kernel) (hr.mono (by decide)) (q_v 0))) (blkOk_by (by kernel_rfl)) (fun _ _ _ _ _ => q_gname (i := 1) nd rfl (by first | exact Or.inl rfl | exact Or.inr rfl)) (fun _ _ _ _ _ => q_yes) (fun _ _ _ _ _ => q_v 1) (fun _ _ _ _ _ => q_m (C := .scheme) (ok_SchemeStart c) (by decide +kernel) (hr.mono (by decide)) (q_v 0) (q_cons (q_v 1) (q_nil))) (gin_n (by decide)))))
theorem ok_StartsOf (c : Ctx w K mg) : DefOk P w K mg base 6 "starts_of" [] (spC K c_StartsOf) := by
  obtain ⟨fd, Df⟩ := c.defStartsOf
  exact ⟨_, fd, ["scheme"], [], Df.g, Df.F.kp, fn_StartsOf c Df, Df.F.bindsN fun _ _ _ _ _ _ us hl => match us, hl with | [_], _ => rfl, .nil⟩
def c_Carried : CF := bodyC 2 4 (cSeq (cAsg (cCB fDct (cCons (cVar 0) (cNil))) (cN 2)) (cSeq (cFor (cSq (cVar 1)) (cTp 3 (cGC (cN 3) (cGC (cN 4) (cGC (cN 5) (cGN))))) (cAsg (cIfE (cB (cOp (fEq false) (cVar 3) (cK (.str (mkS [115, 101, 116]))))) (cVar 5) (cOp fAdd (cOp fIx (cVar 2) (cVar 4)) (cVar 5))) (cSub (cVar 2) (cVar 4)))) (cRet (cVar 2))))
theorem fn_Carried (c : Ctx w K mg) {fd : FuncData} (Df : DefAt K mg "carried" sCarried [] [] (He.ga K "carried") fd) : FnOk P w K mg base CX0 2 (He.ga K "carried") fd ["values", "deeds"] (spC K c_Carried) := by
  have nd := scCarried.nd
  exact (ok_body Df.F scCarried rfl rfl fun cdv A outer s H E hr => q_seq (q_set (i := 2) nd rfl (by first | exact Or.inl rfl | exact Or.inr rfl) (q_dict c.f_dict (q_cons (q_v 0) (q_nil)))) (q_seq (q_for PassesOwn.never rfl (q_sq (q_v 1)) (q_tp rfl (q_gc (q_gname (i := 3) nd rfl (by first | exact Or.inl rfl | exact Or.inr rfl)) (q_gc (q_gname (i := 4) nd rfl (by first | exact Or.inl rfl | exact Or.inr rfl)) (q_gc (q_gname (i := 5) nd rfl (by first | exact Or.inl rfl | exact Or.inr rfl)) (q_gn))))) (q_one (q_asg (q_ifE (q_tcmp (op_eqU hr.units) oc_eq (q_v 3) (q_strL lt_0)) (q_v 5) (q_add (q_ix hr.units (q_v 2) (q_v 4) (fun _ _ => rfl)) (q_v 5))) (q_sub hr.units (q_v 2) (q_v 4))))) (q_one (q_ret (q_v 2)))))
theorem ok_Carried (c : Ctx w K mg) : DefOk P w K mg base 2 "carried" [] (spC K c_Carried) := by
  obtain ⟨fd, Df⟩ := c.defCarried
  exact ⟨_, fd, ["values", "deeds"], [], Df.g, Df.F.kp, fn_Carried c Df, Df.F.bindsN fun _ _ _ _ _ _ us hl => match us, hl with | [_, _], _ => rfl, .nil⟩
def c_Listed0 : CF := bodyC 1 1 (cRet (cBM true fJoin (cK (.str (mkS []))) (cCons (cLc (cSq (cVar 0)) (cN 1) (cYes) (cOp fAdd (cK (.str (mkS [32]))) (cVar 1)) [1]) (cNil))))
def c_Listed : CF := fgF c_Listed0
theorem fn_Listed (c : Ctx w K mg) {fd : FuncData} (Df : DefAt K mg "listed" sListed [] [] (He.ga K "listed") fd) : FnOk P w K mg base CX0 2 (He.ga K "listed") fd ["names"] (spC K c_Listed) := by
  have nd := scListed.nd
  exact FnOk.spc_fg (ok_body Df.F scListed rfl rfl fun cdv A outer s H E hr => q_one (q_ret (q_bms PySem.F.plainAttrs_str PySem.F.slot_str_join PySem.F.type_str_join mt_join1 mc_join (q_strL lt_1) (q_cons (q_lc (own := [("name", 1)]) rfl nd (q_sq (q_v 0)) (blkOk_by (by kernel_rfl)) (fun _ _ _ _ _ => q_gname (i := 1) nd rfl (by first | exact Or.inl rfl | exact Or.inr rfl)) (fun _ _ _ _ _ => q_yes) (fun _ _ _ _ _ => q_add (q_strL lt_2) (q_v 1)) (gin_n (by decide))) (q_nil)))))
theorem ok_Listed (c : Ctx w K mg) : DefOk P w K mg base 2 "listed" [] (spC K c_Listed) := by
  obtain ⟨fd, Df⟩ := c.defListed
  exact ⟨_, fd, ["names"], [], Df.g, Df.F.kp, fn_Listed c Df, Df.F.bindsN fun _ _ _ _ _ _ us hl => match us, hl with | [_], _ => rfl, .nil⟩
def c_ReaderInit : CF := bodyC 2 0 (cSeq (cSetF .reader 13 (cVar 0) (cBM true fSplit (cVar 1) (cCons (cK (.str (mkS [10]))) (cNil)))) (cSetF .reader 14 (cVar 0) (cK (.int 0))))
theorem fn_ReaderInit (c : Ctx w K mg) {fd : FuncData} (Df : MakeAt K mg "Reader" "Reader.__init__" sReaderInit [] [] (He.ma K (cReader K) "__init__") fd) : FnOk P w K mg base CX0 2 (He.ma K (cReader K) "__init__") fd ["self", "text"] (spC K c_ReaderInit) := by
  have nd := scReaderInit.nd
  exact (ok_body Df.F scReaderInit rfl rfl fun cdv A outer s H E hr => q_seq (q_setF c.clReader 13 (by decide +kernel) c.nReader_lines (q_v 0) (q_bms PySem.F.plainAttrs_str PySem.F.slot_str_split PySem.F.type_str_split mt_split1 mc_split (q_v 1) (q_cons (q_strL lt_3) (q_nil)))) (q_one (q_setF c.clReader 14 (by decide +kernel) c.nReader_at (q_v 0) (q_int))))
theorem ok_ReaderInit (c : Ctx w K mg) : MakeOk P w K mg base 2 "Reader" (cReader K) [] (spC K c_ReaderInit) := by
  obtain ⟨fd, Df⟩ := c.defReaderInit
  exact ⟨_, fd, ["self", "text"], [], Df.g, Df.M, fn_ReaderInit c Df, Df.F.bindsN fun _ _ _ _ _ _ us hl => match us, hl with | [_, _], _ => rfl, .nil⟩
def c_ReaderPresent0 : CF := bodyC 1 0 (cRet (cIfE (cB (cOp fLt (cFd .reader 14 (cVar 0)) (cCB fLen (cCons (cFd .reader 13 (cVar 0)) (cNil))))) (cOp fIx (cFd .reader 13 (cVar 0)) (cFd .reader 14 (cVar 0))) (cK (.str (mkS [])))))
def c_ReaderPresent : CF := fgF c_ReaderPresent0
theorem fn_ReaderPresent (c : Ctx w K mg) {fd : FuncData} (Df : MethAt K (cReader K) "present" "Reader.present" sReaderPresent [] [] (He.ma K (cReader K) "present") fd) : FnOk P w K mg base CX0 2 (He.ma K (cReader K) "present") fd ["self"] (spC K c_ReaderPresent) := by
  have nd := scReaderPresent.nd
  exact FnOk.spc_fg (ok_body Df.F scReaderPresent rfl rfl fun cdv A outer s H E hr => q_one (q_ret (q_ifE (q_tcmp op_lt oc_lt (q_fd c.clReader 14 (by decide +kernel) c.nReader_at (q_v 0)) (q_len c.f_len (q_cons (q_fd c.clReader 13 (by decide +kernel) c.nReader_lines (q_v 0)) (q_nil)))) (q_ix hr.units (q_fd c.clReader 13 (by decide +kernel) c.nReader_lines (q_v 0)) (q_fd c.clReader 14 (by decide +kernel) c.nReader_at (q_v 0)) (fun _ _ => rfl)) (q_strL lt_1))))
theorem ok_ReaderPresent (c : Ctx w K mg) : MethOk P w K mg base 2 (cReader K) "present" [] (spC K c_ReaderPresent) := by
  obtain ⟨fd, Df⟩ := c.defReaderPresent
  exact ⟨c.clReader, _, fd, ["self"], [], Df.me, fn_ReaderPresent c Df, Df.F.bindsN fun _ _ _ _ _ _ us hl => match us, hl with | [_], _ => rfl, .nil⟩
def c_ReaderNeed : CF := bodyC 2 0 (cSeq (cIfS (cOrT (cB (cIsN false (cVar 1))) (cB (cOp (fEq false) (cFd .reader 14 (cVar 0)) (cCB fLen (cCons (cFd .reader 13 (cVar 0)) (cNil)))))) (cNever) (cSkip)) (cSeq (cAugF .reader 14 (cVar 0) (cK (.int 1))) (cRet (cVar 1))))
theorem fn_ReaderNeed (c : Ctx w K mg) {fd : FuncData} (Df : MethAt K (cReader K) "need" "Reader.need" sReaderNeed [] [] (He.ma K (cReader K) "need") fd) : FnOk P w K mg base CX0 2 (He.ma K (cReader K) "need") fd ["self", "found"] (spC K c_ReaderNeed) := by
  have nd := scReaderNeed.nd
  exact (ok_body Df.F scReaderNeed rfl rfl fun cdv A outer s H E hr => q_seq (q_if (PW.pt (q_or (q_tisN (q_v 1)) (q_or1 (q_tcmp (op_eqU hr.units) oc_eq (q_fd c.clReader 14 (by decide +kernel) c.nReader_at (q_v 0)) (q_len c.f_len (q_cons (q_fd c.clReader 13 (by decide +kernel) c.nReader_lines (q_v 0)) (q_nil))))))) (q_one (q_never)) (q_skip)) (q_seq (q_augF c.clReader 14 (by decide +kernel) c.nReader_at (q_v 0) (q_int)) (q_one (q_ret (q_v 1)))))
theorem ok_ReaderNeed (c : Ctx w K mg) : MethOk P w K mg base 2 (cReader K) "need" [] (spC K c_ReaderNeed) := by
  obtain ⟨fd, Df⟩ := c.defReaderNeed
  exact ⟨c.clReader, _, fd, ["self", "found"], [], Df.me, fn_ReaderNeed c Df, Df.F.bindsN fun _ _ _ _ _ _ us hl => match us, hl with | [_, _], _ => rfl, .nil⟩
end
end
end K95
set_option maxRecDepth 100000
set_option maxHeartbeats 4000000
set_option pp.deepTerms false
set_option pp.maxSteps 600
namespace K95
open PySem PySem.Spec PyProof.Rows L2
noncomputable section
variable [Nu]
section
variable {P : Program} {w : World} {K : PySem.W.Frag} {mg : Str → Option Value} {base : Heap}

def c_IsHead0 : CF := bodyC 1 2 (cSeq (cIfS (cOrT (cB (cOp fGt (cCB fLen (cCons (cVar 0) (cNil))) (cK (.int 30)))) (cAndT (cB (cOp (fEq true) (cVar 0) (cK (.str (mkS []))))) (cB (cOp (fEq true) (cOp fIx (cVar 0) (cUn fNeg (cK (.int 1)))) (cK (.str (mkS [32]))))))) (cRet (cK (.bl false))) (cSkip)) (cRet (cCB fAll (cCons (cLc (cSq (cSl (cBM true fSplit (cVar 0) (cCons (cK (.str (mkS [32]))) (cNil))) cNoP (cPt (cUn fNeg (cK (.int 1)))))) (cN 1) (cYes) (cAndV (cOp (fEq true) (cVar 1) (cK (.str (mkS [])))) (cCB fAll (cCons (cLc (cStrI (cVar 1)) (cN 2) (cYes) (cOp fInS (cVar 2) (cK (.str (mkS [97, 98, 99, 100, 101, 102, 103, 104, 105, 106, 107, 108, 109, 110, 111, 112, 113, 114, 115, 116, 117, 118, 119, 120, 121, 122, 65, 66, 67, 68, 69, 70, 71, 72, 73, 74, 75, 76, 77, 78, 79, 80, 81, 82, 83, 84, 85, 86, 87, 88, 89, 90])))) [2]) (cNil)))) [1]) (cNil)))))
def c_IsHead : CF := fgF c_IsHead0
theorem fn_IsHead (c : Ctx w K mg) {fd : FuncData} (Df : DefAt K mg "is_head" sIsHead [] [] (He.ga K "is_head") fd) : FnOk P w K mg base CX0 2 (He.ga K "is_head") fd ["text"] (spC K c_IsHead) := by
  have nd := scIsHead.nd
  exact FnOk.spc_fg (ok_body Df.F scIsHead rfl rfl fun cdv A outer s H E hr => q_seq (q_if (PW.pt (q_or (q_tcmp op_gt oc_gt (q_len c.f_len (q_cons (q_v 0) (q_nil))) (q_gi c.i_LONGEST_HEAD)) (q_or1 (PW.pt (q_and (q_tcmp (op_neU hr.units) oc_ne (q_v 0) (q_strL lt_1)) (q_and1 (q_tcmp (op_neU hr.units) oc_ne (q_ix hr.units (q_v 0) (q_neg (q_int)) (fun _ _ => rfl)) (q_strL lt_2)))))))) (q_one (q_ret (q_bl))) (q_skip)) (q_one (q_ret (q_all rfl c.f_all (q_cons (q_lc (own := [("word", 1)]) rfl nd (q_sq (q_slice (q_bms PySem.F.plainAttrs_str PySem.F.slot_str_split PySem.F.type_str_split mt_split1 mc_split (q_v 0) (q_cons (q_strL lt_2) (q_nil))) q_noP (q_pt (q_neg (q_int))))) (blkOk_by (by kernel_rfl)) (fun _ _ _ _ _ => q_gname (i := 1) nd rfl (by first | exact Or.inl rfl | exact Or.inr rfl)) (fun _ _ _ _ _ => q_yes) (fun _ _ _ _ _ => q_andV (q_cmp (op_neU hr.units) oc_ne (q_v 1) (q_strL lt_1)) (pe_one (q_all rfl c.f_all (q_cons (q_lc (own := [("sign", 2)]) rfl nd (q_strI (q_v 1)) (blkOk_by (by kernel_rfl)) (fun _ _ _ _ _ => q_gname (i := 2) nd rfl (by first | exact Or.inl rfl | exact Or.inr rfl)) (fun _ _ _ _ _ => q_yes) (fun _ _ _ _ _ => q_cmp op_inC oc_inS (q_v 2) (q_gsL c.s_SIGNS_labels lt_4)) (gin_n (by decide))) (q_nil))))) (gin_n (by decide))) (q_nil))))))
theorem ok_IsHead (c : Ctx w K mg) : DefOk P w K mg base 2 "is_head" [] (spC K c_IsHead) := by
  obtain ⟨fd, Df⟩ := c.defIsHead
  exact ⟨_, fd, ["text"], [], Df.g, Df.F.kp, fn_IsHead c Df, Df.F.bindsN fun _ _ _ _ _ _ us hl => match us, hl with | [_], _ => rfl, .nil⟩
def c_ShownIn : CF := bodyC 1 0 (cSeq (cIfS (cB (cBM true fEnds (cVar 0) (cCons (cK (.str (mkS [58, 97]))) (cNil)))) (cRet (cTup (cCons (cSl (cVar 0) cNoP (cPt (cUn fNeg (cCB fLen (cCons (cK (.str (mkS [58, 97]))) (cNil)))))) (cCons (cK (.str (mkS [108, 101, 116, 116, 101, 114, 115]))) (cNil))))) (cSkip)) (cRet (cTup (cCons (cVar 0) (cCons (cK (.str (mkS [102, 105, 103, 117, 114, 101, 115]))) (cNil))))))
theorem fn_ShownIn (c : Ctx w K mg) {fd : FuncData} (Df : DefAt K mg "shown_in" sShownIn [] [] (He.ga K "shown_in") fd) : FnOk P w K mg base CX0 2 (He.ga K "shown_in") fd ["word"] (spC K c_ShownIn) := by
  have nd := scShownIn.nd
  exact (ok_body Df.F scShownIn rfl rfl fun cdv A outer s H E hr => q_seq (q_if (q_tv (q_bms PySem.F.plainAttrs_str PySem.F.slot_str_endswith PySem.F.type_str_endswith mt_ends1 mc_ends (q_v 0) (q_cons (q_gsL c.s_ENDING lt_5) (q_nil)))) (q_one (q_ret (q_tup (q_cons (q_slice (q_v 0) q_noP (q_pt (q_neg (q_len c.f_len (q_cons (q_gsL c.s_ENDING lt_5) (q_nil)))))) (q_cons (q_gsL c.s_LETTERS lt_6) (q_nil)))))) (q_skip)) (q_one (q_ret (q_tup (q_cons (q_v 0) (q_cons (q_gsL c.s_FIGURES lt_7) (q_nil)))))))
theorem ok_ShownIn (c : Ctx w K mg) : DefOk P w K mg base 2 "shown_in" [] (spC K c_ShownIn) := by
  obtain ⟨fd, Df⟩ := c.defShownIn
  exact ⟨_, fd, ["word"], [], Df.g, Df.F.kp, fn_ShownIn c Df, Df.F.bindsN fun _ _ _ _ _ _ us hl => match us, hl with | [_], _ => rfl, .nil⟩
def c_CheckNames0 : CF := bodyC 2 1 (cSeq (cIfS (cNotT (cB (cChain fLe fLe (cK (.int 1)) (cCB fLen (cCons (cVar 0) (cNil))) (cVar 1)))) (cNever) (cSkip)) (cFor (cSq (cVar 0)) (cN 2) (cIfS (cNotT (cB (cFn c_IsName (cCons (cVar 2) (cNil))))) (cNever) (cSkip))))
def c_CheckNames : CF := fgF c_CheckNames0
theorem fn_CheckNames (c : Ctx w K mg) {fd : FuncData} (Df : DefAt K mg "check_names" sCheckNames [] [] (He.ga K "check_names") fd) : FnOk P w K mg base CX0 3 (He.ga K "check_names") fd ["names", "most"] (spC K c_CheckNames) := by
  have nd := scCheckNames.nd
  exact FnOk.spc_fg (ok_body Df.F scCheckNames rfl rfl fun cdv A outer s H E hr => q_seq (q_if (q_not (q_tchain op_leU oc_le op_leU oc_le (q_int) (q_len c.f_len (q_cons (q_v 0) (q_nil))) (q_v 1))) (q_one (q_never)) (q_skip)) (q_one (q_for PassesOwn.never rfl (q_sq (q_v 0)) (q_gname (i := 2) nd rfl (by first | exact Or.inl rfl | exact Or.inr rfl)) (q_one (q_if (q_not (q_tv (q_f (ok_IsName c) (hr.mono (by decide)) (q_cons (q_v 2) (q_nil))))) (q_one (q_never)) (q_skip))))))
theorem ok_CheckNames (c : Ctx w K mg) : DefOk P w K mg base 3 "check_names" [] (spC K c_CheckNames) := by
  obtain ⟨fd, Df⟩ := c.defCheckNames
  exact ⟨_, fd, ["names", "most"], [], Df.g, Df.F.kp, fn_CheckNames c Df, Df.F.bindsN fun _ _ _ _ _ _ us hl => match us, hl with | [_, _], _ => rfl, .nil⟩
def c_TrialInit : CF := bodyC 2 0 (cSeq (cSetF .trial 10 (cVar 0) (cVar 1)) (cSetF .trial 11 (cVar 0) (cLst (cNil))))
theorem fn_TrialInit (c : Ctx w K mg) {fd : FuncData} (Df : MakeAt K mg "Trial" "Trial.__init__" sTrialInit [] [] (He.ma K (cTrial K) "__init__") fd) : FnOk P w K mg base CX0 2 (He.ma K (cTrial K) "__init__") fd ["self", "manuscript"] (spC K c_TrialInit) := by
  have nd := scTrialInit.nd
  exact (ok_body Df.F scTrialInit rfl rfl fun cdv A outer s H E hr => q_seq (q_setF c.clTrial 10 (by decide +kernel) c.nTrial_manuscript (q_v 0) (q_v 1)) (q_one (q_setF c.clTrial 11 (by decide +kernel) c.nTrial_held (q_v 0) (q_lst (q_nil)))))
theorem ok_TrialInit (c : Ctx w K mg) : MakeOk P w K mg base 2 "Trial" (cTrial K) [] (spC K c_TrialInit) := by
  obtain ⟨fd, Df⟩ := c.defTrialInit
  exact ⟨_, fd, ["self", "manuscript"], [], Df.g, Df.M, fn_TrialInit c Df, Df.F.bindsN fun _ _ _ _ _ _ us hl => match us, hl with | [_, _], _ => rfl, .nil⟩
def c_TrialEnter : CF := bodyC 1 0 (cSeq (cSetF .trial 11 (cVar 0) (cCB fLst (cCons (cFd .manuscript 9 (cFd .trial 10 (cVar 0))) (cNil)))) (cRet (cFd .trial 10 (cVar 0))))
theorem fn_TrialEnter (c : Ctx w K mg) {fd : FuncData} (Df : MethAt K (cTrial K) "__enter__" "Trial.__enter__" sTrialEnter [] [] (He.ma K (cTrial K) "__enter__") fd) : FnOk P w K mg base CX0 2 (He.ma K (cTrial K) "__enter__") fd ["self"] (spC K c_TrialEnter) := by
  have nd := scTrialEnter.nd
  exact (ok_body Df.F scTrialEnter rfl rfl fun cdv A outer s H E hr => q_seq (q_setF c.clTrial 11 (by decide +kernel) c.nTrial_held (q_v 0) (q_list rfl c.f_list (q_cons (q_fd c.clManuscript 9 (by decide +kernel) c.nManuscript_past (q_fd c.clTrial 10 (by decide +kernel) c.nTrial_manuscript (q_v 0))) (q_nil)))) (q_one (q_ret (q_fd c.clTrial 10 (by decide +kernel) c.nTrial_manuscript (q_v 0)))))
theorem ok_TrialEnter (c : Ctx w K mg) : MethOk P w K mg base 2 (cTrial K) "__enter__" [] (spC K c_TrialEnter) := by
  obtain ⟨fd, Df⟩ := c.defTrialEnter
  exact ⟨c.clTrial, _, fd, ["self"], [], Df.me, fn_TrialEnter c Df, Df.F.bindsN fun _ _ _ _ _ _ us hl => match us, hl with | [_], _ => rfl, .nil⟩
def c_TrialExit : CF := bodyC 4 0 (cSetF .manuscript 9 (cFd .trial 10 (cVar 0)) (cFd .trial 11 (cVar 0)))
theorem fn_TrialExit (c : Ctx w K mg) {fd : FuncData} (Df : MethAt K (cTrial K) "__exit__" "Trial.__exit__" sTrialExit [] [] (He.ma K (cTrial K) "__exit__") fd) : FnOk P w K mg base CX0 2 (He.ma K (cTrial K) "__exit__") fd ["self", "sort", "error", "trace"] (spC K c_TrialExit) := by
  have nd := scTrialExit.nd
  exact (ok_body Df.F scTrialExit rfl rfl fun cdv A outer s H E hr => q_one (q_setF c.clManuscript 9 (by decide +kernel) c.nManuscript_past (q_fd c.clTrial 10 (by decide +kernel) c.nTrial_manuscript (q_v 0)) (q_fd c.clTrial 11 (by decide +kernel) c.nTrial_held (q_v 0))))
theorem ok_TrialExit (c : Ctx w K mg) : MethOk P w K mg base 2 (cTrial K) "__exit__" [] (spC K c_TrialExit) := by
  obtain ⟨fd, Df⟩ := c.defTrialExit
  exact ⟨c.clTrial, _, fd, ["self", "sort", "error", "trace"], [], Df.me, fn_TrialExit c Df, Df.F.bindsN fun _ _ _ _ _ _ us hl => match us, hl with | [_, _, _, _], _ => rfl, .nil⟩
def c_ManuscriptInit : CF := bodyC 2 0 (cSeq (cSetF .manuscript 8 (cVar 0) (cVar 1)) (cSetF .manuscript 9 (cVar 0) (cLst (cCons (cTup (cNil)) (cNil)))))
theorem fn_ManuscriptInit (c : Ctx w K mg) {fd : FuncData} (Df : MakeAt K mg "Manuscript" "Manuscript.__init__" sManuscriptInit [] [] (He.ma K (cManuscript K) "__init__") fd) : FnOk P w K mg base CX0 2 (He.ma K (cManuscript K) "__init__") fd ["self", "scheme"] (spC K c_ManuscriptInit) := by
  have nd := scManuscriptInit.nd
  exact (ok_body Df.F scManuscriptInit rfl rfl fun cdv A outer s H E hr => q_seq (q_setF c.clManuscript 8 (by decide +kernel) c.nManuscript_plan (q_v 0) (q_v 1)) (q_one (q_setF c.clManuscript 9 (by decide +kernel) c.nManuscript_past (q_v 0) (q_lst (q_cons (q_tup (q_nil)) (q_nil))))))
theorem ok_ManuscriptInit (c : Ctx w K mg) : MakeOk P w K mg base 2 "Manuscript" (cManuscript K) [] (spC K c_ManuscriptInit) := by
  obtain ⟨fd, Df⟩ := c.defManuscriptInit
  exact ⟨_, fd, ["self", "scheme"], [], Df.g, Df.M, fn_ManuscriptInit c Df, Df.F.bindsN fun _ _ _ _ _ _ us hl => match us, hl with | [_, _], _ => rfl, .nil⟩
theorem kw_ManuscriptInit_0 (c : Ctx w K mg) : FnK P w K mg base 2 1 ["scheme"] [0] (He.ma K (cManuscript K) "__init__") (spC K c_ManuscriptInit) := by
  obtain ⟨fd, Df⟩ := c.defManuscriptInit
  exact ⟨fd, _, _, fn_ManuscriptInit c Df, K95.FunD.kbP (ps := ["self", "scheme"]) Df.F 1 ["scheme"] [0] fun kV doc pm an cdv ct us ws l1 l2 => match us, ws, l1, l2 with | [_], [_], _, _ => rfl⟩
def c_ManuscriptParts : CF := bodyC 1 0 (cRet (cCB fLst (cCons (cOp fIx (cFd .manuscript 9 (cVar 0)) (cUn fNeg (cK (.int 1)))) (cNil))))
theorem fn_ManuscriptParts (c : Ctx w K mg) {fd : FuncData} (Df : MethAt K (cManuscript K) "parts" "Manuscript.parts" sManuscriptParts [] [] (He.ma K (cManuscript K) "parts") fd) : FnOk P w K mg base CX0 2 (He.ma K (cManuscript K) "parts") fd ["self"] (spC K c_ManuscriptParts) := by
  have nd := scManuscriptParts.nd
  exact (ok_body Df.F scManuscriptParts rfl rfl fun cdv A outer s H E hr => q_one (q_ret (q_list rfl c.f_list (q_cons (q_ix hr.units (q_fd c.clManuscript 9 (by decide +kernel) c.nManuscript_past (q_v 0)) (q_neg (q_int)) (fun _ _ => rfl)) (q_nil)))))
theorem ok_ManuscriptParts (c : Ctx w K mg) : MethOk P w K mg base 2 (cManuscript K) "parts" [] (spC K c_ManuscriptParts) := by
  obtain ⟨fd, Df⟩ := c.defManuscriptParts
  exact ⟨c.clManuscript, _, fd, ["self"], [], Df.me, fn_ManuscriptParts c Df, Df.F.bindsN fun _ _ _ _ _ _ us hl => match us, hl with | [_], _ => rfl, .nil⟩
def c_ManuscriptDocument : CF := bodyC 1 2 (cRet (cLc (cSq (cOp fIx (cFd .manuscript 9 (cVar 0)) (cUn fNeg (cK (.int 1))))) (cTp 2 (cGC (cN 1) (cGC (cN 2) (cGN)))) (cYes) (cVar 1) [1, 2]))
theorem fn_ManuscriptDocument (c : Ctx w K mg) {fd : FuncData} (Df : MethAt K (cManuscript K) "document" "Manuscript.document" sManuscriptDocument [] [] (He.ma K (cManuscript K) "document") fd) : FnOk P w K mg base CX0 2 (He.ma K (cManuscript K) "document") fd ["self"] (spC K c_ManuscriptDocument) := by
  have nd := scManuscriptDocument.nd
  exact (ok_body Df.F scManuscriptDocument rfl rfl fun cdv A outer s H E hr => q_one (q_ret (q_lc (own := [("kind", 1), ("key", 2)]) rfl nd (q_sq (q_ix hr.units (q_fd c.clManuscript 9 (by decide +kernel) c.nManuscript_past (q_v 0)) (q_neg (q_int)) (fun _ _ => rfl))) (blkOk_by (by kernel_rfl)) (fun _ _ _ _ _ => q_tp rfl (q_gc (q_gname (i := 1) nd rfl (by first | exact Or.inl rfl | exact Or.inr rfl)) (q_gc (q_gname (i := 2) nd rfl (by first | exact Or.inl rfl | exact Or.inr rfl)) (q_gn)))) (fun _ _ _ _ _ => q_yes) (fun _ _ _ _ _ => q_v 1) (gin_tp (gin_gc (gin_n (by decide)) (gin_gc (gin_n (by decide)) (gin_gn)))))))
theorem ok_ManuscriptDocument (c : Ctx w K mg) : MethOk P w K mg base 2 (cManuscript K) "document" [] (spC K c_ManuscriptDocument) := by
  obtain ⟨fd, Df⟩ := c.defManuscriptDocument
  exact ⟨c.clManuscript, _, fd, ["self"], [], Df.me, fn_ManuscriptDocument c Df, Df.F.bindsN fun _ _ _ _ _ _ us hl => match us, hl with | [_], _ => rfl, .nil⟩
def c_ManuscriptPlaceOf0 : CF := bodyC 2 2 (cSeq (cAsg (cLc (cSq (cOp fIx (cFd .manuscript 9 (cVar 0)) (cUn fNeg (cK (.int 1))))) (cN 3) (cYes) (cOp fIx (cVar 3) (cK (.int 1))) [3]) (cN 2)) (cSeq (cIfS (cOrT (cB (cIsN false (cVar 1))) (cB (cOp (fIn true) (cVar 1) (cVar 2)))) (cNever) (cSkip)) (cRet (cBM false fIdx (cVar 2) (cCons (cVar 1) (cNil))))))
def c_ManuscriptPlaceOf : CF := fgF c_ManuscriptPlaceOf0
theorem fn_ManuscriptPlaceOf (c : Ctx w K mg) {fd : FuncData} (Df : MethAt K (cManuscript K) "place_of" "Manuscript.place_of" sManuscriptPlaceOf [] [] (He.ma K (cManuscript K) "place_of") fd) : FnOk P w K mg base CX0 2 (He.ma K (cManuscript K) "place_of") fd ["self", "key"] (spC K c_ManuscriptPlaceOf) := by
  have nd := scManuscriptPlaceOf.nd
  exact FnOk.spc_fg (ok_body Df.F scManuscriptPlaceOf rfl rfl fun cdv A outer s H E hr => q_seq (q_setLc (i := 2) (own := [("part", 3)]) rfl nd rfl (q_sq (q_ix hr.units (q_fd c.clManuscript 9 (by decide +kernel) c.nManuscript_past (q_v 0)) (q_neg (q_int)) (fun _ _ => rfl))) (blkOk_by (by kernel_rfl)) (fun _ _ _ _ _ => q_gname (i := 3) nd rfl (by first | exact Or.inl rfl | exact Or.inr rfl)) (fun _ _ _ _ _ => q_yes) (fun _ _ _ _ _ => q_ix hr.units (q_v 3) (q_int) (fun _ _ => rfl)) (gin_n (by decide))) (q_seq (q_if (PW.pt (q_or (q_tisN (q_v 1)) (q_or1 (q_tnin (hu65 hr) (q_v 1) (q_v 2))))) (q_one (q_never)) (q_skip)) (q_one (q_ret (q_bml PySem.F.plainAttrs_list PySem.F.slot_list_index PySem.F.type_list_index mt_index mc_idx (q_v 2) (q_cons (q_v 1) (q_nil)))))))
theorem ok_ManuscriptPlaceOf (c : Ctx w K mg) : MethOk P w K mg base 2 (cManuscript K) "place_of" [] (spC K c_ManuscriptPlaceOf) := by
  obtain ⟨fd, Df⟩ := c.defManuscriptPlaceOf
  exact ⟨c.clManuscript, _, fd, ["self", "key"], [], Df.me, fn_ManuscriptPlaceOf c Df, Df.F.bindsN fun _ _ _ _ _ _ us hl => match us, hl with | [_, _], _ => rfl, .nil⟩
theorem kw_ManuscriptPlaceOf_0 (c : Ctx w K mg) : FnK P w K mg base 2 1 ["key"] [0] (He.ma K (cManuscript K) "place_of") (spC K c_ManuscriptPlaceOf) := by
  obtain ⟨fd, Df⟩ := c.defManuscriptPlaceOf
  exact ⟨fd, _, _, fn_ManuscriptPlaceOf c Df, K95.FunD.kbP (ps := ["self", "key"]) Df.F 1 ["key"] [0] fun kV doc pm an cdv ct us ws l1 l2 => match us, ws, l1, l2 with | [_], [_], _, _ => rfl⟩
def c_ManuscriptNeedIndex0 : CF := bodyC 3 0 (cIfS (cOrT (cNotT (cB (cIsT .int_ (cVar 1)))) (cOrT (cB (cIsT .bool_ (cVar 1))) (cNotT (cB (cChain fLe fLt (cK (.int 0)) (cVar 1) (cOp fSub (cCB fLen (cCons (cOp fIx (cFd .manuscript 9 (cVar 0)) (cUn fNeg (cK (.int 1)))) (cNil))) (cVar 2))))))) (cNever) (cSkip))
def c_ManuscriptNeedIndex : CF := fgF c_ManuscriptNeedIndex0
theorem fn_ManuscriptNeedIndex (c : Ctx w K mg) {fd : FuncData} (Df : MethAt K (cManuscript K) "need_index" "Manuscript.need_index" sManuscriptNeedIndex [] [] (He.ma K (cManuscript K) "need_index") fd) : FnOk P w K mg base CX0 2 (He.ma K (cManuscript K) "need_index") fd ["self", "index", "least"] (spC K c_ManuscriptNeedIndex) := by
  have nd := scManuscriptNeedIndex.nd
  exact FnOk.spc_fg (ok_body Df.F scManuscriptNeedIndex rfl rfl fun cdv A outer s H E hr => q_one (q_if (PW.pt (q_or (q_not (q_tv (q_isT_int c.f_isinstance c.f_int (q_v 1)))) (q_or (q_tv (q_isT_bool c.f_isinstance c.f_bool (q_v 1))) (q_or1 (q_not (q_tchain op_leU oc_le op_lt oc_lt (q_int) (q_v 1) (q_subt (q_len c.f_len (q_cons (q_ix hr.units (q_fd c.clManuscript 9 (by decide +kernel) c.nManuscript_past (q_v 0)) (q_neg (q_int)) (fun _ _ => rfl)) (q_nil))) (q_v 2)))))))) (q_one (q_never)) (q_skip)))
theorem ok_ManuscriptNeedIndex (c : Ctx w K mg) : MethOk P w K mg base 2 (cManuscript K) "need_index" [] (spC K c_ManuscriptNeedIndex) := by
  obtain ⟨fd, Df⟩ := c.defManuscriptNeedIndex
  exact ⟨c.clManuscript, _, fd, ["self", "index", "least"], [], Df.me, fn_ManuscriptNeedIndex c Df, Df.F.bindsN fun _ _ _ _ _ _ us hl => match us, hl with | [_, _, _], _ => rfl, .nil⟩
def c_ManuscriptKeep : CF := bodyC 2 3 (cSeq (cAsg (cK .non) (cN 2)) (cSeq (cFor (cSq (cVar 1)) (cTp 2 (cGC (cN 3) (cGC (cN 4) (cGN)))) (cSeq (cIfS (cNotT (cB (cFn c_MayStand (cCons (cFd .manuscript 8 (cVar 0)) (cCons (cVar 3) (cCons (cVar 2) (cNil))))))) (cNever) (cSkip)) (cAsg (cVar 3) (cN 2)))) (cSetF .manuscript 9 (cVar 0) (cLst (cStar (cFd .manuscript 9 (cVar 0)) (cCons (cCB fTup (cCons (cVar 1) (cNil))) (cNil)))))))
theorem fn_ManuscriptKeep (c : Ctx w K mg) {fd : FuncData} (Df : MethAt K (cManuscript K) "keep" "Manuscript.keep" sManuscriptKeep [] [] (He.ma K (cManuscript K) "keep") fd) : FnOk P w K mg base CX0 8 (He.ma K (cManuscript K) "keep") fd ["self", "parts"] (spC K c_ManuscriptKeep) := by
  have nd := scManuscriptKeep.nd
  exact (ok_body Df.F scManuscriptKeep rfl rfl fun cdv A outer s H E hr => q_seq (q_set (i := 2) nd rfl (by first | exact Or.inl rfl | exact Or.inr rfl) (q_non)) (q_seq (q_for PassesOwn.never rfl (q_sq (q_v 1)) (q_tp rfl (q_gc (q_gname (i := 3) nd rfl (by first | exact Or.inl rfl | exact Or.inr rfl)) (q_gc (q_gname (i := 4) nd rfl (by first | exact Or.inl rfl | exact Or.inr rfl)) (q_gn)))) (q_seq (q_if (q_not (q_tv (q_f (ok_MayStand c) (hr.mono (by decide)) (q_cons (q_fd c.clManuscript 8 (by decide +kernel) c.nManuscript_plan (q_v 0)) (q_cons (q_v 3) (q_cons (q_v 2) (q_nil))))))) (q_one (q_never)) (q_skip)) (q_one (q_set (i := 2) nd rfl (by first | exact Or.inl rfl | exact Or.inr rfl) (q_v 3))))) (q_one (q_setF c.clManuscript 9 (by decide +kernel) c.nManuscript_past (q_v 0) (q_lst (q_star (q_fd c.clManuscript 9 (by decide +kernel) c.nManuscript_past (q_v 0)) (q_cons (q_tuple c.f_tuple (q_cons (q_v 1) (q_nil))) (q_nil))))))))
theorem ok_ManuscriptKeep (c : Ctx w K mg) : MethOk P w K mg base 8 (cManuscript K) "keep" [] (spC K c_ManuscriptKeep) := by
  obtain ⟨fd, Df⟩ := c.defManuscriptKeep
  exact ⟨c.clManuscript, _, fd, ["self", "parts"], [], Df.me, fn_ManuscriptKeep c Df, Df.F.bindsN fun _ _ _ _ _ _ us hl => match us, hl with | [_, _], _ => rfl, .nil⟩
def c_ManuscriptUndo : CF := bodyC 1 0 (cSeq (cIfS (cB (cOp (fEq false) (cCB fLen (cCons (cFd .manuscript 9 (cVar 0)) (cNil))) (cK (.int 1)))) (cNever) (cSkip)) (cSetF .manuscript 9 (cVar 0) (cSl (cFd .manuscript 9 (cVar 0)) cNoP (cPt (cUn fNeg (cK (.int 1)))))))
theorem fn_ManuscriptUndo (c : Ctx w K mg) {fd : FuncData} (Df : MethAt K (cManuscript K) "undo" "Manuscript.undo" sManuscriptUndo [] [] (He.ma K (cManuscript K) "undo") fd) : FnOk P w K mg base CX0 2 (He.ma K (cManuscript K) "undo") fd ["self"] (spC K c_ManuscriptUndo) := by
  have nd := scManuscriptUndo.nd
  exact (ok_body Df.F scManuscriptUndo rfl rfl fun cdv A outer s H E hr => q_seq (q_if (q_tcmp (op_eqU hr.units) oc_eq (q_len c.f_len (q_cons (q_fd c.clManuscript 9 (by decide +kernel) c.nManuscript_past (q_v 0)) (q_nil))) (q_int)) (q_one (q_never)) (q_skip)) (q_one (q_setF c.clManuscript 9 (by decide +kernel) c.nManuscript_past (q_v 0) (q_slice (q_fd c.clManuscript 9 (by decide +kernel) c.nManuscript_past (q_v 0)) q_noP (q_pt (q_neg (q_int)))))))
theorem ok_ManuscriptUndo (c : Ctx w K mg) : MethOk P w K mg base 2 (cManuscript K) "undo" [] (spC K c_ManuscriptUndo) := by
  obtain ⟨fd, Df⟩ := c.defManuscriptUndo
  exact ⟨c.clManuscript, _, fd, ["self"], [], Df.me, fn_ManuscriptUndo c Df, Df.F.bindsN fun _ _ _ _ _ _ us hl => match us, hl with | [_], _ => rfl, .nil⟩
def c_ManuscriptTrial : CF := bodyC 1 0 (cRet (cMk .trial c_TrialInit [] (cCons (cVar 0) (cNil))))
theorem fn_ManuscriptTrial (c : Ctx w K mg) {fd : FuncData} (Df : MethAt K (cManuscript K) "trial" "Manuscript.trial" sManuscriptTrial [] [] (He.ma K (cManuscript K) "trial") fd) : FnOk P w K mg base CX0 4 (He.ma K (cManuscript K) "trial") fd ["self"] (spC K c_ManuscriptTrial) := by
  have nd := scManuscriptTrial.nd
  exact (ok_body Df.F scManuscriptTrial rfl rfl fun cdv A outer s H E hr => q_one (q_ret (q_mk (C := .trial) (ds := []) (dvs := []) (fun _ => True.intro) (ok_TrialInit c) (hr.mono (by decide)) (q_cons (q_v 0) (q_nil)))))
theorem ok_ManuscriptTrial (c : Ctx w K mg) : MethOk P w K mg base 4 (cManuscript K) "trial" [] (spC K c_ManuscriptTrial) := by
  obtain ⟨fd, Df⟩ := c.defManuscriptTrial
  exact ⟨c.clManuscript, _, fd, ["self"], [], Df.me, fn_ManuscriptTrial c Df, Df.F.bindsN fun _ _ _ _ _ _ us hl => match us, hl with | [_], _ => rfl, .nil⟩
def c_IsChange0 : CF := bodyC 1 0 (cSeq (cIfS (cOrT (cNotT (cB (cIsT .tuple_ (cVar 0)))) (cB (cOp (fEq true) (cCB fLen (cCons (cVar 0) (cNil))) (cK (.int 2))))) (cRet (cK (.bl false))) (cSkip)) (cRet (cAndV (cIsT .str_ (cOp fIx (cVar 0) (cK (.int 0)))) (cAndV (cOp (fIn false) (cOp fIx (cVar 0) (cK (.int 0))) (cTup (cCons (cK (.str (mkS [97, 100, 100]))) (cCons (cK (.str (mkS [115, 101, 116]))) (cNil))))) (cFnD c_IsInteger [.non] (cCons (cOp fIx (cVar 0) (cK (.int 1))) (cCons (cK (.int 0)) (cNil))))))))
def c_IsChange : CF := fgF c_IsChange0
theorem fn_IsChange (c : Ctx w K mg) {fd : FuncData} (Df : DefAt K mg "is_change" sIsChange [] [] (He.ga K "is_change") fd) : FnOk P w K mg base CX0 3 (He.ga K "is_change") fd ["change"] (spC K c_IsChange) := by
  have nd := scIsChange.nd
  exact FnOk.spc_fg (ok_body Df.F scIsChange rfl rfl fun cdv A outer s H E hr => q_seq (q_if (PW.pt (q_or (q_not (q_tv (q_isT_tuple c.f_isinstance c.f_tuple (q_v 0)))) (q_or1 (q_tcmp (op_neU hr.units) oc_ne (q_len c.f_len (q_cons (q_v 0) (q_nil))) (q_int))))) (q_one (q_ret (q_bl))) (q_skip)) (q_one (q_ret (q_andV (q_isT_str c.f_isinstance c.f_str (q_ix hr.units (q_v 0) (q_int) (fun _ _ => rfl))) (q_andV (q_in (hu65 hr) (q_ix hr.units (q_v 0) (q_int) (fun _ _ => rfl)) (q_tup (q_cons (q_gsL c.s_ADD lt_8) (q_cons (q_gsL c.s_SET lt_0) (q_nil))))) (pe_one (q_fD (ds := [.non]) (dvs := [.non]) (fun _ => ⟨rfl, True.intro⟩) (ok_IsInteger2 c) (hr.mono (by decide)) (q_cons (q_ix hr.units (q_v 0) (q_int) (fun _ _ => rfl)) (q_cons (q_int) (q_nil))))))))))
theorem ok_IsChange (c : Ctx w K mg) : DefOk P w K mg base 3 "is_change" [] (spC K c_IsChange) := by
  obtain ⟨fd, Df⟩ := c.defIsChange
  exact ⟨_, fd, ["change"], [], Df.g, Df.F.kp, fn_IsChange c Df, Df.F.bindsN fun _ _ _ _ _ _ us hl => match us, hl with | [_], _ => rfl, .nil⟩
def c_ActionInit : CF := bodyC 2 2 (cSeq (cFor (cSq (cCB fSorted (cCons (cLockE (hV 1) (cLc (cKeys (cVar 1)) (cN 2) (cYes) (cCB fStr (cCons (cVar 2) (cNil))) [2])) (cNil)))) (cN 2) (cIfS (cOrT (cNotT (cB (cFn c_IsName (cCons (cVar 2) (cNil))))) (cNotT (cB (cFn c_IsChange (cCons (cOp fIx (cVar 1) (cVar 2)) (cNil)))))) (cNever) (cSkip))) (cSetF .action 12 (cVar 0) (cLockE (hV 1) (cDc (cItems (cVar 1)) (cTp 2 (cGC (cN 2) (cGC (cN 3) (cGN)))) (cB (cOp (fEq true) (cVar 3) (cTup (cCons (cK (.str (mkS [97, 100, 100]))) (cCons (cK (.int 0)) (cNil)))))) (cVar 2) (cVar 3) [2, 3]))))
theorem fn_ActionInit (c : Ctx w K mg) {fd : FuncData} (Df : MakeAt K mg "Action" "Action.__init__" sActionInit [] [] (He.ma K (cAction K) "__init__") fd) : FnOk P w K mg base CX0 5 (He.ma K (cAction K) "__init__") fd ["self", "changes"] (spC K c_ActionInit) := by
  have nd := scActionInit.nd
  exact (ok_body Df.F scActionInit rfl rfl fun cdv A outer s H E hr => q_seq (q_for PassesOwn.never rfl (q_sq (q_sorted rfl c.f_sorted (q_cons (q_lockE (q_lc (own := [("name", 2)]) rfl nd (q_keys (q_v 1)) (blkOk_by (by kernel_rfl)) (fun _ _ _ _ _ => q_gname (i := 2) nd rfl (by first | exact Or.inl rfl | exact Or.inr rfl)) (fun _ _ _ _ _ => q_yes) (fun _ _ _ _ _ => q_strf c.f_str (q_cons (q_v 2) (q_nil))) (gin_n (by decide)))) (q_nil)))) (q_gname (i := 2) nd rfl (by first | exact Or.inl rfl | exact Or.inr rfl)) (q_one (q_if (PW.pt (q_or (q_not (q_tv (q_f (ok_IsName c) (hr.mono (by decide)) (q_cons (q_v 2) (q_nil))))) (q_or1 (q_not (q_tv (q_f (ok_IsChange c) (hr.mono (by decide)) (q_cons (q_ix hr.units (q_v 1) (q_v 2) (fun _ _ => rfl)) (q_nil)))))))) (q_one (q_never)) (q_skip)))) (q_one (q_setF c.clAction 12 (by decide +kernel) c.nAction_made_of (q_v 0) (q_lockE (q_dc (own := [("name", 2), ("change", 3)]) rfl nd (q_items (q_v 1)) (blkOk_by (by kernel_rfl)) (fun _ _ _ _ _ => q_tp rfl (q_gc (q_gname (i := 2) nd rfl (by first | exact Or.inl rfl | exact Or.inr rfl)) (q_gc (q_gname (i := 3) nd rfl (by first | exact Or.inl rfl | exact Or.inr rfl)) (q_gn)))) (fun _ _ _ _ _ => pts_one (q_tcmp (op_neU hr.units) oc_ne (q_v 3) (q_tup (q_cons (q_gsL c.s_ADD lt_8) (q_cons (q_int) (q_nil)))))) (fun _ _ _ _ _ => q_v 2) (fun _ _ _ _ _ => q_v 3) (gin_tp (gin_gc (gin_n (by decide)) (gin_gc (gin_n (by decide)) (gin_gn)))))))))
theorem ok_ActionInit (c : Ctx w K mg) : MakeOk P w K mg base 5 "Action" (cAction K) [] (spC K c_ActionInit) := by
  obtain ⟨fd, Df⟩ := c.defActionInit
  exact ⟨_, fd, ["self", "changes"], [], Df.g, Df.M, fn_ActionInit c Df, Df.F.bindsN fun _ _ _ _ _ _ us hl => match us, hl with | [_, _], _ => rfl, .nil⟩
theorem kw_ActionInit_0 (c : Ctx w K mg) : FnK P w K mg base 5 1 ["changes"] [0] (He.ma K (cAction K) "__init__") (spC K c_ActionInit) := by
  obtain ⟨fd, Df⟩ := c.defActionInit
  exact ⟨fd, _, _, fn_ActionInit c Df, K95.FunD.kbP (ps := ["self", "changes"]) Df.F 1 ["changes"] [0] fun kV doc pm an cdv ct us ws l1 l2 => match us, ws, l1, l2 with | [_], [_], _, _ => rfl⟩
def c_ActionOf : CF := bodyC 2 5 (cSeq (cFor (cSq (cCB fSorted (cCons (cLockE (hV 1) (cLc (cKeys (cVar 1)) (cN 2) (cYes) (cCB fStr (cCons (cVar 2) (cNil))) [2])) (cNil)))) (cN 2) (cIfS (cNotT (cB (cFnD c_IsInteger [.non] (cCons (cOp fIx (cVar 1) (cVar 2)) (cCons (cK (.int 0)) (cNil)))))) (cNever) (cSkip))) (cSeq (cAsg (cNewD) (cN 3)) (cSeq (cLock (hV 1) (cFor (cItems (cVar 1)) (cTp 2 (cGC (cN 2) (cGC (cN 4) (cGN)))) (cSeq (cAsg (cGet2 (cFd .action 12 (cVar 0)) (cVar 2) (cTup (cCons (cK (.str (mkS [97, 100, 100]))) (cCons (cK (.int 0)) (cNil))))) (cTp 2 (cGC (cN 5) (cGC (cN 6) (cGN))))) (cAsg (cIfE (cB (cOp (fEq false) (cVar 5) (cK (.str (mkS [115, 101, 116]))))) (cVar 6) (cOp fAdd (cVar 4) (cVar 6))) (cSub (cVar 3) (cVar 2)))))) (cRet (cVar 3)))))
theorem fn_ActionOf (c : Ctx w K mg) {fd : FuncData} (Df : MethAt K (cAction K) "of" "Action.of" sActionOf [] [] (He.ma K (cAction K) "of") fd) : FnOk P w K mg base CX0 3 (He.ma K (cAction K) "of") fd ["self", "values"] (spC K c_ActionOf) := by
  have nd := scActionOf.nd
  exact (ok_body Df.F scActionOf rfl rfl fun cdv A outer s H E hr => q_seq (q_for PassesOwn.never rfl (q_sq (q_sorted rfl c.f_sorted (q_cons (q_lockE (q_lc (own := [("name", 2)]) rfl nd (q_keys (q_v 1)) (blkOk_by (by kernel_rfl)) (fun _ _ _ _ _ => q_gname (i := 2) nd rfl (by first | exact Or.inl rfl | exact Or.inr rfl)) (fun _ _ _ _ _ => q_yes) (fun _ _ _ _ _ => q_strf c.f_str (q_cons (q_v 2) (q_nil))) (gin_n (by decide)))) (q_nil)))) (q_gname (i := 2) nd rfl (by first | exact Or.inl rfl | exact Or.inr rfl)) (q_one (q_if (q_not (q_tv (q_fD (ds := [.non]) (dvs := [.non]) (fun _ => ⟨rfl, True.intro⟩) (ok_IsInteger2 c) (hr.mono (by decide)) (q_cons (q_ix hr.units (q_v 1) (q_v 2) (fun _ _ => rfl)) (q_cons (q_int) (q_nil)))))) (q_one (q_never)) (q_skip)))) (q_seq (q_set (i := 3) nd rfl (by first | exact Or.inl rfl | exact Or.inr rfl) (q_newD)) (q_seq (q_lock (q_for PassesOwn.never rfl (q_items (q_v 1)) (q_tp rfl (q_gc (q_gname (i := 2) nd rfl (by first | exact Or.inl rfl | exact Or.inr rfl)) (q_gc (q_gname (i := 4) nd rfl (by first | exact Or.inl rfl | exact Or.inr rfl)) (q_gn)))) (q_seq (q_asg (q_get2 hr.units (q_fd c.clAction 12 (by decide +kernel) c.nAction_made_of (q_v 0)) (q_v 2) (q_tup (q_cons (q_gsL c.s_ADD lt_8) (q_cons (q_int) (q_nil)))) ⟨rfl, rfl, rfl, rfl⟩) (q_tp rfl (q_gc (q_gname (i := 5) nd rfl (by first | exact Or.inl rfl | exact Or.inr rfl)) (q_gc (q_gname (i := 6) nd rfl (by first | exact Or.inl rfl | exact Or.inr rfl)) (q_gn))))) (q_one (q_asg (q_ifE (q_tcmp (op_eqU hr.units) oc_eq (q_v 5) (q_gsL c.s_SET lt_0)) (q_v 6) (q_add (q_v 4) (q_v 6))) (q_sub hr.units (q_v 3) (q_v 2))))))) (q_one (q_ret (q_v 3))))))
theorem ok_ActionOf (c : Ctx w K mg) : MethOk P w K mg base 3 (cAction K) "of" [] (spC K c_ActionOf) := by
  obtain ⟨fd, Df⟩ := c.defActionOf
  exact ⟨c.clAction, _, fd, ["self", "values"], [], Df.me, fn_ActionOf c Df, Df.F.bindsN fun _ _ _ _ _ _ us hl => match us, hl with | [_, _], _ => rfl, .nil⟩
theorem kw_ActionOf_0 (c : Ctx w K mg) : FnK P w K mg base 3 1 ["values"] [0] (He.ma K (cAction K) "of") (spC K c_ActionOf) := by
  obtain ⟨fd, Df⟩ := c.defActionOf
  exact ⟨fd, _, _, fn_ActionOf c Df, K95.FunD.kbP (ps := ["self", "values"]) Df.F 1 ["values"] [0] fun kV doc pm an cdv ct us ws l1 l2 => match us, ws, l1, l2 with | [_], [_], _, _ => rfl⟩
def c_ReadStarts : CF := bodyC 1 7 (cSeq (cIfS (cNotT (cB (cBM true fStarts (cVar 0) (cCons (cK (.str (mkS [99, 111, 117, 110, 116, 101, 114, 115, 32]))) (cNil))))) (cRet (cK .non)) (cSkip)) (cSeq (cAsg (cNewD) (cN 1)) (cSeq (cAsg (cK (.str (mkS []))) (cN 2)) (cSeq (cFor (cSq (cBM true fSplit (cSl (cVar 0) (cPt (cCB fLen (cCons (cK (.str (mkS [99, 111, 117, 110, 116, 101, 114, 115, 32]))) (cNil)))) cNoP) (cCons (cK (.str (mkS [44, 32]))) (cNil)))) (cN 3) (cSeq (cAsg (cBM true fPart (cVar 3) (cCons (cK (.str (mkS [32]))) (cNil))) (cTp 3 (cGC (cN 4) (cGC (cN 5) (cGC (cN 6) (cGN)))))) (cSeq (cAsg (cFn c_ReadNumber (cCons (cK (.str (mkS [102, 105, 103, 117, 114, 101, 115]))) (cCons (cVar 6) (cNil)))) (cN 7)) (cSeq (cIfS (cOrT (cNotT (cB (cFn c_IsName (cCons (cVar 4) (cNil))))) (cOrT (cB (cOp fLe (cVar 4) (cVar 2))) (cOrT (cB (cIsN false (cVar 7))) (cB (cOp fGt (cVar 7) (cK (.int 99))))))) (cRet (cK .non)) (cSkip)) (cSeq (cAsg (cVar 7) (cSub (cVar 1) (cVar 4))) (cAsg (cVar 4) (cN 2))))))) (cRet (cIfE (cB (cOp fLe (cCB fLen (cCons (cVar 1) (cNil))) (cK (.int 4)))) (cVar 1) (cK .non)))))))
theorem fn_ReadStarts (c : Ctx w K mg) {fd : FuncData} (Df : DefAt K mg "read_starts" sReadStarts [] [] (He.ga K "read_starts") fd) : FnOk P w K mg base CX0 3 (He.ga K "read_starts") fd ["line"] (spC K c_ReadStarts) := by
  have nd := scReadStarts.nd
  exact (ok_body Df.F scReadStarts rfl rfl fun cdv A outer s H E hr => q_seq (q_if (q_not (q_tv (q_bms PySem.F.plainAttrs_str PySem.F.slot_str_startswith PySem.F.type_str_startswith mt_starts1 mc_starts (q_v 0) (q_cons (q_gsL c.s_COUNTERS lt_9) (q_nil))))) (q_one (q_ret (q_non))) (q_skip)) (q_seq (q_set (i := 1) nd rfl (by first | exact Or.inl rfl | exact Or.inr rfl) (q_newD)) (q_seq (q_set (i := 2) nd rfl (by first | exact Or.inl rfl | exact Or.inr rfl) (q_strL lt_1)) (q_seq (q_for PassesOwn.never rfl (q_sq (q_bms PySem.F.plainAttrs_str PySem.F.slot_str_split PySem.F.type_str_split mt_split1 mc_split (q_slice (q_v 0) (q_pt (q_len c.f_len (q_cons (q_gsL c.s_COUNTERS lt_9) (q_nil)))) q_noP) (q_cons (q_strL lt_10) (q_nil)))) (q_gname (i := 3) nd rfl (by first | exact Or.inl rfl | exact Or.inr rfl)) (q_seq (q_asg (q_bms PySem.F.plainAttrs_str PySem.F.slot_str_partition PySem.F.type_str_partition mt_part1 mc_part (q_v 3) (q_cons (q_strL lt_2) (q_nil))) (q_tp rfl (q_gc (q_gname (i := 4) nd rfl (by first | exact Or.inl rfl | exact Or.inr rfl)) (q_gc (q_gname (i := 5) nd rfl (by first | exact Or.inl rfl | exact Or.inr rfl)) (q_gc (q_gname (i := 6) nd rfl (by first | exact Or.inl rfl | exact Or.inr rfl)) (q_gn)))))) (q_seq (q_set (i := 7) nd rfl (by first | exact Or.inl rfl | exact Or.inr rfl) (q_f (ok_ReadNumber c) (hr.mono (by decide)) (q_cons (q_gsL c.s_FIGURES lt_7) (q_cons (q_v 6) (q_nil))))) (q_seq (q_if (PW.pt (q_or (q_not (q_tv (q_f (ok_IsName c) (hr.mono (by decide)) (q_cons (q_v 4) (q_nil))))) (q_or (q_tcmp op_leU oc_le (q_v 4) (q_v 2)) (q_or (q_tisN (q_v 7)) (q_or1 (q_tcmp op_gt oc_gt (q_v 7) (q_gi c.i_MOST))))))) (q_one (q_ret (q_non))) (q_skip)) (q_seq (q_asg (q_v 7) (q_sub hr.units (q_v 1) (q_v 4))) (q_one (q_set (i := 2) nd rfl (by first | exact Or.inl rfl | exact Or.inr rfl) (q_v 4)))))))) (q_one (q_ret (q_ifE (q_tcmp op_leU oc_le (q_len c.f_len (q_cons (q_v 1) (q_nil))) (q_gi c.i_MOST_COUNTERS)) (q_v 1) (q_non))))))))
theorem ok_ReadStarts (c : Ctx w K mg) : DefOk P w K mg base 3 "read_starts" [] (spC K c_ReadStarts) := by
  obtain ⟨fd, Df⟩ := c.defReadStarts
  exact ⟨_, fd, ["line"], [], Df.g, Df.F.kp, fn_ReadStarts c Df, Df.F.bindsN fun _ _ _ _ _ _ us hl => match us, hl with | [_], _ => rfl, .nil⟩
def c_ReadNames : CF := bodyC 2 2 (cSeq (cAsg (cSl (cBM true fSplit (cVar 0) (cCons (cK (.str (mkS [32]))) (cNil))) (cPt (cK (.int 1))) cNoP) (cN 2)) (cRet (cIfE (cAndT (cB (cOp (fEq false) (cFn c_Listed (cCons (cVar 2) (cNil))) (cVar 0))) (cB (cOp (fEq false) (cVar 2) (cLc (cSq (cVar 1)) (cN 3) (cB (cOp (fIn false) (cVar 3) (cVar 2))) (cVar 3) [3])))) (cVar 2) (cK .non))))
theorem fn_ReadNames (c : Ctx w K mg) {fd : FuncData} (Df : DefAt K mg "read_names" sReadNames [] [] (He.ga K "read_names") fd) : FnOk P w K mg base CX0 4 (He.ga K "read_names") fd ["text", "known"] (spC K c_ReadNames) := by
  have nd := scReadNames.nd
  exact (ok_body Df.F scReadNames rfl rfl fun cdv A outer s H E hr => q_seq (q_set (i := 2) nd rfl (by first | exact Or.inl rfl | exact Or.inr rfl) (q_slice (q_bms PySem.F.plainAttrs_str PySem.F.slot_str_split PySem.F.type_str_split mt_split1 mc_split (q_v 0) (q_cons (q_strL lt_2) (q_nil))) (q_pt (q_int)) q_noP)) (q_one (q_ret (q_ifE (PW.pt (q_and (q_tcmp (op_eqU hr.units) oc_eq (q_f (ok_Listed c) (hr.mono (by decide)) (q_cons (q_v 2) (q_nil))) (q_v 0)) (q_and1 (q_tcmp (op_eqU hr.units) oc_eq (q_v 2) (q_lc (own := [("name", 3)]) rfl nd (q_sq (q_v 1)) (blkOk_by (by kernel_rfl)) (fun _ _ _ _ _ => q_gname (i := 3) nd rfl (by first | exact Or.inl rfl | exact Or.inr rfl)) (fun _ _ _ _ _ => pts_one (q_tin (hu65 hr) (q_v 3) (q_v 2))) (fun _ _ _ _ _ => q_v 3) (gin_n (by decide))))))) (q_v 2) (q_non)))))
theorem ok_ReadNames (c : Ctx w K mg) : DefOk P w K mg base 4 "read_names" [] (spC K c_ReadNames) := by
  obtain ⟨fd, Df⟩ := c.defReadNames
  exact ⟨_, fd, ["text", "known"], [], Df.g, Df.F.kp, fn_ReadNames c Df, Df.F.bindsN fun _ _ _ _ _ _ us hl => match us, hl with | [_, _], _ => rfl, .nil⟩
def c_LabelSameForm0 : CF := bodyC 2 3 (cSeq (cAsg (cLc (cSq (cFd .label 1 (cVar 0))) (cTp 2 (cGC (cN 3) (cGC (cN 4) (cGN)))) (cYes) (cVar 4) [3, 4]) (cN 2)) (cRet (cAndV (cOp (fEq false) (cFd .label 0 (cVar 0)) (cFd .label 0 (cVar 1))) (cAndV (cOp (fEq false) (cVar 2) (cLc (cSq (cFd .label 1 (cVar 1))) (cTp 2 (cGC (cN 3) (cGC (cN 4) (cGN)))) (cYes) (cVar 4) [3, 4])) (cOp (fEq false) (cFd .label 2 (cVar 0)) (cFd .label 2 (cVar 1)))))))
def c_LabelSameForm : CF := fgF c_LabelSameForm0
theorem fn_LabelSameForm (c : Ctx w K mg) {fd : FuncData} (Df : MethAt K (cLabel K) "same_form" "Label.same_form" sLabelSameForm [] [] (He.ma K (cLabel K) "same_form") fd) : FnOk P w K mg base CX0 2 (He.ma K (cLabel K) "same_form") fd ["self", "other"] (spC K c_LabelSameForm) := by
  have nd := scLabelSameForm.nd
  exact FnOk.spc_fg (ok_body Df.F scLabelSameForm rfl rfl fun cdv A outer s H E hr => q_seq (q_setLc (i := 2) (own := [("name", 3), ("form", 4)]) rfl nd rfl (q_sq (q_fd c.clLabel 1 (by decide +kernel) c.nLabel_slots (q_v 0))) (blkOk_by (by kernel_rfl)) (fun _ _ _ _ _ => q_tp rfl (q_gc (q_gname (i := 3) nd rfl (by first | exact Or.inl rfl | exact Or.inr rfl)) (q_gc (q_gname (i := 4) nd rfl (by first | exact Or.inl rfl | exact Or.inr rfl)) (q_gn)))) (fun _ _ _ _ _ => q_yes) (fun _ _ _ _ _ => q_v 4) (gin_tp (gin_gc (gin_n (by decide)) (gin_gc (gin_n (by decide)) (gin_gn))))) (q_one (q_ret (q_andV (q_cmp (op_eqU hr.units) oc_eq (q_fd c.clLabel 0 (by decide +kernel) c.nLabel_first (q_v 0)) (q_fd c.clLabel 0 (by decide +kernel) c.nLabel_first (q_v 1))) (q_andV (q_cmp (op_eqU hr.units) oc_eq (q_v 2) (q_lc (own := [("name", 3), ("form", 4)]) rfl nd (q_sq (q_fd c.clLabel 1 (by decide +kernel) c.nLabel_slots (q_v 1))) (blkOk_by (by kernel_rfl)) (fun _ _ _ _ _ => q_tp rfl (q_gc (q_gname (i := 3) nd rfl (by first | exact Or.inl rfl | exact Or.inr rfl)) (q_gc (q_gname (i := 4) nd rfl (by first | exact Or.inl rfl | exact Or.inr rfl)) (q_gn)))) (fun _ _ _ _ _ => q_yes) (fun _ _ _ _ _ => q_v 4) (gin_tp (gin_gc (gin_n (by decide)) (gin_gc (gin_n (by decide)) (gin_gn)))))) (pe_one (q_cmp (op_eqU hr.units) oc_eq (q_fd c.clLabel 2 (by decide +kernel) c.nLabel_signs (q_v 0)) (q_fd c.clLabel 2 (by decide +kernel) c.nLabel_signs (q_v 1)))))))))
theorem ok_LabelSameForm (c : Ctx w K mg) : MethOk P w K mg base 2 (cLabel K) "same_form" [] (spC K c_LabelSameForm) := by
  obtain ⟨fd, Df⟩ := c.defLabelSameForm
  exact ⟨c.clLabel, _, fd, ["self", "other"], [], Df.me, fn_LabelSameForm c Df, Df.F.bindsN fun _ _ _ _ _ _ us hl => match us, hl with | [_, _], _ => rfl, .nil⟩
theorem kw_LabelSameForm_0 (c : Ctx w K mg) : FnK P w K mg base 2 1 ["other"] [0] (He.ma K (cLabel K) "same_form") (spC K c_LabelSameForm) := by
  obtain ⟨fd, Df⟩ := c.defLabelSameForm
  exact ⟨fd, _, _, fn_LabelSameForm c Df, K95.FunD.kbP (ps := ["self", "other"]) Df.F 1 ["other"] [0] fun kV doc pm an cdv ct us ws l1 l2 => match us, ws, l1, l2 with | [_], [_], _, _ => rfl⟩
end
end
end K95
set_option maxRecDepth 100000
set_option maxHeartbeats 4000000
set_option pp.deepTerms false
set_option pp.maxSteps 600
namespace K95
open PySem PySem.Spec PyProof.Rows L2
noncomputable section
variable [Nu]
section
variable {P : Program} {w : World} {K : PySem.W.Frag} {mg : Str → Option Value} {base : Heap}

def c_WrongItem0 : CF := bodyC 1 5 (cSeq (cAsg (cLst (cNil)) (cN 1)) (cSeq (cFor (cEnum (cCons (cVar 0) (cNil))) (cTp 2 (cGC (cN 2) (cGC (cN 3) (cGN)))) (cSeq (cIfS (cOrT (cB (cOp (fEq false) (cVar 2) (cK (.int 4)))) (cOrT (cNotT (cB (cIsT .tuple_ (cVar 3)))) (cB (cOp (fEq true) (cCB fLen (cCons (cVar 3) (cNil))) (cK (.int 2)))))) (cRet (cVar 2)) (cSkip)) (cSeq (cAsg (cVar 3) (cTp 2 (cGC (cN 4) (cGC (cN 5) (cGN))))) (cSeq (cIfS (cOrT (cNotT (cB (cIsT .str_ (cVar 4)))) (cOrT (cNotT (cB (cFn c_IsName (cCons (cVar 4) (cNil))))) (cOrT (cB (cOp (fIn true) (cVar 5) (cTup (cCons (cK (.str (mkS [102, 105, 103, 117, 114, 101, 115]))) (cCons (cK (.str (mkS [108, 101, 116, 116, 101, 114, 115]))) (cNil)))))) (cB (cOp (fIn false) (cVar 4) (cVar 1)))))) (cRet (cVar 2)) (cSkip)) (cDrop (cBM false fApp (cVar 1) (cCons (cVar 4) (cNil)))))))) (cRet (cIfE (cB (cOp (fEq false) (cVar 1) (cLst (cNil)))) (cK (.int 0)) (cK .non)))))
def c_WrongItem : CF := fgF c_WrongItem0
theorem fn_WrongItem (c : Ctx w K mg) {fd : FuncData} (Df : DefAt K mg "wrong_item" sWrongItem [] [] (He.ga K "wrong_item") fd) : FnOk P w K mg base CX0 3 (He.ga K "wrong_item") fd ["shown"] (spC K c_WrongItem) := by
  have nd := scWrongItem.nd
  exact FnOk.spc_fg (ok_body Df.F scWrongItem rfl rfl fun cdv A outer s H E hr => q_seq (q_set (i := 1) nd rfl (by first | exact Or.inl rfl | exact Or.inr rfl) (q_lst (q_nil))) (q_seq (q_for PassesOwn.never rfl (q_enum c.f_enumerate (q_cons (q_v 0) (q_nil))) (q_tp rfl (q_gc (q_gname (i := 2) nd rfl (by first | exact Or.inl rfl | exact Or.inr rfl)) (q_gc (q_gname (i := 3) nd rfl (by first | exact Or.inl rfl | exact Or.inr rfl)) (q_gn)))) (q_seq (q_if (PW.pt (q_or (q_tcmp (op_eqU hr.units) oc_eq (q_v 2) (q_gi c.i_MOST_SHOWN)) (q_or (q_not (q_tv (q_isT_tuple c.f_isinstance c.f_tuple (q_v 3)))) (q_or1 (q_tcmp (op_neU hr.units) oc_ne (q_len c.f_len (q_cons (q_v 3) (q_nil))) (q_int)))))) (q_one (q_ret (q_v 2))) (q_skip)) (q_seq (q_asg (q_v 3) (q_tp rfl (q_gc (q_gname (i := 4) nd rfl (by first | exact Or.inl rfl | exact Or.inr rfl)) (q_gc (q_gname (i := 5) nd rfl (by first | exact Or.inl rfl | exact Or.inr rfl)) (q_gn))))) (q_seq (q_if (PW.pt (q_or (q_not (q_tv (q_isT_str c.f_isinstance c.f_str (q_v 4)))) (q_or (q_not (q_tv (q_f (ok_IsName c) (hr.mono (by decide)) (q_cons (q_v 4) (q_nil))))) (q_or (q_tnin (hu65 hr) (q_v 5) (q_tup (q_cons (q_gsL c.s_FIGURES lt_7) (q_cons (q_gsL c.s_LETTERS lt_6) (q_nil))))) (q_or1 (q_tin (hu65 hr) (q_v 4) (q_v 1))))))) (q_one (q_ret (q_v 2))) (q_skip)) (q_one (q_expr (q_bml PySem.F.plainAttrs_list PySem.F.slot_list_append PySem.F.type_list_append mt_app1 mc_app (q_v 1) (q_cons (q_v 4) (q_nil))))))))) (q_one (q_ret (q_ifE (q_tcmp (op_eqU hr.units) oc_eq (q_v 1) (q_lst (q_nil))) (q_int) (q_non))))))
theorem ok_WrongItem (c : Ctx w K mg) : DefOk P w K mg base 3 "wrong_item" [] (spC K c_WrongItem) := by
  obtain ⟨fd, Df⟩ := c.defWrongItem
  exact ⟨_, fd, ["shown"], [], Df.g, Df.F.kp, fn_WrongItem c Df, Df.F.bindsN fun _ _ _ _ _ _ us hl => match us, hl with | [_], _ => rfl, .nil⟩
def c_LabelJoined0 : CF := bodyC 2 3 (cSeq (cAsg (cOp fAdd (cFd .label 0 (cVar 0)) (cOp fIx (cVar 1) (cK (.int 0)))) (cN 2)) (cSeq (cFor (cZip (cCons (cFd .label 2 (cVar 0)) (cCons (cSl (cVar 1) (cPt (cK (.int 1))) cNoP) (cNil)))) (cTp 2 (cGC (cN 3) (cGC (cN 4) (cGN)))) (cAugN 2 (cOp fAdd (cVar 3) (cVar 4)))) (cRet (cVar 2))))
def c_LabelJoined : CF := fgF c_LabelJoined0
theorem fn_LabelJoined (c : Ctx w K mg) {fd : FuncData} (Df : MethAt K (cLabel K) "joined" "Label.joined" sLabelJoined [] [] (He.ma K (cLabel K) "joined") fd) : FnOk P w K mg base CX0 2 (He.ma K (cLabel K) "joined") fd ["self", "words"] (spC K c_LabelJoined) := by
  have nd := scLabelJoined.nd
  exact FnOk.spc_fg (ok_body Df.F scLabelJoined rfl rfl fun cdv A outer s H E hr => q_seq (q_set (i := 2) nd rfl (by first | exact Or.inl rfl | exact Or.inr rfl) (q_add (q_fd c.clLabel 0 (by decide +kernel) c.nLabel_first (q_v 0)) (q_ix hr.units (q_v 1) (q_int) (fun _ _ => rfl)))) (q_seq (q_for PassesOwn.never rfl (q_zip c.f_zip (q_cons (q_fd c.clLabel 2 (by decide +kernel) c.nLabel_signs (q_v 0)) (q_cons (q_slice (q_v 1) (q_pt (q_int)) q_noP) (q_nil)))) (q_tp rfl (q_gc (q_gname (i := 3) nd rfl (by first | exact Or.inl rfl | exact Or.inr rfl)) (q_gc (q_gname (i := 4) nd rfl (by first | exact Or.inl rfl | exact Or.inr rfl)) (q_gn)))) (q_one (q_augN (i := 2) nd rfl (by first | exact Or.inl rfl | exact Or.inr rfl) (q_add (q_v 3) (q_v 4))))) (q_one (q_ret (q_v 2)))))
theorem ok_LabelJoined (c : Ctx w K mg) : MethOk P w K mg base 2 (cLabel K) "joined" [] (spC K c_LabelJoined) := by
  obtain ⟨fd, Df⟩ := c.defLabelJoined
  exact ⟨c.clLabel, _, fd, ["self", "words"], [], Df.me, fn_LabelJoined c Df, Df.F.bindsN fun _ _ _ _ _ _ us hl => match us, hl with | [_, _], _ => rfl, .nil⟩
def c_LabelOf0 : CF := bodyC 2 2 (cSeq (cFor (cSq (cFd .label 1 (cVar 0))) (cTp 2 (cGC (cN 2) (cGC (cN 3) (cGN)))) (cIfS (cB (cOp (fIn true) (cVar 2) (cVar 1))) (cNever) (cSkip))) (cSeq (cFor (cSq (cFd .label 1 (cVar 0))) (cTp 2 (cGC (cN 2) (cGC (cN 3) (cGN)))) (cIfS (cNotT (cB (cFnD c_IsInteger [.non] (cCons (cOp fIx (cVar 1) (cVar 2)) (cCons (cK (.int 0)) (cNil)))))) (cNever) (cSkip))) (cRet (cMt .label c_LabelJoined (cVar 0) (cCons (cLc (cSq (cFd .label 1 (cVar 0))) (cTp 2 (cGC (cN 2) (cGC (cN 3) (cGN)))) (cYes) (cFn c_NumberText (cCons (cVar 3) (cCons (cOp fIx (cVar 1) (cVar 2)) (cNil)))) [2, 3]) (cNil))))))
def c_LabelOf : CF := fgF c_LabelOf0
theorem fn_LabelOf (c : Ctx w K mg) {fd : FuncData} (Df : MethAt K (cLabel K) "of" "Label.of" sLabelOf [] [] (He.ma K (cLabel K) "of") fd) : FnOk P w K mg base CX0 4 (He.ma K (cLabel K) "of") fd ["self", "values"] (spC K c_LabelOf) := by
  have nd := scLabelOf.nd
  exact FnOk.spc_fg (ok_body Df.F scLabelOf rfl rfl fun cdv A outer s H E hr => q_seq (q_for PassesOwn.never rfl (q_sq (q_fd c.clLabel 1 (by decide +kernel) c.nLabel_slots (q_v 0))) (q_tp rfl (q_gc (q_gname (i := 2) nd rfl (by first | exact Or.inl rfl | exact Or.inr rfl)) (q_gc (q_gname (i := 3) nd rfl (by first | exact Or.inl rfl | exact Or.inr rfl)) (q_gn)))) (q_one (q_if (q_tnin (hu65 hr) (q_v 2) (q_v 1)) (q_one (q_never)) (q_skip)))) (q_seq (q_for PassesOwn.never rfl (q_sq (q_fd c.clLabel 1 (by decide +kernel) c.nLabel_slots (q_v 0))) (q_tp rfl (q_gc (q_gname (i := 2) nd rfl (by first | exact Or.inl rfl | exact Or.inr rfl)) (q_gc (q_gname (i := 3) nd rfl (by first | exact Or.inl rfl | exact Or.inr rfl)) (q_gn)))) (q_one (q_if (q_not (q_tv (q_fD (ds := [.non]) (dvs := [.non]) (fun _ => ⟨rfl, True.intro⟩) (ok_IsInteger2 c) (hr.mono (by decide)) (q_cons (q_ix hr.units (q_v 1) (q_v 2) (fun _ _ => rfl)) (q_cons (q_int) (q_nil)))))) (q_one (q_never)) (q_skip)))) (q_one (q_ret (q_m (C := .label) (ok_LabelJoined c) (by decide +kernel) (hr.mono (by decide)) (q_v 0) (q_cons (q_lc (own := [("name", 2), ("form", 3)]) rfl nd (q_sq (q_fd c.clLabel 1 (by decide +kernel) c.nLabel_slots (q_v 0))) (blkOk_by (by kernel_rfl)) (fun _ _ _ _ _ => q_tp rfl (q_gc (q_gname (i := 2) nd rfl (by first | exact Or.inl rfl | exact Or.inr rfl)) (q_gc (q_gname (i := 3) nd rfl (by first | exact Or.inl rfl | exact Or.inr rfl)) (q_gn)))) (fun _ _ _ _ _ => q_yes) (fun _ _ _ _ _ => q_f (ok_NumberText c) (hr.mono (by decide)) (q_cons (q_v 3) (q_cons (q_ix hr.units (q_v 1) (q_v 2) (fun _ _ => rfl)) (q_nil)))) (gin_tp (gin_gc (gin_n (by decide)) (gin_gc (gin_n (by decide)) (gin_gn))))) (q_nil)))))))
theorem ok_LabelOf (c : Ctx w K mg) : MethOk P w K mg base 4 (cLabel K) "of" [] (spC K c_LabelOf) := by
  obtain ⟨fd, Df⟩ := c.defLabelOf
  exact ⟨c.clLabel, _, fd, ["self", "values"], [], Df.me, fn_LabelOf c Df, Df.F.bindsN fun _ _ _ _ _ _ us hl => match us, hl with | [_, _], _ => rfl, .nil⟩
theorem kw_LabelOf_0 (c : Ctx w K mg) : FnK P w K mg base 4 1 ["values"] [0] (He.ma K (cLabel K) "of") (spC K c_LabelOf) := by
  obtain ⟨fd, Df⟩ := c.defLabelOf
  exact ⟨fd, _, _, fn_LabelOf c Df, K95.FunD.kbP (ps := ["self", "values"]) Df.F 1 ["values"] [0] fun kV doc pm an cdv ct us ws l1 l2 => match us, ws, l1, l2 with | [_], [_], _, _ => rfl⟩
def c_LabelRead : CF := bodyC 2 8 (cSeq (cIfS (cNotT (cB (cBM true fStarts (cVar 1) (cCons (cFd .label 0 (cVar 0)) (cNil))))) (cRet (cK .non)) (cSkip)) (cSeq (cAsg (cSl (cVar 1) (cPt (cCB fLen (cCons (cFd .label 0 (cVar 0)) (cNil)))) cNoP) (cN 2)) (cSeq (cAsg (cLst (cNil)) (cN 3)) (cSeq (cFor (cSq (cFd .label 2 (cVar 0))) (cN 4) (cSeq (cAsg (cBM true fPart (cVar 2) (cCons (cVar 4) (cNil))) (cTp 3 (cGC (cN 5) (cGC (cN 6) (cGC (cN 2) (cGN)))))) (cSeq (cIfS (cB (cOp (fEq false) (cVar 6) (cK (.str (mkS []))))) (cRet (cK .non)) (cSkip)) (cDrop (cBM false fApp (cVar 3) (cCons (cVar 5) (cNil))))))) (cSeq (cDrop (cBM false fApp (cVar 3) (cCons (cVar 2) (cNil)))) (cSeq (cAsg (cLc (cZip (cCons (cFd .label 1 (cVar 0)) (cCons (cVar 3) (cNil)))) (cTp 2 (cGC (cN 8) (cGC (cN 5) (cGN)))) (cYes) (cFn c_ReadNumber (cCons (cOp fIx (cVar 8) (cK (.int 1))) (cCons (cVar 5) (cNil)))) [8, 5]) (cN 7)) (cSeq (cIfS (cB (cOp (fIn false) (cK .non) (cVar 7))) (cRet (cK .non)) (cSkip)) (cRet (cDc (cZip (cCons (cFd .label 1 (cVar 0)) (cCons (cVar 7) (cNil)))) (cTp 2 (cGC (cN 8) (cGC (cN 9) (cGN)))) (cYes) (cOp fIx (cVar 8) (cK (.int 0))) (cVar 9) [8, 9])))))))))
theorem fn_LabelRead (c : Ctx w K mg) {fd : FuncData} (Df : MethAt K (cLabel K) "read" "Label.read" sLabelRead [] [] (He.ma K (cLabel K) "read") fd) : FnOk P w K mg base CX0 3 (He.ma K (cLabel K) "read") fd ["self", "text"] (spC K c_LabelRead) := by
  have nd := scLabelRead.nd
  exact (ok_body Df.F scLabelRead rfl rfl fun cdv A outer s H E hr => q_seq (q_if (q_not (q_tv (q_bms PySem.F.plainAttrs_str PySem.F.slot_str_startswith PySem.F.type_str_startswith mt_starts1 mc_starts (q_v 1) (q_cons (q_fd c.clLabel 0 (by decide +kernel) c.nLabel_first (q_v 0)) (q_nil))))) (q_one (q_ret (q_non))) (q_skip)) (q_seq (q_set (i := 2) nd rfl (by first | exact Or.inl rfl | exact Or.inr rfl) (q_slice (q_v 1) (q_pt (q_len c.f_len (q_cons (q_fd c.clLabel 0 (by decide +kernel) c.nLabel_first (q_v 0)) (q_nil)))) q_noP)) (q_seq (q_set (i := 3) nd rfl (by first | exact Or.inl rfl | exact Or.inr rfl) (q_lst (q_nil))) (q_seq (q_for PassesOwn.never rfl (q_sq (q_fd c.clLabel 2 (by decide +kernel) c.nLabel_signs (q_v 0))) (q_gname (i := 4) nd rfl (by first | exact Or.inl rfl | exact Or.inr rfl)) (q_seq (q_asg (q_bms PySem.F.plainAttrs_str PySem.F.slot_str_partition PySem.F.type_str_partition mt_part1 mc_part (q_v 2) (q_cons (q_v 4) (q_nil))) (q_tp rfl (q_gc (q_gname (i := 5) nd rfl (by first | exact Or.inl rfl | exact Or.inr rfl)) (q_gc (q_gname (i := 6) nd rfl (by first | exact Or.inl rfl | exact Or.inr rfl)) (q_gc (q_gname (i := 2) nd rfl (by first | exact Or.inl rfl | exact Or.inr rfl)) (q_gn)))))) (q_seq (q_if (q_tcmp (op_eqU hr.units) oc_eq (q_v 6) (q_strL lt_1)) (q_one (q_ret (q_non))) (q_skip)) (q_one (q_expr (q_bml PySem.F.plainAttrs_list PySem.F.slot_list_append PySem.F.type_list_append mt_app1 mc_app (q_v 3) (q_cons (q_v 5) (q_nil)))))))) (q_seq (q_expr (q_bml PySem.F.plainAttrs_list PySem.F.slot_list_append PySem.F.type_list_append mt_app1 mc_app (q_v 3) (q_cons (q_v 2) (q_nil)))) (q_seq (q_setLc (i := 7) (own := [("item", 8), ("word", 5)]) rfl nd rfl (q_zip c.f_zip (q_cons (q_fd c.clLabel 1 (by decide +kernel) c.nLabel_slots (q_v 0)) (q_cons (q_v 3) (q_nil)))) (blkOk_by (by kernel_rfl)) (fun _ _ _ _ _ => q_tp rfl (q_gc (q_gname (i := 8) nd rfl (by first | exact Or.inl rfl | exact Or.inr rfl)) (q_gc (q_gname (i := 5) nd rfl (by first | exact Or.inl rfl | exact Or.inr rfl)) (q_gn)))) (fun _ _ _ _ _ => q_yes) (fun _ _ _ _ _ => q_f (ok_ReadNumber c) (hr.mono (by decide)) (q_cons (q_ix hr.units (q_v 8) (q_int) (fun _ _ => rfl)) (q_cons (q_v 5) (q_nil)))) (gin_tp (gin_gc (gin_n (by decide)) (gin_gc (gin_n (by decide)) (gin_gn))))) (q_seq (q_if (q_tin (hu65 hr) (q_non) (q_v 7)) (q_one (q_ret (q_non))) (q_skip)) (q_one (q_ret (q_dc (own := [("item", 8), ("number", 9)]) rfl nd (q_zip c.f_zip (q_cons (q_fd c.clLabel 1 (by decide +kernel) c.nLabel_slots (q_v 0)) (q_cons (q_v 7) (q_nil)))) (blkOk_by (by kernel_rfl)) (fun _ _ _ _ _ => q_tp rfl (q_gc (q_gname (i := 8) nd rfl (by first | exact Or.inl rfl | exact Or.inr rfl)) (q_gc (q_gname (i := 9) nd rfl (by first | exact Or.inl rfl | exact Or.inr rfl)) (q_gn)))) (fun _ _ _ _ _ => q_yes) (fun _ _ _ _ _ => q_ix hr.units (q_v 8) (q_int) (fun _ _ => rfl)) (fun _ _ _ _ _ => q_v 9) (gin_tp (gin_gc (gin_n (by decide)) (gin_gc (gin_n (by decide)) (gin_gn))))))))))))))
theorem ok_LabelRead (c : Ctx w K mg) : MethOk P w K mg base 3 (cLabel K) "read" [] (spC K c_LabelRead) := by
  obtain ⟨fd, Df⟩ := c.defLabelRead
  exact ⟨c.clLabel, _, fd, ["self", "text"], [], Df.me, fn_LabelRead c Df, Df.F.bindsN fun _ _ _ _ _ _ us hl => match us, hl with | [_, _], _ => rfl, .nil⟩
theorem kw_LabelRead_0 (c : Ctx w K mg) : FnK P w K mg base 3 1 ["text"] [0] (He.ma K (cLabel K) "read") (spC K c_LabelRead) := by
  obtain ⟨fd, Df⟩ := c.defLabelRead
  exact ⟨fd, _, _, fn_LabelRead c Df, K95.FunD.kbP (ps := ["self", "text"]) Df.F 1 ["text"] [0] fun kV doc pm an cdv ct us ws l1 l2 => match us, ws, l1, l2 with | [_], [_], _, _ => rfl⟩
def c_LabelText0 : CF := bodyC 1 3 (cSeq (cAsg (cLst (cNil)) (cN 1)) (cSeq (cFor (cSq (cFd .label 1 (cVar 0))) (cTp 2 (cGC (cN 2) (cGC (cN 3) (cGN)))) (cDrop (cBM false fApp (cVar 1) (cCons (cOp fAdd (cOp fAdd (cOp fAdd (cK (.str (mkS [123]))) (cVar 2)) (cIfE (cB (cOp (fEq false) (cVar 3) (cK (.str (mkS [108, 101, 116, 116, 101, 114, 115]))))) (cK (.str (mkS [58, 97]))) (cK (.str (mkS []))))) (cK (.str (mkS [125])))) (cNil))))) (cRet (cMt .label c_LabelJoined (cVar 0) (cCons (cVar 1) (cNil))))))
def c_LabelText : CF := fgF c_LabelText0
theorem fn_LabelText (c : Ctx w K mg) {fd : FuncData} (Df : MethAt K (cLabel K) "text" "Label.text" sLabelText [] [] (He.ma K (cLabel K) "text") fd) : FnOk P w K mg base CX0 4 (He.ma K (cLabel K) "text") fd ["self"] (spC K c_LabelText) := by
  have nd := scLabelText.nd
  exact FnOk.spc_fg (ok_body Df.F scLabelText rfl rfl fun cdv A outer s H E hr => q_seq (q_set (i := 1) nd rfl (by first | exact Or.inl rfl | exact Or.inr rfl) (q_lst (q_nil))) (q_seq (q_for PassesOwn.never rfl (q_sq (q_fd c.clLabel 1 (by decide +kernel) c.nLabel_slots (q_v 0))) (q_tp rfl (q_gc (q_gname (i := 2) nd rfl (by first | exact Or.inl rfl | exact Or.inr rfl)) (q_gc (q_gname (i := 3) nd rfl (by first | exact Or.inl rfl | exact Or.inr rfl)) (q_gn)))) (q_one (q_expr (q_bml PySem.F.plainAttrs_list PySem.F.slot_list_append PySem.F.type_list_append mt_app1 mc_app (q_v 1) (q_cons (q_add (q_add (q_add (q_strL lt_11) (q_v 2)) (q_ifE (q_tcmp (op_eqU hr.units) oc_eq (q_v 3) (q_gsL c.s_LETTERS lt_6)) (q_gsL c.s_ENDING lt_5) (q_strL lt_1))) (q_strL lt_12)) (q_nil)))))) (q_one (q_ret (q_m (C := .label) (ok_LabelJoined c) (by decide +kernel) (hr.mono (by decide)) (q_v 0) (q_cons (q_v 1) (q_nil)))))))
theorem ok_LabelText (c : Ctx w K mg) : MethOk P w K mg base 4 (cLabel K) "text" [] (spC K c_LabelText) := by
  obtain ⟨fd, Df⟩ := c.defLabelText
  exact ⟨c.clLabel, _, fd, ["self"], [], Df.me, fn_LabelText c Df, Df.F.bindsN fun _ _ _ _ _ _ us hl => match us, hl with | [_], _ => rfl, .nil⟩
def c_WrongIndex0 : CF := bodyC 2 3 (cSeq (cAsg (cK .non) (cN 2)) (cSeq (cFor (cEnum (cCons (cVar 1) (cNil))) (cTp 2 (cGC (cN 3) (cGC (cN 4) (cGN)))) (cSeq (cIfS (cNotT (cB (cFn c_MayStand (cCons (cVar 0) (cCons (cVar 4) (cCons (cVar 2) (cNil))))))) (cRet (cVar 3)) (cSkip)) (cAsg (cVar 4) (cN 2)))) (cRet (cK .non))))
def c_WrongIndex : CF := fgF c_WrongIndex0
theorem fn_WrongIndex (c : Ctx w K mg) {fd : FuncData} (Df : DefAt K mg "wrong_index" sWrongIndex [] [] (He.ga K "wrong_index") fd) : FnOk P w K mg base CX0 8 (He.ga K "wrong_index") fd ["scheme", "document"] (spC K c_WrongIndex) := by
  have nd := scWrongIndex.nd
  exact FnOk.spc_fg (ok_body Df.F scWrongIndex rfl rfl fun cdv A outer s H E hr => q_seq (q_set (i := 2) nd rfl (by first | exact Or.inl rfl | exact Or.inr rfl) (q_non)) (q_seq (q_for PassesOwn.never rfl (q_enum c.f_enumerate (q_cons (q_v 1) (q_nil))) (q_tp rfl (q_gc (q_gname (i := 3) nd rfl (by first | exact Or.inl rfl | exact Or.inr rfl)) (q_gc (q_gname (i := 4) nd rfl (by first | exact Or.inl rfl | exact Or.inr rfl)) (q_gn)))) (q_seq (q_if (q_not (q_tv (q_f (ok_MayStand c) (hr.mono (by decide)) (q_cons (q_v 0) (q_cons (q_v 4) (q_cons (q_v 2) (q_nil))))))) (q_one (q_ret (q_v 3))) (q_skip)) (q_one (q_set (i := 2) nd rfl (by first | exact Or.inl rfl | exact Or.inr rfl) (q_v 4))))) (q_one (q_ret (q_non)))))
theorem ok_WrongIndex (c : Ctx w K mg) : DefOk P w K mg base 8 "wrong_index" [] (spC K c_WrongIndex) := by
  obtain ⟨fd, Df⟩ := c.defWrongIndex
  exact ⟨_, fd, ["scheme", "document"], [], Df.g, Df.F.kp, fn_WrongIndex c Df, Df.F.bindsN fun _ _ _ _ _ _ us hl => match us, hl with | [_, _], _ => rfl, .nil⟩
def c_CheckDocument0 : CF := bodyC 2 1 (cSeq (cAsg (cFn c_WrongIndex (cCons (cVar 0) (cCons (cVar 1) (cNil)))) (cN 2)) (cIfS (cB (cIsN true (cVar 2))) (cNever) (cSkip)))
def c_CheckDocument : CF := fgF c_CheckDocument0
theorem fn_CheckDocument (c : Ctx w K mg) {fd : FuncData} (Df : DefAt K mg "check_document" sCheckDocument [] [] (He.ga K "check_document") fd) : FnOk P w K mg base CX0 10 (He.ga K "check_document") fd ["scheme", "document"] (spC K c_CheckDocument) := by
  have nd := scCheckDocument.nd
  exact FnOk.spc_fg (ok_body Df.F scCheckDocument rfl rfl fun cdv A outer s H E hr => q_seq (q_set (i := 2) nd rfl (by first | exact Or.inl rfl | exact Or.inr rfl) (q_f (ok_WrongIndex c) (hr.mono (by decide)) (q_cons (q_v 0) (q_cons (q_v 1) (q_nil))))) (q_one (q_if (q_tnotN (q_v 2)) (q_one (q_never)) (q_skip))))
theorem ok_CheckDocument (c : Ctx w K mg) : DefOk P w K mg base 10 "check_document" [] (spC K c_CheckDocument) := by
  obtain ⟨fd, Df⟩ := c.defCheckDocument
  exact ⟨_, fd, ["scheme", "document"], [], Df.g, Df.F.kp, fn_CheckDocument c Df, Df.F.bindsN fun _ _ _ _ _ _ us hl => match us, hl with | [_, _], _ => rfl, .nil⟩
def c_DocValues : CF := bodyC 2 2 (cSeq (cDrop (cFn c_CheckDocument (cCons (cVar 0) (cCons (cVar 1) (cNil))))) (cSeq (cAsg (cFn c_StartsOf (cCons (cVar 0) (cNil))) (cN 2)) (cSeq (cFor (cSq (cVar 1)) (cN 3) (cAsg (cFn c_Carried (cCons (cVar 2) (cCons (cMt .scheme c_SchemeDeeds (cVar 0) (cCons (cVar 3) (cNil))) (cNil)))) (cN 2))) (cRet (cVar 2)))))
theorem fn_DocValues (c : Ctx w K mg) {fd : FuncData} (Df : DefAt K mg "values" sDocValues [] [] (He.ga K "values") fd) : FnOk P w K mg base CX0 12 (He.ga K "values") fd ["scheme", "document"] (spC K c_DocValues) := by
  have nd := scDocValues.nd
  exact (ok_body Df.F scDocValues rfl rfl fun cdv A outer s H E hr => q_seq (q_expr (q_f (ok_CheckDocument c) (hr.mono (by decide)) (q_cons (q_v 0) (q_cons (q_v 1) (q_nil))))) (q_seq (q_set (i := 2) nd rfl (by first | exact Or.inl rfl | exact Or.inr rfl) (q_f (ok_StartsOf c) (hr.mono (by decide)) (q_cons (q_v 0) (q_nil)))) (q_seq (q_for PassesOwn.never rfl (q_sq (q_v 1)) (q_gname (i := 3) nd rfl (by first | exact Or.inl rfl | exact Or.inr rfl)) (q_one (q_set (i := 2) nd rfl (by first | exact Or.inl rfl | exact Or.inr rfl) (q_f (ok_Carried c) (hr.mono (by decide)) (q_cons (q_v 2) (q_cons (q_m (C := .scheme) (ok_SchemeDeeds c) (by decide +kernel) (hr.mono (by decide)) (q_v 0) (q_cons (q_v 3) (q_nil))) (q_nil))))))) (q_one (q_ret (q_v 2))))))
theorem ok_DocValues (c : Ctx w K mg) : DefOk P w K mg base 12 "values" [] (spC K c_DocValues) := by
  obtain ⟨fd, Df⟩ := c.defDocValues
  exact ⟨_, fd, ["scheme", "document"], [], Df.g, Df.F.kp, fn_DocValues c Df, Df.F.bindsN fun _ _ _ _ _ _ us hl => match us, hl with | [_, _], _ => rfl, .nil⟩
def c_LabelsOf : CF := bodyC 2 7 (cSeq (cAsg (cLst (cNil)) (cN 2)) (cSeq (cFor (cEnum (cCons (cVar 1) (cNil))) (cTp 2 (cGC (cN 3) (cGC (cTp 2 (cGC (cN 4) (cGC (cN 5) (cGN)))) (cGN)))) (cSeq (cAsg (cMt .scheme c_SchemeLabel (cVar 0) (cCons (cVar 4) (cNil))) (cN 6)) (cSeq (cAsg (cLc (cSq (cSl (cVar 1) cNoP (cPt (cOp fAdd (cVar 3) (cK (.int 1)))))) (cN 8) (cYes) (cOp fIx (cVar 8) (cK (.int 0))) [8]) (cN 7)) (cDrop (cBM false fApp (cVar 2) (cCons (cIfE (cB (cIsN false (cVar 6))) (cK .non) (cMt .label c_LabelOf (cVar 6) (cCons (cFn c_DocValues (cCons (cVar 0) (cCons (cVar 7) (cNil)))) (cNil)))) (cNil))))))) (cRet (cVar 2))))
theorem fn_LabelsOf (c : Ctx w K mg) {fd : FuncData} (Df : DefAt K mg "labels_of" sLabelsOf [] [] (He.ga K "labels_of") fd) : FnOk P w K mg base CX0 14 (He.ga K "labels_of") fd ["scheme", "parts"] (spC K c_LabelsOf) := by
  have nd := scLabelsOf.nd
  exact (ok_body Df.F scLabelsOf rfl rfl fun cdv A outer s H E hr => q_seq (q_set (i := 2) nd rfl (by first | exact Or.inl rfl | exact Or.inr rfl) (q_lst (q_nil))) (q_seq (q_for PassesOwn.never rfl (q_enum c.f_enumerate (q_cons (q_v 1) (q_nil))) (q_tp rfl (q_gc (q_gname (i := 3) nd rfl (by first | exact Or.inl rfl | exact Or.inr rfl)) (q_gc (q_tp rfl (q_gc (q_gname (i := 4) nd rfl (by first | exact Or.inl rfl | exact Or.inr rfl)) (q_gc (q_gname (i := 5) nd rfl (by first | exact Or.inl rfl | exact Or.inr rfl)) (q_gn)))) (q_gn)))) (q_seq (q_set (i := 6) nd rfl (by first | exact Or.inl rfl | exact Or.inr rfl) (q_m (C := .scheme) (ok_SchemeLabel c) (by decide +kernel) (hr.mono (by decide)) (q_v 0) (q_cons (q_v 4) (q_nil)))) (q_seq (q_setLc (i := 7) (own := [("part", 8)]) rfl nd rfl (q_sq (q_slice (q_v 1) q_noP (q_pt (q_add (q_v 3) (q_int))))) (blkOk_by (by kernel_rfl)) (fun _ _ _ _ _ => q_gname (i := 8) nd rfl (by first | exact Or.inl rfl | exact Or.inr rfl)) (fun _ _ _ _ _ => q_yes) (fun _ _ _ _ _ => q_ix hr.units (q_v 8) (q_int) (fun _ _ => rfl)) (gin_n (by decide))) (q_one (q_expr (q_bml PySem.F.plainAttrs_list PySem.F.slot_list_append PySem.F.type_list_append mt_app1 mc_app (q_v 2) (q_cons (q_ifE (q_tisN (q_v 6)) (q_non) (q_m (C := .label) (ok_LabelOf c) (by decide +kernel) (hr.mono (by decide)) (q_v 6) (q_cons (q_f (ok_DocValues c) (hr.mono (by decide)) (q_cons (q_v 0) (q_cons (q_v 7) (q_nil)))) (q_nil)))) (q_nil)))))))) (q_one (q_ret (q_v 2)))))
theorem ok_LabelsOf (c : Ctx w K mg) : DefOk P w K mg base 14 "labels_of" [] (spC K c_LabelsOf) := by
  obtain ⟨fd, Df⟩ := c.defLabelsOf
  exact ⟨_, fd, ["scheme", "parts"], [], Df.g, Df.F.kp, fn_LabelsOf c Df, Df.F.bindsN fun _ _ _ _ _ _ us hl => match us, hl with | [_, _], _ => rfl, .nil⟩
def c_LabelsByKey : CF := bodyC 2 3 (cRet (cDc (cZip (cCons (cVar 1) (cCons (cFn c_LabelsOf (cCons (cVar 0) (cCons (cVar 1) (cNil)))) (cNil)))) (cTp 2 (cGC (cTp 2 (cGC (cN 2) (cGC (cN 3) (cGN)))) (cGC (cN 4) (cGN)))) (cB (cIsN true (cVar 3))) (cVar 3) (cVar 4) [2, 3, 4]))
theorem fn_LabelsByKey (c : Ctx w K mg) {fd : FuncData} (Df : DefAt K mg "labels_by_key" sLabelsByKey [] [] (He.ga K "labels_by_key") fd) : FnOk P w K mg base CX0 16 (He.ga K "labels_by_key") fd ["scheme", "parts"] (spC K c_LabelsByKey) := by
  have nd := scLabelsByKey.nd
  exact (ok_body Df.F scLabelsByKey rfl rfl fun cdv A outer s H E hr => q_one (q_ret (q_dc (own := [("kind", 2), ("key", 3), ("label", 4)]) rfl nd (q_zip c.f_zip (q_cons (q_v 1) (q_cons (q_f (ok_LabelsOf c) (hr.mono (by decide)) (q_cons (q_v 0) (q_cons (q_v 1) (q_nil)))) (q_nil)))) (blkOk_by (by kernel_rfl)) (fun _ _ _ _ _ => q_tp rfl (q_gc (q_tp rfl (q_gc (q_gname (i := 2) nd rfl (by first | exact Or.inl rfl | exact Or.inr rfl)) (q_gc (q_gname (i := 3) nd rfl (by first | exact Or.inl rfl | exact Or.inr rfl)) (q_gn)))) (q_gc (q_gname (i := 4) nd rfl (by first | exact Or.inl rfl | exact Or.inr rfl)) (q_gn)))) (fun _ _ _ _ _ => pts_one (q_tnotN (q_v 3))) (fun _ _ _ _ _ => q_v 3) (fun _ _ _ _ _ => q_v 4) (gin_tp (gin_gc (gin_tp (gin_gc (gin_n (by decide)) (gin_gc (gin_n (by decide)) (gin_gn)))) (gin_gc (gin_n (by decide)) (gin_gn)))))))
theorem ok_LabelsByKey (c : Ctx w K mg) : DefOk P w K mg base 16 "labels_by_key" [] (spC K c_LabelsByKey) := by
  obtain ⟨fd, Df⟩ := c.defLabelsByKey
  exact ⟨_, fd, ["scheme", "parts"], [], Df.g, Df.F.kp, fn_LabelsByKey c Df, Df.F.bindsN fun _ _ _ _ _ _ us hl => match us, hl with | [_, _], _ => rfl, .nil⟩
def c_ManuscriptLabelOf0 : CF := bodyC 2 0 (cSeq (cDrop (cMt .manuscript c_ManuscriptPlaceOf (cVar 0) (cCons (cVar 1) (cNil)))) (cRet (cOp fIx (cFn c_LabelsByKey (cCons (cFd .manuscript 8 (cVar 0)) (cCons (cOp fIx (cFd .manuscript 9 (cVar 0)) (cUn fNeg (cK (.int 1)))) (cNil)))) (cVar 1))))
def c_ManuscriptLabelOf : CF := fgF c_ManuscriptLabelOf0
theorem fn_ManuscriptLabelOf (c : Ctx w K mg) {fd : FuncData} (Df : MethAt K (cManuscript K) "label_of" "Manuscript.label_of" sManuscriptLabelOf [] [] (He.ma K (cManuscript K) "label_of") fd) : FnOk P w K mg base CX0 18 (He.ma K (cManuscript K) "label_of") fd ["self", "key"] (spC K c_ManuscriptLabelOf) := by
  have nd := scManuscriptLabelOf.nd
  exact FnOk.spc_fg (ok_body Df.F scManuscriptLabelOf rfl rfl fun cdv A outer s H E hr => q_seq (q_expr (q_m (C := .manuscript) (ok_ManuscriptPlaceOf c) (by decide +kernel) (hr.mono (by decide)) (q_v 0) (q_cons (q_v 1) (q_nil)))) (q_one (q_ret (q_ix hr.units (q_f (ok_LabelsByKey c) (hr.mono (by decide)) (q_cons (q_fd c.clManuscript 8 (by decide +kernel) c.nManuscript_plan (q_v 0)) (q_cons (q_ix hr.units (q_fd c.clManuscript 9 (by decide +kernel) c.nManuscript_past (q_v 0)) (q_neg (q_int)) (fun _ _ => rfl)) (q_nil)))) (q_v 1) (fun _ _ => rfl)))))
theorem ok_ManuscriptLabelOf (c : Ctx w K mg) : MethOk P w K mg base 18 (cManuscript K) "label_of" [] (spC K c_ManuscriptLabelOf) := by
  obtain ⟨fd, Df⟩ := c.defManuscriptLabelOf
  exact ⟨c.clManuscript, _, fd, ["self", "key"], [], Df.me, fn_ManuscriptLabelOf c Df, Df.F.bindsN fun _ _ _ _ _ _ us hl => match us, hl with | [_, _], _ => rfl, .nil⟩
theorem kw_ManuscriptLabelOf_0 (c : Ctx w K mg) : FnK P w K mg base 18 1 ["key"] [0] (He.ma K (cManuscript K) "label_of") (spC K c_ManuscriptLabelOf) := by
  obtain ⟨fd, Df⟩ := c.defManuscriptLabelOf
  exact ⟨fd, _, _, fn_ManuscriptLabelOf c Df, K95.FunD.kbP (ps := ["self", "key"]) Df.F 1 ["key"] [0] fun kV doc pm an cdv ct us ws l1 l2 => match us, ws, l1, l2 with | [_], [_], _, _ => rfl⟩
def c_ManuscriptNeedKey0 : CF := bodyC 3 2 (cSeq (cIfS (cB (cIsN false (cVar 1))) (cRetN) (cSkip)) (cSeq (cIfS (cOrT (cNotT (cB (cIsT .str_ (cVar 1)))) (cNotT (cB (cFn c_IsName (cCons (cVar 1) (cNil)))))) (cNever) (cSkip)) (cIfS (cB (cOp (fIn false) (cVar 1) (cLc (cEnum (cCons (cOp fIx (cFd .manuscript 9 (cVar 0)) (cUn fNeg (cK (.int 1)))) (cNil))) (cTp 2 (cGC (cN 3) (cGC (cN 4) (cGN)))) (cB (cOp (fEq true) (cVar 3) (cVar 2))) (cOp fIx (cVar 4) (cK (.int 1))) [3, 4]))) (cNever) (cSkip))))
def c_ManuscriptNeedKey : CF := fgF c_ManuscriptNeedKey0
theorem fn_ManuscriptNeedKey (c : Ctx w K mg) {fd : FuncData} (Df : MethAt K (cManuscript K) "need_key" "Manuscript.need_key" sManuscriptNeedKey [] [] (He.ma K (cManuscript K) "need_key") fd) : FnOk P w K mg base CX0 3 (He.ma K (cManuscript K) "need_key") fd ["self", "key", "index"] (spC K c_ManuscriptNeedKey) := by
  have nd := scManuscriptNeedKey.nd
  exact FnOk.spc_fg (ok_body Df.F scManuscriptNeedKey rfl rfl fun cdv A outer s H E hr => q_seq (q_if (q_tisN (q_v 1)) (q_one (q_retN)) (q_skip)) (q_seq (q_if (PW.pt (q_or (q_not (q_tv (q_isT_str c.f_isinstance c.f_str (q_v 1)))) (q_or1 (q_not (q_tv (q_f (ok_IsName c) (hr.mono (by decide)) (q_cons (q_v 1) (q_nil)))))))) (q_one (q_never)) (q_skip)) (q_one (q_if (q_tin (hu65 hr) (q_v 1) (q_lc (own := [("at", 3), ("part", 4)]) rfl nd (q_enum c.f_enumerate (q_cons (q_ix hr.units (q_fd c.clManuscript 9 (by decide +kernel) c.nManuscript_past (q_v 0)) (q_neg (q_int)) (fun _ _ => rfl)) (q_nil))) (blkOk_by (by kernel_rfl)) (fun _ _ _ _ _ => q_tp rfl (q_gc (q_gname (i := 3) nd rfl (by first | exact Or.inl rfl | exact Or.inr rfl)) (q_gc (q_gname (i := 4) nd rfl (by first | exact Or.inl rfl | exact Or.inr rfl)) (q_gn)))) (fun _ _ _ _ _ => pts_one (q_tcmp (op_neU hr.units) oc_ne (q_v 3) (q_v 2))) (fun _ _ _ _ _ => q_ix hr.units (q_v 4) (q_int) (fun _ _ => rfl)) (gin_tp (gin_gc (gin_n (by decide)) (gin_gc (gin_n (by decide)) (gin_gn)))))) (q_one (q_never)) (q_skip)))))
theorem ok_ManuscriptNeedKey (c : Ctx w K mg) : MethOk P w K mg base 3 (cManuscript K) "need_key" [] (spC K c_ManuscriptNeedKey) := by
  obtain ⟨fd, Df⟩ := c.defManuscriptNeedKey
  exact ⟨c.clManuscript, _, fd, ["self", "key", "index"], [], Df.me, fn_ManuscriptNeedKey c Df, Df.F.bindsN fun _ _ _ _ _ _ us hl => match us, hl with | [_, _, _], _ => rfl, .nil⟩
def c_ManuscriptDrop : CF := bodyC 2 1 (cSeq (cDrop (cMt .manuscript c_ManuscriptNeedIndex (cVar 0) (cCons (cVar 1) (cCons (cK (.int 0)) (cNil))))) (cSeq (cAsg (cOp fIx (cFd .manuscript 9 (cVar 0)) (cUn fNeg (cK (.int 1)))) (cN 2)) (cDrop (cMt .manuscript c_ManuscriptKeep (cVar 0) (cCons (cLst (cStar (cSl (cVar 2) cNoP (cPt (cVar 1))) (cStar (cSl (cVar 2) (cPt (cOp fAdd (cVar 1) (cK (.int 1)))) cNoP) (cNil)))) (cNil))))))
theorem fn_ManuscriptDrop (c : Ctx w K mg) {fd : FuncData} (Df : MethAt K (cManuscript K) "drop" "Manuscript.drop" sManuscriptDrop [] [] (He.ma K (cManuscript K) "drop") fd) : FnOk P w K mg base CX0 10 (He.ma K (cManuscript K) "drop") fd ["self", "index"] (spC K c_ManuscriptDrop) := by
  have nd := scManuscriptDrop.nd
  exact (ok_body Df.F scManuscriptDrop rfl rfl fun cdv A outer s H E hr => q_seq (q_expr (q_m (C := .manuscript) (ok_ManuscriptNeedIndex c) (by decide +kernel) (hr.mono (by decide)) (q_v 0) (q_cons (q_v 1) (q_cons (q_int) (q_nil))))) (q_seq (q_set (i := 2) nd rfl (by first | exact Or.inl rfl | exact Or.inr rfl) (q_ix hr.units (q_fd c.clManuscript 9 (by decide +kernel) c.nManuscript_past (q_v 0)) (q_neg (q_int)) (fun _ _ => rfl))) (q_one (q_expr (q_m (C := .manuscript) (ok_ManuscriptKeep c) (by decide +kernel) (hr.mono (by decide)) (q_v 0) (q_cons (q_lst (q_star (q_slice (q_v 2) q_noP (q_pt (q_v 1))) (q_star (q_slice (q_v 2) (q_pt (q_add (q_v 1) (q_int))) q_noP) (q_nil)))) (q_nil)))))))
theorem ok_ManuscriptDrop (c : Ctx w K mg) : MethOk P w K mg base 10 (cManuscript K) "drop" [] (spC K c_ManuscriptDrop) := by
  obtain ⟨fd, Df⟩ := c.defManuscriptDrop
  exact ⟨c.clManuscript, _, fd, ["self", "index"], [], Df.me, fn_ManuscriptDrop c Df, Df.F.bindsN fun _ _ _ _ _ _ us hl => match us, hl with | [_, _], _ => rfl, .nil⟩
theorem kw_ManuscriptDrop_0 (c : Ctx w K mg) : FnK P w K mg base 10 1 ["index"] [0] (He.ma K (cManuscript K) "drop") (spC K c_ManuscriptDrop) := by
  obtain ⟨fd, Df⟩ := c.defManuscriptDrop
  exact ⟨fd, _, _, fn_ManuscriptDrop c Df, K95.FunD.kbP (ps := ["self", "index"]) Df.F 1 ["index"] [0] fun kV doc pm an cdv ct us ws l1 l2 => match us, ws, l1, l2 with | [_], [_], _, _ => rfl⟩
def c_ManuscriptExchange : CF := bodyC 2 1 (cSeq (cDrop (cMt .manuscript c_ManuscriptNeedIndex (cVar 0) (cCons (cVar 1) (cCons (cK (.int 1)) (cNil))))) (cSeq (cAsg (cOp fIx (cFd .manuscript 9 (cVar 0)) (cUn fNeg (cK (.int 1)))) (cN 2)) (cDrop (cMt .manuscript c_ManuscriptKeep (cVar 0) (cCons (cLst (cStar (cSl (cVar 2) cNoP (cPt (cVar 1))) (cCons (cOp fIx (cVar 2) (cOp fAdd (cVar 1) (cK (.int 1)))) (cCons (cOp fIx (cVar 2) (cVar 1)) (cStar (cSl (cVar 2) (cPt (cOp fAdd (cVar 1) (cK (.int 2)))) cNoP) (cNil)))))) (cNil))))))
theorem fn_ManuscriptExchange (c : Ctx w K mg) {fd : FuncData} (Df : MethAt K (cManuscript K) "exchange" "Manuscript.exchange" sManuscriptExchange [] [] (He.ma K (cManuscript K) "exchange") fd) : FnOk P w K mg base CX0 10 (He.ma K (cManuscript K) "exchange") fd ["self", "index"] (spC K c_ManuscriptExchange) := by
  have nd := scManuscriptExchange.nd
  exact (ok_body Df.F scManuscriptExchange rfl rfl fun cdv A outer s H E hr => q_seq (q_expr (q_m (C := .manuscript) (ok_ManuscriptNeedIndex c) (by decide +kernel) (hr.mono (by decide)) (q_v 0) (q_cons (q_v 1) (q_cons (q_int) (q_nil))))) (q_seq (q_set (i := 2) nd rfl (by first | exact Or.inl rfl | exact Or.inr rfl) (q_ix hr.units (q_fd c.clManuscript 9 (by decide +kernel) c.nManuscript_past (q_v 0)) (q_neg (q_int)) (fun _ _ => rfl))) (q_one (q_expr (q_m (C := .manuscript) (ok_ManuscriptKeep c) (by decide +kernel) (hr.mono (by decide)) (q_v 0) (q_cons (q_lst (q_star (q_slice (q_v 2) q_noP (q_pt (q_v 1))) (q_cons (q_ix hr.units (q_v 2) (q_add (q_v 1) (q_int)) (fun _ _ => rfl)) (q_cons (q_ix hr.units (q_v 2) (q_v 1) (fun _ _ => rfl)) (q_star (q_slice (q_v 2) (q_pt (q_add (q_v 1) (q_int))) q_noP) (q_nil)))))) (q_nil)))))))
theorem ok_ManuscriptExchange (c : Ctx w K mg) : MethOk P w K mg base 10 (cManuscript K) "exchange" [] (spC K c_ManuscriptExchange) := by
  obtain ⟨fd, Df⟩ := c.defManuscriptExchange
  exact ⟨c.clManuscript, _, fd, ["self", "index"], [], Df.me, fn_ManuscriptExchange c Df, Df.F.bindsN fun _ _ _ _ _ _ us hl => match us, hl with | [_, _], _ => rfl, .nil⟩
theorem kw_ManuscriptExchange_0 (c : Ctx w K mg) : FnK P w K mg base 10 1 ["index"] [0] (He.ma K (cManuscript K) "exchange") (spC K c_ManuscriptExchange) := by
  obtain ⟨fd, Df⟩ := c.defManuscriptExchange
  exact ⟨fd, _, _, fn_ManuscriptExchange c Df, K95.FunD.kbP (ps := ["self", "index"]) Df.F 1 ["index"] [0] fun kV doc pm an cdv ct us ws l1 l2 => match us, ws, l1, l2 with | [_], [_], _, _ => rfl⟩
def c_ManuscriptMove : CF := bodyC 3 2 (cSeq (cDrop (cMt .manuscript c_ManuscriptNeedIndex (cVar 0) (cCons (cVar 1) (cCons (cK (.int 0)) (cNil))))) (cSeq (cDrop (cMt .manuscript c_ManuscriptNeedIndex (cVar 0) (cCons (cVar 2) (cCons (cK (.int 0)) (cNil))))) (cSeq (cAsg (cCB fLst (cCons (cOp fIx (cFd .manuscript 9 (cVar 0)) (cUn fNeg (cK (.int 1)))) (cNil))) (cN 3)) (cSeq (cAsg (cBM false fPop (cVar 3) (cCons (cVar 1) (cNil))) (cN 4)) (cSeq (cDrop (cBM false fIns (cVar 3) (cCons (cVar 2) (cCons (cVar 4) (cNil))))) (cDrop (cMt .manuscript c_ManuscriptKeep (cVar 0) (cCons (cVar 3) (cNil)))))))))
theorem fn_ManuscriptMove (c : Ctx w K mg) {fd : FuncData} (Df : MethAt K (cManuscript K) "move" "Manuscript.move" sManuscriptMove [] [] (He.ma K (cManuscript K) "move") fd) : FnOk P w K mg base CX0 10 (He.ma K (cManuscript K) "move") fd ["self", "index", "target"] (spC K c_ManuscriptMove) := by
  have nd := scManuscriptMove.nd
  exact (ok_body Df.F scManuscriptMove rfl rfl fun cdv A outer s H E hr => q_seq (q_expr (q_m (C := .manuscript) (ok_ManuscriptNeedIndex c) (by decide +kernel) (hr.mono (by decide)) (q_v 0) (q_cons (q_v 1) (q_cons (q_int) (q_nil))))) (q_seq (q_expr (q_m (C := .manuscript) (ok_ManuscriptNeedIndex c) (by decide +kernel) (hr.mono (by decide)) (q_v 0) (q_cons (q_v 2) (q_cons (q_int) (q_nil))))) (q_seq (q_set (i := 3) nd rfl (by first | exact Or.inl rfl | exact Or.inr rfl) (q_list rfl c.f_list (q_cons (q_ix hr.units (q_fd c.clManuscript 9 (by decide +kernel) c.nManuscript_past (q_v 0)) (q_neg (q_int)) (fun _ _ => rfl)) (q_nil)))) (q_seq (q_set (i := 4) nd rfl (by first | exact Or.inl rfl | exact Or.inr rfl) (q_bml PySem.F.plainAttrs_list PySem.F.slot_list_pop PySem.F.type_list_pop mt_popAt mc_pop (q_v 3) (q_cons (q_v 1) (q_nil)))) (q_seq (q_expr (q_bml PySem.F.plainAttrs_list PySem.F.slot_list_insert PySem.F.type_list_insert mt_insert mc_ins (q_v 3) (q_cons (q_v 2) (q_cons (q_v 4) (q_nil))))) (q_one (q_expr (q_m (C := .manuscript) (ok_ManuscriptKeep c) (by decide +kernel) (hr.mono (by decide)) (q_v 0) (q_cons (q_v 3) (q_nil))))))))))
theorem ok_ManuscriptMove (c : Ctx w K mg) : MethOk P w K mg base 10 (cManuscript K) "move" [] (spC K c_ManuscriptMove) := by
  obtain ⟨fd, Df⟩ := c.defManuscriptMove
  exact ⟨c.clManuscript, _, fd, ["self", "index", "target"], [], Df.me, fn_ManuscriptMove c Df, Df.F.bindsN fun _ _ _ _ _ _ us hl => match us, hl with | [_, _, _], _ => rfl, .nil⟩
theorem kw_ManuscriptMove_10 (c : Ctx w K mg) : FnK P w K mg base 10 1 ["target", "index"] [1, 0] (He.ma K (cManuscript K) "move") (spC K c_ManuscriptMove) := by
  obtain ⟨fd, Df⟩ := c.defManuscriptMove
  exact ⟨fd, _, _, fn_ManuscriptMove c Df, K95.FunD.kbP (ps := ["self", "index", "target"]) Df.F 1 ["target", "index"] [1, 0] fun kV doc pm an cdv ct us ws l1 l2 => match us, ws, l1, l2 with | [_], [_, _], _, _ => rfl⟩
def c_ManuscriptRekey : CF := bodyC 3 1 (cSeq (cDrop (cMt .manuscript c_ManuscriptNeedIndex (cVar 0) (cCons (cVar 1) (cCons (cK (.int 0)) (cNil))))) (cSeq (cDrop (cMt .manuscript c_ManuscriptNeedKey (cVar 0) (cCons (cVar 2) (cCons (cVar 1) (cNil))))) (cSeq (cAsg (cCB fLst (cCons (cOp fIx (cFd .manuscript 9 (cVar 0)) (cUn fNeg (cK (.int 1)))) (cNil))) (cN 3)) (cSeq (cAsg (cTup (cCons (cOp fIx (cOp fIx (cVar 3) (cVar 1)) (cK (.int 0))) (cCons (cVar 2) (cNil)))) (cSub (cVar 3) (cVar 1))) (cDrop (cMt .manuscript c_ManuscriptKeep (cVar 0) (cCons (cVar 3) (cNil))))))))
theorem fn_ManuscriptRekey (c : Ctx w K mg) {fd : FuncData} (Df : MethAt K (cManuscript K) "rekey" "Manuscript.rekey" sManuscriptRekey [] [] (He.ma K (cManuscript K) "rekey") fd) : FnOk P w K mg base CX0 10 (He.ma K (cManuscript K) "rekey") fd ["self", "index", "key"] (spC K c_ManuscriptRekey) := by
  have nd := scManuscriptRekey.nd
  exact (ok_body Df.F scManuscriptRekey rfl rfl fun cdv A outer s H E hr => q_seq (q_expr (q_m (C := .manuscript) (ok_ManuscriptNeedIndex c) (by decide +kernel) (hr.mono (by decide)) (q_v 0) (q_cons (q_v 1) (q_cons (q_int) (q_nil))))) (q_seq (q_expr (q_m (C := .manuscript) (ok_ManuscriptNeedKey c) (by decide +kernel) (hr.mono (by decide)) (q_v 0) (q_cons (q_v 2) (q_cons (q_v 1) (q_nil))))) (q_seq (q_set (i := 3) nd rfl (by first | exact Or.inl rfl | exact Or.inr rfl) (q_list rfl c.f_list (q_cons (q_ix hr.units (q_fd c.clManuscript 9 (by decide +kernel) c.nManuscript_past (q_v 0)) (q_neg (q_int)) (fun _ _ => rfl)) (q_nil)))) (q_seq (q_asg (q_tup (q_cons (q_ix hr.units (q_ix hr.units (q_v 3) (q_v 1) (fun _ _ => rfl)) (q_int) (fun _ _ => rfl)) (q_cons (q_v 2) (q_nil)))) (q_sub hr.units (q_v 3) (q_v 1))) (q_one (q_expr (q_m (C := .manuscript) (ok_ManuscriptKeep c) (by decide +kernel) (hr.mono (by decide)) (q_v 0) (q_cons (q_v 3) (q_nil)))))))))
theorem ok_ManuscriptRekey (c : Ctx w K mg) : MethOk P w K mg base 10 (cManuscript K) "rekey" [] (spC K c_ManuscriptRekey) := by
  obtain ⟨fd, Df⟩ := c.defManuscriptRekey
  exact ⟨c.clManuscript, _, fd, ["self", "index", "key"], [], Df.me, fn_ManuscriptRekey c Df, Df.F.bindsN fun _ _ _ _ _ _ us hl => match us, hl with | [_, _, _], _ => rfl, .nil⟩
theorem kw_ManuscriptRekey_10 (c : Ctx w K mg) : FnK P w K mg base 10 1 ["key", "index"] [1, 0] (He.ma K (cManuscript K) "rekey") (spC K c_ManuscriptRekey) := by
  obtain ⟨fd, Df⟩ := c.defManuscriptRekey
  exact ⟨fd, _, _, fn_ManuscriptRekey c Df, K95.FunD.kbP (ps := ["self", "index", "key"]) Df.F 1 ["key", "index"] [1, 0] fun kV doc pm an cdv ct us ws l1 l2 => match us, ws, l1, l2 with | [_], [_, _], _, _ => rfl⟩
def c_ManuscriptLen0 : CF := bodyC 1 0 (cRet (cCB fLen (cCons (cOp fIx (cFd .manuscript 9 (cVar 0)) (cUn fNeg (cK (.int 1)))) (cNil))))
def c_ManuscriptLen : CF := fgF c_ManuscriptLen0
theorem fn_ManuscriptLen (c : Ctx w K mg) {fd : FuncData} (Df : MethAt K (cManuscript K) "__len__" "Manuscript.__len__" sManuscriptLen [] [] (He.ma K (cManuscript K) "__len__") fd) : FnOk P w K mg base CX0 2 (He.ma K (cManuscript K) "__len__") fd ["self"] (spC K c_ManuscriptLen) := by
  have nd := scManuscriptLen.nd
  exact FnOk.spc_fg (ok_body Df.F scManuscriptLen rfl rfl fun cdv A outer s H E hr => q_one (q_ret (q_len c.f_len (q_cons (q_ix hr.units (q_fd c.clManuscript 9 (by decide +kernel) c.nManuscript_past (q_v 0)) (q_neg (q_int)) (fun _ _ => rfl)) (q_nil)))))
theorem ok_ManuscriptLen (c : Ctx w K mg) : MethOk P w K mg base 2 (cManuscript K) "__len__" [] (spC K c_ManuscriptLen) := by
  obtain ⟨fd, Df⟩ := c.defManuscriptLen
  exact ⟨c.clManuscript, _, fd, ["self"], [], Df.me, fn_ManuscriptLen c Df, Df.F.bindsN fun _ _ _ _ _ _ us hl => match us, hl with | [_], _ => rfl, .nil⟩
def c_LawLength0 : CF := bodyC 1 0 (cRet (cCB (fLenO .manuscript c_ManuscriptLen) (cCons (cVar 0) (cNil))))
def c_LawLength : CF := fgF c_LawLength0
theorem fn_LawLength (c : Ctx w K mg) {fd : FuncData} (Df : DefAt K mg "_law_length" sLawLength [] [] (He.ga K "_law_length") fd) : FnOk P w K mg base CX0 5 (He.ga K "_law_length") fd ["_law_m"] (spC K c_LawLength) := by
  have nd := scLawLength.nd
  exact FnOk.spc_fg (ok_body Df.F scLawLength rfl rfl fun cdv A outer s H E hr => q_one (q_ret (q_lenO (C := .manuscript) (ok_ManuscriptLen c) (hr.mono (by decide)) c.f_len (q_cons (q_v 0) (q_nil)))))
theorem ok_LawLength (c : Ctx w K mg) : DefOk P w K mg base 5 "_law_length" [] (spC K c_LawLength) := by
  obtain ⟨fd, Df⟩ := c.defLawLength
  exact ⟨_, fd, ["_law_m"], [], Df.g, Df.F.kp, fn_LawLength c Df, Df.F.bindsN fun _ _ _ _ _ _ us hl => match us, hl with | [_], _ => rfl, .nil⟩
def c_SchemeText0 : CF := bodyC 1 8 (cSeq (cAsg (cLc (cSq (cMt .scheme c_SchemeCounters (cVar 0) cNil)) (cN 6) (cYes) (cOp fAdd (cOp fAdd (cVar 6) (cK (.str (mkS [32])))) (cFn c_NumberText (cCons (cK (.str (mkS [102, 105, 103, 117, 114, 101, 115]))) (cCons (cMt .scheme c_SchemeStart (cVar 0) (cCons (cVar 6) (cNil))) (cNil))))) [6]) (cN 1)) (cSeq (cAsg (cLst (cCons (cOp fAdd (cK (.str (mkS [99, 111, 117, 110, 116, 101, 114, 115, 32]))) (cBM true fJoin (cK (.str (mkS [44, 32]))) (cCons (cVar 1) (cNil)))) (cNil))) (cN 2)) (cSeq (cFor (cSq (cMt .scheme c_SchemeKinds (cVar 0) cNil)) (cN 3) (cSeq (cAsg (cLc (cSq (cMt .scheme c_SchemeDeeds (cVar 0) (cCons (cVar 3) (cNil)))) (cTp 3 (cGC (cN 7) (cGC (cN 6) (cGC (cN 8) (cGN))))) (cYes) (cFs (cJC (cK (.str (mkS [32]))) (cJC (cFmt (cVar 7)) (cJC (cK (.str (mkS [32]))) (cJC (cFmt (cVar 6)) (cJC (cK (.str (mkS [32]))) (cJC (cFmt (cFn c_NumberText (cCons (cK (.str (mkS [102, 105, 103, 117, 114, 101, 115]))) (cCons (cVar 8) (cNil))))) (cJ0)))))))) [7, 6, 8]) (cN 4)) (cSeq (cDrop (cBM false fApp (cVar 2) (cCons (cOp fAdd (cOp fAdd (cOp fAdd (cK (.str (mkS [107, 105, 110, 100, 32]))) (cVar 3)) (cK (.str (mkS [58])))) (cBM true fJoin (cK (.str (mkS [44]))) (cCons (cVar 4) (cNil)))) (cNil)))) (cSeq (cAsg (cMt .scheme c_SchemeLabel (cVar 0) (cCons (cVar 3) (cNil))) (cN 5)) (cIfS (cB (cIsN true (cVar 5))) (cDrop (cBM false fApp (cVar 2) (cCons (cOp fAdd (cK (.str (mkS [108, 97, 98, 101, 108, 32]))) (cMt .label c_LabelText (cVar 5) cNil)) (cNil)))) (cSkip)))))) (cSeq (cDrop (cBM false fApp (cVar 2) (cCons (cOp fAdd (cK (.str (mkS [98, 101, 103, 105, 110, 115]))) (cFn c_Listed (cCons (cMt .scheme c_SchemeBeginners (cVar 0) cNil) (cNil)))) (cNil)))) (cSeq (cFor (cSq (cMt .scheme c_SchemeKinds (cVar 0) cNil)) (cN 3) (cDrop (cBM false fApp (cVar 2) (cCons (cOp fAdd (cOp fAdd (cOp fAdd (cK (.str (mkS [97, 102, 116, 101, 114, 32]))) (cVar 3)) (cK (.str (mkS [58])))) (cFn c_Listed (cCons (cMt .scheme c_SchemeFollowers (cVar 0) (cCons (cVar 3) (cNil))) (cNil)))) (cNil))))) (cRet (cBM true fJoin (cK (.str (mkS [10]))) (cCons (cVar 2) (cNil)))))))))
def c_SchemeText : CF := fgF c_SchemeText0
theorem fn_SchemeText (c : Ctx w K mg) {fd : FuncData} (Df : DefAt K mg "scheme_text" sSchemeText [] [] (He.ga K "scheme_text") fd) : FnOk P w K mg base CX0 6 (He.ga K "scheme_text") fd ["scheme"] (spC K c_SchemeText) := by
  have nd := scSchemeText.nd
  exact FnOk.spc_fg (ok_body Df.F scSchemeText rfl rfl fun cdv A outer s H E hr => q_seq (q_setLc (i := 1) (own := [("name", 6)]) rfl nd rfl (q_sq (q_m0 (C := .scheme) (ok_SchemeCounters c) (by decide +kernel) (hr.mono (by decide)) (q_v 0))) (blkOk_by (by kernel_rfl)) (fun _ _ _ _ _ => q_gname (i := 6) nd rfl (by first | exact Or.inl rfl | exact Or.inr rfl)) (fun _ _ _ _ _ => q_yes) (fun _ _ _ _ _ => q_add (q_add (q_v 6) (q_strL lt_2)) (q_f (ok_NumberText c) (hr.mono (by decide)) (q_cons (q_gsL c.s_FIGURES lt_7) (q_cons (q_m (C := .scheme) (ok_SchemeStart c) (by decide +kernel) (hr.mono (by decide)) (q_v 0) (q_cons (q_v 6) (q_nil))) (q_nil))))) (gin_n (by decide))) (q_seq (q_set (i := 2) nd rfl (by first | exact Or.inl rfl | exact Or.inr rfl) (q_lst (q_cons (q_add (q_gsL c.s_COUNTERS lt_9) (q_bms PySem.F.plainAttrs_str PySem.F.slot_str_join PySem.F.type_str_join mt_join1 mc_join (q_strL lt_10) (q_cons (q_v 1) (q_nil)))) (q_nil)))) (q_seq (q_for PassesOwn.never rfl (q_sq (q_m0 (C := .scheme) (ok_SchemeKinds c) (by decide +kernel) (hr.mono (by decide)) (q_v 0))) (q_gname (i := 3) nd rfl (by first | exact Or.inl rfl | exact Or.inr rfl)) (q_seq (q_setLc (i := 4) (own := [("word", 7), ("name", 6), ("number", 8)]) rfl nd rfl (q_sq (q_m (C := .scheme) (ok_SchemeDeeds c) (by decide +kernel) (hr.mono (by decide)) (q_v 0) (q_cons (q_v 3) (q_nil)))) (blkOk_by (by kernel_rfl)) (fun _ _ _ _ _ => q_tp rfl (q_gc (q_gname (i := 7) nd rfl (by first | exact Or.inl rfl | exact Or.inr rfl)) (q_gc (q_gname (i := 6) nd rfl (by first | exact Or.inl rfl | exact Or.inr rfl)) (q_gc (q_gname (i := 8) nd rfl (by first | exact Or.inl rfl | exact Or.inr rfl)) (q_gn))))) (fun _ _ _ _ _ => q_yes) (fun _ _ _ _ _ => q_fs (q_jc (q_strL lt_2) (q_jc (q_fmt (q_v 7)) (q_jc (q_strL lt_2) (q_jc (q_fmt (q_v 6)) (q_jc (q_strL lt_2) (q_jc (q_fmt (q_f (ok_NumberText c) (hr.mono (by decide)) (q_cons (q_gsL c.s_FIGURES lt_7) (q_cons (q_v 8) (q_nil))))) (q_j0)))))))) (gin_tp (gin_gc (gin_n (by decide)) (gin_gc (gin_n (by decide)) (gin_gc (gin_n (by decide)) (gin_gn)))))) (q_seq (q_expr (q_bml PySem.F.plainAttrs_list PySem.F.slot_list_append PySem.F.type_list_append mt_app1 mc_app (q_v 2) (q_cons (q_add (q_add (q_add (q_gsL c.s_KIND lt_13) (q_v 3)) (q_gsL c.s_COLON lt_14)) (q_bms PySem.F.plainAttrs_str PySem.F.slot_str_join PySem.F.type_str_join mt_join1 mc_join (q_strL lt_15) (q_cons (q_v 4) (q_nil)))) (q_nil)))) (q_seq (q_set (i := 5) nd rfl (by first | exact Or.inl rfl | exact Or.inr rfl) (q_m (C := .scheme) (ok_SchemeLabel c) (by decide +kernel) (hr.mono (by decide)) (q_v 0) (q_cons (q_v 3) (q_nil)))) (q_one (q_if (q_tnotN (q_v 5)) (q_one (q_expr (q_bml PySem.F.plainAttrs_list PySem.F.slot_list_append PySem.F.type_list_append mt_app1 mc_app (q_v 2) (q_cons (q_add (q_gsL c.s_LABEL lt_16) (q_m0 (C := .label) (ok_LabelText c) (by decide +kernel) (hr.mono (by decide)) (q_v 5))) (q_nil))))) (q_skip))))))) (q_seq (q_expr (q_bml PySem.F.plainAttrs_list PySem.F.slot_list_append PySem.F.type_list_append mt_app1 mc_app (q_v 2) (q_cons (q_add (q_gsL c.s_BEGINS lt_17) (q_f (ok_Listed c) (hr.mono (by decide)) (q_cons (q_m0 (C := .scheme) (ok_SchemeBeginners c) (by decide +kernel) (hr.mono (by decide)) (q_v 0)) (q_nil)))) (q_nil)))) (q_seq (q_for PassesOwn.never rfl (q_sq (q_m0 (C := .scheme) (ok_SchemeKinds c) (by decide +kernel) (hr.mono (by decide)) (q_v 0))) (q_gname (i := 3) nd rfl (by first | exact Or.inl rfl | exact Or.inr rfl)) (q_one (q_expr (q_bml PySem.F.plainAttrs_list PySem.F.slot_list_append PySem.F.type_list_append mt_app1 mc_app (q_v 2) (q_cons (q_add (q_add (q_add (q_gsL c.s_AFTER lt_18) (q_v 3)) (q_gsL c.s_COLON lt_14)) (q_f (ok_Listed c) (hr.mono (by decide)) (q_cons (q_m (C := .scheme) (ok_SchemeFollowers c) (by decide +kernel) (hr.mono (by decide)) (q_v 0) (q_cons (q_v 3) (q_nil))) (q_nil)))) (q_nil)))))) (q_one (q_ret (q_bms PySem.F.plainAttrs_str PySem.F.slot_str_join PySem.F.type_str_join mt_join1 mc_join (q_strL lt_3) (q_cons (q_v 2) (q_nil))))))))))
theorem ok_SchemeText (c : Ctx w K mg) : DefOk P w K mg base 6 "scheme_text" [] (spC K c_SchemeText) := by
  obtain ⟨fd, Df⟩ := c.defSchemeText
  exact ⟨_, fd, ["scheme"], [], Df.g, Df.F.kp, fn_SchemeText c Df, Df.F.bindsN fun _ _ _ _ _ _ us hl => match us, hl with | [_], _ => rfl, .nil⟩
theorem kp_SchemeText (c : Ctx w K mg) : PySem.W.keepIn K (.ref (He.ga K "scheme_text")) = true := (c.defSchemeText).elim fun _ D => D.F.kp
theorem kw_SchemeText_0 (c : Ctx w K mg) : FnK P w K mg base 6 0 ["scheme"] [0] (He.ga K "scheme_text") (spC K c_SchemeText) := by
  obtain ⟨fd, Df⟩ := c.defSchemeText
  exact ⟨fd, _, _, fn_SchemeText c Df, K95.FunD.kbP (ps := ["scheme"]) Df.F 0 ["scheme"] [0] fun kV doc pm an cdv ct us ws l1 l2 => match us, ws, l1, l2 with | [], [_], _, _ => rfl⟩
end
end
end K95
set_option maxRecDepth 100000
set_option maxHeartbeats 4000000
set_option pp.deepTerms false
set_option pp.maxSteps 600
namespace K95
open PySem PySem.Spec PyProof.Rows L2
noncomputable section
variable [Nu]
section
variable {P : Program} {w : World} {K : PySem.W.Frag} {mg : Str → Option Value} {base : Heap}

def c_AreJoints0 : CF := bodyC 2 1 (cRet (cAndV (cOp (fEq false) (cCB fLen (cCons (cVar 0) (cNil))) (cVar 1)) (cCB fAll (cCons (cLc (cSq (cVar 0)) (cN 2) (cYes) (cInJ (cVar 2)) [2]) (cNil)))))
def c_AreJoints : CF := fgF c_AreJoints0
theorem fn_AreJoints (c : Ctx w K mg) {fd : FuncData} (Df : DefAt K mg "are_joints" sAreJoints [] [] (He.ga K "are_joints") fd) : FnOk P w K mg base CX0 2 (He.ga K "are_joints") fd ["joints", "many"] (spC K c_AreJoints) := by
  have nd := scAreJoints.nd
  exact FnOk.spc_fg (ok_body Df.F scAreJoints rfl rfl fun cdv A outer s H E hr => q_one (q_ret (q_andV (q_cmp (op_eqU hr.units) oc_eq (q_len c.f_len (q_cons (q_v 0) (q_nil))) (q_v 1)) (pe_one (q_all rfl c.f_all (q_cons (q_lc (own := [("joint", 2)]) rfl nd (q_sq (q_v 0)) (blkOk_by (by kernel_rfl)) (fun _ _ _ _ _ => q_gname (i := 2) nd rfl (by first | exact Or.inl rfl | exact Or.inr rfl)) (fun _ _ _ _ _ => q_yes) (fun _ _ _ _ _ => q_inJ c (q_v 2)) (gin_n (by decide))) (q_nil)))))))
theorem ok_AreJoints (c : Ctx w K mg) : DefOk P w K mg base 2 "are_joints" [] (spC K c_AreJoints) := by
  obtain ⟨fd, Df⟩ := c.defAreJoints
  exact ⟨_, fd, ["joints", "many"], [], Df.g, Df.F.kp, fn_AreJoints c Df, Df.F.bindsN fun _ _ _ _ _ _ us hl => match us, hl with | [_, _], _ => rfl, .nil⟩
def c_LabelInit : CF := bodyC 4 1 (cSeq (cIfS (cNotT (cB (cFn c_IsHead (cCons (cVar 1) (cNil))))) (cNever) (cSkip)) (cSeq (cAsg (cFn c_WrongItem (cCons (cVar 2) (cNil))) (cN 4)) (cSeq (cIfS (cB (cIsN true (cVar 4))) (cNever) (cSkip)) (cSeq (cIfS (cNotT (cB (cFn c_AreJoints (cCons (cVar 3) (cCons (cOp fSub (cCB fLen (cCons (cVar 2) (cNil))) (cK (.int 1))) (cNil)))))) (cNever) (cSkip)) (cSeq (cSetF .label 0 (cVar 0) (cVar 1)) (cSeq (cSetF .label 1 (cVar 0) (cCB fTup (cCons (cVar 2) (cNil)))) (cSetF .label 2 (cVar 0) (cCB fTup (cCons (cVar 3) (cNil))))))))))
theorem fn_LabelInit (c : Ctx w K mg) {fd : FuncData} (Df : MakeAt K mg "Label" "Label.__init__" sLabelInit (dLabelInit.dvs K) [] (He.ma K (cLabel K) "__init__") fd) : FnOk P w K mg base CX0 5 (He.ma K (cLabel K) "__init__") fd ["self", "head", "shown", "joints"] (spC K c_LabelInit) := by
  have nd := scLabelInit.nd
  exact (ok_body Df.F scLabelInit rfl rfl fun cdv A outer s H E hr => q_seq (q_if (q_not (q_tv (q_f (ok_IsHead c) (hr.mono (by decide)) (q_cons (q_v 1) (q_nil))))) (q_one (q_never)) (q_skip)) (q_seq (q_set (i := 4) nd rfl (by first | exact Or.inl rfl | exact Or.inr rfl) (q_f (ok_WrongItem c) (hr.mono (by decide)) (q_cons (q_v 2) (q_nil)))) (q_seq (q_if (q_tnotN (q_v 4)) (q_one (q_never)) (q_skip)) (q_seq (q_if (q_not (q_tv (q_f (ok_AreJoints c) (hr.mono (by decide)) (q_cons (q_v 3) (q_cons (q_subt (q_len c.f_len (q_cons (q_v 2) (q_nil))) (q_int)) (q_nil)))))) (q_one (q_never)) (q_skip)) (q_seq (q_setF c.clLabel 0 (by decide +kernel) c.nLabel_first (q_v 0) (q_v 1)) (q_seq (q_setF c.clLabel 1 (by decide +kernel) c.nLabel_slots (q_v 0) (q_tuple c.f_tuple (q_cons (q_v 2) (q_nil)))) (q_one (q_setF c.clLabel 2 (by decide +kernel) c.nLabel_signs (q_v 0) (q_tuple c.f_tuple (q_cons (q_v 3) (q_nil)))))))))))
theorem ok_LabelInit (c : Ctx w K mg) : MakeOk P w K mg base 5 "Label" (cLabel K) [] (spC K c_LabelInit) := by
  obtain ⟨fd, Df⟩ := c.defLabelInit
  obtain ⟨ds, v, b⟩ := Df.F.binds1 (ps := ["self", "head", "shown", "joints"]) 4 1 (List.cons_ne_nil _ _) rfl fun T kV doc pm an cdv ct us its l1 l2 => match us, its, l1, l2 with | [_, _, _, _], [_], _, _ => ⟨_, rfl, rfl⟩
  exact ⟨_, fd, _, ds, Df.g, Df.M, fn_LabelInit c Df, b, v⟩
theorem ok_LabelInit2 (c : Ctx w K mg) : MakeOk P w K mg base 5 "Label" (cLabel K) [.ref (ktA K)] (spC K c_LabelInit) := by
  obtain ⟨fd, Df⟩ := c.defLabelInit
  obtain ⟨ds, v, b⟩ := Df.F.binds1 (ps := ["self", "head", "shown", "joints"]) 3 0 (List.cons_ne_nil _ _) rfl fun T kV doc pm an cdv ct us its l1 l2 => match us, its, l1, l2 with | [_, _, _], [_], _, _ => ⟨_, rfl, rfl⟩
  exact ⟨_, fd, _, ds, Df.g, Df.M, fn_LabelInit c Df, b, v⟩
theorem kw_LabelInit_210 (c : Ctx w K mg) : FnK P w K mg base 5 1 ["joints", "shown", "head"] [2, 1, 0] (He.ma K (cLabel K) "__init__") (spC K c_LabelInit) := by
  obtain ⟨fd, Df⟩ := c.defLabelInit
  obtain ⟨its, kb⟩ := L2.FunD.kbindsD (ps := ["self", "head", "shown", "joints"]) Df.F 1 ["joints", "shown", "head"] (fun us _ ws => us ++ pk [2, 1, 0] ws) (List.cons_ne_nil _ _) (fun r1 _ r3 => r1.append (K95.Vals.pk r3 [2, 1, 0])) fun T kV doc pm an cdv ct us its ws l1 l2 l3 => match us, its, ws, l1, l2, l3 with | [_], [_], [_, _, _], _, _, _ => ⟨_, rfl, rfl⟩
  exact ⟨fd, _, _, fn_LabelInit c Df, kb⟩
def c_LabelEq0 : CF := bodyC 2 0 (cSeq (cIfS (cNotT (cB (cIsC .label (cVar 1)))) (cRet (cK (.bl false))) (cSkip)) (cRet (cAndV (cOp (fEq false) (cFd .label 0 (cVar 0)) (cFd .label 0 (cVar 1))) (cAndV (cOp (fEq false) (cFd .label 1 (cVar 0)) (cFd .label 1 (cVar 1))) (cOp (fEq false) (cFd .label 2 (cVar 0)) (cFd .label 2 (cVar 1)))))))
def c_LabelEq : CF := fgF c_LabelEq0
theorem fn_LabelEq (c : Ctx w K mg) {fd : FuncData} (Df : MethAt K (cLabel K) "__eq__" "Label.__eq__" sLabelEq [] [] (He.ma K (cLabel K) "__eq__") fd) : FnOk P w K mg base CX0 2 (He.ma K (cLabel K) "__eq__") fd ["self", "other"] (spC K c_LabelEq) := by
  have nd := scLabelEq.nd
  exact FnOk.spc_fg (ok_body Df.F scLabelEq rfl rfl fun cdv A outer s H E hr => q_seq (q_if (q_not (q_tv (q_isC (C := .label) c.f_isinstance c.g_Label c.isLabel (q_v 1)))) (q_one (q_ret (q_bl))) (q_skip)) (q_one (q_ret (q_andV (q_cmp (op_eqU hr.units) oc_eq (q_fd c.clLabel 0 (by decide +kernel) c.nLabel_first (q_v 0)) (q_fd c.clLabel 0 (by decide +kernel) c.nLabel_first (q_v 1))) (q_andV (q_cmp (op_eqU hr.units) oc_eq (q_fd c.clLabel 1 (by decide +kernel) c.nLabel_slots (q_v 0)) (q_fd c.clLabel 1 (by decide +kernel) c.nLabel_slots (q_v 1))) (pe_one (q_cmp (op_eqU hr.units) oc_eq (q_fd c.clLabel 2 (by decide +kernel) c.nLabel_signs (q_v 0)) (q_fd c.clLabel 2 (by decide +kernel) c.nLabel_signs (q_v 1)))))))))
theorem ok_LabelEq (c : Ctx w K mg) : MethOk P w K mg base 2 (cLabel K) "__eq__" [] (spC K c_LabelEq) := by
  obtain ⟨fd, Df⟩ := c.defLabelEq
  exact ⟨c.clLabel, _, fd, ["self", "other"], [], Df.me, fn_LabelEq c Df, Df.F.bindsN fun _ _ _ _ _ _ us hl => match us, hl with | [_, _], _ => rfl, .nil⟩
def c_IsDeed0 : CF := bodyC 2 3 (cSeq (cIfS (cOrT (cNotT (cB (cIsT .tuple_ (cVar 0)))) (cB (cOp (fEq true) (cCB fLen (cCons (cVar 0) (cNil))) (cK (.int 3))))) (cRet (cK (.bl false))) (cSkip)) (cSeq (cAsg (cVar 0) (cTp 3 (cGC (cN 2) (cGC (cN 3) (cGC (cN 4) (cGN)))))) (cSeq (cIfS (cOrT (cNotT (cB (cIsT .str_ (cVar 2)))) (cOrT (cNotT (cB (cIsT .str_ (cVar 3)))) (cOrT (cB (cNinL (cVar 2))) (cB (cOp (fIn true) (cVar 3) (cVar 1)))))) (cRet (cK (.bl false))) (cSkip)) (cRet (cFn c_IsInteger (cCons (cVar 4) (cCons (cLst1 (cVar 2)) (cCons (cK (.int 99)) (cNil)))))))))
def c_IsDeed : CF := fgF c_IsDeed0
theorem fn_IsDeed (c : Ctx w K mg) {fd : FuncData} (Df : DefAt K mg "is_deed" sIsDeed [] [] (He.ga K "is_deed") fd) : FnOk P w K mg base CX0 3 (He.ga K "is_deed") fd ["value", "starts"] (spC K c_IsDeed) := by
  have nd := scIsDeed.nd
  exact FnOk.spc_fg (ok_body Df.F scIsDeed rfl rfl fun cdv A outer s H E hr => q_seq (q_if (PW.pt (q_or (q_not (q_tv (q_isT_tuple c.f_isinstance c.f_tuple (q_v 0)))) (q_or1 (q_tcmp (op_neU hr.units) oc_ne (q_len c.f_len (q_cons (q_v 0) (q_nil))) (q_int))))) (q_one (q_ret (q_bl))) (q_skip)) (q_seq (q_asg (q_v 0) (q_tp rfl (q_gc (q_gname (i := 2) nd rfl (by first | exact Or.inl rfl | exact Or.inr rfl)) (q_gc (q_gname (i := 3) nd rfl (by first | exact Or.inl rfl | exact Or.inr rfl)) (q_gc (q_gname (i := 4) nd rfl (by first | exact Or.inl rfl | exact Or.inr rfl)) (q_gn)))))) (q_seq (q_if (PW.pt (q_or (q_not (q_tv (q_isT_str c.f_isinstance c.f_str (q_v 2)))) (q_or (q_not (q_tv (q_isT_str c.f_isinstance c.f_str (q_v 3)))) (q_or (q_tninL c (q_v 2)) (q_or1 (q_tnin (hu65 hr) (q_v 3) (q_v 1))))))) (q_one (q_ret (q_bl))) (q_skip)) (q_one (q_ret (q_f (ok_IsInteger3 c) (hr.mono (by decide)) (q_cons (q_v 4) (q_cons (q_ixL c (q_v 2)) (q_cons (q_gi c.i_MOST) (q_nil))))))))))
theorem ok_IsDeed (c : Ctx w K mg) : DefOk P w K mg base 3 "is_deed" [] (spC K c_IsDeed) := by
  obtain ⟨fd, Df⟩ := c.defIsDeed
  exact ⟨_, fd, ["value", "starts"], [], Df.g, Df.F.kp, fn_IsDeed c Df, Df.F.bindsN fun _ _ _ _ _ _ us hl => match us, hl with | [_, _], _ => rfl, .nil⟩
def c_CheckKind0 : CF := bodyC 3 3 (cSeq (cIfS (cB (cOp fGt (cCB fLen (cCons (cVar 0) (cNil))) (cK (.int 6)))) (cNever) (cSkip)) (cSeq (cFor (cSq (cVar 0)) (cN 3) (cIfS (cNotT (cB (cFn c_IsDeed (cCons (cVar 3) (cCons (cVar 2) (cNil)))))) (cNever) (cSkip))) (cSeq (cIfS (cB (cIsN false (cVar 1))) (cRetN) (cSkip)) (cIfS (cOrT (cNotT (cB (cIsC .label (cVar 1)))) (cTru (cLc (cSq (cPr .label c_LabelShown (cVar 1))) (cTp 2 (cGC (cN 4) (cGC (cN 5) (cGN)))) (cB (cOp (fIn true) (cVar 4) (cVar 2))) (cVar 4) [4, 5]))) (cNever) (cSkip)))))
def c_CheckKind : CF := fgF c_CheckKind0
theorem fn_CheckKind (c : Ctx w K mg) {fd : FuncData} (Df : DefAt K mg "check_kind" sCheckKind [] [] (He.ga K "check_kind") fd) : FnOk P w K mg base CX0 5 (He.ga K "check_kind") fd ["deeds", "label", "starts"] (spC K c_CheckKind) := by
  have nd := scCheckKind.nd
  exact FnOk.spc_fg (ok_body Df.F scCheckKind rfl rfl fun cdv A outer s H E hr => q_seq (q_if (q_tcmp op_gt oc_gt (q_len c.f_len (q_cons (q_v 0) (q_nil))) (q_gi c.i_MOST_DEEDS)) (q_one (q_never)) (q_skip)) (q_seq (q_for PassesOwn.never rfl (q_sq (q_v 0)) (q_gname (i := 3) nd rfl (by first | exact Or.inl rfl | exact Or.inr rfl)) (q_one (q_if (q_not (q_tv (q_f (ok_IsDeed c) (hr.mono (by decide)) (q_cons (q_v 3) (q_cons (q_v 2) (q_nil)))))) (q_one (q_never)) (q_skip)))) (q_seq (q_if (q_tisN (q_v 1)) (q_one (q_retN)) (q_skip)) (q_one (q_if (PW.pt (q_or (q_not (q_tv (q_isC (C := .label) c.f_isinstance c.g_Label c.isLabel (q_v 1)))) (q_or1 (q_tru (q_lc (own := [("counter", 4), ("form", 5)]) rfl nd (q_sq (q_shown c (q_v 1) (hr.mono (by decide)))) (blkOk_by (by kernel_rfl)) (fun _ _ _ _ _ => q_tp rfl (q_gc (q_gname (i := 4) nd rfl (by first | exact Or.inl rfl | exact Or.inr rfl)) (q_gc (q_gname (i := 5) nd rfl (by first | exact Or.inl rfl | exact Or.inr rfl)) (q_gn)))) (fun _ _ _ _ _ => pts_one (q_tnin (hu65 hr) (q_v 4) (q_v 2))) (fun _ _ _ _ _ => q_v 4) (gin_tp (gin_gc (gin_n (by decide)) (gin_gc (gin_n (by decide)) (gin_gn))))))))) (q_one (q_never)) (q_skip))))))
theorem ok_CheckKind (c : Ctx w K mg) : DefOk P w K mg base 5 "check_kind" [] (spC K c_CheckKind) := by
  obtain ⟨fd, Df⟩ := c.defCheckKind
  exact ⟨_, fd, ["deeds", "label", "starts"], [], Df.g, Df.F.kp, fn_CheckKind c Df, Df.F.bindsN fun _ _ _ _ _ _ us hl => match us, hl with | [_, _, _], _ => rfl, .nil⟩
def c_SchemeInit : CF := bodyC 5 4 (cSeq (cDrop (cFn c_CheckNames (cCons (cCB fSorted (cCons (cVar 1) (cNil))) (cCons (cK (.int 4)) (cNil))))) (cSeq (cFor (cSq (cCB fSorted (cCons (cVar 1) (cNil)))) (cN 5) (cIfS (cNotT (cB (cFn c_IsInteger (cCons (cOp fIx (cVar 1) (cVar 5)) (cCons (cK (.int 0)) (cCons (cK (.int 99)) (cNil))))))) (cNever) (cSkip))) (cSeq (cDrop (cFn c_CheckNames (cCons (cCB fSorted (cCons (cVar 2) (cNil))) (cCons (cK (.int 6)) (cNil))))) (cSeq (cFor (cSq (cCB fSorted (cCons (cVar 2) (cNil)))) (cN 6) (cDrop (cFn c_CheckKind (cCons (cOp fIx (cOp fIx (cVar 2) (cVar 6)) (cK (.int 0))) (cCons (cOp fIx (cOp fIx (cVar 2) (cVar 6)) (cK (.int 1))) (cCons (cVar 1) (cNil))))))) (cSeq (cIfS (cB (cIsN true (cVar 3))) (cSeq (cDrop (cFn c_CheckKnown (cCons (cCB fSorted (cCons (cVar 3) (cNil))) (cCons (cVar 2) (cNil))))) (cFor (cSq (cCB fSorted (cCons (cVar 3) (cNil)))) (cN 6) (cDrop (cFn c_CheckKnown (cCons (cOp fIx (cVar 3) (cVar 6)) (cCons (cVar 2) (cNil))))))) (cSkip)) (cSeq (cIfS (cB (cIsN true (cVar 4))) (cDrop (cFn c_CheckKnown (cCons (cVar 4) (cCons (cVar 2) (cNil))))) (cSkip)) (cSeq (cSetF .scheme 3 (cVar 0) (cDc (cSq (cCB fSorted (cCons (cVar 1) (cNil)))) (cN 5) (cYes) (cVar 5) (cOp fIx (cVar 1) (cVar 5)) [5])) (cSeq (cSetF .scheme 4 (cVar 0) (cDc (cSq (cCB fSorted (cCons (cVar 2) (cNil)))) (cN 6) (cYes) (cVar 6) (cCB fTup (cCons (cOp fIx (cOp fIx (cVar 2) (cVar 6)) (cK (.int 0))) (cNil))) [6])) (cSeq (cSetF .scheme 5 (cVar 0) (cDc (cSq (cCB fSorted (cCons (cVar 2) (cNil)))) (cN 6) (cYes) (cVar 6) (cOp fIx (cOp fIx (cVar 2) (cVar 6)) (cK (.int 1))) [6])) (cSeq (cSetF .scheme 6 (cVar 0) (cNewD)) (cSeq (cFor (cSq (cCB fSorted (cCons (cVar 2) (cNil)))) (cN 6) (cSeq (cAsg (cIfE (cB (cIsN false (cVar 3))) (cVar 2) (cGet2 (cVar 3) (cVar 6) (cLst (cNil)))) (cN 7)) (cAsg (cCB fTup (cCons (cLc (cSq (cCB fSorted (cCons (cVar 2) (cNil)))) (cN 8) (cB (cOp (fIn false) (cVar 8) (cVar 7))) (cVar 8) [8]) (cNil))) (cSub (cFd .scheme 6 (cVar 0)) (cVar 6))))) (cSetF .scheme 7 (cVar 0) (cCB fTup (cCons (cLc (cSq (cCB fSorted (cCons (cVar 2) (cNil)))) (cN 6) (cOrT (cB (cIsN false (cVar 4))) (cB (cOp (fIn false) (cVar 6) (cVar 4)))) (cVar 6) [6]) (cNil)))))))))))))))
theorem fn_SchemeInit (c : Ctx w K mg) {fd : FuncData} (Df : MakeAt K mg "Scheme" "Scheme.__init__" sSchemeInit [] (dSchemeInit.kws K) (He.ma K (cScheme K) "__init__") fd) : FnOk P w K mg base CX0 7 (He.ma K (cScheme K) "__init__") fd ["self", "starts", "kinds", "follows", "begins"] (spC K c_SchemeInit) := by
  have nd := scSchemeInit.nd
  exact (ok_body Df.F scSchemeInit rfl rfl fun cdv A outer s H E hr => q_seq (q_expr (q_f (ok_CheckNames c) (hr.mono (by decide)) (q_cons (q_sorted rfl c.f_sorted (q_cons (q_v 1) (q_nil))) (q_cons (q_gi c.i_MOST_COUNTERS) (q_nil))))) (q_seq (q_for PassesOwn.never rfl (q_sq (q_sorted rfl c.f_sorted (q_cons (q_v 1) (q_nil)))) (q_gname (i := 5) nd rfl (by first | exact Or.inl rfl | exact Or.inr rfl)) (q_one (q_if (q_not (q_tv (q_f (ok_IsInteger3 c) (hr.mono (by decide)) (q_cons (q_ix hr.units (q_v 1) (q_v 5) (fun _ _ => rfl)) (q_cons (q_int) (q_cons (q_gi c.i_MOST) (q_nil))))))) (q_one (q_never)) (q_skip)))) (q_seq (q_expr (q_f (ok_CheckNames c) (hr.mono (by decide)) (q_cons (q_sorted rfl c.f_sorted (q_cons (q_v 2) (q_nil))) (q_cons (q_gi c.i_MOST_KINDS) (q_nil))))) (q_seq (q_for PassesOwn.never rfl (q_sq (q_sorted rfl c.f_sorted (q_cons (q_v 2) (q_nil)))) (q_gname (i := 6) nd rfl (by first | exact Or.inl rfl | exact Or.inr rfl)) (q_one (q_expr (q_f (ok_CheckKind c) (hr.mono (by decide)) (q_cons (q_ix hr.units (q_ix hr.units (q_v 2) (q_v 6) (fun _ _ => rfl)) (q_int) (fun _ _ => rfl)) (q_cons (q_ix hr.units (q_ix hr.units (q_v 2) (q_v 6) (fun _ _ => rfl)) (q_int) (fun _ _ => rfl)) (q_cons (q_v 1) (q_nil)))))))) (q_seq (q_if (q_tnotN (q_v 3)) (q_seq (q_expr (q_f (ok_CheckKnown c) (hr.mono (by decide)) (q_cons (q_sorted rfl c.f_sorted (q_cons (q_v 3) (q_nil))) (q_cons (q_v 2) (q_nil))))) (q_one (q_for PassesOwn.never rfl (q_sq (q_sorted rfl c.f_sorted (q_cons (q_v 3) (q_nil)))) (q_gname (i := 6) nd rfl (by first | exact Or.inl rfl | exact Or.inr rfl)) (q_one (q_expr (q_f (ok_CheckKnown c) (hr.mono (by decide)) (q_cons (q_ix hr.units (q_v 3) (q_v 6) (fun _ _ => rfl)) (q_cons (q_v 2) (q_nil))))))))) (q_skip)) (q_seq (q_if (q_tnotN (q_v 4)) (q_one (q_expr (q_f (ok_CheckKnown c) (hr.mono (by decide)) (q_cons (q_v 4) (q_cons (q_v 2) (q_nil)))))) (q_skip)) (q_seq (q_setF c.clScheme 3 (by decide +kernel) c.nScheme_first_values (q_v 0) (q_dc (own := [("counter", 5)]) rfl nd (q_sq (q_sorted rfl c.f_sorted (q_cons (q_v 1) (q_nil)))) (blkOk_by (by kernel_rfl)) (fun _ _ _ _ _ => q_gname (i := 5) nd rfl (by first | exact Or.inl rfl | exact Or.inr rfl)) (fun _ _ _ _ _ => q_yes) (fun _ _ _ _ _ => q_v 5) (fun _ _ _ _ _ => q_ix hr.units (q_v 1) (q_v 5) (fun _ _ => rfl)) (gin_n (by decide)))) (q_seq (q_setF c.clScheme 4 (by decide +kernel) c.nScheme_all_deeds (q_v 0) (q_dc (own := [("kind", 6)]) rfl nd (q_sq (q_sorted rfl c.f_sorted (q_cons (q_v 2) (q_nil)))) (blkOk_by (by kernel_rfl)) (fun _ _ _ _ _ => q_gname (i := 6) nd rfl (by first | exact Or.inl rfl | exact Or.inr rfl)) (fun _ _ _ _ _ => q_yes) (fun _ _ _ _ _ => q_v 6) (fun _ _ _ _ _ => q_tuple c.f_tuple (q_cons (q_ix hr.units (q_ix hr.units (q_v 2) (q_v 6) (fun _ _ => rfl)) (q_int) (fun _ _ => rfl)) (q_nil))) (gin_n (by decide)))) (q_seq (q_setF c.clScheme 5 (by decide +kernel) c.nScheme_all_labels (q_v 0) (q_dc (own := [("kind", 6)]) rfl nd (q_sq (q_sorted rfl c.f_sorted (q_cons (q_v 2) (q_nil)))) (blkOk_by (by kernel_rfl)) (fun _ _ _ _ _ => q_gname (i := 6) nd rfl (by first | exact Or.inl rfl | exact Or.inr rfl)) (fun _ _ _ _ _ => q_yes) (fun _ _ _ _ _ => q_v 6) (fun _ _ _ _ _ => q_ix hr.units (q_ix hr.units (q_v 2) (q_v 6) (fun _ _ => rfl)) (q_int) (fun _ _ => rfl)) (gin_n (by decide)))) (q_seq (q_setF c.clScheme 6 (by decide +kernel) c.nScheme_next_kinds (q_v 0) (q_newD)) (q_seq (q_for PassesOwn.never rfl (q_sq (q_sorted rfl c.f_sorted (q_cons (q_v 2) (q_nil)))) (q_gname (i := 6) nd rfl (by first | exact Or.inl rfl | exact Or.inr rfl)) (q_seq (q_set (i := 7) nd rfl (by first | exact Or.inl rfl | exact Or.inr rfl) (q_ifE (q_tisN (q_v 3)) (q_v 2) (q_get2 hr.units (q_v 3) (q_v 6) (q_lst (q_nil)) ⟨rfl, rfl, rfl, rfl⟩))) (q_one (q_asg (q_tuple c.f_tuple (q_cons (q_lc (own := [("other", 8)]) rfl nd (q_sq (q_sorted rfl c.f_sorted (q_cons (q_v 2) (q_nil)))) (blkOk_by (by kernel_rfl)) (fun _ _ _ _ _ => q_gname (i := 8) nd rfl (by first | exact Or.inl rfl | exact Or.inr rfl)) (fun _ _ _ _ _ => pts_one (q_tin (hu65 hr) (q_v 8) (q_v 7))) (fun _ _ _ _ _ => q_v 8) (gin_n (by decide))) (q_nil))) (q_sub hr.units (q_fd c.clScheme 6 (by decide +kernel) c.nScheme_next_kinds (q_v 0)) (q_v 6)))))) (q_one (q_setF c.clScheme 7 (by decide +kernel) c.nScheme_first_kinds (q_v 0) (q_tuple c.f_tuple (q_cons (q_lc (own := [("kind", 6)]) rfl nd (q_sq (q_sorted rfl c.f_sorted (q_cons (q_v 2) (q_nil)))) (blkOk_by (by kernel_rfl)) (fun _ _ _ _ _ => q_gname (i := 6) nd rfl (by first | exact Or.inl rfl | exact Or.inr rfl)) (fun _ _ _ _ _ => pts_one (PW.pt (q_or (q_tisN (q_v 4)) (q_or1 (q_tin (hu65 hr) (q_v 6) (q_v 4)))))) (fun _ _ _ _ _ => q_v 6) (gin_n (by decide))) (q_nil))))))))))))))))
theorem kw_SchemeInit_01 (c : Ctx w K mg) : FnK P w K mg base 7 3 ["follows", "begins"] [0, 1] (He.ma K (cScheme K) "__init__") (spC K c_SchemeInit) := by
  obtain ⟨fd, Df⟩ := c.defSchemeInit
  obtain ⟨mv, kb⟩ := L2.FunD.kbinds0 (ps := ["self", "starts", "kinds", "follows", "begins"]) Df.F 3 ["follows", "begins"] [] (fun us _ ws => us ++ pk [0, 1] ws) (List.cons_ne_nil _ _) (fun _ m => nomatch m) (fun r1 _ r3 => r1.append (K95.Vals.pk r3 [0, 1])) fun D doc pm an cdv ct us mv ws l1 l2 l3 => match us, mv, ws, l1, l2, l3 with | [_, _, _], [], [_, _], _, _, _ => rfl
  exact ⟨fd, _, _, fn_SchemeInit c Df, kb⟩
def c_SchemeEq0 : CF := bodyC 2 0 (cSeq (cIfS (cNotT (cB (cIsC .scheme (cVar 1)))) (cRet (cK (.bl false))) (cSkip)) (cSeq (cIfS (cOrT (cB (cOp (fDq2 c_LabelEq0 true) (cFd .scheme 3 (cVar 0)) (cFd .scheme 3 (cVar 1)))) (cB (cOp (fDq2 c_LabelEq0 true) (cFd .scheme 4 (cVar 0)) (cFd .scheme 4 (cVar 1))))) (cRet (cK (.bl false))) (cSkip)) (cSeq (cIfS (cB (cOp (fDq2 c_LabelEq0 true) (cFd .scheme 5 (cVar 0)) (cFd .scheme 5 (cVar 1)))) (cRet (cK (.bl false))) (cSkip)) (cRet (cAndV (cOp (fDq2 c_LabelEq0 false) (cFd .scheme 6 (cVar 0)) (cFd .scheme 6 (cVar 1))) (cOp (fEq false) (cFd .scheme 7 (cVar 0)) (cFd .scheme 7 (cVar 1))))))))
def c_SchemeEq : CF := fgF c_SchemeEq0
theorem fn_SchemeEq (c : Ctx w K mg) {fd : FuncData} (Df : MethAt K (cScheme K) "__eq__" "Scheme.__eq__" sSchemeEq [] [] (He.ma K (cScheme K) "__eq__") fd) : FnOk P w K mg base CX0 5 (He.ma K (cScheme K) "__eq__") fd ["self", "other"] (spC K c_SchemeEq) := by
  have nd := scSchemeEq.nd
  exact FnOk.spc_fg (ok_body Df.F scSchemeEq rfl rfl fun cdv A outer s H E hr => q_seq (q_if (q_not (q_tv (q_isC (C := .scheme) c.f_isinstance c.g_Scheme c.isScheme (q_v 1)))) (q_one (q_ret (q_bl))) (q_skip)) (q_seq (q_if (PW.pt (q_or (q_tcmp (op_dq2 (.inr ⟨rfl, rfl⟩) (ok_LabelEq c) (hr.mono (by decide))) oc_dq2 (q_fd c.clScheme 3 (by decide +kernel) c.nScheme_first_values (q_v 0)) (q_fd c.clScheme 3 (by decide +kernel) c.nScheme_first_values (q_v 1))) (q_or1 (q_tcmp (op_dq2 (.inr ⟨rfl, rfl⟩) (ok_LabelEq c) (hr.mono (by decide))) oc_dq2 (q_fd c.clScheme 4 (by decide +kernel) c.nScheme_all_deeds (q_v 0)) (q_fd c.clScheme 4 (by decide +kernel) c.nScheme_all_deeds (q_v 1)))))) (q_one (q_ret (q_bl))) (q_skip)) (q_seq (q_if (q_tcmp (op_dq2 (.inr ⟨rfl, rfl⟩) (ok_LabelEq c) (hr.mono (by decide))) oc_dq2 (q_fd c.clScheme 5 (by decide +kernel) c.nScheme_all_labels (q_v 0)) (q_fd c.clScheme 5 (by decide +kernel) c.nScheme_all_labels (q_v 1))) (q_one (q_ret (q_bl))) (q_skip)) (q_one (q_ret (q_andV (q_cmp (op_dq2 (.inl ⟨rfl, rfl⟩) (ok_LabelEq c) (hr.mono (by decide))) oc_dq2 (q_fd c.clScheme 6 (by decide +kernel) c.nScheme_next_kinds (q_v 0)) (q_fd c.clScheme 6 (by decide +kernel) c.nScheme_next_kinds (q_v 1))) (pe_one (q_cmp (op_eqU hr.units) oc_eq (q_fd c.clScheme 7 (by decide +kernel) c.nScheme_first_kinds (q_v 0)) (q_fd c.clScheme 7 (by decide +kernel) c.nScheme_first_kinds (q_v 1))))))))))
theorem ok_SchemeEq (c : Ctx w K mg) : MethOk P w K mg base 5 (cScheme K) "__eq__" [] (spC K c_SchemeEq) := by
  obtain ⟨fd, Df⟩ := c.defSchemeEq
  exact ⟨c.clScheme, _, fd, ["self", "other"], [], Df.me, fn_SchemeEq c Df, Df.F.bindsN fun _ _ _ _ _ _ us hl => match us, hl with | [_, _], _ => rfl, .nil⟩
def c_ReadLabel : CF := bodyC 1 9 (cSeq (cAsg (cBM true fSplit (cVar 0) (cCons (cK (.str (mkS [123]))) (cNil))) (cStarT (cGC (cN 1) (cGC (cN 2) cGN)))) (cSeq (cAsg (cLst (cNil)) (cN 3)) (cSeq (cAsg (cLst (cNil)) (cN 4)) (cSeq (cFor (cEnum (cCons (cVar 2) (cNil))) (cTp 2 (cGC (cN 5) (cGC (cN 6) (cGN)))) (cSeq (cAsg (cBM true fPart (cVar 6) (cCons (cK (.str (mkS [125]))) (cNil))) (cTp 3 (cGC (cN 7) (cGC (cN 8) (cGC (cN 9) (cGN)))))) (cSeq (cIfS (cB (cOp (fEq false) (cVar 8) (cK (.str (mkS []))))) (cNever) (cSkip)) (cSeq (cDrop (cBM false fApp (cVar 3) (cCons (cFn c_ShownIn (cCons (cVar 7) (cNil))) (cNil)))) (cIfS (cOrT (cB (cOp fLt (cOp fAdd (cVar 5) (cK (.int 1))) (cCB fLen (cCons (cVar 2) (cNil))))) (cB (cOp (fEq true) (cVar 9) (cK (.str (mkS [])))))) (cDrop (cBM false fApp (cVar 4) (cCons (cVar 9) (cNil)))) (cSkip)))))) (cSeq (cIfS (cOrT (cNotT (cB (cFn c_IsHead (cCons (cVar 1) (cNil))))) (cOrT (cB (cIsN true (cFn c_WrongItem (cCons (cVar 3) (cNil))))) (cNotT (cB (cFn c_AreJoints (cCons (cVar 4) (cCons (cOp fSub (cCB fLen (cCons (cVar 3) (cNil))) (cK (.int 1))) (cNil)))))))) (cNever) (cSkip)) (cRet (cMk .label c_LabelInit [] (cCons (cVar 1) (cCons (cVar 3) (cCons (cVar 4) (cNil)))))))))))
theorem fn_ReadLabel (c : Ctx w K mg) {fd : FuncData} (Df : DefAt K mg "read_label" sReadLabel [] [] (He.ga K "read_label") fd) : FnOk P w K mg base CX0 7 (He.ga K "read_label") fd ["text"] (spC K c_ReadLabel) := by
  have nd := scReadLabel.nd
  exact (ok_body Df.F scReadLabel rfl rfl fun cdv A outer s H E hr => q_seq (q_asg (q_bms PySem.F.plainAttrs_str PySem.F.slot_str_split PySem.F.type_str_split mt_split1 mc_split (q_v 0) (q_cons (q_strL lt_11) (q_nil))) (q_starT rfl (q_gc (q_gname (i := 1) nd rfl (by first | exact Or.inl rfl | exact Or.inr rfl)) (q_gst (q_gname (i := 2) nd rfl (by first | exact Or.inl rfl | exact Or.inr rfl)) q_gn)))) (q_seq (q_set (i := 3) nd rfl (by first | exact Or.inl rfl | exact Or.inr rfl) (q_lst (q_nil))) (q_seq (q_set (i := 4) nd rfl (by first | exact Or.inl rfl | exact Or.inr rfl) (q_lst (q_nil))) (q_seq (q_for PassesOwn.never rfl (q_enum c.f_enumerate (q_cons (q_v 2) (q_nil))) (q_tp rfl (q_gc (q_gname (i := 5) nd rfl (by first | exact Or.inl rfl | exact Or.inr rfl)) (q_gc (q_gname (i := 6) nd rfl (by first | exact Or.inl rfl | exact Or.inr rfl)) (q_gn)))) (q_seq (q_asg (q_bms PySem.F.plainAttrs_str PySem.F.slot_str_partition PySem.F.type_str_partition mt_part1 mc_part (q_v 6) (q_cons (q_strL lt_12) (q_nil))) (q_tp rfl (q_gc (q_gname (i := 7) nd rfl (by first | exact Or.inl rfl | exact Or.inr rfl)) (q_gc (q_gname (i := 8) nd rfl (by first | exact Or.inl rfl | exact Or.inr rfl)) (q_gc (q_gname (i := 9) nd rfl (by first | exact Or.inl rfl | exact Or.inr rfl)) (q_gn)))))) (q_seq (q_if (q_tcmp (op_eqU hr.units) oc_eq (q_v 8) (q_strL lt_1)) (q_one (q_never)) (q_skip)) (q_seq (q_expr (q_bml PySem.F.plainAttrs_list PySem.F.slot_list_append PySem.F.type_list_append mt_app1 mc_app (q_v 3) (q_cons (q_f (ok_ShownIn c) (hr.mono (by decide)) (q_cons (q_v 7) (q_nil))) (q_nil)))) (q_one (q_if (PW.pt (q_or (q_tcmp op_lt oc_lt (q_add (q_v 5) (q_int)) (q_len c.f_len (q_cons (q_v 2) (q_nil)))) (q_or1 (q_tcmp (op_neU hr.units) oc_ne (q_v 9) (q_strL lt_1))))) (q_one (q_expr (q_bml PySem.F.plainAttrs_list PySem.F.slot_list_append PySem.F.type_list_append mt_app1 mc_app (q_v 4) (q_cons (q_v 9) (q_nil))))) (q_skip))))))) (q_seq (q_if (PW.pt (q_or (q_not (q_tv (q_f (ok_IsHead c) (hr.mono (by decide)) (q_cons (q_v 1) (q_nil))))) (q_or (q_tnotN (q_f (ok_WrongItem c) (hr.mono (by decide)) (q_cons (q_v 3) (q_nil)))) (q_or1 (q_not (q_tv (q_f (ok_AreJoints c) (hr.mono (by decide)) (q_cons (q_v 4) (q_cons (q_subt (q_len c.f_len (q_cons (q_v 3) (q_nil))) (q_int)) (q_nil)))))))))) (q_one (q_never)) (q_skip)) (q_one (q_ret (q_mk (C := .label) (ds := []) (dvs := []) (fun _ => True.intro) (ok_LabelInit c) (hr.mono (by decide)) (q_cons (q_v 1) (q_cons (q_v 3) (q_cons (q_v 4) (q_nil))))))))))))
theorem ok_ReadLabel (c : Ctx w K mg) : DefOk P w K mg base 7 "read_label" [] (spC K c_ReadLabel) := by
  obtain ⟨fd, Df⟩ := c.defReadLabel
  exact ⟨_, fd, ["text"], [], Df.g, Df.F.kp, fn_ReadLabel c Df, Df.F.bindsN fun _ _ _ _ _ _ us hl => match us, hl with | [_], _ => rfl, .nil⟩
theorem kp_ReadLabel (c : Ctx w K mg) : PySem.W.keepIn K (.ref (He.ga K "read_label")) = true := (c.defReadLabel).elim fun _ D => D.F.kp
theorem kw_ReadLabel_0 (c : Ctx w K mg) : FnK P w K mg base 7 0 ["text"] [0] (He.ga K "read_label") (spC K c_ReadLabel) := by
  obtain ⟨fd, Df⟩ := c.defReadLabel
  exact ⟨fd, _, _, fn_ReadLabel c Df, K95.FunD.kbP (ps := ["text"]) Df.F 0 ["text"] [0] fun kV doc pm an cdv ct us ws l1 l2 => match us, ws, l1, l2 with | [], [_], _, _ => rfl⟩
def c_ManuscriptTold0 : CF := bodyC 2 8 (cSeq (cAsg (cBM true fSplit (cVar 1) (cCons (cK (.str (mkS [123]))) (cNil))) (cStarT (cGC (cN 2) (cGC (cN 3) cGN)))) (cSeq (cAsg (cVar 2) (cN 4)) (cSeq (cFor (cSq (cVar 3)) (cN 5) (cSeq (cAsg (cBM true fPart (cVar 5) (cCons (cK (.str (mkS [125]))) (cNil))) (cTp 3 (cGC (cN 6) (cGC (cN 7) (cGC (cN 8) (cGN)))))) (cIfS (cB (cOp (fEq false) (cVar 7) (cK (.str (mkS []))))) (cAugN 4 (cOp fAdd (cK (.str (mkS [123]))) (cVar 5))) (cSeq (cAsg (cMt .manuscript c_ManuscriptLabelOf (cVar 0) (cCons (cVar 6) (cNil))) (cN 9)) (cAugN 4 (cOp fAdd (cIfE (cB (cIsN false (cVar 9))) (cK (.str (mkS []))) (cVar 9)) (cVar 8))))))) (cRet (cVar 4)))))
def c_ManuscriptTold : CF := fgF c_ManuscriptTold0
theorem fn_ManuscriptTold (c : Ctx w K mg) {fd : FuncData} (Df : MethAt K (cManuscript K) "told" "Manuscript.told" sManuscriptTold [] [] (He.ma K (cManuscript K) "told") fd) : FnOk P w K mg base CX0 20 (He.ma K (cManuscript K) "told") fd ["self", "text"] (spC K c_ManuscriptTold) := by
  have nd := scManuscriptTold.nd
  exact FnOk.spc_fg (ok_body Df.F scManuscriptTold rfl rfl fun cdv A outer s H E hr => q_seq (q_asg (q_bms PySem.F.plainAttrs_str PySem.F.slot_str_split PySem.F.type_str_split mt_split1 mc_split (q_v 1) (q_cons (q_strL lt_11) (q_nil))) (q_starT rfl (q_gc (q_gname (i := 2) nd rfl (by first | exact Or.inl rfl | exact Or.inr rfl)) (q_gst (q_gname (i := 3) nd rfl (by first | exact Or.inl rfl | exact Or.inr rfl)) q_gn)))) (q_seq (q_set (i := 4) nd rfl (by first | exact Or.inl rfl | exact Or.inr rfl) (q_v 2)) (q_seq (q_for PassesOwn.never rfl (q_sq (q_v 3)) (q_gname (i := 5) nd rfl (by first | exact Or.inl rfl | exact Or.inr rfl)) (q_seq (q_asg (q_bms PySem.F.plainAttrs_str PySem.F.slot_str_partition PySem.F.type_str_partition mt_part1 mc_part (q_v 5) (q_cons (q_strL lt_12) (q_nil))) (q_tp rfl (q_gc (q_gname (i := 6) nd rfl (by first | exact Or.inl rfl | exact Or.inr rfl)) (q_gc (q_gname (i := 7) nd rfl (by first | exact Or.inl rfl | exact Or.inr rfl)) (q_gc (q_gname (i := 8) nd rfl (by first | exact Or.inl rfl | exact Or.inr rfl)) (q_gn)))))) (q_one (q_if (q_tcmp (op_eqU hr.units) oc_eq (q_v 7) (q_strL lt_1)) (q_one (q_augN (i := 4) nd rfl (by first | exact Or.inl rfl | exact Or.inr rfl) (q_add (q_strL lt_11) (q_v 5)))) (q_seq (q_set (i := 9) nd rfl (by first | exact Or.inl rfl | exact Or.inr rfl) (q_m (C := .manuscript) (ok_ManuscriptLabelOf c) (by decide +kernel) (hr.mono (by decide)) (q_v 0) (q_cons (q_v 6) (q_nil)))) (q_one (q_augN (i := 4) nd rfl (by first | exact Or.inl rfl | exact Or.inr rfl) (q_add (q_ifE (q_tisN (q_v 9)) (q_strL lt_1) (q_v 9)) (q_v 8))))))))) (q_one (q_ret (q_v 4))))))
theorem ok_ManuscriptTold (c : Ctx w K mg) : MethOk P w K mg base 20 (cManuscript K) "told" [] (spC K c_ManuscriptTold) := by
  obtain ⟨fd, Df⟩ := c.defManuscriptTold
  exact ⟨c.clManuscript, _, fd, ["self", "text"], [], Df.me, fn_ManuscriptTold c Df, Df.F.bindsN fun _ _ _ _ _ _ us hl => match us, hl with | [_, _], _ => rfl, .nil⟩
theorem kw_ManuscriptTold_0 (c : Ctx w K mg) : FnK P w K mg base 20 1 ["text"] [0] (He.ma K (cManuscript K) "told") (spC K c_ManuscriptTold) := by
  obtain ⟨fd, Df⟩ := c.defManuscriptTold
  exact ⟨fd, _, _, fn_ManuscriptTold c Df, K95.FunD.kbP (ps := ["self", "text"]) Df.F 1 ["text"] [0] fun kV doc pm an cdv ct us ws l1 l2 => match us, ws, l1, l2 with | [_], [_], _, _ => rfl⟩
def c_ManuscriptPut : CF := bodyC 4 1 (cSeq (cDrop (cMt .manuscript c_ManuscriptNeedIndex (cVar 0) (cCons (cVar 1) (cCons (cUn fNeg (cK (.int 1))) (cNil))))) (cSeq (cDrop (cFn c_CheckKnown (cCons (cLst (cCons (cVar 2) (cNil))) (cCons (cMt .scheme c_SchemeKinds (cFd .manuscript 8 (cVar 0)) cNil) (cNil))))) (cSeq (cDrop (cMt .manuscript c_ManuscriptNeedKey (cVar 0) (cCons (cVar 3) (cCons (cK .non) (cNil))))) (cSeq (cAsg (cOp fIx (cFd .manuscript 9 (cVar 0)) (cUn fNeg (cK (.int 1)))) (cN 4)) (cDrop (cMt .manuscript c_ManuscriptKeep (cVar 0) (cCons (cLst (cStar (cSl (cVar 4) cNoP (cPt (cVar 1))) (cCons (cTup (cCons (cVar 2) (cCons (cVar 3) (cNil)))) (cStar (cSl (cVar 4) (cPt (cVar 1)) cNoP) (cNil))))) (cNil))))))))
theorem fn_ManuscriptPut (c : Ctx w K mg) {fd : FuncData} (Df : MethAt K (cManuscript K) "put" "Manuscript.put" sManuscriptPut [] (dManuscriptPut.kws K) (He.ma K (cManuscript K) "put") fd) : FnOk P w K mg base CX0 10 (He.ma K (cManuscript K) "put") fd ["self", "index", "kind", "key"] (spC K c_ManuscriptPut) := by
  have nd := scManuscriptPut.nd
  exact (ok_body Df.F scManuscriptPut rfl rfl fun cdv A outer s H E hr => q_seq (q_expr (q_m (C := .manuscript) (ok_ManuscriptNeedIndex c) (by decide +kernel) (hr.mono (by decide)) (q_v 0) (q_cons (q_v 1) (q_cons (q_neg (q_int)) (q_nil))))) (q_seq (q_expr (q_f (ok_CheckKnown c) (hr.mono (by decide)) (q_cons (q_lst (q_cons (q_v 2) (q_nil))) (q_cons (q_m0 (C := .scheme) (ok_SchemeKinds c) (by decide +kernel) (hr.mono (by decide)) (q_fd c.clManuscript 8 (by decide +kernel) c.nManuscript_plan (q_v 0))) (q_nil))))) (q_seq (q_expr (q_m (C := .manuscript) (ok_ManuscriptNeedKey c) (by decide +kernel) (hr.mono (by decide)) (q_v 0) (q_cons (q_v 3) (q_cons (q_non) (q_nil))))) (q_seq (q_set (i := 4) nd rfl (by first | exact Or.inl rfl | exact Or.inr rfl) (q_ix hr.units (q_fd c.clManuscript 9 (by decide +kernel) c.nManuscript_past (q_v 0)) (q_neg (q_int)) (fun _ _ => rfl))) (q_one (q_expr (q_m (C := .manuscript) (ok_ManuscriptKeep c) (by decide +kernel) (hr.mono (by decide)) (q_v 0) (q_cons (q_lst (q_star (q_slice (q_v 4) q_noP (q_pt (q_v 1))) (q_cons (q_tup (q_cons (q_v 2) (q_cons (q_v 3) (q_nil)))) (q_star (q_slice (q_v 4) (q_pt (q_v 1)) q_noP) (q_nil))))) (q_nil)))))))))
theorem kw_ManuscriptPut_210 (c : Ctx w K mg) : FnK P w K mg base 10 1 ["key", "kind", "index"] [2, 1, 0] (He.ma K (cManuscript K) "put") (spC K c_ManuscriptPut) := by
  obtain ⟨fd, Df⟩ := c.defManuscriptPut
  obtain ⟨mv, kb⟩ := L2.FunD.kbinds0 (ps := ["self", "index", "kind", "key"]) Df.F 1 ["key", "kind", "index"] [] (fun us _ ws => us ++ pk [2, 1, 0] ws) (List.cons_ne_nil _ _) (fun _ m => nomatch m) (fun r1 _ r3 => r1.append (K95.Vals.pk r3 [2, 1, 0])) fun D doc pm an cdv ct us mv ws l1 l2 l3 => match us, mv, ws, l1, l2, l3 with | [_], [], [_, _, _], _, _, _ => rfl
  exact ⟨fd, _, _, fn_ManuscriptPut c Df, kb⟩
theorem kw_ManuscriptPut_102 (c : Ctx w K mg) : FnK P w K mg base 10 1 ["kind", "index", "key"] [1, 0, 2] (He.ma K (cManuscript K) "put") (spC K c_ManuscriptPut) := by
  obtain ⟨fd, Df⟩ := c.defManuscriptPut
  obtain ⟨mv, kb⟩ := L2.FunD.kbinds0 (ps := ["self", "index", "kind", "key"]) Df.F 1 ["kind", "index", "key"] [] (fun us _ ws => us ++ pk [1, 0, 2] ws) (List.cons_ne_nil _ _) (fun _ m => nomatch m) (fun r1 _ r3 => r1.append (K95.Vals.pk r3 [1, 0, 2])) fun D doc pm an cdv ct us mv ws l1 l2 l3 => match us, mv, ws, l1, l2, l3 with | [_], [], [_, _, _], _, _, _ => rfl
  exact ⟨fd, _, _, fn_ManuscriptPut c Df, kb⟩
theorem kw_ManuscriptPut_120 (c : Ctx w K mg) : FnK P w K mg base 10 1 ["key", "index", "kind"] [1, 2, 0] (He.ma K (cManuscript K) "put") (spC K c_ManuscriptPut) := by
  obtain ⟨fd, Df⟩ := c.defManuscriptPut
  obtain ⟨mv, kb⟩ := L2.FunD.kbinds0 (ps := ["self", "index", "kind", "key"]) Df.F 1 ["key", "index", "kind"] [] (fun us _ ws => us ++ pk [1, 2, 0] ws) (List.cons_ne_nil _ _) (fun _ m => nomatch m) (fun r1 _ r3 => r1.append (K95.Vals.pk r3 [1, 2, 0])) fun D doc pm an cdv ct us mv ws l1 l2 l3 => match us, mv, ws, l1, l2, l3 with | [_], [], [_, _, _], _, _, _ => rfl
  exact ⟨fd, _, _, fn_ManuscriptPut c Df, kb⟩
def c_ManuscriptTried : CF := bodyC 2 0 (cWith .trial c_TrialEnter c_TrialExit (cMt .manuscript c_ManuscriptTrial (cVar 0) cNil) (cRet (cCallL 1 "_law_length" c_LawLength (cCons (cVar 0) (cNil)))))
theorem fn_ManuscriptTried (c : Ctx w K mg) {fd : FuncData} (Df : MethAt K (cManuscript K) "tried" "Manuscript.tried" sManuscriptTried [] [] (He.ma K (cManuscript K) "tried") fd) : FnOk P w K mg base CX0 7 (He.ma K (cManuscript K) "tried") fd ["self", "action"] (spC K c_ManuscriptTried) := by
  have nd := scManuscriptTried.nd
  exact (ok_body Df.F scManuscriptTried rfl rfl fun cdv A outer s H E hr => q_one (q_with (C := .trial) (ok_TrialEnter c) (ok_TrialExit c) (hr.mono (by decide)) (q_m0 (C := .manuscript) (ok_ManuscriptTrial c) (by decide +kernel) (hr.mono (by decide)) (q_v 0)) (q_one (q_ret (q_callL (i := 1) (ok_LawLength c) c.g__law_length (hr.mono (by decide)) (q_cons (q_v 0) (q_nil)))))))
theorem ok_ManuscriptTried (c : Ctx w K mg) : MethOk P w K mg base 7 (cManuscript K) "tried" [] (spC K c_ManuscriptTried) := by
  obtain ⟨fd, Df⟩ := c.defManuscriptTried
  exact ⟨c.clManuscript, _, fd, ["self", "action"], [], Df.me, fn_ManuscriptTried c Df, Df.F.bindsN fun _ _ _ _ _ _ us hl => match us, hl with | [_, _], _ => rfl, .nil⟩
theorem kw_ManuscriptTried_0 (c : Ctx w K mg) : FnK P w K mg base 7 1 ["action"] [0] (He.ma K (cManuscript K) "tried") (spC K c_ManuscriptTried) := by
  obtain ⟨fd, Df⟩ := c.defManuscriptTried
  exact ⟨fd, _, _, fn_ManuscriptTried c Df, K95.FunD.kbP (ps := ["self", "action"]) Df.F 1 ["action"] [0] fun kV doc pm an cdv ct us ws l1 l2 => match us, ws, l1, l2 with | [_], [_], _, _ => rfl⟩
def c_ActionEq0 : CF := bodyC 2 0 (cRet (cAndV (cIsC .action (cVar 1)) (cOp (fDq2 c_LabelEq0 false) (cFd .action 12 (cVar 0)) (cFd .action 12 (cVar 1)))))
def c_ActionEq : CF := fgF c_ActionEq0
theorem fn_ActionEq (c : Ctx w K mg) {fd : FuncData} (Df : MethAt K (cAction K) "__eq__" "Action.__eq__" sActionEq [] [] (He.ma K (cAction K) "__eq__") fd) : FnOk P w K mg base CX0 5 (He.ma K (cAction K) "__eq__") fd ["self", "other"] (spC K c_ActionEq) := by
  have nd := scActionEq.nd
  exact FnOk.spc_fg (ok_body Df.F scActionEq rfl rfl fun cdv A outer s H E hr => q_one (q_ret (q_andV (q_isC (C := .action) c.f_isinstance c.g_Action c.isAction (q_v 1)) (pe_one (q_cmp (op_dq2 (.inl ⟨rfl, rfl⟩) (ok_LabelEq c) (hr.mono (by decide))) oc_dq2 (q_fd c.clAction 12 (by decide +kernel) c.nAction_made_of (q_v 0)) (q_fd c.clAction 12 (by decide +kernel) c.nAction_made_of (q_v 1)))))))
theorem ok_ActionEq (c : Ctx w K mg) : MethOk P w K mg base 5 (cAction K) "__eq__" [] (spC K c_ActionEq) := by
  obtain ⟨fd, Df⟩ := c.defActionEq
  exact ⟨c.clAction, _, fd, ["self", "other"], [], Df.me, fn_ActionEq c Df, Df.F.bindsN fun _ _ _ _ _ _ us hl => match us, hl with | [_, _], _ => rfl, .nil⟩
def c_ActionAdd : CF := bodyC 2 3 (cSeq (cIfS (cNotT (cB (cIsC .action (cVar 1)))) (cNever) (cSkip)) (cSeq (cAsg (cCB fDct (cCons (cFd .action 12 (cVar 0)) (cNil))) (cN 2)) (cSeq (cLock (hF 1 12) (cFor (cKeys (cFd .action 12 (cVar 1))) (cN 3) (cSeq (cAsg (cOp fIx (cFd .action 12 (cVar 1)) (cVar 3)) (cN 4)) (cAsg (cIfE (cB (cOp (fIn false) (cVar 3) (cVar 2))) (cFn c_Behind (cCons (cOp fIx (cVar 2) (cVar 3)) (cCons (cVar 4) (cNil)))) (cVar 4)) (cSub (cVar 2) (cVar 3)))))) (cRet (cMk .action c_ActionInit [] (cCons (cVar 2) (cNil)))))))
theorem fn_ActionAdd (c : Ctx w K mg) {fd : FuncData} (Df : MethAt K (cAction K) "__add__" "Action.__add__" sActionAdd [] [] (He.ma K (cAction K) "__add__") fd) : FnOk P w K mg base CX0 7 (He.ma K (cAction K) "__add__") fd ["self", "other"] (spC K c_ActionAdd) := by
  have nd := scActionAdd.nd
  exact (ok_body Df.F scActionAdd rfl rfl fun cdv A outer s H E hr => q_seq (q_if (q_not (q_tv (q_isC (C := .action) c.f_isinstance c.g_Action c.isAction (q_v 1)))) (q_one (q_never)) (q_skip)) (q_seq (q_set (i := 2) nd rfl (by first | exact Or.inl rfl | exact Or.inr rfl) (q_dict c.f_dict (q_cons (q_fd c.clAction 12 (by decide +kernel) c.nAction_made_of (q_v 0)) (q_nil)))) (q_seq (q_lock (q_for PassesOwn.never rfl (q_keys (q_fd c.clAction 12 (by decide +kernel) c.nAction_made_of (q_v 1))) (q_gname (i := 3) nd rfl (by first | exact Or.inl rfl | exact Or.inr rfl)) (q_seq (q_set (i := 4) nd rfl (by first | exact Or.inl rfl | exact Or.inr rfl) (q_ix hr.units (q_fd c.clAction 12 (by decide +kernel) c.nAction_made_of (q_v 1)) (q_v 3) (fun _ _ => rfl))) (q_one (q_asg (q_ifE (q_tin (hu65 hr) (q_v 3) (q_v 2)) (q_f (ok_Behind c) (hr.mono (by decide)) (q_cons (q_ix hr.units (q_v 2) (q_v 3) (fun _ _ => rfl)) (q_cons (q_v 4) (q_nil)))) (q_v 4)) (q_sub hr.units (q_v 2) (q_v 3))))))) (q_one (q_ret (q_mk (C := .action) (ds := []) (dvs := []) (fun _ => True.intro) (ok_ActionInit c) (hr.mono (by decide)) (q_cons (q_v 2) (q_nil))))))))
theorem ok_ActionAdd (c : Ctx w K mg) : MethOk P w K mg base 7 (cAction K) "__add__" [] (spC K c_ActionAdd) := by
  obtain ⟨fd, Df⟩ := c.defActionAdd
  exact ⟨c.clAction, _, fd, ["self", "other"], [], Df.me, fn_ActionAdd c Df, Df.F.bindsN fun _ _ _ _ _ _ us hl => match us, hl with | [_, _], _ => rfl, .nil⟩
def c_KindAction : CF := bodyC 2 4 (cSeq (cIfS (cB (cOp (fIn true) (cVar 1) (cMt .scheme c_SchemeKinds (cVar 0) cNil))) (cNever) (cSkip)) (cSeq (cAsg (cMk .action c_ActionInit [] (cCons (cNewD) (cNil))) (cN 2)) (cSeq (cFor (cSq (cMt .scheme c_SchemeDeeds (cVar 0) (cCons (cVar 1) (cNil)))) (cTp 3 (cGC (cN 3) (cGC (cN 4) (cGC (cN 5) (cGN))))) (cAsg (cOp (fAddO .action c_ActionAdd) (cVar 2) (cMk .action c_ActionInit [] (cCons (cDisp (cPC (cVar 4) (cTup (cCons (cVar 3) (cCons (cVar 5) (cNil)))) (cP0))) (cNil)))) (cN 2))) (cRet (cVar 2)))))
theorem fn_KindAction (c : Ctx w K mg) {fd : FuncData} (Df : DefAt K mg "kind_action" sKindAction [] [] (He.ga K "kind_action") fd) : FnOk P w K mg base CX0 9 (He.ga K "kind_action") fd ["scheme", "kind"] (spC K c_KindAction) := by
  have nd := scKindAction.nd
  exact (ok_body Df.F scKindAction rfl rfl fun cdv A outer s H E hr => q_seq (q_if (q_tnin (hu65 hr) (q_v 1) (q_m0 (C := .scheme) (ok_SchemeKinds c) (by decide +kernel) (hr.mono (by decide)) (q_v 0))) (q_one (q_never)) (q_skip)) (q_seq (q_set (i := 2) nd rfl (by first | exact Or.inl rfl | exact Or.inr rfl) (q_mk (C := .action) (ds := []) (dvs := []) (fun _ => True.intro) (ok_ActionInit c) (hr.mono (by decide)) (q_cons (q_newD) (q_nil)))) (q_seq (q_for PassesOwn.never rfl (q_sq (q_m (C := .scheme) (ok_SchemeDeeds c) (by decide +kernel) (hr.mono (by decide)) (q_v 0) (q_cons (q_v 1) (q_nil)))) (q_tp rfl (q_gc (q_gname (i := 3) nd rfl (by first | exact Or.inl rfl | exact Or.inr rfl)) (q_gc (q_gname (i := 4) nd rfl (by first | exact Or.inl rfl | exact Or.inr rfl)) (q_gc (q_gname (i := 5) nd rfl (by first | exact Or.inl rfl | exact Or.inr rfl)) (q_gn))))) (q_one (q_set (i := 2) nd rfl (by first | exact Or.inl rfl | exact Or.inr rfl) (PE.imp (pe_op (op_addOwn (ok_ActionAdd c) c.e3 (hr.mono (by decide))) (q_v 2) (q_mk (C := .action) (ds := []) (dvs := []) (fun _ => True.intro) (ok_ActionInit c) (hr.mono (by decide)) (q_cons (q_disp (q_pc (q_v 4) (q_tup (q_cons (q_v 3) (q_cons (q_v 5) (q_nil)))) (q_p0))) (q_nil)))) fun _ _ _ d => i_op (oc_addO (C := .action)) d)))) (q_one (q_ret (q_v 2))))))
theorem ok_KindAction (c : Ctx w K mg) : DefOk P w K mg base 9 "kind_action" [] (spC K c_KindAction) := by
  obtain ⟨fd, Df⟩ := c.defKindAction
  exact ⟨_, fd, ["scheme", "kind"], [], Df.g, Df.F.kp, fn_KindAction c Df, Df.F.bindsN fun _ _ _ _ _ _ us hl => match us, hl with | [_, _], _ => rfl, .nil⟩
theorem kp_KindAction (c : Ctx w K mg) : PySem.W.keepIn K (.ref (He.ga K "kind_action")) = true := (c.defKindAction).elim fun _ D => D.F.kp
theorem kw_KindAction_10 (c : Ctx w K mg) : FnK P w K mg base 9 0 ["kind", "scheme"] [1, 0] (He.ga K "kind_action") (spC K c_KindAction) := by
  obtain ⟨fd, Df⟩ := c.defKindAction
  exact ⟨fd, _, _, fn_KindAction c Df, K95.FunD.kbP (ps := ["scheme", "kind"]) Df.F 0 ["kind", "scheme"] [1, 0] fun kV doc pm an cdv ct us ws l1 l2 => match us, ws, l1, l2 with | [], [_, _], _, _ => rfl⟩
def c_ActOf : CF := bodyC 2 2 (cSeq (cFor (cSq (cVar 1)) (cN 2) (cIfS (cB (cOp (fIn true) (cVar 2) (cMt .scheme c_SchemeKinds (cVar 0) cNil))) (cNever) (cSkip))) (cSeq (cAsg (cMk .action c_ActionInit [] (cCons (cNewD) (cNil))) (cN 3)) (cSeq (cFor (cSq (cVar 1)) (cN 2) (cAsg (cOp (fAddO .action c_ActionAdd) (cVar 3) (cFn c_KindAction (cCons (cVar 0) (cCons (cVar 2) (cNil))))) (cN 3))) (cRet (cVar 3)))))
theorem fn_ActOf (c : Ctx w K mg) {fd : FuncData} (Df : DefAt K mg "action_of" sActOf [] [] (He.ga K "action_of") fd) : FnOk P w K mg base CX0 11 (He.ga K "action_of") fd ["scheme", "kinds"] (spC K c_ActOf) := by
  have nd := scActOf.nd
  exact (ok_body Df.F scActOf rfl rfl fun cdv A outer s H E hr => q_seq (q_for PassesOwn.never rfl (q_sq (q_v 1)) (q_gname (i := 2) nd rfl (by first | exact Or.inl rfl | exact Or.inr rfl)) (q_one (q_if (q_tnin (hu65 hr) (q_v 2) (q_m0 (C := .scheme) (ok_SchemeKinds c) (by decide +kernel) (hr.mono (by decide)) (q_v 0))) (q_one (q_never)) (q_skip)))) (q_seq (q_set (i := 3) nd rfl (by first | exact Or.inl rfl | exact Or.inr rfl) (q_mk (C := .action) (ds := []) (dvs := []) (fun _ => True.intro) (ok_ActionInit c) (hr.mono (by decide)) (q_cons (q_newD) (q_nil)))) (q_seq (q_for PassesOwn.never rfl (q_sq (q_v 1)) (q_gname (i := 2) nd rfl (by first | exact Or.inl rfl | exact Or.inr rfl)) (q_one (q_set (i := 3) nd rfl (by first | exact Or.inl rfl | exact Or.inr rfl) (PE.imp (pe_op (op_addOwn (ok_ActionAdd c) c.e3 (hr.mono (by decide))) (q_v 3) (q_f (ok_KindAction c) (hr.mono (by decide)) (q_cons (q_v 0) (q_cons (q_v 2) (q_nil))))) fun _ _ _ d => i_op (oc_addO (C := .action)) d)))) (q_one (q_ret (q_v 3))))))
theorem ok_ActOf (c : Ctx w K mg) : DefOk P w K mg base 11 "action_of" [] (spC K c_ActOf) := by
  obtain ⟨fd, Df⟩ := c.defActOf
  exact ⟨_, fd, ["scheme", "kinds"], [], Df.g, Df.F.kp, fn_ActOf c Df, Df.F.bindsN fun _ _ _ _ _ _ us hl => match us, hl with | [_, _], _ => rfl, .nil⟩
theorem kp_ActOf (c : Ctx w K mg) : PySem.W.keepIn K (.ref (He.ga K "action_of")) = true := (c.defActOf).elim fun _ D => D.F.kp
theorem kw_ActOf_10 (c : Ctx w K mg) : FnK P w K mg base 11 0 ["kinds", "scheme"] [1, 0] (He.ga K "action_of") (spC K c_ActOf) := by
  obtain ⟨fd, Df⟩ := c.defActOf
  exact ⟨fd, _, _, fn_ActOf c Df, K95.FunD.kbP (ps := ["scheme", "kinds"]) Df.F 0 ["kinds", "scheme"] [1, 0] fun kV doc pm an cdv ct us ws l1 l2 => match us, ws, l1, l2 with | [], [_, _], _, _ => rfl⟩
end
end
end K95
set_option maxRecDepth 100000
set_option maxHeartbeats 4000000
set_option pp.deepTerms false
set_option pp.maxSteps 600
namespace K95
open PySem PySem.Spec PyProof.Rows L2
noncomputable section
variable [Nu]
section
variable {P : Program} {w : World} {K : PySem.W.Frag} {mg : Str → Option Value} {base : Heap}

def c_ReadDeed : CF := bodyC 2 2 (cSeq (cAsg (cBM true fSplit (cVar 0) (cCons (cK (.str (mkS [32]))) (cNil))) (cN 2)) (cSeq (cIfS (cOrT (cB (cOp (fEq true) (cCB fLen (cCons (cVar 2) (cNil))) (cK (.int 4)))) (cB (cOp (fEq true) (cOp fIx (cVar 2) (cK (.int 0))) (cK (.str (mkS [])))))) (cRet (cK .non)) (cSkip)) (cSeq (cAsg (cTup (cCons (cOp fIx (cVar 2) (cK (.int 1))) (cCons (cOp fIx (cVar 2) (cK (.int 2))) (cCons (cFn c_ReadNumber (cCons (cK (.str (mkS [102, 105, 103, 117, 114, 101, 115]))) (cCons (cOp fIx (cVar 2) (cK (.int 3))) (cNil)))) (cNil))))) (cN 3)) (cRet (cIfE (cB (cFn c_IsDeed (cCons (cVar 3) (cCons (cVar 1) (cNil))))) (cVar 3) (cK .non))))))
theorem fn_ReadDeed (c : Ctx w K mg) {fd : FuncData} (Df : DefAt K mg "read_deed" sReadDeed [] [] (He.ga K "read_deed") fd) : FnOk P w K mg base CX0 5 (He.ga K "read_deed") fd ["text", "starts"] (spC K c_ReadDeed) := by
  have nd := scReadDeed.nd
  exact (ok_body Df.F scReadDeed rfl rfl fun cdv A outer s H E hr => q_seq (q_set (i := 2) nd rfl (by first | exact Or.inl rfl | exact Or.inr rfl) (q_bms PySem.F.plainAttrs_str PySem.F.slot_str_split PySem.F.type_str_split mt_split1 mc_split (q_v 0) (q_cons (q_strL lt_2) (q_nil)))) (q_seq (q_if (PW.pt (q_or (q_tcmp (op_neU hr.units) oc_ne (q_len c.f_len (q_cons (q_v 2) (q_nil))) (q_int)) (q_or1 (q_tcmp (op_neU hr.units) oc_ne (q_ix hr.units (q_v 2) (q_int) (fun _ _ => rfl)) (q_strL lt_1))))) (q_one (q_ret (q_non))) (q_skip)) (q_seq (q_set (i := 3) nd rfl (by first | exact Or.inl rfl | exact Or.inr rfl) (q_tup (q_cons (q_ix hr.units (q_v 2) (q_int) (fun _ _ => rfl)) (q_cons (q_ix hr.units (q_v 2) (q_int) (fun _ _ => rfl)) (q_cons (q_f (ok_ReadNumber c) (hr.mono (by decide)) (q_cons (q_gsL c.s_FIGURES lt_7) (q_cons (q_ix hr.units (q_v 2) (q_int) (fun _ _ => rfl)) (q_nil)))) (q_nil)))))) (q_one (q_ret (q_ifE (q_tv (q_f (ok_IsDeed c) (hr.mono (by decide)) (q_cons (q_v 3) (q_cons (q_v 1) (q_nil))))) (q_v 3) (q_non)))))))
theorem ok_ReadDeed (c : Ctx w K mg) : DefOk P w K mg base 5 "read_deed" [] (spC K c_ReadDeed) := by
  obtain ⟨fd, Df⟩ := c.defReadDeed
  exact ⟨_, fd, ["text", "starts"], [], Df.g, Df.F.kp, fn_ReadDeed c Df, Df.F.bindsN fun _ _ _ _ _ _ us hl => match us, hl with | [_, _], _ => rfl, .nil⟩
def c_ReadDeeds : CF := bodyC 2 2 (cSeq (cIfS (cB (cOp (fEq false) (cVar 0) (cK (.str (mkS []))))) (cRet (cLst (cNil))) (cSkip)) (cSeq (cAsg (cLc (cSq (cBM true fSplit (cVar 0) (cCons (cK (.str (mkS [44]))) (cNil)))) (cN 3) (cYes) (cFn c_ReadDeed (cCons (cVar 3) (cCons (cVar 1) (cNil)))) [3]) (cN 2)) (cRet (cIfE (cAndT (cB (cOp (fIn true) (cK .non) (cVar 2))) (cB (cOp fLe (cCB fLen (cCons (cVar 2) (cNil))) (cK (.int 6))))) (cVar 2) (cK .non)))))
theorem fn_ReadDeeds (c : Ctx w K mg) {fd : FuncData} (Df : DefAt K mg "read_deeds" sReadDeeds [] [] (He.ga K "read_deeds") fd) : FnOk P w K mg base CX0 7 (He.ga K "read_deeds") fd ["text", "starts"] (spC K c_ReadDeeds) := by
  have nd := scReadDeeds.nd
  exact (ok_body Df.F scReadDeeds rfl rfl fun cdv A outer s H E hr => q_seq (q_if (q_tcmp (op_eqU hr.units) oc_eq (q_v 0) (q_strL lt_1)) (q_one (q_ret (q_lst (q_nil)))) (q_skip)) (q_seq (q_setLc (i := 2) (own := [("part", 3)]) rfl nd rfl (q_sq (q_bms PySem.F.plainAttrs_str PySem.F.slot_str_split PySem.F.type_str_split mt_split1 mc_split (q_v 0) (q_cons (q_strL lt_15) (q_nil)))) (blkOk_by (by kernel_rfl)) (fun _ _ _ _ _ => q_gname (i := 3) nd rfl (by first | exact Or.inl rfl | exact Or.inr rfl)) (fun _ _ _ _ _ => q_yes) (fun _ _ _ _ _ => q_f (ok_ReadDeed c) (hr.mono (by decide)) (q_cons (q_v 3) (q_cons (q_v 1) (q_nil)))) (gin_n (by decide))) (q_one (q_ret (q_ifE (PW.pt (q_and (q_tnin (hu65 hr) (q_non) (q_v 2)) (q_and1 (q_tcmp op_leU oc_le (q_len c.f_len (q_cons (q_v 2) (q_nil))) (q_gi c.i_MOST_DEEDS))))) (q_v 2) (q_non))))))
theorem ok_ReadDeeds (c : Ctx w K mg) : DefOk P w K mg base 7 "read_deeds" [] (spC K c_ReadDeeds) := by
  obtain ⟨fd, Df⟩ := c.defReadDeeds
  exact ⟨_, fd, ["text", "starts"], [], Df.g, Df.F.kp, fn_ReadDeeds c Df, Df.F.bindsN fun _ _ _ _ _ _ us hl => match us, hl with | [_, _], _ => rfl, .nil⟩
def c_ReadShown : CF := bodyC 2 3 (cSeq (cSeq (cAsg (cFn c_ReadLabel (cCons (cSl (cVar 0) (cPt (cCB fLen (cCons (cK (.str (mkS [108, 97, 98, 101, 108, 32]))) (cNil)))) cNoP) (cNil))) (cN 2)) (cSkip)) (cRet (cIfE (cB (cCB fAll (cCons (cLc (cSq (cPr .label c_LabelShown (cVar 2))) (cTp 2 (cGC (cN 3) (cGC (cN 4) (cGN)))) (cYes) (cOp (fIn false) (cVar 3) (cVar 1)) [3, 4]) (cNil)))) (cVar 2) (cK .non))))
theorem fn_ReadShown (c : Ctx w K mg) {fd : FuncData} (Df : DefAt K mg "read_shown" sReadShown [] [] (He.ga K "read_shown") fd) : FnOk P w K mg base CX0 9 (He.ga K "read_shown") fd ["line", "starts"] (spC K c_ReadShown) := by
  have nd := scReadShown.nd
  exact (ok_body Df.F scReadShown rfl rfl fun cdv A outer s H E hr => q_seq (q_try (q_one (q_set (i := 2) nd rfl (by first | exact Or.inl rfl | exact Or.inr rfl) (q_f (ok_ReadLabel c) (hr.mono (by decide)) (q_cons (q_slice (q_v 0) (q_pt (q_len c.f_len (q_cons (q_gsL c.s_LABEL lt_16) (q_nil)))) q_noP) (q_nil))))) (q_skip)) (q_one (q_ret (q_ifE (q_tv (q_all rfl c.f_all (q_cons (q_lc (own := [("name", 3), ("form", 4)]) rfl nd (q_sq (q_shown c (q_v 2) (hr.mono (by decide)))) (blkOk_by (by kernel_rfl)) (fun _ _ _ _ _ => q_tp rfl (q_gc (q_gname (i := 3) nd rfl (by first | exact Or.inl rfl | exact Or.inr rfl)) (q_gc (q_gname (i := 4) nd rfl (by first | exact Or.inl rfl | exact Or.inr rfl)) (q_gn)))) (fun _ _ _ _ _ => q_yes) (fun _ _ _ _ _ => q_in (hu65 hr) (q_v 3) (q_v 1)) (gin_tp (gin_gc (gin_n (by decide)) (gin_gc (gin_n (by decide)) (gin_gn))))) (q_nil)))) (q_v 2) (q_non)))))
theorem ok_ReadShown (c : Ctx w K mg) : DefOk P w K mg base 9 "read_shown" [] (spC K c_ReadShown) := by
  obtain ⟨fd, Df⟩ := c.defReadShown
  exact ⟨_, fd, ["line", "starts"], [], Df.g, Df.F.kp, fn_ReadShown c Df, Df.F.bindsN fun _ _ _ _ _ _ us hl => match us, hl with | [_, _], _ => rfl, .nil⟩
def c_ReadKinds : CF := bodyC 2 8 (cSeq (cAsg (cNewD) (cN 2)) (cSeq (cAsg (cK (.str (mkS []))) (cN 3)) (cSeq (cWh 4 (cOrT (cB (cOp fDl (cVar 2) (cNewD))) (cB (cBM true fStarts (cMt .reader c_ReaderPresent (cVar 0) cNil) (cCons (cK (.str (mkS [107, 105, 110, 100, 32]))) (cNil))))) (cSeq (cAsg (cBM true fPart (cSl (cMt .reader c_ReaderPresent (cVar 0) cNil) (cPt (cCB fLen (cCons (cK (.str (mkS [107, 105, 110, 100, 32]))) (cNil)))) cNoP) (cCons (cK (.str (mkS [58]))) (cNil))) (cTp 3 (cGC (cN 4) (cGC (cN 5) (cGC (cN 6) (cGN)))))) (cSeq (cAsg (cAndV (cBM true fStarts (cMt .reader c_ReaderPresent (cVar 0) cNil) (cCons (cK (.str (mkS [107, 105, 110, 100, 32]))) (cNil))) (cAndV (cOp (fEq true) (cVar 5) (cK (.str (mkS [])))) (cFn c_IsName (cCons (cVar 4) (cNil))))) (cN 7)) (cSeq (cIfS (cOrT (cNotT (cB (cVar 7))) (cOrT (cB (cOp fLe (cVar 4) (cVar 3))) (cB (cOp (fEq false) (cCB fLen (cCons (cVar 2) (cNil))) (cK (.int 6)))))) (cDrop (cMt .reader c_ReaderNeed (cVar 0) (cCons (cK .non) (cNil)))) (cSkip)) (cSeq (cAsg (cMt .reader c_ReaderNeed (cVar 0) (cCons (cFn c_ReadDeeds (cCons (cVar 6) (cCons (cVar 1) (cNil)))) (cNil))) (cN 8)) (cSeq (cAsg (cK .non) (cN 9)) (cSeq (cIfS (cB (cBM true fStarts (cMt .reader c_ReaderPresent (cVar 0) cNil) (cCons (cK (.str (mkS [108, 97, 98, 101, 108, 32]))) (cNil)))) (cAsg (cMt .reader c_ReaderNeed (cVar 0) (cCons (cFn c_ReadShown (cCons (cMt .reader c_ReaderPresent (cVar 0) cNil) (cCons (cVar 1) (cNil)))) (cNil))) (cN 9)) (cSkip)) (cSeq (cAsg (cTup (cCons (cVar 8) (cCons (cVar 9) (cNil)))) (cSub (cVar 2) (cVar 4))) (cAsg (cVar 4) (cN 3)))))))))) (cRet (cVar 2)))))
theorem fn_ReadKinds (c : Ctx w K mg) {fd : FuncData} (Df : DefAt K mg "read_kinds" sReadKinds [] [] (He.ga K "read_kinds") fd) : FnOk P w K mg base CX0 11 (He.ga K "read_kinds") fd ["reader", "starts"] (spC K c_ReadKinds) := by
  have nd := scReadKinds.nd
  exact (ok_body Df.F scReadKinds rfl rfl fun cdv A outer s H E hr => q_seq (q_set (i := 2) nd rfl (by first | exact Or.inl rfl | exact Or.inr rfl) (q_newD)) (q_seq (q_set (i := 3) nd rfl (by first | exact Or.inl rfl | exact Or.inr rfl) (q_strL lt_1)) (q_seq (q_while 4 PassesOwn.never (PW.pt (q_or (q_tcmp (op_dl hr.units0) oc_dl (q_v 2) (q_newD)) (q_or1 (q_tv (q_bms PySem.F.plainAttrs_str PySem.F.slot_str_startswith PySem.F.type_str_startswith mt_starts1 mc_starts (q_m0 (C := .reader) (ok_ReaderPresent c) (by decide +kernel) (hr.mono (by decide)) (q_v 0)) (q_cons (q_gsL c.s_KIND lt_13) (q_nil))))))) (q_seq (q_asg (q_bms PySem.F.plainAttrs_str PySem.F.slot_str_partition PySem.F.type_str_partition mt_part1 mc_part (q_slice (q_m0 (C := .reader) (ok_ReaderPresent c) (by decide +kernel) (hr.mono (by decide)) (q_v 0)) (q_pt (q_len c.f_len (q_cons (q_gsL c.s_KIND lt_13) (q_nil)))) q_noP) (q_cons (q_gsL c.s_COLON lt_14) (q_nil))) (q_tp rfl (q_gc (q_gname (i := 4) nd rfl (by first | exact Or.inl rfl | exact Or.inr rfl)) (q_gc (q_gname (i := 5) nd rfl (by first | exact Or.inl rfl | exact Or.inr rfl)) (q_gc (q_gname (i := 6) nd rfl (by first | exact Or.inl rfl | exact Or.inr rfl)) (q_gn)))))) (q_seq (q_set (i := 7) nd rfl (by first | exact Or.inl rfl | exact Or.inr rfl) (q_andV (q_bms PySem.F.plainAttrs_str PySem.F.slot_str_startswith PySem.F.type_str_startswith mt_starts1 mc_starts (q_m0 (C := .reader) (ok_ReaderPresent c) (by decide +kernel) (hr.mono (by decide)) (q_v 0)) (q_cons (q_gsL c.s_KIND lt_13) (q_nil))) (q_andV (q_cmp (op_neU hr.units) oc_ne (q_v 5) (q_strL lt_1)) (pe_one (q_f (ok_IsName c) (hr.mono (by decide)) (q_cons (q_v 4) (q_nil))))))) (q_seq (q_if (PW.pt (q_or (q_not (q_tv (q_v 7))) (q_or (q_tcmp op_leU oc_le (q_v 4) (q_v 3)) (q_or1 (q_tcmp (op_eqU hr.units) oc_eq (q_len c.f_len (q_cons (q_v 2) (q_nil))) (q_gi c.i_MOST_KINDS)))))) (q_one (q_expr (q_m (C := .reader) (ok_ReaderNeed c) (by decide +kernel) (hr.mono (by decide)) (q_v 0) (q_cons (q_non) (q_nil))))) (q_skip)) (q_seq (q_set (i := 8) nd rfl (by first | exact Or.inl rfl | exact Or.inr rfl) (q_m (C := .reader) (ok_ReaderNeed c) (by decide +kernel) (hr.mono (by decide)) (q_v 0) (q_cons (q_f (ok_ReadDeeds c) (hr.mono (by decide)) (q_cons (q_v 6) (q_cons (q_v 1) (q_nil)))) (q_nil)))) (q_seq (q_set (i := 9) nd rfl (by first | exact Or.inl rfl | exact Or.inr rfl) (q_non)) (q_seq (q_if (q_tv (q_bms PySem.F.plainAttrs_str PySem.F.slot_str_startswith PySem.F.type_str_startswith mt_starts1 mc_starts (q_m0 (C := .reader) (ok_ReaderPresent c) (by decide +kernel) (hr.mono (by decide)) (q_v 0)) (q_cons (q_gsL c.s_LABEL lt_16) (q_nil)))) (q_one (q_set (i := 9) nd rfl (by first | exact Or.inl rfl | exact Or.inr rfl) (q_m (C := .reader) (ok_ReaderNeed c) (by decide +kernel) (hr.mono (by decide)) (q_v 0) (q_cons (q_f (ok_ReadShown c) (hr.mono (by decide)) (q_cons (q_m0 (C := .reader) (ok_ReaderPresent c) (by decide +kernel) (hr.mono (by decide)) (q_v 0)) (q_cons (q_v 1) (q_nil)))) (q_nil))))) (q_skip)) (q_seq (q_asg (q_tup (q_cons (q_v 8) (q_cons (q_v 9) (q_nil)))) (q_sub hr.units (q_v 2) (q_v 4))) (q_one (q_set (i := 3) nd rfl (by first | exact Or.inl rfl | exact Or.inr rfl) (q_v 4))))))))))) (q_one (q_ret (q_v 2))))))
theorem ok_ReadKinds (c : Ctx w K mg) : DefOk P w K mg base 11 "read_kinds" [] (spC K c_ReadKinds) := by
  obtain ⟨fd, Df⟩ := c.defReadKinds
  exact ⟨_, fd, ["reader", "starts"], [], Df.g, Df.F.kp, fn_ReadKinds c Df, Df.F.bindsN fun _ _ _ _ _ _ us hl => match us, hl with | [_, _], _ => rfl, .nil⟩
def c_ReadScheme : CF := bodyC 1 8 (cSeq (cAsg (cMk .reader c_ReaderInit [] (cCons (cVar 0) (cNil))) (cN 1)) (cSeq (cAsg (cMt .reader c_ReaderNeed (cVar 1) (cCons (cFn c_ReadStarts (cCons (cMt .reader c_ReaderPresent (cVar 1) cNil) (cNil))) (cNil))) (cN 2)) (cSeq (cAsg (cFn c_ReadKinds (cCons (cVar 1) (cCons (cVar 2) (cNil)))) (cN 3)) (cSeq (cAsg (cMt .reader c_ReaderPresent (cVar 1) cNil) (cN 4)) (cSeq (cAsg (cMt .reader c_ReaderNeed (cVar 1) (cCons (cIfE (cB (cBM true fStarts (cVar 4) (cCons (cK (.str (mkS [98, 101, 103, 105, 110, 115]))) (cNil)))) (cFn c_ReadNames (cCons (cSl (cVar 4) (cPt (cCB fLen (cCons (cK (.str (mkS [98, 101, 103, 105, 110, 115]))) (cNil)))) cNoP) (cCons (cCB fLst (cCons (cVar 3) (cNil))) (cNil)))) (cK .non)) (cNil))) (cN 5)) (cSeq (cAsg (cNewD) (cN 6)) (cSeq (cLock (hV 3) (cFor (cKeys (cVar 3)) (cN 7) (cSeq (cAsg (cMt .reader c_ReaderPresent (cVar 1) cNil) (cN 4)) (cSeq (cAsg (cOp fAdd (cOp fAdd (cK (.str (mkS [97, 102, 116, 101, 114, 32]))) (cVar 7)) (cK (.str (mkS [58])))) (cN 8)) (cAsg (cMt .reader c_ReaderNeed (cVar 1) (cCons (cIfE (cB (cBM true fStarts (cVar 4) (cCons (cVar 8) (cNil)))) (cFn c_ReadNames (cCons (cSl (cVar 4) (cPt (cCB fLen (cCons (cVar 8) (cNil)))) cNoP) (cCons (cCB fLst (cCons (cVar 3) (cNil))) (cNil)))) (cK .non)) (cNil))) (cSub (cVar 6) (cVar 7))))))) (cSeq (cIfS (cB (cOp fLt (cFd .reader 14 (cVar 1)) (cCB fLen (cCons (cFd .reader 13 (cVar 1)) (cNil))))) (cNever) (cSkip)) (cRet (cMkK .scheme c_SchemeInit 2 [0, 1] (cCons (cVar 2) (cCons (cVar 3) (cNil))) (cCons (cVar 6) (cCons (cVar 5) (cNil)))))))))))))
theorem fn_ReadScheme (c : Ctx w K mg) {fd : FuncData} (Df : DefAt K mg "read_scheme" sReadScheme [] [] (He.ga K "read_scheme") fd) : FnOk P w K mg base CX0 13 (He.ga K "read_scheme") fd ["text"] (spC K c_ReadScheme) := by
  have nd := scReadScheme.nd
  exact (ok_body Df.F scReadScheme rfl rfl fun cdv A outer s H E hr => q_seq (q_set (i := 1) nd rfl (by first | exact Or.inl rfl | exact Or.inr rfl) (q_mk (C := .reader) (ds := []) (dvs := []) (fun _ => True.intro) (ok_ReaderInit c) (hr.mono (by decide)) (q_cons (q_v 0) (q_nil)))) (q_seq (q_set (i := 2) nd rfl (by first | exact Or.inl rfl | exact Or.inr rfl) (q_m (C := .reader) (ok_ReaderNeed c) (by decide +kernel) (hr.mono (by decide)) (q_v 1) (q_cons (q_f (ok_ReadStarts c) (hr.mono (by decide)) (q_cons (q_m0 (C := .reader) (ok_ReaderPresent c) (by decide +kernel) (hr.mono (by decide)) (q_v 1)) (q_nil))) (q_nil)))) (q_seq (q_set (i := 3) nd rfl (by first | exact Or.inl rfl | exact Or.inr rfl) (q_f (ok_ReadKinds c) (hr.mono (by decide)) (q_cons (q_v 1) (q_cons (q_v 2) (q_nil))))) (q_seq (q_set (i := 4) nd rfl (by first | exact Or.inl rfl | exact Or.inr rfl) (q_m0 (C := .reader) (ok_ReaderPresent c) (by decide +kernel) (hr.mono (by decide)) (q_v 1))) (q_seq (q_set (i := 5) nd rfl (by first | exact Or.inl rfl | exact Or.inr rfl) (q_m (C := .reader) (ok_ReaderNeed c) (by decide +kernel) (hr.mono (by decide)) (q_v 1) (q_cons (q_ifE (q_tv (q_bms PySem.F.plainAttrs_str PySem.F.slot_str_startswith PySem.F.type_str_startswith mt_starts1 mc_starts (q_v 4) (q_cons (q_gsL c.s_BEGINS lt_17) (q_nil)))) (q_f (ok_ReadNames c) (hr.mono (by decide)) (q_cons (q_slice (q_v 4) (q_pt (q_len c.f_len (q_cons (q_gsL c.s_BEGINS lt_17) (q_nil)))) q_noP) (q_cons (q_list rfl c.f_list (q_cons (q_v 3) (q_nil))) (q_nil)))) (q_non)) (q_nil)))) (q_seq (q_set (i := 6) nd rfl (by first | exact Or.inl rfl | exact Or.inr rfl) (q_newD)) (q_seq (q_lock (q_for PassesOwn.never rfl (q_keys (q_v 3)) (q_gname (i := 7) nd rfl (by first | exact Or.inl rfl | exact Or.inr rfl)) (q_seq (q_set (i := 4) nd rfl (by first | exact Or.inl rfl | exact Or.inr rfl) (q_m0 (C := .reader) (ok_ReaderPresent c) (by decide +kernel) (hr.mono (by decide)) (q_v 1))) (q_seq (q_set (i := 8) nd rfl (by first | exact Or.inl rfl | exact Or.inr rfl) (q_add (q_add (q_gsL c.s_AFTER lt_18) (q_v 7)) (q_gsL c.s_COLON lt_14))) (q_one (q_asg (q_m (C := .reader) (ok_ReaderNeed c) (by decide +kernel) (hr.mono (by decide)) (q_v 1) (q_cons (q_ifE (q_tv (q_bms PySem.F.plainAttrs_str PySem.F.slot_str_startswith PySem.F.type_str_startswith mt_starts1 mc_starts (q_v 4) (q_cons (q_v 8) (q_nil)))) (q_f (ok_ReadNames c) (hr.mono (by decide)) (q_cons (q_slice (q_v 4) (q_pt (q_len c.f_len (q_cons (q_v 8) (q_nil)))) q_noP) (q_cons (q_list rfl c.f_list (q_cons (q_v 3) (q_nil))) (q_nil)))) (q_non)) (q_nil))) (q_sub hr.units (q_v 6) (q_v 7)))))))) (q_seq (q_if (q_tcmp op_lt oc_lt (q_fd c.clReader 14 (by decide +kernel) c.nReader_at (q_v 1)) (q_len c.f_len (q_cons (q_fd c.clReader 13 (by decide +kernel) c.nReader_lines (q_v 1)) (q_nil)))) (q_one (q_never)) (q_skip)) (q_one (q_ret (q_mkK (C := .scheme) c.g_Scheme c.mkScheme 2 (kw_SchemeInit_01 c) (hr.mono (by decide)) (q_cons (q_v 2) (q_cons (q_v 3) (q_nil))) (q_kc (q_v 6) (q_kc (q_v 5) (q_k0))) (hl := len_cons (len_cons (len_nil))))))))))))))
theorem ok_ReadScheme (c : Ctx w K mg) : DefOk P w K mg base 13 "read_scheme" [] (spC K c_ReadScheme) := by
  obtain ⟨fd, Df⟩ := c.defReadScheme
  exact ⟨_, fd, ["text"], [], Df.g, Df.F.kp, fn_ReadScheme c Df, Df.F.bindsN fun _ _ _ _ _ _ us hl => match us, hl with | [_], _ => rfl, .nil⟩
theorem kp_ReadScheme (c : Ctx w K mg) : PySem.W.keepIn K (.ref (He.ga K "read_scheme")) = true := (c.defReadScheme).elim fun _ D => D.F.kp
theorem kw_ReadScheme_0 (c : Ctx w K mg) : FnK P w K mg base 13 0 ["text"] [0] (He.ga K "read_scheme") (spC K c_ReadScheme) := by
  obtain ⟨fd, Df⟩ := c.defReadScheme
  exact ⟨fd, _, _, fn_ReadScheme c Df, K95.FunD.kbP (ps := ["text"]) Df.F 0 ["text"] [0] fun kV doc pm an cdv ct us ws l1 l2 => match us, ws, l1, l2 with | [], [_], _, _ => rfl⟩
end
end
end K95
set_option maxRecDepth 100000
set_option maxHeartbeats 4000000
set_option pp.deepTerms false
set_option pp.maxSteps 600
namespace K95
open PySem PySem.Spec PyProof.Rows L2
noncomputable section
variable [Nu]
section
variable {P : Program} {w : World} {K : PySem.W.Frag} {mg : Str → Option Value} {base : Heap}

def c_LawOfLabels0 : CF := bodyC 4 3 (cSeq (cAsg (cMkK .label c_LabelInit 3 [2, 1, 0] cNil (cCons (cLst (cCons (cK (.str (mkS [46]))) (cNil))) (cCons (cLst (cCons (cTup (cCons (cVar 1) (cCons (cK (.str (mkS [102, 105, 103, 117, 114, 101, 115]))) (cNil)))) (cCons (cTup (cCons (cK (.str (mkS [113]))) (cCons (cK (.str (mkS [108, 101, 116, 116, 101, 114, 115]))) (cNil)))) (cNil)))) (cCons (cK (.str (mkS [65, 32]))) (cNil))))) (cN 4)) (cSeq (cIfS (cOrT (cB (cOp (fOwn .label c_LabelEq true) (cVar 4) (cMk .label c_LabelInit [] (cCons (cK (.str (mkS [65, 32]))) (cCons (cLst (cCons (cTup (cCons (cVar 1) (cCons (cK (.str (mkS [102, 105, 103, 117, 114, 101, 115]))) (cNil)))) (cCons (cTup (cCons (cK (.str (mkS [113]))) (cCons (cK (.str (mkS [108, 101, 116, 116, 101, 114, 115]))) (cNil)))) (cNil)))) (cCons (cLst (cCons (cK (.str (mkS [46]))) (cNil))) (cNil))))))) (cB (cOp fIsNotB (cMtK .label c_LabelSameForm 1 [0] (cVar 4) (cCons (cVar 4) (cNil))) (cK (.bl true))))) (cRet (cK (.bl false))) (cSkip)) (cSeq (cAsg (cDisp (cPC (cK (.str (mkS [113]))) (cK (.int 2)) (cPC (cVar 1) (cK (.int 3)) (cP0)))) (cN 5)) (cSeq (cIfS (cOrT (cB (cOp (fEq true) (cMtK .label c_LabelOf 1 [0] (cVar 4) (cCons (cVar 5) (cNil))) (cMt .label c_LabelOf (cVar 4) (cCons (cVar 5) (cNil))))) (cOrT (cB (cOp (fDq2 c_LabelEq0 true) (cMtK .label c_LabelRead 1 [0] (cVar 4) (cCons (cK (.str (mkS [65, 32, 51, 46, 98]))) (cNil))) (cVar 5))) (cB (cOp (fOwn .label c_LabelEq true) (cFnK c_ReadLabel 1 [0] (cCons (cMt .label c_LabelText (cVar 4) cNil) (cNil))) (cVar 4))))) (cRet (cK (.bl false))) (cSkip)) (cSeq (cAsg (cMkK .action c_ActionInit 1 [0] cNil (cCons (cDisp (cPC (cVar 1) (cTup (cCons (cK (.str (mkS [97, 100, 100]))) (cCons (cK (.int 2)) (cNil)))) (cP0))) (cNil))) (cN 6)) (cSeq (cIfS (cOrT (cB (cOp (fOwn .action c_ActionEq true) (cVar 6) (cMk .action c_ActionInit [] (cCons (cDisp (cPC (cVar 1) (cTup (cCons (cK (.str (mkS [97, 100, 100]))) (cCons (cK (.int 2)) (cNil)))) (cP0))) (cNil))))) (cB (cOp (fDq2 c_LabelEq0 true) (cMtK .action c_ActionOf 1 [0] (cVar 6) (cCons (cVar 5) (cNil))) (cMt .action c_ActionOf (cVar 6) (cCons (cVar 5) (cNil)))))) (cRet (cK (.bl false))) (cSkip)) (cSeq (cIfS (cOrT (cB (cOp (fEq true) (cFnK c_SchemeText 1 [0] (cCons (cVar 0) (cNil))) (cFn c_SchemeText (cCons (cVar 0) (cNil))))) (cB (cOp (fOwn .scheme c_SchemeEq true) (cFnK c_ReadScheme 1 [0] (cCons (cFn c_SchemeText (cCons (cVar 0) (cNil))) (cNil))) (cVar 0)))) (cRet (cK (.bl false))) (cSkip)) (cRet (cAndV (cOp (fOwn .action c_ActionEq false) (cFnK c_KindAction 2 [1, 0] (cCons (cVar 2) (cCons (cVar 0) (cNil)))) (cFn c_KindAction (cCons (cVar 0) (cCons (cVar 2) (cNil))))) (cOp (fOwn .action c_ActionEq false) (cFnK c_ActOf 2 [1, 0] (cCons (cVar 3) (cCons (cVar 0) (cNil)))) (cFn c_ActOf (cCons (cVar 0) (cCons (cVar 3) (cNil))))))))))))))
def c_LawOfLabels : CF := fgF c_LawOfLabels0
theorem fn_LawOfLabels (c : Ctx w K mg) {fd : FuncData} (Df : DefAt K mg "_law_of_labels" sLawOfLabels [] [] (He.ga K "_law_of_labels") fd) : FnOk P w K mg base CX0 15 (He.ga K "_law_of_labels") fd ["_law_s", "_law_c", "_law_k", "_law_d"] (spC K c_LawOfLabels) := by
  have nd := scLawOfLabels.nd
  exact FnOk.spc_fg (ok_body Df.F scLawOfLabels rfl rfl fun cdv A outer s H E hr => q_seq (q_set (i := 4) nd rfl (by first | exact Or.inl rfl | exact Or.inr rfl) (q_mkK0 (C := .label) c.g_Label c.mkLabel (kw_LabelInit_210 c) (hr.mono (by decide)) (q_kc (q_lst (q_cons (q_strL lt_21) (q_nil))) (q_kc (q_lst (q_cons (q_tup (q_cons (q_v 1) (q_cons (q_strL lt_7) (q_nil)))) (q_cons (q_tup (q_cons (q_strL lt_20) (q_cons (q_strL lt_6) (q_nil)))) (q_nil)))) (q_kc (q_strL lt_19) (q_k0)))))) (q_seq (q_if (PW.pt (q_or (q_tcmp (op_ownNe (ok_LabelEq c) (Ctx.ne_of c.e2.1) (fun f M => meth_uni M c.mLabel_eq) (hr.mono (by decide))) (oc_own (C := .label)) (q_v 4) (q_mk (C := .label) (ds := []) (dvs := []) (fun _ => True.intro) (ok_LabelInit c) (hr.mono (by decide)) (q_cons (q_strL lt_19) (q_cons (q_lst (q_cons (q_tup (q_cons (q_v 1) (q_cons (q_strL lt_7) (q_nil)))) (q_cons (q_tup (q_cons (q_strL lt_20) (q_cons (q_strL lt_6) (q_nil)))) (q_nil)))) (q_cons (q_lst (q_cons (q_strL lt_21) (q_nil))) (q_nil)))))) (q_or1 (q_tcmp op_notBl oc_notB (q_mK (C := .label) c.clLabel c.mLabel_same_form (kw_LabelSameForm_0 c) (by decide +kernel) (hr.mono (by decide)) (q_v 4) (q_kc (q_v 4) (q_k0))) (q_bl))))) (q_one (q_ret (q_bl))) (q_skip)) (q_seq (q_set (i := 5) nd rfl (by first | exact Or.inl rfl | exact Or.inr rfl) (q_disp (q_pc (q_strL lt_20) (q_int) (q_pc (q_v 1) (q_int) (q_p0))))) (q_seq (q_if (PW.pt (q_or (q_tcmp (op_neU hr.units) oc_ne (q_mK (C := .label) c.clLabel c.mLabel_of (kw_LabelOf_0 c) (by decide +kernel) (hr.mono (by decide)) (q_v 4) (q_kc (q_v 5) (q_k0))) (q_m (C := .label) (ok_LabelOf c) (by decide +kernel) (hr.mono (by decide)) (q_v 4) (q_cons (q_v 5) (q_nil)))) (q_or (q_tcmp (op_dq2 (.inr ⟨rfl, rfl⟩) (ok_LabelEq c) (hr.mono (by decide))) oc_dq2 (q_mK (C := .label) c.clLabel c.mLabel_read (kw_LabelRead_0 c) (by decide +kernel) (hr.mono (by decide)) (q_v 4) (q_kc (q_strL lt_22) (q_k0))) (q_v 5)) (q_or1 (q_tcmp (op_ownNe (ok_LabelEq c) (Ctx.ne_of c.e2.1) (fun f M => meth_uni M c.mLabel_eq) (hr.mono (by decide))) (oc_own (C := .label)) (q_fK c.g_read_label (kp_ReadLabel c) (kw_ReadLabel_0 c) (hr.mono (by decide)) (q_kc (q_m0 (C := .label) (ok_LabelText c) (by decide +kernel) (hr.mono (by decide)) (q_v 4)) (q_k0))) (q_v 4)))))) (q_one (q_ret (q_bl))) (q_skip)) (q_seq (q_set (i := 6) nd rfl (by first | exact Or.inl rfl | exact Or.inr rfl) (q_mkK0 (C := .action) c.g_Action c.mkAction (kw_ActionInit_0 c) (hr.mono (by decide)) (q_kc (q_disp (q_pc (q_v 1) (q_tup (q_cons (q_strL lt_8) (q_cons (q_int) (q_nil)))) (q_p0))) (q_k0)))) (q_seq (q_if (PW.pt (q_or (q_tcmp (op_ownNe (ok_ActionEq c) (Ctx.ne_of c.e2.2.2) (fun f M => meth_uni M c.mAction_eq) (hr.mono (by decide))) (oc_own (C := .action)) (q_v 6) (q_mk (C := .action) (ds := []) (dvs := []) (fun _ => True.intro) (ok_ActionInit c) (hr.mono (by decide)) (q_cons (q_disp (q_pc (q_v 1) (q_tup (q_cons (q_strL lt_8) (q_cons (q_int) (q_nil)))) (q_p0))) (q_nil)))) (q_or1 (q_tcmp (op_dq2 (.inr ⟨rfl, rfl⟩) (ok_LabelEq c) (hr.mono (by decide))) oc_dq2 (q_mK (C := .action) c.clAction c.mAction_of (kw_ActionOf_0 c) (by decide +kernel) (hr.mono (by decide)) (q_v 6) (q_kc (q_v 5) (q_k0))) (q_m (C := .action) (ok_ActionOf c) (by decide +kernel) (hr.mono (by decide)) (q_v 6) (q_cons (q_v 5) (q_nil))))))) (q_one (q_ret (q_bl))) (q_skip)) (q_seq (q_if (PW.pt (q_or (q_tcmp (op_neU hr.units) oc_ne (q_fK c.g_scheme_text (kp_SchemeText c) (kw_SchemeText_0 c) (hr.mono (by decide)) (q_kc (q_v 0) (q_k0))) (q_f (ok_SchemeText c) (hr.mono (by decide)) (q_cons (q_v 0) (q_nil)))) (q_or1 (q_tcmp (op_ownNe (ok_SchemeEq c) (Ctx.ne_of c.e2.2.1) (fun f M => meth_uni M c.mScheme_eq) (hr.mono (by decide))) (oc_own (C := .scheme)) (q_fK c.g_read_scheme (kp_ReadScheme c) (kw_ReadScheme_0 c) (hr.mono (by decide)) (q_kc (q_f (ok_SchemeText c) (hr.mono (by decide)) (q_cons (q_v 0) (q_nil))) (q_k0))) (q_v 0))))) (q_one (q_ret (q_bl))) (q_skip)) (q_one (q_ret (q_andV (q_cmp (op_ownEq (ok_ActionEq c) (hr.mono (by decide))) (oc_own (C := .action)) (q_fK c.g_kind_action (kp_KindAction c) (kw_KindAction_10 c) (hr.mono (by decide)) (q_kc (q_v 2) (q_kc (q_v 0) (q_k0)))) (q_f (ok_KindAction c) (hr.mono (by decide)) (q_cons (q_v 0) (q_cons (q_v 2) (q_nil))))) (pe_one (q_cmp (op_ownEq (ok_ActionEq c) (hr.mono (by decide))) (oc_own (C := .action)) (q_fK c.g_action_of (kp_ActOf c) (kw_ActOf_10 c) (hr.mono (by decide)) (q_kc (q_v 3) (q_kc (q_v 0) (q_k0)))) (q_f (ok_ActOf c) (hr.mono (by decide)) (q_cons (q_v 0) (q_cons (q_v 3) (q_nil))))))))))))))))
theorem ok_LawOfLabels (c : Ctx w K mg) : DefOk P w K mg base 15 "_law_of_labels" [] (spC K c_LawOfLabels) := by
  obtain ⟨fd, Df⟩ := c.defLawOfLabels
  exact ⟨_, fd, ["_law_s", "_law_c", "_law_k", "_law_d"], [], Df.g, Df.F.kp, fn_LawOfLabels c Df, Df.F.bindsN fun _ _ _ _ _ _ us hl => match us, hl with | [_, _, _, _], _ => rfl, .nil⟩
def c_LawOfManuscripts0 : CF := bodyC 3 1 (cSeq (cAsg (cMkK .manuscript c_ManuscriptInit 1 [0] cNil (cCons (cVar 0) (cNil))) (cN 3)) (cSeq (cIfS (cOrT (cB (cIsN true (cMtK .manuscript c_ManuscriptPut 3 [1, 0, 2] (cVar 3) (cCons (cVar 1) (cCons (cK (.int 0)) (cCons (cK (.str (mkS [111, 110, 101]))) (cNil))))))) (cB (cIsN true (cMtK .manuscript c_ManuscriptPut 3 [2, 1, 0] (cVar 3) (cCons (cK (.str (mkS [116, 119, 111]))) (cCons (cVar 2) (cCons (cK (.int 1)) (cNil)))))))) (cRet (cK (.bl false))) (cSkip)) (cSeq (cDrop (cMtK .manuscript c_ManuscriptPut 3 [1, 2, 0] (cVar 3) (cCons (cK .non) (cCons (cK (.int 2)) (cCons (cVar 1) (cNil)))))) (cSeq (cIfS (cOrT (cB (cOp (fEq true) (cMtK .manuscript c_ManuscriptLabelOf 1 [0] (cVar 3) (cCons (cK (.str (mkS [116, 119, 111]))) (cNil))) (cMt .manuscript c_ManuscriptLabelOf (cVar 3) (cCons (cK (.str (mkS [116, 119, 111]))) (cNil))))) (cB (cOp (fEq true) (cMtK .manuscript c_ManuscriptPlaceOf 1 [0] (cVar 3) (cCons (cK (.str (mkS [116, 119, 111]))) (cNil))) (cK (.int 1))))) (cRet (cK (.bl false))) (cSkip)) (cSeq (cIfS (cOrT (cB (cOp (fEq true) (cMtK .manuscript c_ManuscriptTold 1 [0] (cVar 3) (cCons (cK (.str (mkS [123, 116, 119, 111, 125]))) (cNil))) (cMt .manuscript c_ManuscriptTold (cVar 3) (cCons (cK (.str (mkS [123, 116, 119, 111, 125]))) (cNil))))) (cB (cIsN true (cMtK .manuscript c_ManuscriptMove 2 [1, 0] (cVar 3) (cCons (cK (.int 0)) (cCons (cK (.int 2)) (cNil))))))) (cRet (cK (.bl false))) (cSkip)) (cSeq (cIfS (cOrT (cB (cIsN true (cMtK .manuscript c_ManuscriptRekey 2 [1, 0] (cVar 3) (cCons (cK (.str (mkS [116, 104, 114, 101, 101]))) (cCons (cK (.int 0)) (cNil)))))) (cB (cOp (fEq true) (cMtK .manuscript c_ManuscriptTried 1 [0] (cVar 3) (cCons (cK (.fn "_law_length")) (cNil))) (cK (.int 3))))) (cRet (cK (.bl false))) (cSkip)) (cSeq (cIfS (cOrT (cB (cOp (fEq true) (cMt .manuscript c_ManuscriptParts (cVar 3) cNil) (cLst (cCons (cTup (cCons (cVar 1) (cCons (cK (.str (mkS [116, 104, 114, 101, 101]))) (cNil)))) (cCons (cTup (cCons (cVar 1) (cCons (cK (.str (mkS [111, 110, 101]))) (cNil)))) (cCons (cTup (cCons (cVar 2) (cCons (cK (.str (mkS [116, 119, 111]))) (cNil)))) (cNil))))))) (cB (cIsN true (cMtK .manuscript c_ManuscriptExchange 1 [0] (cVar 3) (cCons (cK (.int 1)) (cNil)))))) (cRet (cK (.bl false))) (cSkip)) (cSeq (cDrop (cMtK .manuscript c_ManuscriptExchange 1 [0] (cVar 3) (cCons (cK (.int 1)) (cNil)))) (cRet (cAndV (cIsN false (cMtK .manuscript c_ManuscriptDrop 1 [0] (cVar 3) (cCons (cK (.int 2)) (cNil)))) (cAndV (cOp (fEq false) (cMt .manuscript c_ManuscriptDocument (cVar 3) cNil) (cLst (cCons (cVar 1) (cCons (cVar 1) (cNil))))) (cAndV (cIsN false (cMt .manuscript c_ManuscriptUndo (cVar 3) cNil)) (cOp (fEq false) (cCB (fLenO .manuscript c_ManuscriptLen) (cCons (cVar 3) (cNil))) (cK (.int 3)))))))))))))))
def c_LawOfManuscripts : CF := fgF c_LawOfManuscripts0
theorem fn_LawOfManuscripts (c : Ctx w K mg) {fd : FuncData} (Df : DefAt K mg "_law_of_manuscripts" sLawOfManuscripts [] [] (He.ga K "_law_of_manuscripts") fd) : FnOk P w K mg base CX0 22 (He.ga K "_law_of_manuscripts") fd ["_law_s", "_law_k", "_law_j"] (spC K c_LawOfManuscripts) := by
  have nd := scLawOfManuscripts.nd
  exact FnOk.spc_fg (ok_body Df.F scLawOfManuscripts rfl rfl fun cdv A outer s H E hr => q_seq (q_set (i := 3) nd rfl (by first | exact Or.inl rfl | exact Or.inr rfl) (q_mkK0 (C := .manuscript) c.g_Manuscript c.mkManuscript (kw_ManuscriptInit_0 c) (hr.mono (by decide)) (q_kc (q_v 0) (q_k0)))) (q_seq (q_if (PW.pt (q_or (q_tnotN (q_mK (C := .manuscript) c.clManuscript c.mManuscript_put (kw_ManuscriptPut_102 c) (by decide +kernel) (hr.mono (by decide)) (q_v 3) (q_kc (q_v 1) (q_kc (q_int) (q_kc (q_strL lt_24) (q_k0)))))) (q_or1 (q_tnotN (q_mK (C := .manuscript) c.clManuscript c.mManuscript_put (kw_ManuscriptPut_210 c) (by decide +kernel) (hr.mono (by decide)) (q_v 3) (q_kc (q_strL lt_23) (q_kc (q_v 2) (q_kc (q_int) (q_k0))))))))) (q_one (q_ret (q_bl))) (q_skip)) (q_seq (q_expr (q_mK (C := .manuscript) c.clManuscript c.mManuscript_put (kw_ManuscriptPut_120 c) (by decide +kernel) (hr.mono (by decide)) (q_v 3) (q_kc (q_non) (q_kc (q_int) (q_kc (q_v 1) (q_k0)))))) (q_seq (q_if (PW.pt (q_or (q_tcmp (op_neU hr.units) oc_ne (q_mK (C := .manuscript) c.clManuscript c.mManuscript_label_of (kw_ManuscriptLabelOf_0 c) (by decide +kernel) (hr.mono (by decide)) (q_v 3) (q_kc (q_strL lt_23) (q_k0))) (q_m (C := .manuscript) (ok_ManuscriptLabelOf c) (by decide +kernel) (hr.mono (by decide)) (q_v 3) (q_cons (q_strL lt_23) (q_nil)))) (q_or1 (q_tcmp (op_neU hr.units) oc_ne (q_mK (C := .manuscript) c.clManuscript c.mManuscript_place_of (kw_ManuscriptPlaceOf_0 c) (by decide +kernel) (hr.mono (by decide)) (q_v 3) (q_kc (q_strL lt_23) (q_k0))) (q_int))))) (q_one (q_ret (q_bl))) (q_skip)) (q_seq (q_if (PW.pt (q_or (q_tcmp (op_neU hr.units) oc_ne (q_mK (C := .manuscript) c.clManuscript c.mManuscript_told (kw_ManuscriptTold_0 c) (by decide +kernel) (hr.mono (by decide)) (q_v 3) (q_kc (q_strL lt_25) (q_k0))) (q_m (C := .manuscript) (ok_ManuscriptTold c) (by decide +kernel) (hr.mono (by decide)) (q_v 3) (q_cons (q_strL lt_25) (q_nil)))) (q_or1 (q_tnotN (q_mK (C := .manuscript) c.clManuscript c.mManuscript_move (kw_ManuscriptMove_10 c) (by decide +kernel) (hr.mono (by decide)) (q_v 3) (q_kc (q_int) (q_kc (q_int) (q_k0)))))))) (q_one (q_ret (q_bl))) (q_skip)) (q_seq (q_if (PW.pt (q_or (q_tnotN (q_mK (C := .manuscript) c.clManuscript c.mManuscript_rekey (kw_ManuscriptRekey_10 c) (by decide +kernel) (hr.mono (by decide)) (q_v 3) (q_kc (q_strL lt_26) (q_kc (q_int) (q_k0))))) (q_or1 (q_tcmp (op_neU hr.units) oc_ne (q_mK (C := .manuscript) c.clManuscript c.mManuscript_tried (kw_ManuscriptTried_0 c) (by decide +kernel) (hr.mono (by decide)) (q_v 3) (q_kc (PE.imp (pe_gr c.g__law_length) fun _ _ _ d => i_k (x := VV.fn "_law_length") (fun _ => rfl) d) (q_k0))) (q_int))))) (q_one (q_ret (q_bl))) (q_skip)) (q_seq (q_if (PW.pt (q_or (q_tcmp (op_neU hr.units) oc_ne (q_m0 (C := .manuscript) (ok_ManuscriptParts c) (by decide +kernel) (hr.mono (by decide)) (q_v 3)) (q_lst (q_cons (q_tup (q_cons (q_v 1) (q_cons (q_strL lt_26) (q_nil)))) (q_cons (q_tup (q_cons (q_v 1) (q_cons (q_strL lt_24) (q_nil)))) (q_cons (q_tup (q_cons (q_v 2) (q_cons (q_strL lt_23) (q_nil)))) (q_nil)))))) (q_or1 (q_tnotN (q_mK (C := .manuscript) c.clManuscript c.mManuscript_exchange (kw_ManuscriptExchange_0 c) (by decide +kernel) (hr.mono (by decide)) (q_v 3) (q_kc (q_int) (q_k0))))))) (q_one (q_ret (q_bl))) (q_skip)) (q_seq (q_expr (q_mK (C := .manuscript) c.clManuscript c.mManuscript_exchange (kw_ManuscriptExchange_0 c) (by decide +kernel) (hr.mono (by decide)) (q_v 3) (q_kc (q_int) (q_k0)))) (q_one (q_ret (q_andV (q_isN (q_mK (C := .manuscript) c.clManuscript c.mManuscript_drop (kw_ManuscriptDrop_0 c) (by decide +kernel) (hr.mono (by decide)) (q_v 3) (q_kc (q_int) (q_k0)))) (q_andV (q_cmp (op_eqU hr.units) oc_eq (q_m0 (C := .manuscript) (ok_ManuscriptDocument c) (by decide +kernel) (hr.mono (by decide)) (q_v 3)) (q_lst (q_cons (q_v 1) (q_cons (q_v 1) (q_nil))))) (q_andV (q_isN (q_m0 (C := .manuscript) (ok_ManuscriptUndo c) (by decide +kernel) (hr.mono (by decide)) (q_v 3))) (pe_one (q_cmp (op_eqU hr.units) oc_eq (q_lenO (C := .manuscript) (ok_ManuscriptLen c) (hr.mono (by decide)) c.f_len (q_cons (q_v 3) (q_nil))) (q_int))))))))))))))))
theorem ok_LawOfManuscripts (c : Ctx w K mg) : DefOk P w K mg base 22 "_law_of_manuscripts" [] (spC K c_LawOfManuscripts) := by
  obtain ⟨fd, Df⟩ := c.defLawOfManuscripts
  exact ⟨_, fd, ["_law_s", "_law_k", "_law_j"], [], Df.g, Df.F.kp, fn_LawOfManuscripts c Df, Df.F.bindsN fun _ _ _ _ _ _ us hl => match us, hl with | [_, _, _], _ => rfl, .nil⟩
end
end
end K95
set_option maxRecDepth 100000
set_option maxHeartbeats 4000000
set_option pp.deepTerms false
set_option pp.maxSteps 600
namespace K95
open PySem PySem.Spec PyProof.Rows L2
noncomputable section
variable [Nu]
section
variable {P : Program} {w : World} {K : PySem.W.Frag} {mg : Str → Option Value} {base : Heap}

def c_LawRest : CS := cSeq (cAsg (cOp fIx (cLst (cCons (cK (.str (mkS [97]))) (cCons (cK (.str (mkS [122, 122]))) (cCons (cK (.str (mkS [99, 104, 97, 112, 116, 101, 114]))) (cNil))))) (cFn c_LawPick (cCons (cVar 1) (cCons (cK (.int 3)) (cNil))))) (cN 2)) (cSeq (cAsg (cOp fIx (cLst (cCons (cK (.str (mkS [112, 97, 114, 116]))) (cCons (cK (.str (mkS [122]))) (cCons (cK (.str (mkS [102, 105, 103]))) (cNil))))) (cFn c_LawPick (cCons (cVar 1) (cCons (cK (.int 3)) (cNil))))) (cN 3)) (cSeq (cAsg (cOp fIx (cLst (cCons (cK (.str (mkS [109, 111, 114, 101]))) (cCons (cK (.str (mkS [98]))) (cNil)))) (cFn c_LawPick (cCons (cVar 1) (cCons (cK (.int 2)) (cNil))))) (cN 4)) (cSeq (cAsg (cDisp (cPC (cVar 3) (cTup (cCons (cLst (cCons (cTup (cCons (cK (.str (mkS [97, 100, 100]))) (cCons (cVar 2) (cCons (cOp fAdd (cK (.int 1)) (cFn c_LawPick (cCons (cVar 1) (cCons (cK (.int 3)) (cNil))))) (cNil))))) (cNil))) (cCons (cMk .label c_LabelInit [] (cCons (cK (.str (mkS []))) (cCons (cLst (cCons (cTup (cCons (cVar 2) (cCons (cK (.str (mkS [102, 105, 103, 117, 114, 101, 115]))) (cNil)))) (cCons (cTup (cCons (cK (.str (mkS [113]))) (cCons (cK (.str (mkS [108, 101, 116, 116, 101, 114, 115]))) (cNil)))) (cNil)))) (cCons (cLst (cCons (cK (.str (mkS [46]))) (cNil))) (cNil))))) (cNil)))) (cP0))) (cN 5)) (cSeq (cAsg (cTup (cCons (cLst (cCons (cTup (cCons (cK (.str (mkS [115, 101, 116]))) (cCons (cK (.str (mkS [113]))) (cCons (cFn c_LawPick (cCons (cVar 1) (cCons (cK (.int 9)) (cNil)))) (cNil))))) (cCons (cTup (cCons (cK (.str (mkS [97, 100, 100]))) (cCons (cVar 2) (cCons (cK (.int 1)) (cNil))))) (cNil)))) (cCons (cMk .label c_LabelInit [.kt] (cCons (cK (.str (mkS [65, 32]))) (cCons (cLst (cCons (cTup (cCons (cVar 2) (cCons (cK (.str (mkS [102, 105, 103, 117, 114, 101, 115]))) (cNil)))) (cNil))) (cNil)))) (cNil)))) (cSub (cVar 5) (cVar 4))) (cSeq (cAsg (cMkK .scheme c_SchemeInit 2 [0, 1] (cCons (cDisp (cPC (cK (.str (mkS [113]))) (cFn c_LawPick (cCons (cVar 1) (cCons (cK (.int 3)) (cNil)))) (cPC (cVar 2) (cK (.int 0)) (cP0)))) (cCons (cVar 5) (cNil))) (cCons (cDisp (cPC (cVar 3) (cLst (cCons (cVar 4) (cCons (cVar 3) (cNil)))) (cPC (cVar 4) (cLst (cCons (cVar 3) (cNil))) (cP0)))) (cCons (cLst (cCons (cVar 3) (cNil))) (cNil)))) (cN 6)) (cSeq (cAsg (cSl (cLst (cCons (cVar 3) (cCons (cVar 4) (cCons (cVar 3) (cNil))))) cNoP (cPt (cOp fAdd (cK (.int 1)) (cFn c_LawPick (cCons (cVar 1) (cCons (cK (.int 3)) (cNil))))))) (cN 7)) (cRet (cAndV (cFn c_LawOfLabels (cCons (cVar 6) (cCons (cVar 2) (cCons (cVar 3) (cCons (cVar 7) (cNil)))))) (cFn c_LawOfManuscripts (cCons (cVar 6) (cCons (cVar 3) (cCons (cVar 4) (cNil)))))))))))))
def tp0 (l : List (Nat × VV)) : VH := ⟨1, .n (some (.tape l)) .e .e⟩
def en0 (a : Addr) : En := [some (.adr a), some (.ref 0), none, none, none, none, none, none]
def isTr (o : Option Fl) : Bool := match o with
  | some (.rt (.bl b) _) => b
  | _ => false
def spLaw (K : PySem.W.Frag) : Sp := fun vs H Q _ => ∃ (a : Addr) (ns : List Int) (l : List (Nat × VV)), vs = [.ref a] ∧ SqL K H a (ns.map V.int) ∧ NoT H ∧ Tp (cell0 ns) 104729 l ∧ isTr (c_LawRest 0 (en0 a) (tp0 l)) = true ∧ ∀ H', Q (.bl true) H'
theorem sim0 {H : Hp} {p : Addr} {x y : Int} {l : List (Nat × VV)} (n : NoT H) (t : Tp x y l) : Sim K [p] (tp0 l) (upd H p (.lst [.int x, .int y])) := by
  refine ⟨rfl, by simp, fun i o e => ?_, n.upd True.intro, fun i b e => ?_⟩
  · have e : Tr.get (.n (some (.tape l)) .e .e) i = some o := e
    rw [Tr.get_n] at e
    split at e
    · rename_i q
      subst q
      cases e
      exact ⟨p, rfl, x, y, upd_same, t⟩
    · split at e <;> cases e
  · cases i with
    | zero => cases e; exact ⟨_, upd_same⟩
    | succ i => cases e
theorem fn_Law (c : Ctx w K mg) {fd : FuncData} (Df : DefAt K mg "law" sLaw [] [] (He.ga K "law") fd) : FnOk P w K mg base CX0 24 (He.ga K "law") fd ["_law_script"] (spLaw K) := by
  have nd := scLaw.nd
  refine ok0 Df.F scLaw (fun vs H Q E h => ?_) (fun cdv A outer s H vs Q E hr h => ?_)
  · obtain ⟨a, ns, l, rfl, _⟩ := h
    rfl
  · refine ⟨_, pss_cons (ps_set (i := 1) nd rfl (Or.inl rfl) (pe_f (ok_tape0 c) (hr.mono (by decide)) (pa_cons (pv 0) (pa_cons pe_int pa_nil)))) (q_seq (q_set (i := 2) nd rfl (by first | exact Or.inl rfl | exact Or.inr rfl) (q_ix hr.units (q_lst (q_cons (q_strL lt_29) (q_cons (q_strL lt_28) (q_cons (q_strL lt_27) (q_nil))))) (q_f (ok_LawPick c) (hr.mono (by decide)) (q_cons (q_v 1) (q_cons (q_int) (q_nil)))) (fun _ _ => rfl))) (q_seq (q_set (i := 3) nd rfl (by first | exact Or.inl rfl | exact Or.inr rfl) (q_ix hr.units (q_lst (q_cons (q_strL lt_32) (q_cons (q_strL lt_31) (q_cons (q_strL lt_30) (q_nil))))) (q_f (ok_LawPick c) (hr.mono (by decide)) (q_cons (q_v 1) (q_cons (q_int) (q_nil)))) (fun _ _ => rfl))) (q_seq (q_set (i := 4) nd rfl (by first | exact Or.inl rfl | exact Or.inr rfl) (q_ix hr.units (q_lst (q_cons (q_strL lt_34) (q_cons (q_strL lt_33) (q_nil)))) (q_f (ok_LawPick c) (hr.mono (by decide)) (q_cons (q_v 1) (q_cons (q_int) (q_nil)))) (fun _ _ => rfl))) (q_seq (q_set (i := 5) nd rfl (by first | exact Or.inl rfl | exact Or.inr rfl) (q_disp (q_pc (q_v 3) (q_tup (q_cons (q_lst (q_cons (q_tup (q_cons (q_strL lt_8) (q_cons (q_v 2) (q_cons (q_add (q_int) (q_f (ok_LawPick c) (hr.mono (by decide)) (q_cons (q_v 1) (q_cons (q_int) (q_nil))))) (q_nil))))) (q_nil))) (q_cons (q_mk (C := .label) (ds := []) (dvs := []) (fun _ => True.intro) (ok_LabelInit c) (hr.mono (by decide)) (q_cons (q_strL lt_1) (q_cons (q_lst (q_cons (q_tup (q_cons (q_v 2) (q_cons (q_strL lt_7) (q_nil)))) (q_cons (q_tup (q_cons (q_strL lt_20) (q_cons (q_strL lt_6) (q_nil)))) (q_nil)))) (q_cons (q_lst (q_cons (q_strL lt_21) (q_nil))) (q_nil))))) (q_nil)))) (q_p0)))) (q_seq (q_asg (q_tup (q_cons (q_lst (q_cons (q_tup (q_cons (q_strL lt_0) (q_cons (q_strL lt_20) (q_cons (q_f (ok_LawPick c) (hr.mono (by decide)) (q_cons (q_v 1) (q_cons (q_int) (q_nil)))) (q_nil))))) (q_cons (q_tup (q_cons (q_strL lt_8) (q_cons (q_v 2) (q_cons (q_int) (q_nil))))) (q_nil)))) (q_cons (q_mk (C := .label) (rd_kt c) (ok_LabelInit2 c) (hr.mono (by decide)) (q_cons (q_strL lt_19) (q_cons (q_lst (q_cons (q_tup (q_cons (q_v 2) (q_cons (q_strL lt_7) (q_nil)))) (q_nil))) (q_nil)))) (q_nil)))) (q_sub hr.units (q_v 5) (q_v 4))) (q_seq (q_set (i := 6) nd rfl (by first | exact Or.inl rfl | exact Or.inr rfl) (q_mkK (C := .scheme) c.g_Scheme c.mkScheme 2 (kw_SchemeInit_01 c) (hr.mono (by decide)) (q_cons (q_disp (q_pc (q_strL lt_20) (q_f (ok_LawPick c) (hr.mono (by decide)) (q_cons (q_v 1) (q_cons (q_int) (q_nil)))) (q_pc (q_v 2) (q_int) (q_p0)))) (q_cons (q_v 5) (q_nil))) (q_kc (q_disp (q_pc (q_v 3) (q_lst (q_cons (q_v 4) (q_cons (q_v 3) (q_nil)))) (q_pc (q_v 4) (q_lst (q_cons (q_v 3) (q_nil))) (q_p0)))) (q_kc (q_lst (q_cons (q_v 3) (q_nil))) (q_k0))) (hl := len_cons (len_cons (len_nil))))) (q_seq (q_set (i := 7) nd rfl (by first | exact Or.inl rfl | exact Or.inr rfl) (q_slice (q_lst (q_cons (q_v 3) (q_cons (q_v 4) (q_cons (q_v 3) (q_nil))))) q_noP (q_pt (q_add (q_int) (q_f (ok_LawPick c) (hr.mono (by decide)) (q_cons (q_v 1) (q_cons (q_int) (q_nil)))))))) (q_one (q_ret (q_andV (q_f (ok_LawOfLabels c) (hr.mono (by decide)) (q_cons (q_v 6) (q_cons (q_v 2) (q_cons (q_v 3) (q_cons (q_v 7) (q_nil)))))) (pe_one (q_f (ok_LawOfManuscripts c) (hr.mono (by decide)) (q_cons (q_v 6) (q_cons (q_v 3) (q_cons (q_v 4) (q_nil)))))))))))))))), ?_⟩
    obtain ⟨a, ns, l, rfl, hS, hn, ht, run, q⟩ := h
    refine ⟨_, rfl, a, ns, rfl, hS, fun p hp => ?_⟩
    have S := sim0 (K := K) (p := p) hn ht
    cases ef : c_LawRest 0 (en0 a) (tp0 l) with
    | none => rw [ef] at run; cases run
    | some f =>
      rw [ef] at run
      refine ⟨[p], 0, en0 a, tp0 l, f, S, ⟨rfl, ⟨p, rfl, rfl⟩, True.intro, True.intro, True.intro, True.intro, True.intro, True.intro, True.intro⟩, ef, ?_⟩
      cases f with
      | rt x h =>
        cases x with
        | bl b =>
          have run : b = true := run
          subst run
          intro ρ' H' v g S' r
          rw [show v = _ from r]
          exact q H'
        | _ => cases run
      | _ => cases run
end
end
end K95
set_option maxRecDepth 1000000
set_option maxHeartbeats 0
namespace K95
open PySem PySem.Spec PyProof.Rows L2
theorem w0000 [Nu] (a : Addr) : isTr (c_LawRest 0 (en0 a) (tp0 (orc 0 0 0 0))) = true := by kernel_rfl
theorem w0001 [Nu] (a : Addr) : isTr (c_LawRest 0 (en0 a) (tp0 (orc 0 0 0 1))) = true := by kernel_rfl
theorem w0002 [Nu] (a : Addr) : isTr (c_LawRest 0 (en0 a) (tp0 (orc 0 0 0 2))) = true := by kernel_rfl
theorem w0100 [Nu] (a : Addr) : isTr (c_LawRest 0 (en0 a) (tp0 (orc 0 1 0 0))) = true := by kernel_rfl
theorem w0101 [Nu] (a : Addr) : isTr (c_LawRest 0 (en0 a) (tp0 (orc 0 1 0 1))) = true := by kernel_rfl
theorem w0102 [Nu] (a : Addr) : isTr (c_LawRest 0 (en0 a) (tp0 (orc 0 1 0 2))) = true := by kernel_rfl
theorem w0200 [Nu] (a : Addr) : isTr (c_LawRest 0 (en0 a) (tp0 (orc 0 2 0 0))) = true := by kernel_rfl
theorem w0201 [Nu] (a : Addr) : isTr (c_LawRest 0 (en0 a) (tp0 (orc 0 2 0 1))) = true := by kernel_rfl
theorem w0202 [Nu] (a : Addr) : isTr (c_LawRest 0 (en0 a) (tp0 (orc 0 2 0 2))) = true := by kernel_rfl
end K95
set_option maxRecDepth 1000000
set_option maxHeartbeats 0
namespace K95
open PySem PySem.Spec PyProof.Rows L2
theorem w0010 [Nu] (a : Addr) : isTr (c_LawRest 0 (en0 a) (tp0 (orc 0 0 1 0))) = true := by kernel_rfl
theorem w0011 [Nu] (a : Addr) : isTr (c_LawRest 0 (en0 a) (tp0 (orc 0 0 1 1))) = true := by kernel_rfl
theorem w0012 [Nu] (a : Addr) : isTr (c_LawRest 0 (en0 a) (tp0 (orc 0 0 1 2))) = true := by kernel_rfl
theorem w0110 [Nu] (a : Addr) : isTr (c_LawRest 0 (en0 a) (tp0 (orc 0 1 1 0))) = true := by kernel_rfl
theorem w0111 [Nu] (a : Addr) : isTr (c_LawRest 0 (en0 a) (tp0 (orc 0 1 1 1))) = true := by kernel_rfl
theorem w0112 [Nu] (a : Addr) : isTr (c_LawRest 0 (en0 a) (tp0 (orc 0 1 1 2))) = true := by kernel_rfl
theorem w0210 [Nu] (a : Addr) : isTr (c_LawRest 0 (en0 a) (tp0 (orc 0 2 1 0))) = true := by kernel_rfl
theorem w0211 [Nu] (a : Addr) : isTr (c_LawRest 0 (en0 a) (tp0 (orc 0 2 1 1))) = true := by kernel_rfl
theorem w0212 [Nu] (a : Addr) : isTr (c_LawRest 0 (en0 a) (tp0 (orc 0 2 1 2))) = true := by kernel_rfl
end K95
set_option maxRecDepth 1000000
set_option maxHeartbeats 0
namespace K95
open PySem PySem.Spec PyProof.Rows L2
theorem w1000 [Nu] (a : Addr) : isTr (c_LawRest 0 (en0 a) (tp0 (orc 1 0 0 0))) = true := by kernel_rfl
theorem w1001 [Nu] (a : Addr) : isTr (c_LawRest 0 (en0 a) (tp0 (orc 1 0 0 1))) = true := by kernel_rfl
theorem w1002 [Nu] (a : Addr) : isTr (c_LawRest 0 (en0 a) (tp0 (orc 1 0 0 2))) = true := by kernel_rfl
theorem w1100 [Nu] (a : Addr) : isTr (c_LawRest 0 (en0 a) (tp0 (orc 1 1 0 0))) = true := by kernel_rfl
theorem w1101 [Nu] (a : Addr) : isTr (c_LawRest 0 (en0 a) (tp0 (orc 1 1 0 1))) = true := by kernel_rfl
theorem w1102 [Nu] (a : Addr) : isTr (c_LawRest 0 (en0 a) (tp0 (orc 1 1 0 2))) = true := by kernel_rfl
theorem w1200 [Nu] (a : Addr) : isTr (c_LawRest 0 (en0 a) (tp0 (orc 1 2 0 0))) = true := by kernel_rfl
theorem w1201 [Nu] (a : Addr) : isTr (c_LawRest 0 (en0 a) (tp0 (orc 1 2 0 1))) = true := by kernel_rfl
theorem w1202 [Nu] (a : Addr) : isTr (c_LawRest 0 (en0 a) (tp0 (orc 1 2 0 2))) = true := by kernel_rfl
end K95
set_option maxRecDepth 1000000
set_option maxHeartbeats 0
namespace K95
open PySem PySem.Spec PyProof.Rows L2
theorem w1010 [Nu] (a : Addr) : isTr (c_LawRest 0 (en0 a) (tp0 (orc 1 0 1 0))) = true := by kernel_rfl
theorem w1011 [Nu] (a : Addr) : isTr (c_LawRest 0 (en0 a) (tp0 (orc 1 0 1 1))) = true := by kernel_rfl
theorem w1012 [Nu] (a : Addr) : isTr (c_LawRest 0 (en0 a) (tp0 (orc 1 0 1 2))) = true := by kernel_rfl
theorem w1110 [Nu] (a : Addr) : isTr (c_LawRest 0 (en0 a) (tp0 (orc 1 1 1 0))) = true := by kernel_rfl
theorem w1111 [Nu] (a : Addr) : isTr (c_LawRest 0 (en0 a) (tp0 (orc 1 1 1 1))) = true := by kernel_rfl
theorem w1112 [Nu] (a : Addr) : isTr (c_LawRest 0 (en0 a) (tp0 (orc 1 1 1 2))) = true := by kernel_rfl
theorem w1210 [Nu] (a : Addr) : isTr (c_LawRest 0 (en0 a) (tp0 (orc 1 2 1 0))) = true := by kernel_rfl
theorem w1211 [Nu] (a : Addr) : isTr (c_LawRest 0 (en0 a) (tp0 (orc 1 2 1 1))) = true := by kernel_rfl
theorem w1212 [Nu] (a : Addr) : isTr (c_LawRest 0 (en0 a) (tp0 (orc 1 2 1 2))) = true := by kernel_rfl
end K95
set_option maxRecDepth 1000000
set_option maxHeartbeats 0
namespace K95
open PySem PySem.Spec PyProof.Rows L2
theorem w2000 [Nu] (a : Addr) : isTr (c_LawRest 0 (en0 a) (tp0 (orc 2 0 0 0))) = true := by kernel_rfl
theorem w2001 [Nu] (a : Addr) : isTr (c_LawRest 0 (en0 a) (tp0 (orc 2 0 0 1))) = true := by kernel_rfl
theorem w2002 [Nu] (a : Addr) : isTr (c_LawRest 0 (en0 a) (tp0 (orc 2 0 0 2))) = true := by kernel_rfl
theorem w2100 [Nu] (a : Addr) : isTr (c_LawRest 0 (en0 a) (tp0 (orc 2 1 0 0))) = true := by kernel_rfl
theorem w2101 [Nu] (a : Addr) : isTr (c_LawRest 0 (en0 a) (tp0 (orc 2 1 0 1))) = true := by kernel_rfl
theorem w2102 [Nu] (a : Addr) : isTr (c_LawRest 0 (en0 a) (tp0 (orc 2 1 0 2))) = true := by kernel_rfl
theorem w2200 [Nu] (a : Addr) : isTr (c_LawRest 0 (en0 a) (tp0 (orc 2 2 0 0))) = true := by kernel_rfl
theorem w2201 [Nu] (a : Addr) : isTr (c_LawRest 0 (en0 a) (tp0 (orc 2 2 0 1))) = true := by kernel_rfl
theorem w2202 [Nu] (a : Addr) : isTr (c_LawRest 0 (en0 a) (tp0 (orc 2 2 0 2))) = true := by kernel_rfl
end K95
set_option maxRecDepth 1000000
set_option maxHeartbeats 0
namespace K95
open PySem PySem.Spec PyProof.Rows L2
theorem w2010 [Nu] (a : Addr) : isTr (c_LawRest 0 (en0 a) (tp0 (orc 2 0 1 0))) = true := by kernel_rfl
theorem w2011 [Nu] (a : Addr) : isTr (c_LawRest 0 (en0 a) (tp0 (orc 2 0 1 1))) = true := by kernel_rfl
theorem w2012 [Nu] (a : Addr) : isTr (c_LawRest 0 (en0 a) (tp0 (orc 2 0 1 2))) = true := by kernel_rfl
theorem w2110 [Nu] (a : Addr) : isTr (c_LawRest 0 (en0 a) (tp0 (orc 2 1 1 0))) = true := by kernel_rfl
theorem w2111 [Nu] (a : Addr) : isTr (c_LawRest 0 (en0 a) (tp0 (orc 2 1 1 1))) = true := by kernel_rfl
theorem w2112 [Nu] (a : Addr) : isTr (c_LawRest 0 (en0 a) (tp0 (orc 2 1 1 2))) = true := by kernel_rfl
theorem w2210 [Nu] (a : Addr) : isTr (c_LawRest 0 (en0 a) (tp0 (orc 2 2 1 0))) = true := by kernel_rfl
theorem w2211 [Nu] (a : Addr) : isTr (c_LawRest 0 (en0 a) (tp0 (orc 2 2 1 1))) = true := by kernel_rfl
theorem w2212 [Nu] (a : Addr) : isTr (c_LawRest 0 (en0 a) (tp0 (orc 2 2 1 2))) = true := by kernel_rfl
end K95
set_option maxRecDepth 100000
set_option maxHeartbeats 0
namespace K95
open PySem PySem.Spec PyProof.Rows L2
/-! ### the end -/
theorem three {i : Int} (h : 0 ≤ i ∧ i < 3) : i = 0 ∨ i = 1 ∨ i = 2 := by omega
theorem two {i : Int} (h : 0 ≤ i ∧ i < 2) : i = 0 ∨ i = 1 := by omega
theorem ways (nu : Nu) (a : Addr) (i1 i2 i3 i7 : Int) (h1 : 0 ≤ i1 ∧ i1 < 3) (h2 : 0 ≤ i2 ∧ i2 < 3) (h3 : 0 ≤ i3 ∧ i3 < 2) (h7 : 0 ≤ i7 ∧ i7 < 3) : isTr (c_LawRest 0 (en0 a) (tp0 (orc i1 i2 i3 i7))) = true := by
  rcases three h1 with rfl | rfl | rfl
  · rcases three h2 with rfl | rfl | rfl
    · rcases two h3 with rfl | rfl
      · rcases three h7 with rfl | rfl | rfl
        · exact w0000 a
        · exact w0001 a
        · exact w0002 a
      · rcases three h7 with rfl | rfl | rfl
        · exact w0010 a
        · exact w0011 a
        · exact w0012 a
    · rcases two h3 with rfl | rfl
      · rcases three h7 with rfl | rfl | rfl
        · exact w0100 a
        · exact w0101 a
        · exact w0102 a
      · rcases three h7 with rfl | rfl | rfl
        · exact w0110 a
        · exact w0111 a
        · exact w0112 a
    · rcases two h3 with rfl | rfl
      · rcases three h7 with rfl | rfl | rfl
        · exact w0200 a
        · exact w0201 a
        · exact w0202 a
      · rcases three h7 with rfl | rfl | rfl
        · exact w0210 a
        · exact w0211 a
        · exact w0212 a
  · rcases three h2 with rfl | rfl | rfl
    · rcases two h3 with rfl | rfl
      · rcases three h7 with rfl | rfl | rfl
        · exact w1000 a
        · exact w1001 a
        · exact w1002 a
      · rcases three h7 with rfl | rfl | rfl
        · exact w1010 a
        · exact w1011 a
        · exact w1012 a
    · rcases two h3 with rfl | rfl
      · rcases three h7 with rfl | rfl | rfl
        · exact w1100 a
        · exact w1101 a
        · exact w1102 a
      · rcases three h7 with rfl | rfl | rfl
        · exact w1110 a
        · exact w1111 a
        · exact w1112 a
    · rcases two h3 with rfl | rfl
      · rcases three h7 with rfl | rfl | rfl
        · exact w1200 a
        · exact w1201 a
        · exact w1202 a
      · rcases three h7 with rfl | rfl | rfl
        · exact w1210 a
        · exact w1211 a
        · exact w1212 a
  · rcases three h2 with rfl | rfl | rfl
    · rcases two h3 with rfl | rfl
      · rcases three h7 with rfl | rfl | rfl
        · exact w2000 a
        · exact w2001 a
        · exact w2002 a
      · rcases three h7 with rfl | rfl | rfl
        · exact w2010 a
        · exact w2011 a
        · exact w2012 a
    · rcases two h3 with rfl | rfl
      · rcases three h7 with rfl | rfl | rfl
        · exact w2100 a
        · exact w2101 a
        · exact w2102 a
      · rcases three h7 with rfl | rfl | rfl
        · exact w2110 a
        · exact w2111 a
        · exact w2112 a
    · rcases two h3 with rfl | rfl
      · rcases three h7 with rfl | rfl | rfl
        · exact w2200 a
        · exact w2201 a
        · exact w2202 a
      · rcases three h7 with rfl | rfl | rfl
        · exact w2210 a
        · exact w2211 a
        · exact w2212 a
def spEnd (K : PySem.W.Frag) : Sp := fun vs H Q E => ∃ nu : Nu, @spLaw nu K vs H Q E
theorem only_nt {H : Hp} (h : Only H) : NoT H := fun a o e => by
  rcases h a with q | ⟨b, xs, q⟩
  · rw [q] at e; cases e
  · rw [q] at e; cases e; exact True.intro
theorem ok_end {P : Program} {w : World} {K : PySem.W.Frag} {mg : Str → Option Value} {base : Heap} (c : Ctx w K mg) {fd : FuncData} (Df : DefAt K mg "law" sLaw [] [] (He.ga K "law") fd) : FnOk P w K mg base CX0 24 (He.ga K "law") fd ["_law_script"] (spEnd K) := by
  refine ⟨fun vs H Q E ⟨nu, h⟩ => (@fn_Law nu P w K mg base c fd Df).len vs H Q E h, fun A outer s H args us vs Q E hr he hb hv ⟨nu, h⟩ => (@fn_Law nu P w K mg base c fd Df).run A outer s H args us vs Q E hr he hb hv h⟩
theorem sp_end {K : PySem.W.Frag} {H : Hp} {a : Addr} {ns : List Int} (o : Only H) (s : SqL K H a (ns.map V.int)) : spEnd K [.ref a] H (fun v _ => v = .bl true) fun _ _ _ => False := by
  obtain ⟨nu, i1, i2, i3, i7, h1, h2, h3, h7, t⟩ := tape_any (cell0 ns) (cell0_nn ns)
  exact ⟨nu, a, ns, orc i1 i2 i3 i7, rfl, s, only_nt o, t, ways nu a i1 i2 i3 i7 h1 h2 h3 h7, fun _ => rfl⟩
theorem facts {P : Program} {w : World} {K : PySem.W.Frag} {h : Heap} {mg : Str → Option Value} {f : Addr} (X : K.In h) (G : h.Ns mainGlobals mg) (hf : mg ("law" : Str) = some (.ref f)) (c : SaysK fa fn ts ex w K) :
    ∃ fd : FuncData, (∀ (s : Shared) (v : Value), BindsTo s fd ⟨[v], []⟩ [("_law_script", v)]) ∧ ∀ base : Heap, K.In base → base.Ns mainGlobals mg → FnOk P w K mg base CX0 24 f fd ["_law_script"] (spEnd K) := by
  have cx : Ctx w K mg := ⟨⟨h, X, G⟩, c⟩
  obtain ⟨fd, Df⟩ := cx.defLaw
  have e := hf.symm.trans cx.g_law
  cases e
  have b := FunD.bindsA (ps := ["_law_script"]) Df.F fun _ _ _ _ _ _ us hl => match us, hl with | [_], _ => rfl
  exact ⟨fd, fun s v => b s [v] rfl, fun base _ _ => ok_end cx Df⟩
end K95
open PySem PySem.W PySem.Calls PyProof.Rows
theorem PySem.Challenge.cw_partlabels_k95_whole_labels_by_name_holds : PySem.Challenge.rw_partlabels_k95_whole_labels_by_name.Holds := by
  w_on; o_law
  refine HandSHeadRun.head_any (r := OpenLaw.row PySem.Challenge.rw_partlabels_k95_whole_labels_by_name) (q := view (OpenLaw.row PySem.Challenge.rw_partlabels_k95_whole_labels_by_name).prog [103]) (H := K95.hdHk) (ob := K95.hdOb) (M := 20000) (loose := K95.hdNames) (d := HandSHeadRun.topDef (OpenLaw.row PySem.Challenge.rw_partlabels_k95_whole_labels_by_name).prog 103) (kwd := []) K95.hdOb_eq
    (by kernel_rfl) (fun s => by kernel_rfl) K95.hdRun (by kernel_rfl) (by kernel_rfl) (by kernel_rfl) (by rfl) (by first | assumption | decide +kernel) (by decide +kernel) ⟨rfl, rfl, rfl, rfl, rfl, by decide +kernel⟩ ?hw ?hc
  case hw => w_witness2
  case hc =>
    refine L2.walk_ofE (l := PySem.Challenge.rw_partlabels_k95_whole_labels_by_name) (n := 63) (k := 24) (x := "_law_script") (CX := L2.CX0) rfl (by decide) (by kernel_rfl) ⟨rfl, by decide, by decide⟩ ?F (fun _ _ _ _ z => z)
    intro w mg fa h Y G hmg0
    obtain ⟨K, KX, c⟩ := Y
    have hmg : mg ("law" : PySem.Str) = some (.ref fa) := by
      have e : (HandSHeadRun.topDef (OpenLaw.row PySem.Challenge.rw_partlabels_k95_whole_labels_by_name).prog 103).name = ("law" : PySem.Str) := by kernel_rfl
      rw [← e]
      exact hmg0
    obtain ⟨fd, hb, hF⟩ := K95.facts (P := (PySem.Challenge.rw_partlabels_k95_whole_labels_by_name).prog) (w := w) KX G hmg c
    exact ⟨K, fd, K95.spEnd K, KX, hb, fun H a ns hl ho hS => K95.sp_end ho hS, hF⟩

