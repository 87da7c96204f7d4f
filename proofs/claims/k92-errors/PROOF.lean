import PyProof.Rows.All
import Wide.All
import OpenK.AllK
import Wide.FinOn
import HandS.ForMost
import HandS.Exc
import HandS.HeadHook1
import HandS.HeadHook2
import KE.KSuper
import KE.KStateDown
import Lean
import HandS.Words
import HandS.Defaults
import HandS.Head0
import HandS.Head1
import HandS.Head2
import HandS.HeadEnd
import HandS.ExcBuiltin
import HandS.TryOnly
import HandS.TryMany
import HandS.ExcInit
import HandS.WordsExc
import HandS.SetKeys
import HandS.IsInst
import HandS.Style
import HandS.Flow
import HandS.DictComp
import HandS.Wide
import HandS.Conv
import HandS.Deep
import HandS.TupAny
import HandS.ListEq
import HandS.DictEq
import HandS.DeepEq
import PyProof.NeData
import PyProof.NeKinds
import HandS.TupMul
import PyProof.StrOps2
import HandS.Zip
import HandS.CallSlots
import HandS.ExcOwn
import KE.KExcSuper
import HandS.Nested
import HandS.ExcField
import HandS.MakeKwOnly
import HandS.ExcIs
import HandS.ExcValue
import PySem.Challenge.RW_twoworlds_k92_errors_made
set_option Elab.async false
set_option linter.all false
set_option maxRecDepth 100000
set_option maxHeartbeats 4000000
namespace XH
open PySem PySem.Spec PySem.Calls PyProof.Rows L2
structure IniD where
  cls : Str
  qual : Str
  params : Arguments
  body : List Stmt
  scope : Scope
  fields : List Str
abbrev IniW : Type := Option (Str × Str × Arguments × FuncBody × Scope × Addr × List Str × Addr)
def cAd (K : PySem.W.Frag) (x : Str) : Addr := He.ga K x
def iAd (K : PySem.W.Frag) (x : Str) : Addr := He.ma K (He.ga K x) "__init__"
def iniW (K : PySem.W.Frag) (x : Str) : IniW := match K.lookup (iAd K x) with
  | some ⟨_, _, .func fd, _⟩ => some (fd.name, fd.qualname, fd.params, fd.body, fd.scope, fd.globals, fd.closure.map (·.1), fd.builtins)
  | _ => none
def IniD.val (d : IniD) : IniW := some ("__init__", d.qual, d.params, .stmts d.body, d.scope, mainGlobals, ["__class__"], builtinsNs)
/-- the class's own object -/
def oexB (K : PySem.W.Frag) (C : Addr) : Bool := (match K.lookup C with
  | some ⟨.type "type", _, .cls cd, sl⟩ => (match cd.mro, sl.toList with
    | .ref C' :: bm, [_, _, _, _, some (.builtin n), _] => C' == C && (n == "ValueError.__new__" && (!cd.hasDel && (cd.hasDict && PySem.HandSPX.refsVE bm)))
    | _, _ => false)
  | _ => false) && (decide (PySem.W.findIn K (.ref C) "__setattr__" = some (some (.builtin "object.__setattr__"))) && (decide (PySem.W.subIn K (.ref C) (.type "BaseException") = some true) && (decide (PySem.W.typeIn K (.ref C) = some (.type "type")) && PySem.W.keepIn K (.ref C))))
/-- its __init__, the cell of __class__, the code object -/
def iniB (P : Program) (K : PySem.W.Frag) (d : IniD) : Bool := (match K.lookup (iAd K d.cls) with
  | some ⟨_, _, .func fd, _⟩ => (match fd.closure, fd.code, fd.defaults with
    | [(_, cc)], .ref cda, .none => PySem.W.codeIn K (.ref cda) d.qual && ((match K.lookup cc with
      | some ⟨_, _, .cell (some (.ref D)), _⟩ => D == cAd K d.cls
      | _ => false) && (match K.lookup cda with
      | some ⟨_, _, .fields vs, _⟩ => (match (vs[2]? : Option Value) with
        | some (Value.str file _) => ((P.main.file : Str) == file)
        | _ => false)
      | _ => false))
    | _, _, _ => false)
  | _ => false) && (oexB K (cAd K d.cls) && (((PySem.W.clsIn K (cAd K d.cls)).isSome) && (decide (PySem.W.mroIn K (cAd K d.cls) (.ref (cAd K d.cls)) = some true) && (decide (PySem.W.subIn K (.ref (cAd K d.cls)) (.type "ValueError") = some true) &&
    (decide (PySem.W.ks_superIn K (cAd K d.cls) (cAd K d.cls) "__init__" = some (some (.builtin "ValueError.__init__"))) && (decide (PySem.W.nsIn K cStatics "thirdparty.any" = some none) && (decide (PySem.W.findIn K (.ref (cAd K d.cls)) "__init__" = some (some (.ref (iAd K d.cls)))) &&
    (decide (PySem.W.typeIn K (.ref (iAd K d.cls)) = some (.type "function")) && (d.fields.all fun f => decide (PySem.W.findIn K (.ref (cAd K d.cls)) f = some none))))))))))
abbrev AlI : Type := He.AlD × (Bool × List IniW)
def excB (K : PySem.W.Frag) (D : Addr) : Bool := decide (PySem.W.findIn K (.ref D) "__getattribute__" = some (some (.builtin "BaseException.__getattribute__"))) && (decide (PySem.W.findIn K (.ref D) "__getattr__" = some none) && (decide (PySem.W.subIn K (.ref D) (.type "BaseException") = some true) &&
  (PySem.W.hasDictIn K D && (decide (PySem.W.findIn K (.ref D) "__class__" = some (some (.builtin "object.__class__"))) && (decide (PySem.W.specialIn K (.builtin "object.__class__") "__get__" = some (some (.builtin "getset_descriptor.__get__"))) && (decide (PySem.W.takesIn K (.builtin "object.__class__") = some true) && decide (PySem.W.mroIn K D (.type "object") = some true)))))))
/-- x derives from the class at W, W from ValueError; the class itself is a plain type -/
def mroB (K : PySem.W.Frag) (W C : Addr) : Bool := decide ((PySem.W.clsIn K C).map (·.mro) = some (Value.ref C :: Value.ref W :: He.veBase)) && decide (PySem.W.typeIn K (.ref C) = some (.type "type"))
def incB : List Addr → Bool
  | a :: b :: r => decide (a < b) && incB (b :: r)
  | _ => true
/-- the own exception classes: W the first, then those of names -/
def famB (K : PySem.W.Frag) (w : Str) (names : List Str) : Bool := incB (cAd K w :: names.map (cAd K)) && (names.all fun x => mroB K (cAd K w) (cAd K x) && excB K (cAd K x)) && (decide ((PySem.W.clsIn K (cAd K w)).map (·.mro) = some (Value.ref (cAd K w) :: He.veBase)) && (decide (PySem.W.typeIn K (.ref (cAd K w)) = some (.type "type")) && excB K (cAd K w)))
end XH

set_option Elab.async false
set_option linter.all false
set_option maxRecDepth 100000
set_option maxHeartbeats 0
namespace K92
open PySem PySem.Spec PyProof.Rows L2 XH
abbrev R : PySem.W.OpenRow := PySem.W.OpenLaw.row PySem.Challenge.rw_twoworlds_k92_errors_made
def top (i : Nat) : Stmt := PySem.Challenge.pw_twoworlds_k92_errors_made.main.body.getD i (.Pass ⟨0, 0, 0, 0⟩)
def mth (i j : Nat) : Stmt := match top i with
  | .ClassDef _ _ _ body _ _ _ _ _ _ _ => body.getD j (.Pass ⟨0, 0, 0, 0⟩)
  | _ => .Pass ⟨0, 0, 0, 0⟩
def d__law_start : He.DefD := ⟨("_law_start", none), "_law_start", "_law_start", defArgs (top 63), defBody (top 63), defScope (top 63), [], []⟩
def d__law_draw : He.DefD := ⟨("_law_draw", none), "_law_draw", "_law_draw", defArgs (top 64), defBody (top 64), defScope (top 64), [], []⟩
def d__law_pick : He.DefD := ⟨("_law_pick", none), "_law_pick", "_law_pick", defArgs (top 65), defBody (top 65), defScope (top 65), [], []⟩
def d__law_pairs : He.DefD := ⟨("_law_pairs", none), "_law_pairs", "_law_pairs", defArgs (top 66), defBody (top 66), defScope (top 66), [], []⟩
def d__law_held : He.DefD := ⟨("_law_held", none), "_law_held", "_law_held", defArgs (top 67), defBody (top 67), defScope (top 67), [], []⟩
def d__law_classes : He.DefD := ⟨("_law_classes", none), "_law_classes", "_law_classes", defArgs (top 68), defBody (top 68), defScope (top 68), [], []⟩
def d_law : He.DefD := ⟨("law", none), "law", "law", defArgs (top 69), defBody (top 69), defScope (top 69), [], []⟩
def fn : List He.DefD := [d__law_start, d__law_draw, d__law_pick, d__law_pairs, d__law_held, d__law_classes, d_law]
def fa : List He.Fa := [.glo "_law_start", .glo "_law_draw", .glo "_law_pick", .glo "_law_pairs", .glo "_law_held", .glo "_law_classes", .glo "law", .glo "WorldError", .glo "BadWorld", .glo "BadKnown", .glo "NoQuestion", .glo "BadPlan", .glo "BadAnswers", .glo "BadHands", .glo "BadGroup", .glo "NoHand", .glo "BadNumber", .glo "Known", .glo "NotKnown", .glo "BadRow", .glo "UnlikeQuestions", .glo "BadTree", .glo "BadWeight", .glo "BadView", .glo "BadBox", .glo "BadAsk", .glo "NoState", .glo "NoLetter", .glo "BadPut", .glo "BadMarks", .glo "BadLink", .glo "UnlikeLetters", .glo "BadUnknown", .glo "BadSum", .glo "BadPrime", .glo "BadHolder", .glo "BadLetters", .glo "BadMachine", .glo "BadIndex", .glo "TakenName", .glo "BadCode", .glo "BadClass", .glo "Uneven", .glo "BadReader", .glo "NoClass", .glo "BadPart", .glo "BadBundle", .glo "BadLinks", .glo "BadTelling", .glo "BadText", .glo "BadName", .glo "NoName", .glo "BadThing", .glo "BadOrder", .glo "BadLine", .glo "NoRow", .glo "BadWindow", .glo "Crowded", .glo "BadPeople", .glo "BadPlaces", .glo "BadPlace", .glo "BadFacts", .glo "NoPerson", .glo "SamePerson", .glo "BadArc", .glo "BadNames", .glo "BadAmounts", .glo "BadPiece", .free "len", .free "range", .free "enumerate", .free "isinstance", .free "any", .free "list", .free "int", .free "bool", .free "super", .free "ValueError"]
def x_BadWorld : IniD := ⟨"BadWorld", "BadWorld.__init__", defArgs (mth 2 0), defBody (mth 2 0), defScope (mth 2 0), ["thing"]⟩
def x_BadKnown : IniD := ⟨"BadKnown", "BadKnown.__init__", defArgs (mth 3 0), defBody (mth 3 0), defScope (mth 3 0), ["index"]⟩
def x_NoQuestion : IniD := ⟨"NoQuestion", "NoQuestion.__init__", defArgs (mth 4 0), defBody (mth 4 0), defScope (mth 4 0), ["name"]⟩
def x_BadPlan : IniD := ⟨"BadPlan", "BadPlan.__init__", defArgs (mth 5 0), defBody (mth 5 0), defScope (mth 5 0), ["thing"]⟩
def x_BadAnswers : IniD := ⟨"BadAnswers", "BadAnswers.__init__", defArgs (mth 6 0), defBody (mth 6 0), defScope (mth 6 0), ["thing"]⟩
def x_BadHands : IniD := ⟨"BadHands", "BadHands.__init__", defArgs (mth 7 0), defBody (mth 7 0), defScope (mth 7 0), ["name"]⟩
def x_BadGroup : IniD := ⟨"BadGroup", "BadGroup.__init__", defArgs (mth 8 0), defBody (mth 8 0), defScope (mth 8 0), ["index"]⟩
def x_NoHand : IniD := ⟨"NoHand", "NoHand.__init__", defArgs (mth 9 0), defBody (mth 9 0), defScope (mth 9 0), ["name"]⟩
def x_BadNumber : IniD := ⟨"BadNumber", "BadNumber.__init__", defArgs (mth 10 0), defBody (mth 10 0), defScope (mth 10 0), ["thing"]⟩
def x_Known : IniD := ⟨"Known", "Known.__init__", defArgs (mth 11 0), defBody (mth 11 0), defScope (mth 11 0), ["name"]⟩
def x_NotKnown : IniD := ⟨"NotKnown", "NotKnown.__init__", defArgs (mth 12 0), defBody (mth 12 0), defScope (mth 12 0), ["name"]⟩
def x_BadRow : IniD := ⟨"BadRow", "BadRow.__init__", defArgs (mth 13 0), defBody (mth 13 0), defScope (mth 13 0), ["index"]⟩
def x_UnlikeQuestions : IniD := ⟨"UnlikeQuestions", "UnlikeQuestions.__init__", defArgs (mth 14 0), defBody (mth 14 0), defScope (mth 14 0), []⟩
def x_BadTree : IniD := ⟨"BadTree", "BadTree.__init__", defArgs (mth 15 0), defBody (mth 15 0), defScope (mth 15 0), ["thing"]⟩
def x_BadWeight : IniD := ⟨"BadWeight", "BadWeight.__init__", defArgs (mth 16 0), defBody (mth 16 0), defScope (mth 16 0), ["index"]⟩
def x_BadView : IniD := ⟨"BadView", "BadView.__init__", defArgs (mth 17 0), defBody (mth 17 0), defScope (mth 17 0), ["name"]⟩
def x_BadBox : IniD := ⟨"BadBox", "BadBox.__init__", defArgs (mth 18 0), defBody (mth 18 0), defScope (mth 18 0), ["state"]⟩
def x_BadAsk : IniD := ⟨"BadAsk", "BadAsk.__init__", defArgs (mth 19 0), defBody (mth 19 0), defScope (mth 19 0), ["name"]⟩
def x_NoState : IniD := ⟨"NoState", "NoState.__init__", defArgs (mth 20 0), defBody (mth 20 0), defScope (mth 20 0), ["name"]⟩
def x_NoLetter : IniD := ⟨"NoLetter", "NoLetter.__init__", defArgs (mth 21 0), defBody (mth 21 0), defScope (mth 21 0), ["name"]⟩
def x_BadPut : IniD := ⟨"BadPut", "BadPut.__init__", defArgs (mth 22 0), defBody (mth 22 0), defScope (mth 22 0), ["index"]⟩
def x_BadMarks : IniD := ⟨"BadMarks", "BadMarks.__init__", defArgs (mth 23 0), defBody (mth 23 0), defScope (mth 23 0), ["thing"]⟩
def x_BadLink : IniD := ⟨"BadLink", "BadLink.__init__", defArgs (mth 24 0), defBody (mth 24 0), defScope (mth 24 0), ["sign"]⟩
def x_UnlikeLetters : IniD := ⟨"UnlikeLetters", "UnlikeLetters.__init__", defArgs (mth 25 0), defBody (mth 25 0), defScope (mth 25 0), []⟩
def x_BadUnknown : IniD := ⟨"BadUnknown", "BadUnknown.__init__", defArgs (mth 26 0), defBody (mth 26 0), defScope (mth 26 0), ["index"]⟩
def x_BadSum : IniD := ⟨"BadSum", "BadSum.__init__", defArgs (mth 27 0), defBody (mth 27 0), defScope (mth 27 0), ["name"]⟩
def x_BadPrime : IniD := ⟨"BadPrime", "BadPrime.__init__", defArgs (mth 28 0), defBody (mth 28 0), defScope (mth 28 0), ["prime"]⟩
def x_BadHolder : IniD := ⟨"BadHolder", "BadHolder.__init__", defArgs (mth 29 0), defBody (mth 29 0), defScope (mth 29 0), ["index"]⟩
def x_BadLetters : IniD := ⟨"BadLetters", "BadLetters.__init__", defArgs (mth 30 0), defBody (mth 30 0), defScope (mth 30 0), ["thing"]⟩
def x_BadMachine : IniD := ⟨"BadMachine", "BadMachine.__init__", defArgs (mth 31 0), defBody (mth 31 0), defScope (mth 31 0), ["name"]⟩
def x_BadIndex : IniD := ⟨"BadIndex", "BadIndex.__init__", defArgs (mth 32 0), defBody (mth 32 0), defScope (mth 32 0), ["index"]⟩
def x_TakenName : IniD := ⟨"TakenName", "TakenName.__init__", defArgs (mth 33 0), defBody (mth 33 0), defScope (mth 33 0), ["name"]⟩
def x_BadCode : IniD := ⟨"BadCode", "BadCode.__init__", defArgs (mth 34 0), defBody (mth 34 0), defScope (mth 34 0), ["name"]⟩
def x_BadClass : IniD := ⟨"BadClass", "BadClass.__init__", defArgs (mth 35 0), defBody (mth 35 0), defScope (mth 35 0), ["name"]⟩
def x_Uneven : IniD := ⟨"Uneven", "Uneven.__init__", defArgs (mth 36 0), defBody (mth 36 0), defScope (mth 36 0), ["name"]⟩
def x_BadReader : IniD := ⟨"BadReader", "BadReader.__init__", defArgs (mth 37 0), defBody (mth 37 0), defScope (mth 37 0), ["thing"]⟩
def x_NoClass : IniD := ⟨"NoClass", "NoClass.__init__", defArgs (mth 38 0), defBody (mth 38 0), defScope (mth 38 0), ["name"]⟩
def x_BadPart : IniD := ⟨"BadPart", "BadPart.__init__", defArgs (mth 39 0), defBody (mth 39 0), defScope (mth 39 0), ["name"]⟩
def x_BadBundle : IniD := ⟨"BadBundle", "BadBundle.__init__", defArgs (mth 40 0), defBody (mth 40 0), defScope (mth 40 0), ["name"]⟩
def x_BadLinks : IniD := ⟨"BadLinks", "BadLinks.__init__", defArgs (mth 41 0), defBody (mth 41 0), defScope (mth 41 0), ["index"]⟩
def x_BadTelling : IniD := ⟨"BadTelling", "BadTelling.__init__", defArgs (mth 42 0), defBody (mth 42 0), defScope (mth 42 0), ["index"]⟩
def x_BadText : IniD := ⟨"BadText", "BadText.__init__", defArgs (mth 43 0), defBody (mth 43 0), defScope (mth 43 0), ["thing"]⟩
def x_BadName : IniD := ⟨"BadName", "BadName.__init__", defArgs (mth 44 0), defBody (mth 44 0), defScope (mth 44 0), ["name"]⟩
def x_NoName : IniD := ⟨"NoName", "NoName.__init__", defArgs (mth 45 0), defBody (mth 45 0), defScope (mth 45 0), ["name"]⟩
def x_BadThing : IniD := ⟨"BadThing", "BadThing.__init__", defArgs (mth 46 0), defBody (mth 46 0), defScope (mth 46 0), ["thing"]⟩
def x_BadOrder : IniD := ⟨"BadOrder", "BadOrder.__init__", defArgs (mth 47 0), defBody (mth 47 0), defScope (mth 47 0), ["line"]⟩
def x_BadLine : IniD := ⟨"BadLine", "BadLine.__init__", defArgs (mth 48 0), defBody (mth 48 0), defScope (mth 48 0), ["index"]⟩
def x_NoRow : IniD := ⟨"NoRow", "NoRow.__init__", defArgs (mth 49 0), defBody (mth 49 0), defScope (mth 49 0), []⟩
def x_BadWindow : IniD := ⟨"BadWindow", "BadWindow.__init__", defArgs (mth 50 0), defBody (mth 50 0), defScope (mth 50 0), ["name"]⟩
def x_Crowded : IniD := ⟨"Crowded", "Crowded.__init__", defArgs (mth 51 0), defBody (mth 51 0), defScope (mth 51 0), ["first", "last"]⟩
def x_BadPeople : IniD := ⟨"BadPeople", "BadPeople.__init__", defArgs (mth 52 0), defBody (mth 52 0), defScope (mth 52 0), ["index"]⟩
def x_BadPlaces : IniD := ⟨"BadPlaces", "BadPlaces.__init__", defArgs (mth 53 0), defBody (mth 53 0), defScope (mth 53 0), ["index"]⟩
def x_BadPlace : IniD := ⟨"BadPlace", "BadPlace.__init__", defArgs (mth 54 0), defBody (mth 54 0), defScope (mth 54 0), ["thing"]⟩
def x_BadFacts : IniD := ⟨"BadFacts", "BadFacts.__init__", defArgs (mth 55 0), defBody (mth 55 0), defScope (mth 55 0), ["thing"]⟩
def x_NoPerson : IniD := ⟨"NoPerson", "NoPerson.__init__", defArgs (mth 56 0), defBody (mth 56 0), defScope (mth 56 0), ["name"]⟩
def x_SamePerson : IniD := ⟨"SamePerson", "SamePerson.__init__", defArgs (mth 57 0), defBody (mth 57 0), defScope (mth 57 0), ["name"]⟩
def x_BadArc : IniD := ⟨"BadArc", "BadArc.__init__", defArgs (mth 58 0), defBody (mth 58 0), defScope (mth 58 0), ["name"]⟩
def x_BadNames : IniD := ⟨"BadNames", "BadNames.__init__", defArgs (mth 59 0), defBody (mth 59 0), defScope (mth 59 0), ["index"]⟩
def x_BadAmounts : IniD := ⟨"BadAmounts", "BadAmounts.__init__", defArgs (mth 60 0), defBody (mth 60 0), defScope (mth 60 0), ["name"]⟩
def x_BadPiece : IniD := ⟨"BadPiece", "BadPiece.__init__", defArgs (mth 61 0), defBody (mth 61 0), defScope (mth 61 0), ["index"]⟩
def ini : List IniD := [x_BadWorld, x_BadKnown, x_NoQuestion, x_BadPlan, x_BadAnswers, x_BadHands, x_BadGroup, x_NoHand, x_BadNumber, x_Known, x_NotKnown, x_BadRow, x_UnlikeQuestions, x_BadTree, x_BadWeight, x_BadView, x_BadBox, x_BadAsk, x_NoState, x_NoLetter, x_BadPut, x_BadMarks, x_BadLink, x_UnlikeLetters, x_BadUnknown, x_BadSum, x_BadPrime, x_BadHolder, x_BadLetters, x_BadMachine, x_BadIndex, x_TakenName, x_BadCode, x_BadClass, x_Uneven, x_BadReader, x_NoClass, x_BadPart, x_BadBundle, x_BadLinks, x_BadTelling, x_BadText, x_BadName, x_NoName, x_BadThing, x_BadOrder, x_BadLine, x_NoRow, x_BadWindow, x_Crowded, x_BadPeople, x_BadPlaces, x_BadPlace, x_BadFacts, x_NoPerson, x_SamePerson, x_BadArc, x_BadNames, x_BadAmounts, x_BadPiece]
def excs : List PySem.Str := (["BadWorld", "BadKnown", "NoQuestion", "BadPlan", "BadAnswers", "BadHands", "BadGroup", "NoHand", "BadNumber", "Known", "NotKnown", "BadRow", "UnlikeQuestions", "BadTree", "BadWeight", "BadView", "BadBox", "BadAsk", "NoState", "NoLetter", "BadPut", "BadMarks", "BadLink", "UnlikeLetters", "BadUnknown", "BadSum", "BadPrime", "BadHolder", "BadLetters", "BadMachine"] : List PySem.Str) ++ (["BadIndex", "TakenName", "BadCode", "BadClass", "Uneven", "BadReader", "NoClass", "BadPart", "BadBundle", "BadLinks", "BadTelling", "BadText", "BadName", "NoName", "BadThing", "BadOrder", "BadLine", "NoRow", "BadWindow", "Crowded", "BadPeople", "BadPlaces", "BadPlace", "BadFacts", "NoPerson", "SamePerson", "BadArc", "BadNames", "BadAmounts", "BadPiece"] : List PySem.Str)
def ex (K : PySem.W.Frag) : Bool := famB K "WorldError" excs && (PySem.W.excIn K (He.ga K "WorldError") He.veBase "ValueError.__new__" && PySem.W.keepIn K (.ref (He.ga K "WorldError")))
end K92

set_option Elab.async false
set_option linter.all false
set_option maxRecDepth 100000
set_option maxHeartbeats 0
namespace K92
open PySem PySem.Spec PyProof.Rows L2 XH
def asL : List Addr := ([3, 24, 23, 0, 2, 4, 6, 46, 45, 43, 42, 31, 67, 66, 64, 63, 52, 88, 87, 85, 84, 73, 109, 108, 106, 105, 94, 130, 129, 127, 126, 115, 151, 150, 148, 147, 136, 172, 171, 169] : List Addr) ++ ([168, 157, 193, 192, 190, 189, 178, 214, 213, 211, 210, 199, 235, 234, 232, 231, 220, 256, 255, 253, 252, 241, 277, 276, 274, 273, 262, 298, 297, 295, 294, 283, 319, 318, 316, 315, 304, 340, 339, 337] : List Addr) ++ ([336, 325, 361, 360, 358, 357, 346, 382, 381, 379, 378, 367, 403, 402, 400, 399, 388, 424, 423, 421, 420, 409, 445, 444, 442, 441, 430, 466, 465, 463, 462, 451, 487, 486, 484, 483, 472, 508, 507, 505] : List Addr) ++ ([504, 493, 529, 528, 526, 525, 514, 550, 549, 547, 546, 535, 571, 570, 568, 567, 556, 592, 591, 589, 588, 577, 613, 612, 610, 609, 598, 634, 633, 631, 630, 619, 655, 654, 652, 651, 640, 676, 675, 673] : List Addr) ++ ([672, 661, 697, 696, 694, 693, 682, 718, 717, 715, 714, 703, 739, 738, 736, 735, 724, 760, 759, 757, 756, 745, 781, 780, 778, 777, 766, 802, 801, 799, 798, 787, 823, 822, 820, 819, 808, 844, 843, 841] : List Addr) ++ ([840, 829, 865, 864, 862, 861, 850, 886, 885, 883, 882, 871, 907, 906, 904, 903, 892, 928, 927, 925, 924, 913, 949, 948, 946, 945, 934, 970, 969, 967, 966, 955, 991, 990, 988, 987, 976, 1012, 1011, 1009] : List Addr) ++ ([1008, 997, 1033, 1032, 1030, 1029, 1018, 1054, 1053, 1051, 1050, 1039, 1075, 1074, 1072, 1071, 1060, 1096, 1095, 1093, 1092, 1081, 1117, 1116, 1114, 1113, 1102, 1138, 1137, 1135, 1134, 1123, 1159, 1158, 1156, 1155, 1144, 1180, 1179, 1177] : List Addr) ++ ([1176, 1165, 1201, 1200, 1198, 1197, 1186, 1222, 1221, 1219, 1218, 1207, 1243, 1242, 1240, 1239, 1228, 1264, 1263, 1261, 1260, 1249, 1285, 1284, 1282, 1281, 1270, 1286, 1287, 1288, 1289, 1290, 1291, 1292, 1293, 1294, 1295, 1296, 1297, 1298] : List Addr) ++ ([1299, 1300, 1301, 1302, 1303, 1304, 1305, 1306, 1307, 1308, 1309, 1310, 1311, 1312, 1313, 1314, 1315, 1316, 1317, 1318, 1319, 1320, 1321, 1322, 1323, 1324, 1325, 1326, 1327, 1328, 1329, 1330, 1331, 1332, 1333, 1334] : List Addr)
def kOf (s : PySem.W.SharedT) : PySem.W.Frag := He.frG (HandSHeadRun.getT s) asL
def loose : List PySem.Str := (["__name__", "WorldError", "BadWorld", "BadKnown", "NoQuestion", "BadPlan", "BadAnswers", "BadHands", "BadGroup", "NoHand", "BadNumber", "Known", "NotKnown", "BadRow", "UnlikeQuestions", "BadTree", "BadWeight", "BadView", "BadBox", "BadAsk", "NoState", "NoLetter", "BadPut", "BadMarks", "BadLink", "UnlikeLetters", "BadUnknown", "BadSum", "BadPrime", "BadHolder"] : List PySem.Str) ++ (["BadLetters", "BadMachine", "BadIndex", "TakenName", "BadCode", "BadClass", "Uneven", "BadReader", "NoClass", "BadPart", "BadBundle", "BadLinks", "BadTelling", "BadText", "BadName", "NoName", "BadThing", "BadOrder", "BadLine", "NoRow", "BadWindow", "Crowded", "BadPeople", "BadPlaces", "BadPlace", "BadFacts", "NoPerson", "SamePerson", "BadArc", "BadNames"] : List PySem.Str) ++ (["BadAmounts", "BadPiece", "_law_start", "_law_draw", "_law_pick", "_law_pairs", "_law_held", "_law_classes"] : List PySem.Str)
abbrev qv : Program := PySem.W.view R.prog [69]
def iniA : List IniD := ini.take 30
def iniC : List IniD := ini.drop 30
theorem ini_is : ini = iniA ++ iniC := rfl
end K92

set_option Elab.async false
set_option linter.all false
set_option maxRecDepth 100000
set_option maxHeartbeats 0
namespace K92
open PySem PySem.Spec PyProof.Rows L2 XH
open PySem.W HandSHeadRun in
theorem run1 (w : World) (os : OsState) : (endF (stepQ (denQ tabQ) R.prog w) 60000 R.prog w os).map (fun s => (looksF R.prog (boot_heap w.params) s.abs, seenQ qv loose (importedModules R.prog.main.body) (fun s => xlAt qv [] s && recOk R.toRowW.records s) s.abs)) = some (true, openGood qv loose) := by kernel_rfl
end K92

set_option Elab.async false
set_option linter.all false
set_option maxRecDepth 100000
set_option maxHeartbeats 0
namespace K92
open PySem PySem.Spec PyProof.Rows L2 XH
open PySem.W HandSHeadRun in
theorem run2 (w : World) (os : OsState) : (endF (stepQ (denQ tabQ) R.prog w) 60000 R.prog w os).map (fun s => He.obsD fa fn (kOf s)) = some (He.valD fn) := by kernel_rfl
end K92

set_option Elab.async false
set_option linter.all false
set_option maxRecDepth 100000
set_option maxHeartbeats 0
namespace K92
open PySem PySem.Spec PyProof.Rows L2 XH
open PySem.W HandSHeadRun in
theorem run3 (w : World) (os : OsState) : (endF (stepQ (denQ tabQ) R.prog w) 60000 R.prog w os).map (fun s => iniA.all fun d => iniB R.prog (kOf s) d) = some true := by kernel_rfl
end K92

set_option Elab.async false
set_option linter.all false
set_option maxRecDepth 100000
set_option maxHeartbeats 0
namespace K92
open PySem PySem.Spec PyProof.Rows L2 XH
open PySem.W HandSHeadRun in
theorem run4 (w : World) (os : OsState) : (endF (stepQ (denQ tabQ) R.prog w) 60000 R.prog w os).map (fun s => iniC.all fun d => iniB R.prog (kOf s) d) = some true := by kernel_rfl
end K92

set_option Elab.async false
set_option linter.all false
set_option maxRecDepth 100000
set_option maxHeartbeats 0
namespace K92
open PySem PySem.Spec PyProof.Rows L2 XH
open PySem.W HandSHeadRun in
theorem run5 (w : World) (os : OsState) : (endF (stepQ (denQ tabQ) R.prog w) 60000 R.prog w os).map (fun s => (ex (kOf s), ini.map fun d => iniW (kOf s) d.cls)) = some (true, ini.map IniD.val) := by kernel_rfl
end K92

set_option Elab.async false
set_option linter.all false
set_option maxRecDepth 100000
set_option maxHeartbeats 2000000
namespace DL
open PySem PySem.Spec PyProof.Rows L2

/-! ### data -/
inductive D where
  | non
  | bl (b : Bool)
  | int (i : Int)
  | str (x : Str)
  | lst (xs : List D)
  | tup (xs : List D)
  | dic (kvs : List (Key × D))
  | ins (c : Str) (fs : List (Str × D))
  | fn (n : Str)
  | err (c : Str) (fs : List (Str × D))
  deriving Inhabited

/-- the spring of draws -/
structure Z where
  cells : List Int
  rest : Int
  count : Int
  mix : Int

/-- what a slot of a frame holds -/
inductive Slot where
  | none
  | sh (d : D)
  | own (d : D)
  | strm
  | slf (c : Str) (fs : List (Str × D))
  | xcp (c : Str) (fs : List (Str × D))
  deriving Inhabited

inductive ER (α : Type) where
  | ok (a : α) (z : Z)
  | exc (c : Str) (fs : List (Str × D)) (z : Z)
  | bad

def ER.bind {α β : Type} : ER α → (α → Z → ER β) → ER β
  | .ok a z, f => f a z
  | .exc c fs z, _ => .exc c fs z
  | .bad, _ => .bad

abbrev Sl := List Slot
abbrev M (α : Type) := Sl → Z → ER α

/-! ### data in a heap -/
section
variable (cl : Str → Option Addr) (F : Hp)
mutual
def Rep : D → V → Prop
  | .non, v => v = .non
  | .bl b, v => v = .bl b
  | .int i, v => v = .int i
  | .str x, v => v = .str x
  | .fn n, v => ∃ a, cl n = some a ∧ v = .ref a
  | .lst ds, v => ∃ a xs, v = .ref a ∧ F a = some (.lst xs) ∧ Reps ds xs
  | .tup ds, v => ∃ a xs, v = .ref a ∧ F a = some (.tup xs) ∧ Reps ds xs
  | .dic kvs, v => ∃ a xs, v = .ref a ∧ F a = some (.dK xs) ∧ RepK kvs xs
  | .ins c fs, v => ∃ a dx C gs, v = .ref a ∧ cl c = some C ∧ F a = some (.ins C dx gs) ∧ F dx = some (.own a) ∧ RepF fs gs
  | .err c fs, v => ∃ a C dO, v = .ref a ∧ cl c = some C ∧ F a = some (exo a C dO) ∧ (∀ dx, dO = some dx → ∃ gs, F dx = some (exd dx gs) ∧ RepF fs gs) ∧ (dO = none → fs = [])
def Reps : List D → List V → Prop
  | [], xs => xs = []
  | d :: ds, xs => ∃ y ys, xs = y :: ys ∧ Rep d y ∧ Reps ds ys
def RepK : List (Key × D) → List (Key × V) → Prop
  | [], xs => xs = []
  | (k, d) :: ds, xs => ∃ y ys, xs = (k, y) :: ys ∧ Rep d y ∧ RepK ds ys
def RepF : List (Str × D) → List (Str × V) → Prop
  | [], xs => xs = []
  | (k, d) :: ds, xs => ∃ y ys, xs = (k, y) :: ys ∧ Rep d y ∧ RepF ds ys
end
end

/-- one more frozen heap holds what the first holds -/
def Le (F F' : Hp) : Prop := ∀ a o, F a = some o → F' a = some o
theorem Le.refl (F : Hp) : Le F F := fun _ _ h => h
theorem Le.trans {F G K : Hp} (a : Le F G) (b : Le G K) : Le F K := fun x o h => b x o (a x o h)

section
variable {cl : Str → Option Addr} {F F' : Hp} (h : Le F F')
include h
mutual
theorem Rep.le : ∀ {d : D} {v : V}, Rep cl F d v → Rep cl F' d v
  | .non, _, e => by simpa [Rep] using e
  | .bl _, _, e => by simpa [Rep] using e
  | .int _, _, e => by simpa [Rep] using e
  | .str _, _, e => by simpa [Rep] using e
  | .fn _, _, e => by simpa [Rep] using e
  | .lst ds, _, e => by
    simp only [Rep] at e ⊢
    obtain ⟨a, xs, e1, e2, e3⟩ := e
    exact ⟨a, xs, e1, h _ _ e2, Reps.le e3⟩
  | .tup ds, _, e => by
    simp only [Rep] at e ⊢
    obtain ⟨a, xs, e1, e2, e3⟩ := e
    exact ⟨a, xs, e1, h _ _ e2, Reps.le e3⟩
  | .dic ds, _, e => by
    simp only [Rep] at e ⊢
    obtain ⟨a, xs, e1, e2, e3⟩ := e
    exact ⟨a, xs, e1, h _ _ e2, RepK.le e3⟩
  | .ins c fs, _, e => by
    simp only [Rep] at e ⊢
    obtain ⟨a, dx, C, gs, e1, e2, e3, e4, e5⟩ := e
    exact ⟨a, dx, C, gs, e1, e2, h _ _ e3, h _ _ e4, RepF.le e5⟩
  | .err c fs, _, e => by
    simp only [Rep] at e ⊢
    obtain ⟨a, C, dO, e1, e2, e3, e4⟩ := e
    refine ⟨a, C, dO, e1, e2, h _ _ e3, fun dx z => ?_, e4.2⟩
    obtain ⟨gs, f1, f2⟩ := e4.1 dx z
    exact ⟨gs, h _ _ f1, RepF.le f2⟩
theorem Reps.le : ∀ {ds : List D} {xs : List V}, Reps cl F ds xs → Reps cl F' ds xs
  | [], _, e => by simpa [Reps] using e
  | _ :: _, _, e => by
    simp only [Reps] at e ⊢
    obtain ⟨y, ys, e1, e2, e3⟩ := e
    exact ⟨y, ys, e1, Rep.le e2, Reps.le e3⟩
theorem RepK.le : ∀ {ds : List (Key × D)} {xs : List (Key × V)}, RepK cl F ds xs → RepK cl F' ds xs
  | [], _, e => by simpa [RepK] using e
  | (_, _) :: _, _, e => by
    simp only [RepK] at e ⊢
    obtain ⟨y, ys, e1, e2, e3⟩ := e
    exact ⟨y, ys, e1, Rep.le e2, RepK.le e3⟩
theorem RepF.le : ∀ {ds : List (Str × D)} {xs : List (Str × V)}, RepF cl F ds xs → RepF cl F' ds xs
  | [], _, e => by simpa [RepF] using e
  | (_, _) :: _, _, e => by
    simp only [RepF] at e ⊢
    obtain ⟨y, ys, e1, e2, e3⟩ := e
    exact ⟨y, ys, e1, Rep.le e2, RepF.le e3⟩
end
end
end DL

set_option Elab.async false
set_option linter.all false
set_option maxRecDepth 100000
set_option maxHeartbeats 2000000
namespace DL
open PySem PySem.Spec L2

/-! ### a body's state -/
/-- what is fixed while a def's body runs: class names, the heap at entry, the spring's two objects, what may change of what stood before -/
structure FC where
  cl : Str → Option Addr
  H0 : Hp
  F0 : Hp
  st : Option (Addr × Addr)
  chg : List Addr
  xc : Option (Addr × Value × Option Addr) := none
/-- an exception's dict: none if it has no field -/
def XD (cl : Str → Option Addr) (F : Hp) (fs : List (Str × D)) : Option Addr → Prop
  | none => fs = []
  | some dd => ∃ gs, F dd = some (.xd gs) ∧ RepF cl F fs gs
theorem XD.le {cl : Str → Option Addr} {F F' : Hp} {fs : List (Str × D)} {d : Option Addr} (l : Le F F') (h : XD cl F fs d) : XD cl F' fs d := by
  cases d with
  | none => exact h
  | some dd =>
    obtain ⟨gs, e, r⟩ := h
    exact ⟨gs, l _ _ e, RepF.le l r⟩
structure Wd where
  F : Hp
  lk : List (Addr × Obj)
  sl : Sl
  z : Z
def StrmR (H : Hp) (sa la : Addr) (z : Z) : Prop :=
  H sa = some (.lst [.ref la, .int z.rest, .int z.count, .int z.mix]) ∧ H la = some (.lst (z.cells.map V.int))
def OwnR (cl : Str → Option Addr) (F H : Hp) (a : Addr) : D → Prop
  | .lst ds => ∃ xs, H a = some (.lst xs) ∧ Reps cl F ds xs
  | .dic kvs => ∃ xs, H a = some (.dK xs) ∧ RepK cl F kvs xs
  | _ => False
def isD (u : HO) : Prop := ∃ kvs, u = .dK kvs
/-- what stands: just so, or (a dict) under the lock of a loop -/
def Std (H : Hp) (a : Addr) (u : HO) : Prop := H a = some u ∨ (isD u ∧ ∃ o, H a = some (.frz o u))
theorem Std.rd {H : Hp} {a : Addr} {u : HO} (h : Std H a u) : Rd H a u := by
  rcases h with h | ⟨_, o, h⟩
  · exact .inl h
  · exact .inr ⟨o, h⟩
theorem Std.lst {H : Hp} {a : Addr} {xs : List V} (h : Std H a (.lst xs)) : H a = some (.lst xs) := by
  rcases h with h | ⟨⟨_, e⟩, _⟩
  · exact h
  · cases e
theorem Std.tup {H : Hp} {a : Addr} {xs : List V} (h : Std H a (.tup xs)) : H a = some (.tup xs) := by
  rcases h with h | ⟨⟨_, e⟩, _⟩
  · exact h
  · cases e
theorem Std.ins {H : Hp} {a C dx : Addr} {fs : List (Str × V)} (h : Std H a (.ins C dx fs)) : H a = some (.ins C dx fs) := by
  rcases h with h | ⟨⟨_, e⟩, _⟩
  · exact h
  · cases e
/-- data that can be read now: its outermost object may be one that changes later -/
def RepT (c : FC) (F H : Hp) : D → V → Prop
  | .lst ds, v => ∃ a xs, v = .ref a ∧ H a = some (.lst xs) ∧ a ∉ c.chg ∧ Reps c.cl F ds xs
  | .tup ds, v => ∃ a xs, v = .ref a ∧ (H a = some (.tup xs) ∧ F a = some (.tup xs)) ∧ a ∉ c.chg ∧ Reps c.cl F ds xs
  | .dic kvs, v => ∃ a xs, v = .ref a ∧ Rd H a (.dK xs) ∧ a ∉ c.chg ∧ RepK c.cl F kvs xs
  | d, v => Rep c.cl F d v
def SlotR (c : FC) (w : Wd) (σ : St) (H : Hp) (i : Nat) : Slot → Prop
  | .none => True
  | .sh d => ∃ v, σ[i]? = some (some v) ∧ Rep c.cl w.F d v
  | .own d => ∃ a, σ[i]? = some (some (.ref a)) ∧ OwnR c.cl w.F H a d ∧ w.F a = none ∧ c.H0 a = none ∧ a ∉ c.chg
  | .strm => ∃ sa la, c.st = some (sa, la) ∧ σ[i]? = some (some (.ref sa))
  | .slf cn fs => ∃ a dx C gs, σ[i]? = some (some (.ref a)) ∧ c.cl cn = some C ∧ c.chg = [a] ∧ H a = some (.ins C dx gs) ∧ H dx = some (.own a) ∧ RepF c.cl w.F fs gs ∧ w.F dx = none ∧ gs.length < 900
  | .xcp cn fs => ∃ a C dd, σ[i]? = some (some (.ref a)) ∧ c.xc = some (a, .ref C, dd) ∧ c.cl cn = some C ∧ XD c.cl w.F fs dd
def OwnS (sl : Sl) (i : Nat) : Prop := ∃ d, sl[i]? = some (.own d)
structure SR (c : FC) (w : Wd) (σ : St) (H : Hp) : Prop where
  sub : ∀ a u, w.F a = some u → Std H a u
  keep : ∀ a o, c.H0 a = some o → a ∉ c.chg → (H a = some o) ∨ (∃ ob, (a, ob) ∈ w.lk ∧ H a = some (.frz ob o))
  slots : ∀ i s, w.sl[i]? = some s → SlotR c w σ H i s
  dist : ∀ i j a, i ≠ j → OwnS w.sl i → OwnS w.sl j → σ[i]? = some (some (.ref a)) → σ[j]? = some (some (.ref a)) → False
  fmut : ∀ a, a ∈ c.chg → w.F a = none
  chgd : ∀ a, a ∈ c.chg → ∃ o, H a = some o
  strm : ∀ sa la, c.st = some (sa, la) → StrmR H sa la w.z ∧ c.chg = [sa, la]
  fz0 : ∀ a o, c.H0 a = some o → c.F0 a = none → w.F a = none
  len : w.sl.length = σ.length
  lkd : ∀ p ∈ w.lk, ∃ u, w.F p.1 = some u ∧ isD u ∧ H p.1 = some (.frz p.2 u)
  lks : ∀ a u o, w.F a = some u → isD u → H a = some (.frz o u) → (a, o) ∈ w.lk
def KeepH (c : FC) (H H' : Hp) : Prop := ∀ a o, H a = some o → a ∉ c.chg → H' a = some o
structure Step (c : FC) (σ : St) (w : Wd) (H : Hp) (w' : Wd) (H' : Hp) : Prop where
  sr : SR c w' σ H'
  le : Le w.F w'.F
  keep : KeepH c H H'
  lk : w'.lk = w.lk
  sl : w'.sl = w.sl
  fz : ∀ a o, H a = some o → w.F a = none → w'.F a = none
  all : c.st = none → ∀ a o, H a = some o → H' a = some o
theorem Step.refl {c : FC} {σ : St} {w : Wd} {H : Hp} (s : SR c w σ H) : Step c σ w H w H := ⟨s, Le.refl _, fun _ _ h _ => h, rfl, rfl, fun _ _ _ h => h, fun _ _ _ h => h⟩
theorem Step.trans {c : FC} {σ : St} {w w1 w2 : Wd} {H H1 H2 : Hp} (a : Step c σ w H w1 H1) (b : Step c σ w1 H1 w2 H2) : Step c σ w H w2 H2 :=
  ⟨b.sr, a.le.trans b.le, fun x o h n => b.keep x o (a.keep x o h n) n, b.lk.trans a.lk, b.sl.trans a.sl, fun x o h n => by
    by_cases m : x ∈ c.chg
    · exact b.sr.fmut x m
    · exact b.fz x o (a.keep x o h m) (a.fz x o h n), fun e x o h => b.all e x o (a.all e x o h)⟩
theorem rd_keep {c : FC} {H H' : Hp} {a : Addr} {u : HO} (k : KeepH c H H') (n : a ∉ c.chg) (h : Rd H a u) : Rd H' a u := by
  rcases h with h | ⟨o, h⟩
  · exact .inl (k _ _ h n)
  · exact .inr ⟨o, k _ _ h n⟩
theorem std_keep {c : FC} {H H' : Hp} {a : Addr} {u : HO} (k : KeepH c H H') (n : a ∉ c.chg) (h : Std H a u) : Std H' a u := by
  rcases h with h | ⟨d, o, h⟩
  · exact .inl (k _ _ h n)
  · exact .inr ⟨d, o, k _ _ h n⟩
theorem RepT.keep {c : FC} {F F' H H' : Hp} {d : D} {v : V} (l : Le F F') (k : KeepH c H H') (h : RepT c F H d v) : RepT c F' H' d v := by
  cases d with
  | lst ds =>
    simp only [RepT] at h ⊢
    obtain ⟨a, xs, e, r, n, q⟩ := h
    exact ⟨a, xs, e, k _ _ r n, n, Reps.le l q⟩
  | tup ds =>
    simp only [RepT] at h ⊢
    obtain ⟨a, xs, e, r, n, q⟩ := h
    exact ⟨a, xs, e, ⟨k _ _ r.1 n, l _ _ r.2⟩, n, Reps.le l q⟩
  | dic ds =>
    simp only [RepT] at h ⊢
    obtain ⟨a, xs, e, r, n, q⟩ := h
    exact ⟨a, xs, e, rd_keep k n r, n, RepK.le l q⟩
  | _ => exact Rep.le l h
theorem SR.nomut {c : FC} {w : Wd} {σ : St} {H : Hp} (s : SR c w σ H) {a : Addr} {u : HO} (h : w.F a = some u) : a ∉ c.chg := fun m => by
  rw [s.fmut a m] at h
  cases h
theorem SR.view {c : FC} {w : Wd} {σ : St} {H : Hp} (s : SR c w σ H) {d : D} {v : V} (h : Rep c.cl w.F d v) : RepT c w.F H d v := by
  cases d with
  | lst ds =>
    simp only [RepT]
    simp only [Rep] at h
    obtain ⟨a, xs, e, r, q⟩ := h
    exact ⟨a, xs, e, (s.sub _ _ r).lst, s.nomut r, q⟩
  | tup ds =>
    simp only [RepT]
    simp only [Rep] at h
    obtain ⟨a, xs, e, r, q⟩ := h
    exact ⟨a, xs, e, ⟨(s.sub _ _ r).tup, r⟩, s.nomut r, q⟩
  | dic ds =>
    simp only [RepT]
    simp only [Rep] at h
    obtain ⟨a, xs, e, r, q⟩ := h
    exact ⟨a, xs, e, (s.sub _ _ r).rd, s.nomut r, q⟩
  | _ => exact h

/-! ### readings over data -/
def ErrW (c : FC) (W : WX) (σ : St) (w : Wd) (H : Hp) (cn : Str) (fs : List (Str × D)) (z' : Z) : Prop :=
  ∀ C dd H' w', c.cl cn = some C → Step c σ w H w' H' → w'.z = z' → XD c.cl w'.F fs dd → W (.ref C) dd σ H'
theorem ErrW.step {c : FC} {W : WX} {σ : St} {w w1 : Wd} {H H1 : Hp} {cn : Str} {fs : List (Str × D)} {z' : Z} (st : Step c σ w H w1 H1) (h : ErrW c W σ w H cn fs z') : ErrW c W σ w1 H1 cn fs z' :=
  fun C dd H' w' h1 h2 h3 h4 => h C dd H' w' h1 (st.trans h2) h3 h4
/-- what is wanted behind a computation of data -/
def Wnt {α : Type} (c : FC) (W : WX) (σ : St) (w : Wd) (H : Hp) (R : Wd → Hp → α → Prop) : ER α → Prop
  | .ok a z' => ∀ H' w', Step c σ w H w' H' → w'.z = z' → R w' H' a
  | .exc cn fs z' => ErrW c W σ w H cn fs z'
  | .bad => False
def tF (c : FC) (W : WX) (m : M D) : TE := fun σ H Q => ∃ w, SR c w σ H ∧ Wnt c W σ w H (fun w' H' d => ∀ v, Rep c.cl w'.F d v → Q v H') (m w.sl w.z)
def tV (c : FC) (W : WX) (m : M D) : TE := fun σ H Q => ∃ w, SR c w σ H ∧ Wnt c W σ w H (fun w' H' d => ∀ v, RepT c w'.F H' d v → Q v H') (m w.sl w.z)
def tT (c : FC) (W : WX) (m : M Bool) : TT := fun σ H Q => ∃ w, SR c w σ H ∧ Wnt c W σ w H (fun w' H' d => Q d H') (m w.sl w.z)
def RepTs (c : FC) (F H : Hp) : List D → List V → Prop
  | [], xs => xs = []
  | d :: ds, xs => ∃ y ys, xs = y :: ys ∧ RepT c F H d y ∧ RepTs c F H ds ys
theorem RepTs.keep {c : FC} {F F' H H' : Hp} (l : Le F F') (k : KeepH c H H') : ∀ {ds : List D} {xs : List V}, RepTs c F H ds xs → RepTs c F' H' ds xs
  | [], _, h => h
  | _ :: _, _, ⟨y, ys, e, a, b⟩ => ⟨y, ys, e, RepT.keep l k a, RepTs.keep l k b⟩
def tAF (c : FC) (W : WX) (m : M (List D)) : TA := fun σ H Q => ∃ w, SR c w σ H ∧ Wnt c W σ w H (fun w' H' ds => ∀ vs, Reps c.cl w'.F ds vs → Q vs H') (m w.sl w.z)
def tAV (c : FC) (W : WX) (m : M (List D)) : TA := fun σ H Q => ∃ w, SR c w σ H ∧ Wnt c W σ w H (fun w' H' ds => ∀ vs, RepTs c w'.F H' ds vs → Q vs H') (m w.sl w.z)
theorem Wnt.step {α : Type} {c : FC} {W : WX} {σ : St} {w w1 : Wd} {H H1 : Hp} {R : Wd → Hp → α → Prop} {e : ER α} (st : Step c σ w H w1 H1) (h : Wnt c W σ w H R e) : Wnt c W σ w1 H1 R e := by
  cases e with
  | ok a z => exact fun H' w' s e => h H' w' (st.trans s) e
  | exc cn fs z => exact ErrW.step st h
  | bad => exact h
theorem Wnt.imp {α : Type} {c : FC} {W : WX} {σ : St} {w : Wd} {H : Hp} {R R' : Wd → Hp → α → Prop} {e : ER α} (h : Wnt c W σ w H R e) (q : ∀ w' H' a, Step c σ w H w' H' → R w' H' a → R' w' H' a) : Wnt c W σ w H R' e := by
  cases e with
  | ok a z => exact fun H' w' s e => q _ _ _ s (h H' w' s e)
  | exc cn fs z => exact h
  | bad => exact h
/-- one computation behind another -/
theorem Wnt.bind {α β : Type} {c : FC} {W : WX} {σ : St} {w : Wd} {H : Hp} {R : Wd → Hp → β → Prop} {e : ER α} {f : α → Z → ER β} (h : Wnt c W σ w H R (e.bind f)) :
    Wnt c W σ w H (fun w' H' a => Wnt c W σ w' H' R (f a w'.z)) e := by
  cases e with
  | ok a z =>
    intro H' w' s e
    subst e
    exact Wnt.step s h
  | exc cn fs z => exact h
  | bad => exact h
theorem pe_imp {X : Cx} {e : Expr} {t t' : TE} (h : PE X e t) (q : ∀ σ H Q, t' σ H Q → t σ H Q) : PE X e t' := ⟨fun pins s σ H Q I hw => h.run pins s σ H Q I (q _ _ _ hw)⟩
theorem pt_imp {X : Cx} {e : Expr} {t t' : TT} (h : PT X e t) (q : ∀ σ H Q, t' σ H Q → t σ H Q) : PT X e t' := ⟨fun pins s σ H Q I hw => h.run pins s σ H Q I (q _ _ _ hw)⟩
theorem pa_imp {X : Cx} {e : List Expr} {t t' : TA} (h : PA X e t) (q : ∀ σ H Q, t' σ H Q → t σ H Q) : PA X e t' := ⟨fun pos pins s σ H Q I hw => h.run pos pins s σ H Q I (q _ _ _ hw)⟩
theorem ps_imp {X : Cx} {e : Stmt} {t t' : TS} (h : PS X e t) (q : ∀ D σ H, t' D σ H → t D σ H) : PS X e t' := ⟨fun pins s σ H D I hw => h.run pins s σ H D I (q _ _ _ hw)⟩
theorem pss_imp {X : Cx} {e : List Stmt} {t t' : TS} (h : PSs X e t) (q : ∀ D σ H, t' D σ H → t D σ H) : PSs X e t' := ⟨fun pins s σ H D I hw => h.run pins s σ H D I (q _ _ _ hw)⟩
section
variable {X : Cx} {c : FC} {W : WX} {e : Expr} {m : M D} {pos : Pos}
theorem dv (h : PE X e (tF c W m)) : PE X e (tV c W m) := pe_imp h fun σ H Q ⟨w, s, q⟩ => ⟨w, s, q.imp fun w' H' a st k v r => k v (st.sr.view r)⟩
/-! ### names, constants -/
def mC (d : D) : M D := fun _ z => .ok d z
/-- a frozen name -/
def mVar (i : Nat) : M D := fun s z => match s[i]? with
  | some (.sh d) => .ok d z
  | _ => .bad
/-- a name, looked at -/
def mView (i : Nat) : M D := fun s z => match s[i]? with
  | some (.sh d) => .ok d z
  | some (.own d) => .ok d z
  | _ => .bad
theorem SR.var {w : Wd} {σ : St} {H : Hp} (s : SR c w σ H) {i : Nat} {d : D} (h : w.sl[i]? = some (.sh d)) : ∃ v, σ[i]? = some (some v) ∧ Rep c.cl w.F d v := s.slots i _ h
theorem SR.own {w : Wd} {σ : St} {H : Hp} (s : SR c w σ H) {i : Nat} {d : D} (h : w.sl[i]? = some (.own d)) : ∃ v, σ[i]? = some (some v) ∧ RepT c w.F H d v := by
  obtain ⟨a, e, o, f, h0, m⟩ := s.slots i _ h
  refine ⟨_, e, ?_⟩
  cases d with
  | lst ds =>
    obtain ⟨xs, h1, h2⟩ := o
    exact ⟨a, xs, rfl, h1, m, h2⟩
  | dic ds =>
    obtain ⟨xs, h1, h2⟩ := o
    exact ⟨a, xs, rfl, .inl h1, m, h2⟩
  | _ => exact False.elim o
theorem df_var {i : Nat} {x : Str} (h : PE X (.Name x pos) (tVar i)) : PE X (.Name x pos) (tF c W (mVar i)) := pe_imp h fun σ H Q ⟨w, s, q⟩ => by
  cases e : w.sl[i]? with
  | none => rw [mVar, e] at q; exact False.elim q
  | some sl =>
    cases sl with
    | sh d =>
      rw [mVar, e] at q
      obtain ⟨v, e1, r⟩ := s.var e
      exact ⟨v, e1, q H w (Step.refl s) rfl v r⟩
    | _ => rw [mVar, e] at q; exact False.elim q
theorem dv_var {i : Nat} {x : Str} (h : PE X (.Name x pos) (tVar i)) : PE X (.Name x pos) (tV c W (mView i)) := pe_imp h fun σ H Q ⟨w, s, q⟩ => by
  cases e : w.sl[i]? with
  | none => rw [mView, e] at q; exact False.elim q
  | some sl =>
    cases sl with
    | sh d =>
      rw [mView, e] at q
      obtain ⟨v, e1, r⟩ := s.var e
      exact ⟨v, e1, q H w (Step.refl s) rfl v (s.view r)⟩
    | own d =>
      rw [mView, e] at q
      obtain ⟨v, e1, r⟩ := s.own e
      exact ⟨v, e1, q H w (Step.refl s) rfl v r⟩
    | _ => rw [mView, e] at q; exact False.elim q
theorem df_c {v : V} {d : D} (h : PE X e (tC v)) (r : ∀ F, Rep c.cl F d v) : PE X e (tF c W (mC d)) := pe_imp h fun σ H Q ⟨w, s, q⟩ => q H w (Step.refl s) rfl v (r _)
theorem df_int {i j} : PE X (.Constant (.int i) j pos) (tF c W (mC (.int i))) := df_c pe_int fun _ => by simp [Rep]
theorem df_bl {b j} : PE X (.Constant (.bool b) j pos) (tF c W (mC (.bl b))) := df_c pe_bl fun _ => by simp [Rep]
theorem df_non {j} : PE X (.Constant .none j pos) (tF c W (mC .non)) := df_c pe_non fun _ => by simp [Rep]
theorem df_str {x j} : PE X (.Constant (.str x) j pos) (tF c W (mC (.str x))) := df_c pe_str fun _ => by simp [Rep]
end
end DL

set_option Elab.async false
set_option linter.all false
set_option maxRecDepth 100000
set_option maxHeartbeats 2000000
namespace DL
open PySem PySem.Spec L2

/-! ### the heaps grow -/
structure Gr (c : FC) (F H F' H' : Hp) (z' : Z) : Prop where
  keep : KeepH c H H'
  all : c.st = none → ∀ a o, H a = some o → H' a = some o
  le : Le F F'
  new : ∀ a u, F' a = some u → F a = some u ∨ (H a = none ∧ H' a = some u)
  strm : ∀ sa la, c.st = some (sa, la) → StrmR H' sa la z'
theorem rd_some {H : Hp} {a : Addr} {u : HO} (h : Rd H a u) : ∃ o, H a = some o := by
  rcases h with h | ⟨o, h⟩
  · exact ⟨_, h⟩
  · exact ⟨_, h⟩
theorem OwnR.le {cl : Str → Option Addr} {F F' H H' : Hp} {a : Addr} {d : D} (l : Le F F') (k : ∀ o, H a = some o → H' a = some o) (h : OwnR cl F H a d) : OwnR cl F' H' a d := by
  cases d with
  | lst ds =>
    obtain ⟨xs, h1, h2⟩ := h
    exact ⟨xs, k _ h1, Reps.le l h2⟩
  | dic ds =>
    obtain ⟨xs, h1, h2⟩ := h
    exact ⟨xs, k _ h1, RepK.le l h2⟩
  | _ => exact h
theorem OwnR.some {cl : Str → Option Addr} {F H : Hp} {a : Addr} {d : D} (h : OwnR cl F H a d) : ∃ o, H a = some o := by
  cases d with
  | lst ds => obtain ⟨xs, h1, _⟩ := h; exact ⟨_, h1⟩
  | dic ds => obtain ⟨xs, h1, _⟩ := h; exact ⟨_, h1⟩
  | _ => exact False.elim h
theorem SR.fnone {c : FC} {w : Wd} {σ : L2.St} {H : Hp} (s : SR c w σ H) {a : Addr} (h : H a = none) : w.F a = none := by
  cases e : w.F a with
  | none => rfl
  | some u =>
    obtain ⟨o, q⟩ := rd_some (s.sub _ _ e).rd
    rw [h] at q
    cases q
theorem SR.grow {c : FC} {w : Wd} {σ : L2.St} {H F' H' : Hp} {z' : Z} (s : SR c w σ H) (g : Gr c w.F H F' H' z') : SR c { w with F := F', z := z' } σ H' where
  sub := fun a u h => by
    rcases g.new a u h with q | ⟨_, q⟩
    · exact std_keep g.keep (s.nomut q) (s.sub _ _ q)
    · exact .inl q
  keep := fun a o h n => by
    rcases s.keep a o h n with q | ⟨ob, l, q⟩
    · exact .inl (g.keep _ _ q n)
    · exact .inr ⟨ob, l, g.keep _ _ q n⟩
  slots := fun i sl h => by
    have q := s.slots i sl h
    cases sl with
    | none => trivial
    | sh d =>
      obtain ⟨v, e, r⟩ := q
      exact ⟨v, e, Rep.le g.le r⟩
    | own d =>
      obtain ⟨a, e, o, f, h0, m⟩ := q
      refine ⟨a, e, OwnR.le g.le (fun o h => g.keep _ _ h m) o, ?_, h0, m⟩
      show F' a = none
      cases e2 : F' a with
      | none => rfl
      | some u =>
        rcases g.new a u e2 with q | ⟨q, _⟩
        · rw [f] at q; cases q
        · obtain ⟨o', q'⟩ := o.some
          rw [q] at q'; cases q'
    | strm => exact q
    | slf cn fs =>
      obtain ⟨a, dx, C, gs, e, e1, e2, e3, e4, e5, e6, e7⟩ := q
      have st : c.st = none := by
        cases e : c.st with
        | none => rfl
        | some p =>
          have z := (s.strm p.1 p.2 e).2
          rw [e2] at z
          cases z
      refine ⟨a, dx, C, gs, e, e1, e2, g.all st _ _ e3, g.all st _ _ e4, RepF.le g.le e5, ?_, e7⟩
      show F' dx = none
      cases q2 : F' dx with
      | none => rfl
      | some u =>
        rcases g.new dx u q2 with q | ⟨q, _⟩
        · rw [e6] at q; cases q
        · rw [e4] at q; cases q
    | xcp cn fs =>
      obtain ⟨a, C, dd, e1, e2, e3, e4⟩ := q
      exact ⟨a, C, dd, e1, e2, e3, e4.le g.le⟩
  dist := s.dist
  fmut := fun a m => by
    show F' a = none
    cases e : F' a with
    | none => rfl
    | some u =>
      rcases g.new a u e with q | ⟨q, _⟩
      · rw [s.fmut a m] at q; cases q
      · obtain ⟨o, h⟩ := s.chgd a m
        rw [h] at q
        cases q
  chgd := fun a m => by
    cases e2 : c.st with
    | some p =>
      have h3 := (s.strm p.1 p.2 e2).2
      obtain ⟨h1, h2⟩ := g.strm p.1 p.2 e2
      rw [h3] at m
      rcases List.mem_cons.mp m with z | z
      · exact ⟨_, by rw [z]; exact h1⟩
      · exact ⟨_, by rw [List.mem_singleton.mp z]; exact h2⟩
    | none =>
      obtain ⟨o, h⟩ := s.chgd a m
      exact ⟨o, g.all e2 _ _ h⟩
  strm := fun sa la h => ⟨g.strm sa la h, (s.strm sa la h).2⟩
  fz0 := fun a o h n => by
    show F' a = none
    cases e : F' a with
    | none => rfl
    | some u =>
      rcases g.new a u e with q | ⟨q, _⟩
      · rw [s.fz0 a o h n] at q; cases q
      · by_cases m : a ∈ c.chg
        · obtain ⟨o', q'⟩ := s.chgd a m
          rw [q] at q'; cases q'
        · rcases s.keep a o h m with q' | ⟨ob, _, q'⟩
          · rw [q] at q'; cases q'
          · rw [q] at q'; cases q'
  len := s.len
  lkd := fun p hp => by
    obtain ⟨u, e1, e2, e3⟩ := s.lkd p hp
    exact ⟨u, g.le _ _ e1, e2, g.keep _ _ e3 (s.nomut e1)⟩
  lks := fun a u o h d e => by
    rcases g.new a u h with q | ⟨_, q⟩
    · obtain ⟨o', q'⟩ := rd_some (s.sub _ _ q).rd
      have q2 := g.keep _ _ q' (s.nomut q)
      rw [e] at q2
      cases q2
      exact s.lks a u o q d q'
    · rw [e] at q
      obtain ⟨kvs, rfl⟩ := d
      cases q
theorem SR.step {c : FC} {w : Wd} {σ : L2.St} {H F' H' : Hp} {z' : Z} (s : SR c w σ H) (g : Gr c w.F H F' H' z') : Step c σ w H { w with F := F', z := z' } H' := ⟨s.grow g, g.le, g.keep, rfl, rfl, fun a o h n => by
  show F' a = none
  cases e : F' a with
  | none => rfl
  | some u =>
    rcases g.new a u e with q | ⟨q, _⟩
    · (rw [n] at q; cases q)
    · (rw [q] at h; cases h), g.all⟩

/-- a new object, frozen at once -/
theorem SR.gr_new {c : FC} {w : Wd} {σ : L2.St} {H : Hp} (s : SR c w σ H) {p : Addr} (o : HO) (hp : H p = none) : Gr c w.F H (upd w.F p o) (upd H p o) w.z where
  keep := fun a u h _ => by rw [upd_ne (ne_of_none h hp)]; exact h
  all := fun _ a u h => by rw [upd_ne (ne_of_none h hp)]; exact h
  le := fun a u h => by rw [upd_ne (ne_of_none h (s.fnone hp))]; exact h
  new := fun a u h => by
    by_cases e : a = p
    · subst e
      rw [upd_same] at h
      exact .inr ⟨hp, by rw [upd_same]; exact h⟩
    · rw [upd_ne e] at h
      exact .inl h
  strm := fun sa la h => by
    obtain ⟨⟨h1, h2⟩, _⟩ := s.strm sa la h
    exact ⟨by rw [upd_ne (ne_of_none h1 hp)]; exact h1, by rw [upd_ne (ne_of_none h2 hp)]; exact h2⟩
theorem SR.fresh {c : FC} {w : Wd} {σ : L2.St} {H : Hp} (s : SR c w σ H) {p : Addr} (o : HO) (hp : H p = none) : Step c σ w H { w with F := upd w.F p o } (upd H p o) := s.step (s.gr_new o hp)
/-- a new object, tracked only -/
theorem SR.gr_track {c : FC} {w : Wd} {σ : L2.St} {H : Hp} (s : SR c w σ H) {p : Addr} (o : HO) (hp : H p = none) : Gr c w.F H w.F (upd H p o) w.z where
  keep := fun a u h _ => by rw [upd_ne (ne_of_none h hp)]; exact h
  all := fun _ a u h => by rw [upd_ne (ne_of_none h hp)]; exact h
  le := Le.refl _
  new := fun a u h => .inl h
  strm := fun sa la h => by
    obtain ⟨⟨h1, h2⟩, _⟩ := s.strm sa la h
    exact ⟨by rw [upd_ne (ne_of_none h1 hp)]; exact h1, by rw [upd_ne (ne_of_none h2 hp)]; exact h2⟩
theorem SR.track {c : FC} {w : Wd} {σ : L2.St} {H : Hp} (s : SR c w σ H) {p : Addr} (o : HO) (hp : H p = none) : Step c σ w H w (upd H p o) := s.step (s.gr_track o hp)

/-! ### a piece of data that an operation hands back -/
/-- what new object is a piece of data, its parts being frozen -/
def NewR (cl : Str → Option Addr) (F : Hp) : D → HO → Prop
  | .lst ds, o => ∃ xs, o = .lst xs ∧ Reps cl F ds xs
  | .tup ds, o => ∃ xs, o = .tup xs ∧ Reps cl F ds xs
  | .dic kvs, o => ∃ xs, o = .dK xs ∧ RepK cl F kvs xs
  | _, _ => False
theorem NewR.rep {cl : Str → Option Addr} {F : Hp} {d : D} {o : HO} {p : Addr} (hp : F p = none) (h : NewR cl F d o) : Rep cl (upd F p o) d (.ref p) := by
  have l : Le F (upd F p o) := fun a u e => by rw [upd_ne (ne_of_none e hp)]; exact e
  cases d with
  | lst ds =>
    obtain ⟨xs, rfl, r⟩ := h
    exact ⟨p, xs, rfl, upd_same, Reps.le l r⟩
  | tup ds =>
    obtain ⟨xs, rfl, r⟩ := h
    exact ⟨p, xs, rfl, upd_same, Reps.le l r⟩
  | dic ds =>
    obtain ⟨xs, rfl, r⟩ := h
    exact ⟨p, xs, rfl, upd_same, RepK.le l r⟩
  | _ => exact False.elim h
/-- what is wanted of a piece of data that an operation hands back -/
def Wt (c : FC) (σ : L2.St) (w : Wd) (H : Hp) (d : D) (Q : VK) : Prop := ∀ v H' w', Step c σ w H w' H' → w'.z = w.z → Rep c.cl w'.F d v → Q v H'
theorem Wt.val {c : FC} {σ : L2.St} {w : Wd} {H : Hp} {d : D} {Q : VK} (h : Wt c σ w H d Q) (s : SR c w σ H) {v : V} (r : Rep c.cl w.F d v) : Q v H := h v H w (Step.refl s) rfl r
theorem Wt.new {c : FC} {σ : L2.St} {w : Wd} {H : Hp} {d : D} {Q : VK} (h : Wt c σ w H d Q) (s : SR c w σ H) {o : HO} (n : NewR c.cl w.F d o) : ∀ p, H p = none → Q (.ref p) (upd H p o) := fun p hp =>
  h _ _ _ (s.fresh o hp) rfl (n.rep (s.fnone hp))
theorem Wt.int {c : FC} {σ : L2.St} {w : Wd} {H : Hp} {i : Int} {Q : VK} (h : Wt c σ w H (.int i) Q) (s : SR c w σ H) : Q (.int i) H := h.val s (by simp [Rep])
theorem Wt.bl {c : FC} {σ : L2.St} {w : Wd} {H : Hp} {i : Bool} {Q : VK} (h : Wt c σ w H (.bl i) Q) (s : SR c w σ H) : Q (.bl i) H := h.val s (by simp [Rep])
theorem Wt.str {c : FC} {σ : L2.St} {w : Wd} {H : Hp} {i : Str} {Q : VK} (h : Wt c σ w H (.str i) Q) (s : SR c w σ H) : Q (.str i) H := h.val s (by simp [Rep])
theorem Wt.non {c : FC} {σ : L2.St} {w : Wd} {H : Hp} {Q : VK} (h : Wt c σ w H .non Q) (s : SR c w σ H) : Q .non H := h.val s (by simp [Rep])

/-! ### operations on two pieces of data -/
def R2D (c : FC) (g : D → D → Option D) : R2 := fun x y H Q => ∃ w σ dx dy d, SR c w σ H ∧ RepT c w.F H dx x ∧ RepT c w.F H dy y ∧ g dx dy = some d ∧ Wt c σ w H d Q
def mOp (g : D → D → Option D) (a b : M D) : M D := fun s z => (a s z).bind fun x z1 => (b s z1).bind fun y z2 => match g x y with
  | some d => .ok d z2
  | none => .bad
theorem wnt_op {c : FC} {W : WX} {σ : L2.St} {w : Wd} {H : Hp} {Q : VK} {e : Option D} (s : SR c w σ H) (h : Wnt c W σ w H (fun w' H' d => ∀ v, Rep c.cl w'.F d v → Q v H') (match e with | some d => .ok d w.z | none => .bad)) :
    ∃ d, e = some d ∧ Wt c σ w H d Q := by
  cases e with
  | none => exact False.elim h
  | some d => exact ⟨d, rfl, fun v H' w' st e r => h H' w' st e v r⟩
section
variable {X : Cx} {c : FC} {W : WX} {a b : Expr} {ma mb : M D} {pos : Pos} {g : D → D → Option D}
theorem op_to {σ : L2.St} {H : Hp} {Q : VK} (q : tF c W (mOp g ma mb) σ H Q) : tOp (R2D c g) (tV c W ma) (tV c W mb) σ H Q := by
  obtain ⟨w, s, q⟩ := q
  refine ⟨w, s, (Wnt.bind q).imp fun w1 H1 dx s1 q1 v1 r1 => ?_⟩
  have e1 : w1.sl = w.sl := s1.sl
  refine ⟨w1, s1.sr, ?_⟩
  rw [e1]
  refine (Wnt.bind q1).imp fun w2 H2 dy s2 q2 v2 r2 => ?_
  obtain ⟨d, e, q3⟩ := wnt_op s2.sr q2
  exact ⟨w2, σ, dx, dy, d, s2.sr, RepT.keep s2.le s2.keep r1, r2, e, q3⟩
theorem df_op {op : Operator} (ho : OpR X (binaryOp op) (R2D c g)) (ha : PE X a (tV c W ma)) (hb : PE X b (tV c W mb)) : PE X (.BinOp a op b pos) (tF c W (mOp g ma mb)) :=
  pe_imp (pe_op ho ha hb) fun _ _ _ q => op_to q
theorem df_cmp {op : CmpOp} (ho : OpR X (compareOp op) (R2D c g)) (ha : PE X a (tV c W ma)) (hb : PE X b (tV c W mb)) (hm : behindInMarks op b = false) : PE X (.Compare a [op] [b] pos) (tF c W (mOp g ma mb)) :=
  pe_imp (pe_cmpR ho ha hb hm) fun _ _ _ q => op_to q
theorem df_ix (ho : IxR X (R2D c g)) (ha : PE X a (tV c W ma)) (hb : PE X b (tV c W mb)) (hs : PlainIx b) : PE X (.Subscript a b pos) (tF c W (mOp g ma mb)) :=
  pe_imp (pe_ix ho ha hb hs) fun _ _ _ q => op_to q
end
theorem opR_imp {X : Cx} {f : Value → Value → Sem Value} {r r' : R2} (h : OpR X f r) (q : ∀ x y H Q, r' x y H Q → r x y H Q) : OpR X f r' := fun pins s σ H x y v u Q I rx ry hw => h pins s σ H x y v u Q I rx ry (q _ _ _ _ hw)
theorem ixR_imp {X : Cx} {r r' : R2} (h : IxR X r) (q : ∀ x y H Q, r' x y H Q → r x y H Q) : IxR X r' := fun value slice pins s σ H x y v u Q I rx ry hw hs => h value slice pins s σ H x y v u Q I rx ry (q _ _ _ _ hw) hs
end DL

set_option Elab.async false
set_option linter.all false
set_option maxRecDepth 100000
set_option maxHeartbeats 2000000
namespace DL
open PySem PySem.Spec L2

/-! ### lists of data and lists of values -/
theorem Reps.length {cl : Str → Option Addr} {F : Hp} : ∀ {ds : List D} {xs : List V}, Reps cl F ds xs → xs.length = ds.length
  | [], xs, h => by
    simp only [Reps] at h
    subst h
    rfl
  | d :: ds, xs, h => by
    simp only [Reps] at h
    obtain ⟨y, ys, rfl, _, h⟩ := h
    simp [Reps.length h]
theorem Reps.get {cl : Str → Option Addr} {F : Hp} : ∀ {ds : List D} {xs : List V} {i : Nat} {d : D}, Reps cl F ds xs → ds[i]? = some d → ∃ v, xs[i]? = some v ∧ Rep cl F d v
  | [], xs, i, d, h, e => by simp at e
  | d' :: ds, xs, 0, d, h, e => by
    simp only [Reps] at h
    obtain ⟨y, ys, rfl, r, h⟩ := h
    simp only [List.getElem?_cons_zero, Option.some.injEq] at e
    subst e
    exact ⟨y, by simp, r⟩
  | d' :: ds, xs, i + 1, d, h, e => by
    simp only [Reps] at h
    obtain ⟨y, ys, rfl, r, h⟩ := h
    obtain ⟨v, e1, r1⟩ := Reps.get h (i := i) (d := d) (by simpa using e)
    exact ⟨v, by simpa using e1, r1⟩
theorem Reps.append {cl : Str → Option Addr} {F : Hp} : ∀ {ds es : List D} {xs ys : List V}, Reps cl F ds xs → Reps cl F es ys → Reps cl F (ds ++ es) (xs ++ ys)
  | [], es, xs, ys, h, h' => by
    simp only [Reps] at h
    subst h
    simpa using h'
  | d :: ds, es, xs, ys, h, h' => by
    simp only [Reps] at h
    obtain ⟨y, zs, rfl, r, h⟩ := h
    simp only [List.cons_append, Reps]
    exact ⟨y, zs ++ ys, rfl, r, Reps.append h h'⟩
theorem Reps.drop {cl : Str → Option Addr} {F : Hp} : ∀ {ds : List D} {xs : List V} (n : Nat), Reps cl F ds xs → Reps cl F (ds.drop n) (xs.drop n)
  | _, _, 0, h => by simpa using h
  | [], xs, n + 1, h => by
    simp only [Reps] at h
    subst h
    simp [Reps]
  | d :: ds, xs, n + 1, h => by
    simp only [Reps] at h
    obtain ⟨y, ys, rfl, r, h⟩ := h
    simpa using Reps.drop n h
theorem Reps.take {cl : Str → Option Addr} {F : Hp} : ∀ {ds : List D} {xs : List V} (n : Nat), Reps cl F ds xs → Reps cl F (ds.take n) (xs.take n)
  | _, _, 0, h => by simp [Reps]
  | [], xs, n + 1, h => by
    simp only [Reps] at h
    subst h
    simp [Reps]
  | d :: ds, xs, n + 1, h => by
    simp only [Reps] at h
    obtain ⟨y, ys, rfl, r, h⟩ := h
    simp only [List.take_succ_cons, Reps]
    exact ⟨y, _, rfl, r, Reps.take n h⟩
theorem Reps.nil {cl : Str → Option Addr} {F : Hp} : Reps cl F [] [] := by simp [Reps]
theorem Reps.cons {cl : Str → Option Addr} {F : Hp} {d : D} {v : V} {ds : List D} {xs : List V} (a : Rep cl F d v) (b : Reps cl F ds xs) : Reps cl F (d :: ds) (v :: xs) := by
  simp only [Reps]
  exact ⟨v, xs, rfl, a, b⟩
theorem Reps.snoc {cl : Str → Option Addr} {F : Hp} {d : D} {v : V} {ds : List D} {xs : List V} (b : Reps cl F ds xs) (a : Rep cl F d v) : Reps cl F (ds ++ [d]) (xs ++ [v]) := b.append (.cons a .nil)
theorem Reps.atI {cl : Str → Option Addr} {F : Hp} {ds : List D} {xs : List V} {i : Int} {d : D} (h : Reps cl F ds xs) (e : atI ds i = some d) : ∃ v, L2.atI xs i = some v ∧ Rep cl F d v := by
  unfold L2.atI at e ⊢
  rw [h.length]
  cases q : ixN ds.length i with
  | none => rw [q] at e; cases e
  | some j =>
    rw [q] at e
    exact Reps.get h e
def getK {κ α : Type} [DecidableEq κ] (kvs : List (κ × α)) (k : κ) : Option α := (kvs.find? fun kv => decide (kv.1 = k)).map (·.2)
def setK {κ α : Type} [DecidableEq κ] (kvs : List (κ × α)) (k : κ) (d : α) : List (κ × α) := if (kvs.any fun kv => decide (kv.1 = k)) = true then kvs.map fun kv => if kv.1 = k then (kv.1, d) else kv else kvs ++ [(k, d)]
theorem RepK.length {cl : Str → Option Addr} {F : Hp} : ∀ {ds : List (Key × D)} {xs : List (Key × V)}, RepK cl F ds xs → xs.length = ds.length
  | [], xs, h => by
    simp only [RepK] at h
    subst h
    rfl
  | (k, d) :: ds, xs, h => by
    simp only [RepK] at h
    obtain ⟨y, ys, rfl, _, h⟩ := h
    simp [RepK.length h]
theorem RepK.get {cl : Str → Option Addr} {F : Hp} {k : Key} {d : D} : ∀ {ds : List (Key × D)} {xs : List (Key × V)}, RepK cl F ds xs → getK ds k = some d → ∃ v, valV xs k = some v ∧ Rep cl F d v
  | [], xs, h, e => by simp [getK] at e
  | (j, e) :: ds, xs, h, g => by
    simp only [RepK] at h
    obtain ⟨y, ys, rfl, r, h⟩ := h
    by_cases c : j = k
    · rw [valV_pos c]
      simp [getK, List.find?_cons, c] at g
      subst g
      exact ⟨_, rfl, r⟩
    · rw [valV_neg c]
      exact RepK.get h (by simpa [getK, List.find?_cons, c] using g)
theorem RepK.none {cl : Str → Option Addr} {F : Hp} {k : Key} : ∀ {ds : List (Key × D)} {xs : List (Key × V)}, RepK cl F ds xs → getK ds k = none → valV xs k = none
  | [], xs, h, e => by
    simp only [RepK] at h
    subst h
    rfl
  | (j, e) :: ds, xs, h, g => by
    simp only [RepK] at h
    obtain ⟨y, ys, rfl, r, h⟩ := h
    by_cases c : j = k
    · simp [getK, List.find?_cons, c] at g
    · rw [valV_neg c]
      exact RepK.none h (by simpa [getK, List.find?_cons, c] using g)
theorem RepK.isSome {cl : Str → Option Addr} {F : Hp} {k : Key} {ds : List (Key × D)} {xs : List (Key × V)} (h : RepK cl F ds xs) : (valV xs k).isSome = (getK ds k).isSome := by
  cases e : getK ds k with
  | none => rw [h.none e]; rfl
  | some d =>
    obtain ⟨v, q, _⟩ := h.get e
    rw [q] <;> rfl

/-! ### which keys, which lengths -/
def lim : Nat := 1000000
theorem lim_line {n : Nat} (h : n ≤ lim) : n ≤ sizeLine := by
  rw [sizeLine_eq]
  unfold lim at h
  omega
theorem lim_lt {n : Nat} (h : n < lim) : n < sizeLine := by
  rw [sizeLine_eq]
  unfold lim at h
  omega
def keyD : D → Option Key
  | .int i => some (.inl i)
  | .str x => some (.inr x)
  | _ => none
theorem keyD_rep {c : FC} {F H : Hp} {d : D} {k : Key} {v : V} (e : keyD d = some k) (r : RepT c F H d v) : v = kV k := by
  cases d with
  | int i => simp [keyD] at e; subst e; simpa [RepT, Rep, kV] using r
  | str i => simp [keyD] at e; subst e; simpa [RepT, Rep, kV] using r
  | _ => simp [keyD] at e

/-! ### the operations -/
def dIx : D → D → Option D
  | .lst ds, .int i => atI ds i
  | .tup ds, .int i => atI ds i
  | .str z, .int i => if z.length ≤ lim then (atI z.cps.toList i).map fun c => .str ⟨#[c]⟩ else none
  | .dic kvs, k => (keyD k).bind fun k => getK kvs k
  | _, _ => none
section
variable {X : Cx} {c : FC}
theorem sub_tail {prog : Program} {w : World} {A : Around} {E : Value → Shared → Prop} {s : Shared} {value slice : Expr} {T id : String} {o i : Value} {Q : Value → Shared → Prop}
    (hl : typeLookup (.type T) "__getitem__" = pure (some (.builtin id))) (hs : subscripted slice false o i = operate [o, i] (getItem o i)) (hT : s.TypeIs o T)
    (h : wpAny (model prog w) A (getItem o i) Q E s) : wpAny (model prog w) A (PyProof.Rows.subscriptTail value slice o i) Q E s := by
  unfold PyProof.Rows.subscriptTail
  refine wpAny_bind ?_
  rw [getitemInPython_of_ne hT.not_modules]
  refine wpAny_bind (wpAny_specialOf hT hl ?_)
  have last : wpAny (model prog w) A (subscripted slice false o i) (fun r s1 => wpAny (model prog w) A (letTemporaryGo value o r >>= fun _ => pure r) Q E s1) E s := by
    rw [hs]
    refine wpAny_operating (wpAny_mono h (fun r s1 h1 => ?_) fun _ _ x => x)
    exact wpAny_bind (wpAny_letTemporaryGo (wpAny_pure h1))
  first
    | exact wpAny_pure (wpAny_bind last)
    | exact wpAny_bind (wpAny_pure (wpAny_bind last))
    | exact wpAny_bind last
theorem ix_dict (hu : X.A.units + 1 < cLine) : IxR X (fun x y H Q => ∃ a v, x = .ref a ∧ DGet H a y (some v) ∧ Q v H) := by
  intro value slice pins s σ H x y v u Q I rx ry h hs
  obtain ⟨a, z, rfl, g, q⟩ := h
  obtain rfl : v = Value.ref a := rx
  exact sub_tail PySem.F.slot_dict_getitem.lookup hs (dict_typeIs I g) (d_getItem hu I g ry fun w' s3 I3 rw' => ⟨z, H, I3, rw', q⟩)
theorem ix_data (hu : X.A.units + 1 < cLine) : IxR X (R2D c dIx) := by
  refine ixR_imp ((ix_seq (X := X)).or (ix_dict hu)) fun x y H Q h => ?_
  obtain ⟨w, σ, dx, dy, d, s, rx, ry, e, q⟩ := h
  cases dx with
  | lst ds =>
    cases dy with
    | int i =>
      obtain ⟨a, xs, rfl, h1, _, h2⟩ := rx
      have ry : y = .int i := by simpa [RepT, Rep] using ry
      obtain ⟨v, e1, r⟩ := Reps.atI h2 e
      exact .inl (.inl ⟨a, xs, i, v, rfl, ry, SqL.of h1, e1, q.val s r⟩)
    | _ => simp [dIx] at e
  | tup ds =>
    cases dy with
    | int i =>
      obtain ⟨a, xs, rfl, h1, _, h2⟩ := rx
      have ry : y = .int i := by simpa [RepT, Rep] using ry
      obtain ⟨v, e1, r⟩ := Reps.atI h2 e
      exact .inl (.inr (.inl ⟨a, xs, i, v, rfl, ry, SqT.of h1.1, e1, q.val s r⟩))
    | _ => simp [dIx] at e
  | str z =>
    cases dy with
    | int i =>
      have rx : x = .str z := by simpa [RepT, Rep] using rx
      have ry : y = .int i := by simpa [RepT, Rep] using ry
      simp only [dIx] at e
      split at e
      · rename_i hl
        cases e1 : atI z.cps.toList i with
        | none => rw [e1] at e; simp at e
        | some k =>
          rw [e1] at e
          simp at e
          subst e
          exact .inl (.inr (.inr ⟨z, i, k, rx, ry, lim_line hl, e1, q.str s⟩))
      · cases e
    | _ => simp [dIx] at e
  | dic kvs =>
    obtain ⟨a, xs, rfl, h1, _, h2⟩ := rx
    simp only [dIx] at e
    cases ek : keyD dy with
    | none => rw [ek] at e; cases e
    | some k =>
      rw [ek] at e
      obtain ⟨v, e1, r⟩ := h2.get e
      exact .inr ⟨a, v, rfl, .inl ⟨xs, k, h1, keyD_rep ek ry, e1.symm⟩, q.val s r⟩
  | _ => simp [dIx] at e
end
end DL

set_option Elab.async false
set_option linter.all false
set_option maxRecDepth 100000
set_option maxHeartbeats 4000000
namespace DL
open PySem PySem.Spec L2
open PySem.SeqAt (EqAt RcAt EqP)

/-! ### == on data without dicts -/
def eqZ (f : D → D → Option Bool) : List D → List D → Option Bool
  | x :: xs, y :: ys => (f x y).bind fun a => (eqZ f xs ys).map fun b => a && b
  | _, _ => some true
def eqN : Nat → D → D → Option Bool
  | 0, _, _ => none
  | n + 1, d, e => match d, e with
    | .non, .non => some true
    | .non, .bl _ => some false
    | .non, .int _ => some false
    | .non, .str _ => some false
    | .non, .lst _ => some false
    | .non, .tup _ => some false
    | .bl _, .non => some false
    | .bl a, .bl b => some (a == b)
    | .bl a, .int b => some ((if a = true then 1 else 0) == b)
    | .bl _, .str _ => some false
    | .bl _, .lst _ => some false
    | .bl _, .tup _ => some false
    | .int _, .non => some false
    | .int a, .bl b => some (a == (if b = true then 1 else 0))
    | .int a, .int b => some (a == b)
    | .int _, .str _ => some false
    | .int _, .lst _ => some false
    | .int _, .tup _ => some false
    | .str _, .non => some false
    | .str _, .bl _ => some false
    | .str _, .int _ => some false
    | .str a, .str b => some (a == b)
    | .str _, .lst _ => some false
    | .str _, .tup _ => some false
    | .lst _, .non => some false
    | .lst _, .bl _ => some false
    | .lst _, .int _ => some false
    | .lst _, .str _ => some false
    | .lst _, .tup _ => some false
    | .lst xs, .lst ys => if xs.length = ys.length then eqZ (eqN n) xs ys else some false
    | .tup _, .non => some false
    | .tup _, .bl _ => some false
    | .tup _, .int _ => some false
    | .tup _, .str _ => some false
    | .tup _, .lst _ => some false
    | .tup xs, .tup ys => (eqZ (eqN n) xs ys).map fun b => b && (xs.length == ys.length)
    | _, _ => none
theorem eqZ_get {f : D → D → Option Bool} : ∀ {xs ys : List D} {b : Bool}, eqZ f xs ys = some b → ∀ (j : Nat) (x y : D), xs[j]? = some x → ys[j]? = some y → ∃ k, f x y = some k
  | [], _, _, _, j, x, y, h, _ => by simp at h
  | _ :: _, [], _, _, j, x, y, _, h => by simp at h
  | a :: xs, b :: ys, k, e, j, x, y, h1, h2 => by
    simp only [eqZ, Option.bind_eq_some_iff, Option.map_eq_some_iff] at e
    obtain ⟨k1, e1, k2, e2, _⟩ := e
    cases j with
    | zero =>
      simp only [List.getElem?_cons_zero, Option.some.injEq] at h1 h2
      subst h1 h2
      exact ⟨k1, e1⟩
    | succ j => exact eqZ_get e2 j x y (by simpa using h1) (by simpa using h2)
/-- the answer at the places -/
def ansZ (f : D → D → Option Bool) (xs ys : List D) (j : Nat) : Bool := match xs[j]?, ys[j]? with
  | some x, some y => (f x y).getD true
  | _, _ => true
theorem eqZ_all {f : D → D → Option Bool} : ∀ {xs ys : List D} {b : Bool}, eqZ f xs ys = some b → (List.range (min xs.length ys.length)).all (ansZ f xs ys) = b
  | [], _, _, e => by simp [eqZ] at e; subst e; simp
  | _ :: _, [], _, e => by simp [eqZ] at e; subst e; simp
  | x :: xs, y :: ys, b, e => by
    simp only [eqZ, Option.bind_eq_some_iff, Option.map_eq_some_iff] at e
    obtain ⟨k1, e1, k2, e2, e3⟩ := e
    have ih := eqZ_all e2
    have hm : min (x :: xs).length (y :: ys).length = min xs.length ys.length + 1 := by simp only [List.length_cons]; omega
    rw [hm, List.range_succ_eq_map, List.all_cons, List.all_map]
    have h0 : ansZ f (x :: xs) (y :: ys) 0 = k1 := by simp [ansZ, e1]
    have h1 : (ansZ f (x :: xs) (y :: ys) ∘ Nat.succ) = ansZ f xs ys := by
      funext j
      simp [ansZ]
    rw [h0, h1, ih, e3]
/-- one object, two readings: == is true -/
theorem rep_same {cl : Str → Option Addr} {F : Hp} : ∀ (n : Nat) {d e : D} {v : V} {b : Bool}, Rep cl F d v → Rep cl F e v → eqN n d e = some b → b = true := by
  intro n
  induction n with
  | zero => intro d e v b _ _ h; simp [eqN] at h
  | succ n ih =>
    have hz : ∀ {xs ys : List D} {vs : List V} {b : Bool}, Reps cl F xs vs → Reps cl F ys vs → eqZ (eqN n) xs ys = some b → b = true := by
      intro xs
      induction xs with
      | nil => intro ys vs b _ _ h; simp [eqZ] at h; exact h
      | cons x xs ihx =>
        intro ys vs b h1 h2 h
        cases ys with
        | nil => simp [eqZ] at h; exact h
        | cons y ys =>
          simp only [Reps] at h1 h2
          obtain ⟨z, zs, rfl, r1, h1⟩ := h1
          obtain ⟨z', zs', e, r2, h2⟩ := h2
          cases e
          simp only [eqZ, Option.bind_eq_some_iff, Option.map_eq_some_iff] at h
          obtain ⟨k1, e1, k2, e2, e3⟩ := h
          rw [ih r1 r2 e1, ihx h1 h2 e2] at e3
          exact e3.symm
    intro d e v b h1 h2 h
    cases d with
    | non =>
      have h1 : v = .non := by simpa [Rep] using h1
      subst h1
      cases e <;> first
        | (simpa [eqN] using h.symm; done)
        | (simp [eqN] at h; done)
        | (simp [Rep] at h2; done)
    | bl k =>
      have h1 : v = .bl k := by simpa [Rep] using h1
      subst h1
      cases e <;> first
        | (simp [eqN] at h; done)
        | (simp [Rep] at h2; done)
        | (simp [Rep] at h2; subst h2; simpa [eqN] using h.symm)
    | int k =>
      have h1 : v = .int k := by simpa [Rep] using h1
      subst h1
      cases e <;> first
        | (simp [eqN] at h; done)
        | (simp [Rep] at h2; done)
        | (simp [Rep] at h2; subst h2; simpa [eqN] using h.symm)
    | str k =>
      have h1 : v = .str k := by simpa [Rep] using h1
      subst h1
      cases e <;> first
        | (simp [eqN] at h; done)
        | (simp [Rep] at h2; done)
        | (simp [Rep] at h2; subst h2; simpa [eqN] using h.symm)
    | lst xs =>
      obtain ⟨a, us, rfl, e1, r1⟩ := h1
      cases e with
      | lst ys =>
        obtain ⟨a', us', q, e2, r2⟩ := h2
        cases q
        rw [e1] at e2
        cases e2
        have l1 := r1.length
        have l2 := r2.length
        simp only [eqN] at h
        rw [if_pos (by omega)] at h
        exact hz r1 r2 h
      | tup ys =>
        obtain ⟨a', us', q, e2, r2⟩ := h2
        cases q
        rw [e1] at e2
        cases e2
      | _ => first
        | (simp [eqN] at h; done)
        | (simp [Rep] at h2; done)
    | tup xs =>
      obtain ⟨a, us, rfl, e1, r1⟩ := h1
      cases e with
      | tup ys =>
        obtain ⟨a', us', q, e2, r2⟩ := h2
        cases q
        rw [e1] at e2
        cases e2
        have l1 := r1.length
        have l2 := r2.length
        simp only [eqN, Option.map_eq_some_iff] at h
        obtain ⟨k, h, rfl⟩ := h
        rw [hz r1 r2 h]
        have hl : xs.length = ys.length := by omega
        simp [hl]
      | lst ys =>
        obtain ⟨a', us', q, e2, r2⟩ := h2
        cases q
        rw [e1] at e2
        cases e2
      | _ => first
        | (simp [eqN] at h; done)
        | (simp [Rep] at h2; done)
    | _ => simp [eqN] at h

section
variable {X : Cx} {pins : List (Addr × Obj)} {σ0 : L2.St} {H : Hp} {s : Shared} {c : FC} {w : Wd} {σ : L2.St}
/-- the places of two lists of values, compared -/
theorem items_at {A : Around} {n : Nat} {F : Hp} {cl : Str → Option Addr} (ih : ∀ {d e : D} {x y : V} {v u : Value} {b : Bool}, Rep cl F d x → Rep cl F e y → RelV x v → RelV y u → eqN n d e = some b → EqAt A s v u b)
    {ds es : List D} {xs ys : List V} {us ws : List Value} {b : Bool} (h1 : Reps cl F ds xs) (h2 : Reps cl F es ys) (r1 : Vals xs us) (r2 : Vals ys ws) (e : eqZ (eqN n) ds es = some b) :
    ∀ j (j1 : j < us.toArray.size) (j2 : j < ws.toArray.size), EqAt A s us.toArray[j] ws.toArray[j] (ansZ (eqN n) ds es j) := by
  intro j j1 j2
  have j1' : j < us.length := by simpa using j1
  have j2' : j < ws.length := by simpa using j2
  have l1 := r1.length
  have l2 := r2.length
  have m1 := h1.length
  have m2 := h2.length
  obtain ⟨d, hd⟩ : ∃ d, ds[j]? = some d := ⟨ds[j]'(by omega), List.getElem?_eq_getElem _⟩
  obtain ⟨k, hk⟩ : ∃ k, es[j]? = some k := ⟨es[j]'(by omega), List.getElem?_eq_getElem _⟩
  obtain ⟨x, hx, rx⟩ := h1.get hd
  obtain ⟨y, hy, ry⟩ := h2.get hk
  obtain ⟨v, hv, rv⟩ := r1.get hx
  obtain ⟨u, hu, ru⟩ := r2.get hy
  obtain ⟨q, hq⟩ := eqZ_get e j d k hd hk
  have ev : us[j] = v := by
    rw [List.getElem?_eq_getElem j1'] at hv
    exact Option.some.inj hv
  have eu : ws[j] = u := by
    rw [List.getElem?_eq_getElem j2'] at hu
    exact Option.some.inj hu
  have ea : ansZ (eqN n) ds es j = q := by
    unfold ansZ
    rw [hd, hk]
    simp [hq]
  rw [ea]
  show EqAt A s us[j] ws[j] q
  rw [ev, eu]
  exact ih rx ry rv ru hq
theorem reps_same {cl : Str → Option Addr} {F : Hp} {n : Nat} : ∀ {ds es : List D} {vs : List V} {b : Bool}, Reps cl F ds vs → Reps cl F es vs → eqZ (eqN n) ds es = some b → b = true
  | [], es, vs, b, _, _, h => by simp [eqZ] at h; exact h
  | d :: ds, [], vs, b, _, _, h => by simp [eqZ] at h; exact h
  | d :: ds, e :: es, vs, b, h1, h2, h => by
    simp only [Reps] at h1 h2
    obtain ⟨z, zs, rfl, r1, h1⟩ := h1
    obtain ⟨z', zs', q, r2, h2⟩ := h2
    cases q
    simp only [eqZ, Option.bind_eq_some_iff, Option.map_eq_some_iff] at h
    obtain ⟨k1, e1, k2, e2, e3⟩ := h
    rw [rep_same n r1 r2 e1, reps_same h1 h2 e2] at e3
    exact e3.symm
/-- two lists -/
theorem lists_at (I : Inv X pins σ0 H s) {A : Around} {n : Nat} {F : Hp} {cl : Str → Option Addr} (hu : A.units < cLine) (ih : ∀ {d e : D} {x y : V} {v u : Value} {b : Bool}, Rep cl F d x → Rep cl F e y → RelV x v → RelV y u → eqN n d e = some b → EqAt A.in1 s v u b)
    {ds es : List D} {xs ys : List V} {a a' : Addr} {b : Bool} (e1 : H a = some (.lst xs)) (e2 : H a' = some (.lst ys)) (h1 : Reps cl F ds xs) (h2 : Reps cl F es ys) (e : (if ds.length = es.length then eqZ (eqN n) ds es else some false) = some b) :
    EqAt A s (.ref a) (.ref a') b := by
  have l1 := h1.length
  have l2 := h2.length
  by_cases ha : a = a'
  · subst ha
    rw [e1] at e2
    cases e2
    rw [if_pos (by omega)] at e
    rw [reps_same h1 h2 e]
    exact EqAt.same _
  · obtain ⟨us, r1, p1, _⟩ := I.list (SqL.of (K := X.K) e1)
    obtain ⟨ws, r2, p2, _⟩ := I.list (SqL.of (K := X.K) e2)
    have m1 := r1.length
    have m2 := r2.length
    by_cases hl : ds.length = es.length
    · rw [if_pos hl] at e
      have hsz : us.toArray.size = ws.toArray.size := by simp only [List.size_toArray]; omega
      have z := eqZ_all e
      have hm : min ds.length es.length = us.toArray.size := by simp only [List.size_toArray]; omega
      rw [hm] at z
      rw [← z]
      exact EqAt.of_refs ha (RcAt.lists p1.isList p2.isList hsz hu (items_at ih h1 h2 r1 r2 e))
    · rw [if_neg hl] at e
      cases e
      exact EqAt.of_refs ha (RcAt.lists_lengths p1.isList p2.isList (by simp only [List.size_toArray, bne_iff_ne, ne_eq]; omega) hu)
theorem tups_at (I : Inv X pins σ0 H s) {A : Around} {n : Nat} {F : Hp} {cl : Str → Option Addr} (hu : A.units < cLine) (ih : ∀ {d e : D} {x y : V} {v u : Value} {b : Bool}, Rep cl F d x → Rep cl F e y → RelV x v → RelV y u → eqN n d e = some b → EqAt A.in1 s v u b)
    {ds es : List D} {xs ys : List V} {a a' : Addr} {b : Bool} (e1 : H a = some (.tup xs)) (e2 : H a' = some (.tup ys)) (h1 : Reps cl F ds xs) (h2 : Reps cl F es ys) (e : (eqZ (eqN n) ds es).map (fun b => b && (ds.length == es.length)) = some b) :
    EqAt A s (.ref a) (.ref a') b := by
  have l1 := h1.length
  have l2 := h2.length
  rw [Option.map_eq_some_iff] at e
  obtain ⟨k, e, rfl⟩ := e
  by_cases ha : a = a'
  · subst ha
    rw [e1] at e2
    cases e2
    rw [reps_same h1 h2 e]
    have hl : ds.length = es.length := by omega
    rw [hl]
    simpa using EqAt.same _
  · obtain ⟨us, r1, p1, _⟩ := I.tuple (SqT.of (K := X.K) e1)
    obtain ⟨ws, r2, p2, _⟩ := I.tuple (SqT.of (K := X.K) e2)
    have m1 := r1.length
    have m2 := r2.length
    have z := eqZ_all e
    have hm : min ds.length es.length = min us.toArray.size ws.toArray.size := by simp only [List.size_toArray]; omega
    rw [hm] at z
    have he : (ds.length == es.length) = (us.toArray.size == ws.toArray.size) := by
      simp only [List.size_toArray]
      rw [← l1, ← l2, m1, m2]
    rw [he, ← z]
    exact EqAt.of_refs ha (RcAt.tuples (show s.heap.IsTuple a us.toArray from p1) (show s.heap.IsTuple a' ws.toArray from p2) hu (items_at ih h1 h2 r1 r2 e))
/-- two pieces of data, by what stands outermost -/
theorem eq_step (I : Inv X pins σ0 H s) {A : Around} {n : Nat} {F : Hp} {c : FC} (hu : A.units < cLine) (ih : ∀ {d e : D} {x y : V} {v u : Value} {b : Bool}, Rep c.cl F d x → Rep c.cl F e y → RelV x v → RelV y u → eqN n d e = some b → EqAt A.in1 s v u b)
    {d e : D} {x y : V} {v u : Value} {b : Bool} (h1 : RepT c F H d x) (h2 : RepT c F H e y) (r1 : RelV x v) (r2 : RelV y u) (q : eqN (n + 1) d e = some b) : EqAt A s v u b := by
  cases d with
  | non =>
    have h1 : x = .non := by simpa [RepT, Rep] using h1
    subst h1
    obtain rfl : v = .none := r1
    cases e with
    | non =>
      have h2 : y = .non := by simpa [RepT, Rep] using h2
      subst h2
      obtain rfl : u = .none := r2
      simp [eqN] at q
      subst q
      exact EqAt.same _
    | bl k =>
      have h2 : y = .bl k := by simpa [RepT, Rep] using h2
      subst h2
      obtain rfl : u = .bool k := r2
      simp [eqN] at q
      subst q
      exact EqAt.none_bool _
    | int k =>
      have h2 : y = .int k := by simpa [RepT, Rep] using h2
      subst h2
      obtain ⟨t, rfl⟩ := r2
      simp [eqN] at q
      subst q
      exact EqAt.none_int _ _
    | str k =>
      have h2 : y = .str k := by simpa [RepT, Rep] using h2
      subst h2
      obtain ⟨t, rfl⟩ := r2
      simp [eqN] at q
      subst q
      exact EqAt.none_str _ _
    | lst ys =>
      obtain ⟨a, zs, rfl, e2, _, r⟩ := h2
      obtain rfl : u = .ref a := r2
      obtain ⟨us, _, p, _⟩ := I.list (SqL.of (K := X.K) e2)
      simp [eqN] at q
      subst q
      exact EqAt.none_list p.isList hu
    | tup ys =>
      obtain ⟨a, zs, rfl, e2, _, r⟩ := h2
      obtain rfl : u = .ref a := r2
      obtain ⟨us, _, p, _⟩ := I.tuple (SqT.of (K := X.K) e2.1)
      simp [eqN] at q
      subst q
      exact EqAt.none_tuple (show s.heap.IsTuple a us.toArray from p) hu
    | _ => simp [eqN] at q
  | bl j =>
    have h1 : x = .bl j := by simpa [RepT, Rep] using h1
    subst h1
    obtain rfl : v = .bool j := r1
    cases e with
    | non =>
      have h2 : y = .non := by simpa [RepT, Rep] using h2
      subst h2
      obtain rfl : u = .none := r2
      simp [eqN] at q
      subst q
      exact EqAt.bool_none _
    | bl k =>
      have h2 : y = .bl k := by simpa [RepT, Rep] using h2
      subst h2
      obtain rfl : u = .bool k := r2
      simp [eqN] at q
      subst q
      exact EqAt.bool_bool _ _
    | int k =>
      have h2 : y = .int k := by simpa [RepT, Rep] using h2
      subst h2
      obtain ⟨t, rfl⟩ := r2
      simp only [eqN, Option.some.injEq] at q
      subst q
      exact EqAt.bool_int _ _ _
    | str k =>
      have h2 : y = .str k := by simpa [RepT, Rep] using h2
      subst h2
      obtain ⟨t, rfl⟩ := r2
      simp [eqN] at q
      subst q
      exact EqAt.bool_str _ _ _
    | lst ys =>
      obtain ⟨a, zs, rfl, e2, _, r⟩ := h2
      obtain rfl : u = .ref a := r2
      obtain ⟨us, _, p, _⟩ := I.list (SqL.of (K := X.K) e2)
      simp [eqN] at q
      subst q
      exact EqAt.bool_list _ p.isList hu
    | tup ys =>
      obtain ⟨a, zs, rfl, e2, _, r⟩ := h2
      obtain rfl : u = .ref a := r2
      obtain ⟨us, _, p, _⟩ := I.tuple (SqT.of (K := X.K) e2.1)
      simp [eqN] at q
      subst q
      exact EqAt.bool_tuple _ (show s.heap.IsTuple a us.toArray from p) hu
    | _ => simp [eqN] at q
  | int j =>
    have h1 : x = .int j := by simpa [RepT, Rep] using h1
    subst h1
    obtain ⟨t1, rfl⟩ := r1
    cases e with
    | non =>
      have h2 : y = .non := by simpa [RepT, Rep] using h2
      subst h2
      obtain rfl : u = .none := r2
      simp [eqN] at q
      subst q
      exact EqAt.int_none _ _
    | bl k =>
      have h2 : y = .bl k := by simpa [RepT, Rep] using h2
      subst h2
      obtain rfl : u = .bool k := r2
      simp only [eqN, Option.some.injEq] at q
      subst q
      exact EqAt.int_bool _ _ _
    | int k =>
      have h2 : y = .int k := by simpa [RepT, Rep] using h2
      subst h2
      obtain ⟨t, rfl⟩ := r2
      simp only [eqN, Option.some.injEq] at q
      subst q
      exact EqAt.int_int _ _ _ _
    | str k =>
      have h2 : y = .str k := by simpa [RepT, Rep] using h2
      subst h2
      obtain ⟨t, rfl⟩ := r2
      simp [eqN] at q
      subst q
      exact EqAt.int_str _ _ _ _
    | lst ys =>
      obtain ⟨a, zs, rfl, e2, _, r⟩ := h2
      obtain rfl : u = .ref a := r2
      obtain ⟨us, _, p, _⟩ := I.list (SqL.of (K := X.K) e2)
      simp [eqN] at q
      subst q
      exact EqAt.int_list _ _ p.isList hu
    | tup ys =>
      obtain ⟨a, zs, rfl, e2, _, r⟩ := h2
      obtain rfl : u = .ref a := r2
      obtain ⟨us, _, p, _⟩ := I.tuple (SqT.of (K := X.K) e2.1)
      simp [eqN] at q
      subst q
      exact EqAt.int_tuple _ _ (show s.heap.IsTuple a us.toArray from p) hu
    | _ => simp [eqN] at q
  | str j =>
    have h1 : x = .str j := by simpa [RepT, Rep] using h1
    subst h1
    obtain ⟨t1, rfl⟩ := r1
    cases e with
    | non =>
      have h2 : y = .non := by simpa [RepT, Rep] using h2
      subst h2
      obtain rfl : u = .none := r2
      simp [eqN] at q
      subst q
      exact EqAt.str_none _ _
    | bl k =>
      have h2 : y = .bl k := by simpa [RepT, Rep] using h2
      subst h2
      obtain rfl : u = .bool k := r2
      simp [eqN] at q
      subst q
      exact EqAt.str_bool _ _ _
    | int k =>
      have h2 : y = .int k := by simpa [RepT, Rep] using h2
      subst h2
      obtain ⟨t, rfl⟩ := r2
      simp [eqN] at q
      subst q
      exact EqAt.str_int _ _ _ _
    | str k =>
      have h2 : y = .str k := by simpa [RepT, Rep] using h2
      subst h2
      obtain ⟨t, rfl⟩ := r2
      simp only [eqN, Option.some.injEq] at q
      subst q
      exact EqAt.str_str _ _ _ _
    | lst ys =>
      obtain ⟨a, zs, rfl, e2, _, r⟩ := h2
      obtain rfl : u = .ref a := r2
      obtain ⟨us, _, p, _⟩ := I.list (SqL.of (K := X.K) e2)
      simp [eqN] at q
      subst q
      exact EqAt.str_list _ _ p.isList hu
    | tup ys =>
      obtain ⟨a, zs, rfl, e2, _, r⟩ := h2
      obtain rfl : u = .ref a := r2
      obtain ⟨us, _, p, _⟩ := I.tuple (SqT.of (K := X.K) e2.1)
      simp [eqN] at q
      subst q
      exact EqAt.str_tuple _ _ (show s.heap.IsTuple a us.toArray from p) hu
    | _ => simp [eqN] at q
  | lst xs =>
    obtain ⟨a1, zs1, rfl, e1, _, q1⟩ := h1
    obtain rfl : v = .ref a1 := r1
    obtain ⟨us1, _, p1, _⟩ := I.list (SqL.of (K := X.K) e1)
    cases e with
    | non =>
      have h2 : y = .non := by simpa [RepT, Rep] using h2
      subst h2
      obtain rfl : u = .none := r2
      simp [eqN] at q
      subst q
      exact EqAt.list_none p1.isList hu
    | bl k =>
      have h2 : y = .bl k := by simpa [RepT, Rep] using h2
      subst h2
      obtain rfl : u = .bool k := r2
      simp [eqN] at q
      subst q
      exact EqAt.list_bool _ p1.isList hu
    | int k =>
      have h2 : y = .int k := by simpa [RepT, Rep] using h2
      subst h2
      obtain ⟨t, rfl⟩ := r2
      simp [eqN] at q
      subst q
      exact EqAt.list_int _ _ p1.isList hu
    | str k =>
      have h2 : y = .str k := by simpa [RepT, Rep] using h2
      subst h2
      obtain ⟨t, rfl⟩ := r2
      simp [eqN] at q
      subst q
      exact EqAt.list_str _ _ p1.isList hu
    | lst ys =>
      obtain ⟨a, zs, rfl, e2, _, q2⟩ := h2
      obtain rfl : u = .ref a := r2
      exact lists_at I hu ih e1 e2 q1 q2 (by simpa only [eqN] using q)
    | tup ys =>
      obtain ⟨a, zs, rfl, e2, _, q2⟩ := h2
      obtain rfl : u = .ref a := r2
      obtain ⟨us, _, p, _⟩ := I.tuple (SqT.of (K := X.K) e2.1)
      simp [eqN] at q
      subst q
      exact EqAt.list_tuple p1.isList (show s.heap.IsTuple a us.toArray from p) hu
    | _ => simp [eqN] at q
  | tup xs =>
    obtain ⟨a1, zs1, rfl, e1, _, q1⟩ := h1
    obtain rfl : v = .ref a1 := r1
    obtain ⟨us1, _, p1, _⟩ := I.tuple (SqT.of (K := X.K) e1.1)
    have p1 : s.heap.IsTuple a1 us1.toArray := p1
    cases e with
    | non =>
      have h2 : y = .non := by simpa [RepT, Rep] using h2
      subst h2
      obtain rfl : u = .none := r2
      simp [eqN] at q
      subst q
      exact EqAt.tuple_none p1 hu
    | bl k =>
      have h2 : y = .bl k := by simpa [RepT, Rep] using h2
      subst h2
      obtain rfl : u = .bool k := r2
      simp [eqN] at q
      subst q
      exact EqAt.tuple_bool _ p1 hu
    | int k =>
      have h2 : y = .int k := by simpa [RepT, Rep] using h2
      subst h2
      obtain ⟨t, rfl⟩ := r2
      simp [eqN] at q
      subst q
      exact EqAt.tuple_int _ _ p1 hu
    | str k =>
      have h2 : y = .str k := by simpa [RepT, Rep] using h2
      subst h2
      obtain ⟨t, rfl⟩ := r2
      simp [eqN] at q
      subst q
      exact EqAt.tuple_str _ _ p1 hu
    | lst ys =>
      obtain ⟨a, zs, rfl, e2, _, q2⟩ := h2
      obtain rfl : u = .ref a := r2
      obtain ⟨us, _, p, _⟩ := I.list (SqL.of (K := X.K) e2)
      simp [eqN] at q
      subst q
      exact EqAt.tuple_list p1 p.isList hu
    | tup ys =>
      obtain ⟨a, zs, rfl, e2, _, q2⟩ := h2
      obtain rfl : u = .ref a := r2
      exact tups_at I hu ih e1.1 e2.1 q1 q2 (by simpa only [eqN] using q)
    | _ => simp [eqN] at q
  | _ => simp [eqN] at q
theorem eq_at (I : Inv X pins σ0 H s) (sr : SR c w σ H) : ∀ (n : Nat) (A : Around), A.units + n < cLine → ∀ {d e : D} {x y : V} {v u : Value} {b : Bool}, RepT c w.F H d x → RepT c w.F H e y → RelV x v → RelV y u → eqN n d e = some b → EqAt A s v u b
  | 0, A, hu, d, e, x, y, v, u, b, _, _, _, _, q => by simp [eqN] at q
  | n + 1, A, hu, d, e, x, y, v, u, b, h1, h2, r1, r2, q => eq_step I (by omega) (fun h1 h2 r1 r2 q => eq_at I sr n A.in1 (by show A.units + 1 + n < cLine; omega) (sr.view h1) (sr.view h2) r1 r2 q) h1 h2 r1 r2 q
end
end DL

set_option Elab.async false
set_option linter.all false
set_option maxRecDepth 100000
set_option maxHeartbeats 4000000
namespace DL
open PySem PySem.Spec L2
open PySem.SeqAt (EqAt RcAt EqP RcNeAt)
section
variable {X : Cx} {pins : List (Addr × Obj)} {σ0 : L2.St} {H : Hp} {s : Shared} {c : FC} {w : Wd} {σ : L2.St}
theorem lists_rc (I : Inv X pins σ0 H s) {A : Around} {n : Nat} {F : Hp} {cl : Str → Option Addr} (hu : A.units < cLine) (ih : ∀ {d e : D} {x y : V} {v u : Value} {b : Bool}, Rep cl F d x → Rep cl F e y → RelV x v → RelV y u → eqN n d e = some b → EqAt A.in1 s v u b)
    {ds es : List D} {xs ys : List V} {a a' : Addr} {b : Bool} (e1 : H a = some (.lst xs)) (e2 : H a' = some (.lst ys)) (h1 : Reps cl F ds xs) (h2 : Reps cl F es ys) (e : (if ds.length = es.length then eqZ (eqN n) ds es else some false) = some b) :
    RcAt A s (.ref a) (.ref a') b := by
  have l1 := h1.length
  have l2 := h2.length
  obtain ⟨us, r1, p1, _⟩ := I.list (SqL.of (K := X.K) e1)
  obtain ⟨ws, r2, p2, _⟩ := I.list (SqL.of (K := X.K) e2)
  have m1 := r1.length
  have m2 := r2.length
  by_cases hl : ds.length = es.length
  · rw [if_pos hl] at e
    have hsz : us.toArray.size = ws.toArray.size := by simp only [List.size_toArray]; omega
    have z := eqZ_all e
    have hm : min ds.length es.length = us.toArray.size := by simp only [List.size_toArray]; omega
    rw [hm] at z
    rw [← z]
    exact RcAt.lists p1.isList p2.isList hsz hu (items_at ih h1 h2 r1 r2 e)
  · rw [if_neg hl] at e
    cases e
    exact RcAt.lists_lengths p1.isList p2.isList (by simp only [List.size_toArray, bne_iff_ne, ne_eq]; omega) hu
theorem tups_rc (I : Inv X pins σ0 H s) {A : Around} {n : Nat} {F : Hp} {cl : Str → Option Addr} (hu : A.units < cLine) (ih : ∀ {d e : D} {x y : V} {v u : Value} {b : Bool}, Rep cl F d x → Rep cl F e y → RelV x v → RelV y u → eqN n d e = some b → EqAt A.in1 s v u b)
    {ds es : List D} {xs ys : List V} {a a' : Addr} {b : Bool} (e1 : H a = some (.tup xs)) (e2 : H a' = some (.tup ys)) (h1 : Reps cl F ds xs) (h2 : Reps cl F es ys) (e : (eqZ (eqN n) ds es).map (fun b => b && (ds.length == es.length)) = some b) :
    RcAt A s (.ref a) (.ref a') b := by
  have l1 := h1.length
  have l2 := h2.length
  rw [Option.map_eq_some_iff] at e
  obtain ⟨k, e, rfl⟩ := e
  obtain ⟨us, r1, p1, _⟩ := I.tuple (SqT.of (K := X.K) e1)
  obtain ⟨ws, r2, p2, _⟩ := I.tuple (SqT.of (K := X.K) e2)
  have m1 := r1.length
  have m2 := r2.length
  have z := eqZ_all e
  have hm : min ds.length es.length = min us.toArray.size ws.toArray.size := by simp only [List.size_toArray]; omega
  rw [hm] at z
  have he : (ds.length == es.length) = (us.toArray.size == ws.toArray.size) := by
    simp only [List.size_toArray]
    rw [← l1, ← l2, m1, m2]
  rw [he, ← z]
  exact RcAt.tuples (show s.heap.IsTuple a us.toArray from p1) (show s.heap.IsTuple a' ws.toArray from p2) hu (items_at ih h1 h2 r1 r2 e)
/-- two pieces of data, by what stands outermost -/
theorem rc_step (I : Inv X pins σ0 H s) {A : Around} {n : Nat} {F : Hp} {c : FC} (hu : A.units < cLine) (ih : ∀ {d e : D} {x y : V} {v u : Value} {b : Bool}, Rep c.cl F d x → Rep c.cl F e y → RelV x v → RelV y u → eqN n d e = some b → EqAt A.in1 s v u b)
    {d e : D} {x y : V} {v u : Value} {b : Bool} (h1 : RepT c F H d x) (h2 : RepT c F H e y) (r1 : RelV x v) (r2 : RelV y u) (q : eqN (n + 1) d e = some b) : RcAt A s v u b := by
  cases d with
  | non =>
    have h1 : x = .non := by simpa [RepT, Rep] using h1
    subst h1
    obtain rfl : v = .none := r1
    cases e with
    | non =>
      have h2 : y = .non := by simpa [RepT, Rep] using h2
      subst h2
      obtain rfl : u = .none := r2
      simp [eqN] at q
      subst q
      exact RcAt.none_none
    | bl k =>
      have h2 : y = .bl k := by simpa [RepT, Rep] using h2
      subst h2
      obtain rfl : u = .bool k := r2
      simp [eqN] at q
      subst q
      exact RcAt.none_bool _
    | int k =>
      have h2 : y = .int k := by simpa [RepT, Rep] using h2
      subst h2
      obtain ⟨t, rfl⟩ := r2
      simp [eqN] at q
      subst q
      exact RcAt.none_int _ _
    | str k =>
      have h2 : y = .str k := by simpa [RepT, Rep] using h2
      subst h2
      obtain ⟨t, rfl⟩ := r2
      simp [eqN] at q
      subst q
      exact RcAt.none_str _ _
    | lst ys =>
      obtain ⟨a, zs, rfl, e2, _, r⟩ := h2
      obtain rfl : u = .ref a := r2
      obtain ⟨us, _, p, _⟩ := I.list (SqL.of (K := X.K) e2)
      simp [eqN] at q
      subst q
      exact RcAt.none_list p.isList hu
    | tup ys =>
      obtain ⟨a, zs, rfl, e2, _, r⟩ := h2
      obtain rfl : u = .ref a := r2
      obtain ⟨us, _, p, _⟩ := I.tuple (SqT.of (K := X.K) e2.1)
      simp [eqN] at q
      subst q
      exact RcAt.none_tuple (show s.heap.IsTuple a us.toArray from p) hu
    | _ => simp [eqN] at q
  | bl j =>
    have h1 : x = .bl j := by simpa [RepT, Rep] using h1
    subst h1
    obtain rfl : v = .bool j := r1
    cases e with
    | non =>
      have h2 : y = .non := by simpa [RepT, Rep] using h2
      subst h2
      obtain rfl : u = .none := r2
      simp [eqN] at q
      subst q
      exact RcAt.bool_none _
    | bl k =>
      have h2 : y = .bl k := by simpa [RepT, Rep] using h2
      subst h2
      obtain rfl : u = .bool k := r2
      simp [eqN] at q
      subst q
      exact RcAt.bool_bool _ _
    | int k =>
      have h2 : y = .int k := by simpa [RepT, Rep] using h2
      subst h2
      obtain ⟨t, rfl⟩ := r2
      simp only [eqN, Option.some.injEq] at q
      subst q
      exact RcAt.bool_int _ _ _
    | str k =>
      have h2 : y = .str k := by simpa [RepT, Rep] using h2
      subst h2
      obtain ⟨t, rfl⟩ := r2
      simp [eqN] at q
      subst q
      exact RcAt.bool_str _ _ _
    | lst ys =>
      obtain ⟨a, zs, rfl, e2, _, r⟩ := h2
      obtain rfl : u = .ref a := r2
      obtain ⟨us, _, p, _⟩ := I.list (SqL.of (K := X.K) e2)
      simp [eqN] at q
      subst q
      exact RcAt.bool_list _ p.isList hu
    | tup ys =>
      obtain ⟨a, zs, rfl, e2, _, r⟩ := h2
      obtain rfl : u = .ref a := r2
      obtain ⟨us, _, p, _⟩ := I.tuple (SqT.of (K := X.K) e2.1)
      simp [eqN] at q
      subst q
      exact RcAt.bool_tuple _ (show s.heap.IsTuple a us.toArray from p) hu
    | _ => simp [eqN] at q
  | int j =>
    have h1 : x = .int j := by simpa [RepT, Rep] using h1
    subst h1
    obtain ⟨t1, rfl⟩ := r1
    cases e with
    | non =>
      have h2 : y = .non := by simpa [RepT, Rep] using h2
      subst h2
      obtain rfl : u = .none := r2
      simp [eqN] at q
      subst q
      exact RcAt.int_none _ _
    | bl k =>
      have h2 : y = .bl k := by simpa [RepT, Rep] using h2
      subst h2
      obtain rfl : u = .bool k := r2
      simp only [eqN, Option.some.injEq] at q
      subst q
      exact RcAt.int_bool _ _ _
    | int k =>
      have h2 : y = .int k := by simpa [RepT, Rep] using h2
      subst h2
      obtain ⟨t, rfl⟩ := r2
      simp only [eqN, Option.some.injEq] at q
      subst q
      exact RcAt.int_int _ _ _ _
    | str k =>
      have h2 : y = .str k := by simpa [RepT, Rep] using h2
      subst h2
      obtain ⟨t, rfl⟩ := r2
      simp [eqN] at q
      subst q
      exact RcAt.int_str _ _ _ _
    | lst ys =>
      obtain ⟨a, zs, rfl, e2, _, r⟩ := h2
      obtain rfl : u = .ref a := r2
      obtain ⟨us, _, p, _⟩ := I.list (SqL.of (K := X.K) e2)
      simp [eqN] at q
      subst q
      exact RcAt.int_list _ _ p.isList hu
    | tup ys =>
      obtain ⟨a, zs, rfl, e2, _, r⟩ := h2
      obtain rfl : u = .ref a := r2
      obtain ⟨us, _, p, _⟩ := I.tuple (SqT.of (K := X.K) e2.1)
      simp [eqN] at q
      subst q
      exact RcAt.int_tuple _ _ (show s.heap.IsTuple a us.toArray from p) hu
    | _ => simp [eqN] at q
  | str j =>
    have h1 : x = .str j := by simpa [RepT, Rep] using h1
    subst h1
    obtain ⟨t1, rfl⟩ := r1
    cases e with
    | non =>
      have h2 : y = .non := by simpa [RepT, Rep] using h2
      subst h2
      obtain rfl : u = .none := r2
      simp [eqN] at q
      subst q
      exact RcAt.str_none _ _
    | bl k =>
      have h2 : y = .bl k := by simpa [RepT, Rep] using h2
      subst h2
      obtain rfl : u = .bool k := r2
      simp [eqN] at q
      subst q
      exact RcAt.str_bool _ _ _
    | int k =>
      have h2 : y = .int k := by simpa [RepT, Rep] using h2
      subst h2
      obtain ⟨t, rfl⟩ := r2
      simp [eqN] at q
      subst q
      exact RcAt.str_int _ _ _ _
    | str k =>
      have h2 : y = .str k := by simpa [RepT, Rep] using h2
      subst h2
      obtain ⟨t, rfl⟩ := r2
      simp only [eqN, Option.some.injEq] at q
      subst q
      exact RcAt.str_str _ _ _ _
    | lst ys =>
      obtain ⟨a, zs, rfl, e2, _, r⟩ := h2
      obtain rfl : u = .ref a := r2
      obtain ⟨us, _, p, _⟩ := I.list (SqL.of (K := X.K) e2)
      simp [eqN] at q
      subst q
      exact RcAt.str_list _ _ p.isList hu
    | tup ys =>
      obtain ⟨a, zs, rfl, e2, _, r⟩ := h2
      obtain rfl : u = .ref a := r2
      obtain ⟨us, _, p, _⟩ := I.tuple (SqT.of (K := X.K) e2.1)
      simp [eqN] at q
      subst q
      exact RcAt.str_tuple _ _ (show s.heap.IsTuple a us.toArray from p) hu
    | _ => simp [eqN] at q
  | lst xs =>
    obtain ⟨a1, zs1, rfl, e1, _, q1⟩ := h1
    obtain rfl : v = .ref a1 := r1
    obtain ⟨us1, _, p1, _⟩ := I.list (SqL.of (K := X.K) e1)
    cases e with
    | non =>
      have h2 : y = .non := by simpa [RepT, Rep] using h2
      subst h2
      obtain rfl : u = .none := r2
      simp [eqN] at q
      subst q
      exact RcAt.list_none p1.isList hu
    | bl k =>
      have h2 : y = .bl k := by simpa [RepT, Rep] using h2
      subst h2
      obtain rfl : u = .bool k := r2
      simp [eqN] at q
      subst q
      exact RcAt.list_bool _ p1.isList hu
    | int k =>
      have h2 : y = .int k := by simpa [RepT, Rep] using h2
      subst h2
      obtain ⟨t, rfl⟩ := r2
      simp [eqN] at q
      subst q
      exact RcAt.list_int _ _ p1.isList hu
    | str k =>
      have h2 : y = .str k := by simpa [RepT, Rep] using h2
      subst h2
      obtain ⟨t, rfl⟩ := r2
      simp [eqN] at q
      subst q
      exact RcAt.list_str _ _ p1.isList hu
    | lst ys =>
      obtain ⟨a, zs, rfl, e2, _, q2⟩ := h2
      obtain rfl : u = .ref a := r2
      exact lists_rc I hu ih e1 e2 q1 q2 (by simpa only [eqN] using q)
    | tup ys =>
      obtain ⟨a, zs, rfl, e2, _, q2⟩ := h2
      obtain rfl : u = .ref a := r2
      obtain ⟨us, _, p, _⟩ := I.tuple (SqT.of (K := X.K) e2.1)
      simp [eqN] at q
      subst q
      exact RcAt.list_tuple p1.isList (show s.heap.IsTuple a us.toArray from p) hu
    | _ => simp [eqN] at q
  | tup xs =>
    obtain ⟨a1, zs1, rfl, e1, _, q1⟩ := h1
    obtain rfl : v = .ref a1 := r1
    obtain ⟨us1, _, p1, _⟩ := I.tuple (SqT.of (K := X.K) e1.1)
    have p1 : s.heap.IsTuple a1 us1.toArray := p1
    cases e with
    | non =>
      have h2 : y = .non := by simpa [RepT, Rep] using h2
      subst h2
      obtain rfl : u = .none := r2
      simp [eqN] at q
      subst q
      exact RcAt.tuple_none p1 hu
    | bl k =>
      have h2 : y = .bl k := by simpa [RepT, Rep] using h2
      subst h2
      obtain rfl : u = .bool k := r2
      simp [eqN] at q
      subst q
      exact RcAt.tuple_bool _ p1 hu
    | int k =>
      have h2 : y = .int k := by simpa [RepT, Rep] using h2
      subst h2
      obtain ⟨t, rfl⟩ := r2
      simp [eqN] at q
      subst q
      exact RcAt.tuple_int _ _ p1 hu
    | str k =>
      have h2 : y = .str k := by simpa [RepT, Rep] using h2
      subst h2
      obtain ⟨t, rfl⟩ := r2
      simp [eqN] at q
      subst q
      exact RcAt.tuple_str _ _ p1 hu
    | lst ys =>
      obtain ⟨a, zs, rfl, e2, _, q2⟩ := h2
      obtain rfl : u = .ref a := r2
      obtain ⟨us, _, p, _⟩ := I.list (SqL.of (K := X.K) e2)
      simp [eqN] at q
      subst q
      exact RcAt.tuple_list p1 p.isList hu
    | tup ys =>
      obtain ⟨a, zs, rfl, e2, _, q2⟩ := h2
      obtain rfl : u = .ref a := r2
      exact tups_rc I hu ih e1.1 e2.1 q1 q2 (by simpa only [eqN] using q)
    | _ => simp [eqN] at q
  | _ => simp [eqN] at q
theorem lists_ne (I : Inv X pins σ0 H s) {A : Around} {n : Nat} {F : Hp} {cl : Str → Option Addr} (hu : A.units < cLine) (ih : ∀ {d e : D} {x y : V} {v u : Value} {b : Bool}, Rep cl F d x → Rep cl F e y → RelV x v → RelV y u → eqN n d e = some b → EqAt A.in1 s v u b)
    {ds es : List D} {xs ys : List V} {a a' : Addr} {b : Bool} (e1 : H a = some (.lst xs)) (e2 : H a' = some (.lst ys)) (h1 : Reps cl F ds xs) (h2 : Reps cl F es ys) (e : (if ds.length = es.length then eqZ (eqN n) ds es else some false) = some b) :
    RcNeAt A s (.ref a) (.ref a') (!b) := by
  have l1 := h1.length
  have l2 := h2.length
  obtain ⟨us, r1, p1, _⟩ := I.list (SqL.of (K := X.K) e1)
  obtain ⟨ws, r2, p2, _⟩ := I.list (SqL.of (K := X.K) e2)
  have m1 := r1.length
  have m2 := r2.length
  by_cases hl : ds.length = es.length
  · rw [if_pos hl] at e
    have hsz : us.toArray.size = ws.toArray.size := by simp only [List.size_toArray]; omega
    have z := eqZ_all e
    have hm : min ds.length es.length = us.toArray.size := by simp only [List.size_toArray]; omega
    rw [hm] at z
    rw [← z]
    exact RcNeAt.lists p1.isList p2.isList hsz hu (items_at ih h1 h2 r1 r2 e)
  · rw [if_neg hl] at e
    cases e
    exact RcNeAt.lists_lengths p1.isList p2.isList (by simp only [List.size_toArray, bne_iff_ne, ne_eq]; omega) hu
theorem tups_ne (I : Inv X pins σ0 H s) {A : Around} {n : Nat} {F : Hp} {cl : Str → Option Addr} (hu : A.units < cLine) (ih : ∀ {d e : D} {x y : V} {v u : Value} {b : Bool}, Rep cl F d x → Rep cl F e y → RelV x v → RelV y u → eqN n d e = some b → EqAt A.in1 s v u b)
    {ds es : List D} {xs ys : List V} {a a' : Addr} {b : Bool} (e1 : H a = some (.tup xs)) (e2 : H a' = some (.tup ys)) (h1 : Reps cl F ds xs) (h2 : Reps cl F es ys) (e : (eqZ (eqN n) ds es).map (fun b => b && (ds.length == es.length)) = some b) :
    RcNeAt A s (.ref a) (.ref a') (!b) := by
  have l1 := h1.length
  have l2 := h2.length
  rw [Option.map_eq_some_iff] at e
  obtain ⟨k, e, rfl⟩ := e
  obtain ⟨us, r1, p1, _⟩ := I.tuple (SqT.of (K := X.K) e1)
  obtain ⟨ws, r2, p2, _⟩ := I.tuple (SqT.of (K := X.K) e2)
  have m1 := r1.length
  have m2 := r2.length
  have z := eqZ_all e
  have hm : min ds.length es.length = min us.toArray.size ws.toArray.size := by simp only [List.size_toArray]; omega
  rw [hm] at z
  have he : (ds.length == es.length) = (us.toArray.size == ws.toArray.size) := by
    simp only [List.size_toArray]
    rw [← l1, ← l2, m1, m2]
  rw [he, ← z]
  exact RcNeAt.tuples (show s.heap.IsTuple a us.toArray from p1) (show s.heap.IsTuple a' ws.toArray from p2) hu (items_at ih h1 h2 r1 r2 e)
/-- two pieces of data, by what stands outermost -/
theorem ne_step (I : Inv X pins σ0 H s) {A : Around} {n : Nat} {F : Hp} {c : FC} (hu : A.units < cLine) (ih : ∀ {d e : D} {x y : V} {v u : Value} {b : Bool}, Rep c.cl F d x → Rep c.cl F e y → RelV x v → RelV y u → eqN n d e = some b → EqAt A.in1 s v u b)
    {d e : D} {x y : V} {v u : Value} {b : Bool} (h1 : RepT c F H d x) (h2 : RepT c F H e y) (r1 : RelV x v) (r2 : RelV y u) (q : eqN (n + 1) d e = some b) : RcNeAt A s v u (!b) := by
  cases d with
  | non =>
    have h1 : x = .non := by simpa [RepT, Rep] using h1
    subst h1
    obtain rfl : v = .none := r1
    cases e with
    | non =>
      have h2 : y = .non := by simpa [RepT, Rep] using h2
      subst h2
      obtain rfl : u = .none := r2
      simp [eqN] at q
      subst q
      exact RcNeAt.none_none
    | bl k =>
      have h2 : y = .bl k := by simpa [RepT, Rep] using h2
      subst h2
      obtain rfl : u = .bool k := r2
      simp [eqN] at q
      subst q
      exact RcNeAt.none_bool _
    | int k =>
      have h2 : y = .int k := by simpa [RepT, Rep] using h2
      subst h2
      obtain ⟨t, rfl⟩ := r2
      simp [eqN] at q
      subst q
      exact RcNeAt.none_int _ _
    | str k =>
      have h2 : y = .str k := by simpa [RepT, Rep] using h2
      subst h2
      obtain ⟨t, rfl⟩ := r2
      simp [eqN] at q
      subst q
      exact RcNeAt.none_str _ _
    | lst ys =>
      obtain ⟨a, zs, rfl, e2, _, r⟩ := h2
      obtain rfl : u = .ref a := r2
      obtain ⟨us, _, p, _⟩ := I.list (SqL.of (K := X.K) e2)
      simp [eqN] at q
      subst q
      exact RcNeAt.none_list p.isList hu
    | tup ys =>
      obtain ⟨a, zs, rfl, e2, _, r⟩ := h2
      obtain rfl : u = .ref a := r2
      obtain ⟨us, _, p, _⟩ := I.tuple (SqT.of (K := X.K) e2.1)
      simp [eqN] at q
      subst q
      exact RcNeAt.none_tuple (show s.heap.IsTuple a us.toArray from p) hu
    | _ => simp [eqN] at q
  | bl j =>
    have h1 : x = .bl j := by simpa [RepT, Rep] using h1
    subst h1
    obtain rfl : v = .bool j := r1
    cases e with
    | non =>
      have h2 : y = .non := by simpa [RepT, Rep] using h2
      subst h2
      obtain rfl : u = .none := r2
      simp [eqN] at q
      subst q
      exact RcNeAt.bool_none _
    | bl k =>
      have h2 : y = .bl k := by simpa [RepT, Rep] using h2
      subst h2
      obtain rfl : u = .bool k := r2
      simp [eqN] at q
      subst q
      exact RcNeAt.bool_bool _ _
    | int k =>
      have h2 : y = .int k := by simpa [RepT, Rep] using h2
      subst h2
      obtain ⟨t, rfl⟩ := r2
      simp only [eqN, Option.some.injEq] at q
      subst q
      exact RcNeAt.bool_int _ _ _
    | str k =>
      have h2 : y = .str k := by simpa [RepT, Rep] using h2
      subst h2
      obtain ⟨t, rfl⟩ := r2
      simp [eqN] at q
      subst q
      exact RcNeAt.bool_str _ _ _
    | lst ys =>
      obtain ⟨a, zs, rfl, e2, _, r⟩ := h2
      obtain rfl : u = .ref a := r2
      obtain ⟨us, _, p, _⟩ := I.list (SqL.of (K := X.K) e2)
      simp [eqN] at q
      subst q
      exact RcNeAt.bool_list _ p.isList hu
    | tup ys =>
      obtain ⟨a, zs, rfl, e2, _, r⟩ := h2
      obtain rfl : u = .ref a := r2
      obtain ⟨us, _, p, _⟩ := I.tuple (SqT.of (K := X.K) e2.1)
      simp [eqN] at q
      subst q
      exact RcNeAt.bool_tuple _ (show s.heap.IsTuple a us.toArray from p) hu
    | _ => simp [eqN] at q
  | int j =>
    have h1 : x = .int j := by simpa [RepT, Rep] using h1
    subst h1
    obtain ⟨t1, rfl⟩ := r1
    cases e with
    | non =>
      have h2 : y = .non := by simpa [RepT, Rep] using h2
      subst h2
      obtain rfl : u = .none := r2
      simp [eqN] at q
      subst q
      exact RcNeAt.int_none _ _
    | bl k =>
      have h2 : y = .bl k := by simpa [RepT, Rep] using h2
      subst h2
      obtain rfl : u = .bool k := r2
      simp only [eqN, Option.some.injEq] at q
      subst q
      exact RcNeAt.int_bool _ _ _
    | int k =>
      have h2 : y = .int k := by simpa [RepT, Rep] using h2
      subst h2
      obtain ⟨t, rfl⟩ := r2
      simp only [eqN, Option.some.injEq] at q
      subst q
      exact RcNeAt.int_int _ _ _ _
    | str k =>
      have h2 : y = .str k := by simpa [RepT, Rep] using h2
      subst h2
      obtain ⟨t, rfl⟩ := r2
      simp [eqN] at q
      subst q
      exact RcNeAt.int_str _ _ _ _
    | lst ys =>
      obtain ⟨a, zs, rfl, e2, _, r⟩ := h2
      obtain rfl : u = .ref a := r2
      obtain ⟨us, _, p, _⟩ := I.list (SqL.of (K := X.K) e2)
      simp [eqN] at q
      subst q
      exact RcNeAt.int_list _ _ p.isList hu
    | tup ys =>
      obtain ⟨a, zs, rfl, e2, _, r⟩ := h2
      obtain rfl : u = .ref a := r2
      obtain ⟨us, _, p, _⟩ := I.tuple (SqT.of (K := X.K) e2.1)
      simp [eqN] at q
      subst q
      exact RcNeAt.int_tuple _ _ (show s.heap.IsTuple a us.toArray from p) hu
    | _ => simp [eqN] at q
  | str j =>
    have h1 : x = .str j := by simpa [RepT, Rep] using h1
    subst h1
    obtain ⟨t1, rfl⟩ := r1
    cases e with
    | non =>
      have h2 : y = .non := by simpa [RepT, Rep] using h2
      subst h2
      obtain rfl : u = .none := r2
      simp [eqN] at q
      subst q
      exact RcNeAt.str_none _ _
    | bl k =>
      have h2 : y = .bl k := by simpa [RepT, Rep] using h2
      subst h2
      obtain rfl : u = .bool k := r2
      simp [eqN] at q
      subst q
      exact RcNeAt.str_bool _ _ _
    | int k =>
      have h2 : y = .int k := by simpa [RepT, Rep] using h2
      subst h2
      obtain ⟨t, rfl⟩ := r2
      simp [eqN] at q
      subst q
      exact RcNeAt.str_int _ _ _ _
    | str k =>
      have h2 : y = .str k := by simpa [RepT, Rep] using h2
      subst h2
      obtain ⟨t, rfl⟩ := r2
      simp only [eqN, Option.some.injEq] at q
      subst q
      exact RcNeAt.str_str _ _ _ _
    | lst ys =>
      obtain ⟨a, zs, rfl, e2, _, r⟩ := h2
      obtain rfl : u = .ref a := r2
      obtain ⟨us, _, p, _⟩ := I.list (SqL.of (K := X.K) e2)
      simp [eqN] at q
      subst q
      exact RcNeAt.str_list _ _ p.isList hu
    | tup ys =>
      obtain ⟨a, zs, rfl, e2, _, r⟩ := h2
      obtain rfl : u = .ref a := r2
      obtain ⟨us, _, p, _⟩ := I.tuple (SqT.of (K := X.K) e2.1)
      simp [eqN] at q
      subst q
      exact RcNeAt.str_tuple _ _ (show s.heap.IsTuple a us.toArray from p) hu
    | _ => simp [eqN] at q
  | lst xs =>
    obtain ⟨a1, zs1, rfl, e1, _, q1⟩ := h1
    obtain rfl : v = .ref a1 := r1
    obtain ⟨us1, _, p1, _⟩ := I.list (SqL.of (K := X.K) e1)
    cases e with
    | non =>
      have h2 : y = .non := by simpa [RepT, Rep] using h2
      subst h2
      obtain rfl : u = .none := r2
      simp [eqN] at q
      subst q
      exact RcNeAt.list_none p1.isList hu
    | bl k =>
      have h2 : y = .bl k := by simpa [RepT, Rep] using h2
      subst h2
      obtain rfl : u = .bool k := r2
      simp [eqN] at q
      subst q
      exact RcNeAt.list_bool _ p1.isList hu
    | int k =>
      have h2 : y = .int k := by simpa [RepT, Rep] using h2
      subst h2
      obtain ⟨t, rfl⟩ := r2
      simp [eqN] at q
      subst q
      exact RcNeAt.list_int _ _ p1.isList hu
    | str k =>
      have h2 : y = .str k := by simpa [RepT, Rep] using h2
      subst h2
      obtain ⟨t, rfl⟩ := r2
      simp [eqN] at q
      subst q
      exact RcNeAt.list_str _ _ p1.isList hu
    | lst ys =>
      obtain ⟨a, zs, rfl, e2, _, q2⟩ := h2
      obtain rfl : u = .ref a := r2
      exact lists_ne I hu ih e1 e2 q1 q2 (by simpa only [eqN] using q)
    | tup ys =>
      obtain ⟨a, zs, rfl, e2, _, q2⟩ := h2
      obtain rfl : u = .ref a := r2
      obtain ⟨us, _, p, _⟩ := I.tuple (SqT.of (K := X.K) e2.1)
      simp [eqN] at q
      subst q
      exact RcNeAt.list_tuple p1.isList (show s.heap.IsTuple a us.toArray from p) hu
    | _ => simp [eqN] at q
  | tup xs =>
    obtain ⟨a1, zs1, rfl, e1, _, q1⟩ := h1
    obtain rfl : v = .ref a1 := r1
    obtain ⟨us1, _, p1, _⟩ := I.tuple (SqT.of (K := X.K) e1.1)
    have p1 : s.heap.IsTuple a1 us1.toArray := p1
    cases e with
    | non =>
      have h2 : y = .non := by simpa [RepT, Rep] using h2
      subst h2
      obtain rfl : u = .none := r2
      simp [eqN] at q
      subst q
      exact RcNeAt.tuple_none p1 hu
    | bl k =>
      have h2 : y = .bl k := by simpa [RepT, Rep] using h2
      subst h2
      obtain rfl : u = .bool k := r2
      simp [eqN] at q
      subst q
      exact RcNeAt.tuple_bool _ p1 hu
    | int k =>
      have h2 : y = .int k := by simpa [RepT, Rep] using h2
      subst h2
      obtain ⟨t, rfl⟩ := r2
      simp [eqN] at q
      subst q
      exact RcNeAt.tuple_int _ _ p1 hu
    | str k =>
      have h2 : y = .str k := by simpa [RepT, Rep] using h2
      subst h2
      obtain ⟨t, rfl⟩ := r2
      simp [eqN] at q
      subst q
      exact RcNeAt.tuple_str _ _ p1 hu
    | lst ys =>
      obtain ⟨a, zs, rfl, e2, _, q2⟩ := h2
      obtain rfl : u = .ref a := r2
      obtain ⟨us, _, p, _⟩ := I.list (SqL.of (K := X.K) e2)
      simp [eqN] at q
      subst q
      exact RcNeAt.tuple_list p1 p.isList hu
    | tup ys =>
      obtain ⟨a, zs, rfl, e2, _, q2⟩ := h2
      obtain rfl : u = .ref a := r2
      exact tups_ne I hu ih e1.1 e2.1 q1 q2 (by simpa only [eqN] using q)
    | _ => simp [eqN] at q
  | _ => simp [eqN] at q
def dEq (d e : D) : Option D := (eqN 60 d e).map .bl
def dNe (d e : D) : Option D := (eqN 60 d e).map fun b => .bl (!b)
theorem op_eq_data (hu : X.A.units + 64 < cLine) : OpR X (compareOp .Eq) (R2D c dEq) := by
  intro pins s σ1 H x y v u Q I rx ry h
  obtain ⟨w, σ, dx, dy, d, sr, r1, r2, e, q⟩ := h
  unfold dEq at e
  rw [Option.map_eq_some_iff] at e
  obtain ⟨b, e, rfl⟩ := e
  exact rc_step (n := 59) I (by omega) (fun h1 h2 r1 r2 q => eq_at I sr 59 X.A.in1 (by show X.A.units + 1 + 59 < cLine; omega) (sr.view h1) (sr.view h2) r1 r2 q) r1 r2 rx ry e _ _ _ _ ⟨.bl b, H, I, rfl, q.bl sr⟩
theorem op_ne_data (hu : X.A.units + 64 < cLine) : OpR X (compareOp .NotEq) (R2D c dNe) := by
  intro pins s σ1 H x y v u Q I rx ry h
  obtain ⟨w, σ, dx, dy, d, sr, r1, r2, e, q⟩ := h
  unfold dNe at e
  rw [Option.map_eq_some_iff] at e
  obtain ⟨b, e, rfl⟩ := e
  exact ne_step (n := 59) I (by omega) (fun h1 h2 r1 r2 q => eq_at I sr 59 X.A.in1 (by show X.A.units + 1 + 59 < cLine; omega) (sr.view h1) (sr.view h2) r1 r2 q) r1 r2 rx ry e _ _ _ _ ⟨.bl (!b), H, I, rfl, q.bl sr⟩
end
end DL

set_option Elab.async false
set_option linter.all false
set_option maxRecDepth 100000
set_option maxHeartbeats 4000000
namespace DL
open PySem PySem.Spec L2

/-! ### + - * // % ** -/
def dAdd : D → D → Option D
  | .int i, .int j => some (.int (i + j))
  | .str x, .str y => if x.length + y.length ≤ lim then some (.str (x ++ y)) else none
  | .lst xs, .lst ys => if xs.length + ys.length ≤ lim then some (.lst (xs ++ ys)) else none
  | .tup xs, .tup ys => if xs.length + ys.length ≤ lim then some (.tup (xs ++ ys)) else none
  | _, _ => none
def dSub : D → D → Option D
  | .int i, .int j => some (.int (i - j))
  | _, _ => none
def smallI (i : Int) : Bool := decide (-(2 ^ 64) < i) && decide (i < 2 ^ 64)
def repS (x : Str) (k : Int) : Str := ⟨(List.replicate k.toNat x.cps.toList).flatten.toArray⟩
def dMul : D → D → Option D
  | .int i, .int j => if smallI i || smallI j then some (.int (i * j)) else none
  | .lst xs, .int k => if -1000000 ≤ k ∧ k ≤ 1000000 ∧ xs.length * k.toNat ≤ lim then some (.lst (List.replicate k.toNat xs).flatten) else none
  | _, _ => none
def dMod : D → D → Option D
  | .int i, .int j => if 0 < j then some (.int (i % j)) else none
  | _, _ => none
def dFdiv : D → D → Option D
  | .int i, .int j => if 0 < j ∧ j < 1073741824 then some (.int (i / j)) else none
  | _, _ => none
def dPow : D → D → Option D
  | .int i, .int j => if 0 ≤ j ∧ j ≤ 1000 ∧ i.natAbs < 2 ^ 60 then some (.int (i ^ j.toNat)) else none
  | _, _ => none
theorem Reps.rep {cl : Str → Option Addr} {F : Hp} {ds : List D} {xs : List V} (h : Reps cl F ds xs) : ∀ k : Nat, Reps cl F (List.replicate k ds).flatten (List.replicate k xs).flatten
  | 0 => by simp [Reps]
  | k + 1 => by
    simp only [List.replicate_succ, List.flatten_cons]
    exact h.append (Reps.rep h k)
section
variable {X : Cx} {c : FC}
theorem RepT.int {F H : Hp} {i : Int} {v : V} (h : RepT c F H (.int i) v) : v = .int i := by simpa [RepT, Rep] using h
theorem RepT.str {F H : Hp} {i : Str} {v : V} (h : RepT c F H (.str i) v) : v = .str i := by simpa [RepT, Rep] using h
theorem RepT.bl {F H : Hp} {i : Bool} {v : V} (h : RepT c F H (.bl i) v) : v = .bl i := by simpa [RepT, Rep] using h
theorem RepT.non {F H : Hp} {v : V} (h : RepT c F H .non v) : v = .non := by simpa [RepT, Rep] using h
theorem op_add_data : OpR X (binaryOp .Add) (R2D c dAdd) := by
  refine opR_imp ((op_add (X := X)).or ((op_add_str (X := X)).or ((op_cat (X := X)).or (op_catA (X := X))))) fun x y H Q h => ?_
  obtain ⟨w, σ, dx, dy, d, s, rx, ry, e, q⟩ := h
  cases dx <;> cases dy <;> simp only [dAdd, reduceCtorEq, Option.some.injEq] at e
  · subst e
    exact .inl ⟨_, _, rx.int, ry.int, q.int s⟩
  · split at e
    · rename_i hl
      cases e
      exact .inr (.inl ⟨_, _, rx.str, ry.str, lim_line hl, q.str s⟩)
    · cases e
  · split at e
    · rename_i hl
      cases e
      obtain ⟨a, xs, rfl, h1, _, r1⟩ := rx
      obtain ⟨b, ys, rfl, h2, _, r2⟩ := ry
      have l1 := r1.length
      have l2 := r2.length
      exact .inr (.inr (.inl ⟨a, b, xs, ys, rfl, rfl, h1, h2, lim_line (by omega), q.new s ⟨_, rfl, r1.append r2⟩⟩))
    · cases e
  · split at e
    · rename_i hl
      cases e
      obtain ⟨a, xs, rfl, h1, n1, r1⟩ := rx
      obtain ⟨b, ys, rfl, h2, n2, r2⟩ := ry
      have l1 := r1.length
      have l2 := r2.length
      refine .inr (.inr (.inr ⟨a, b, xs, ys, rfl, rfl, SqT.of h1.1, SqT.of h2.1, lim_line (by omega), fun e0 => ?_, fun _ e1 => ?_, fun _ _ => q.new s ⟨_, rfl, r1.append r2⟩⟩))
      · subst e0
        simp only [List.length_nil] at l1
        have e3 := List.eq_nil_of_length_eq_zero l1.symm
        subst e3
        exact q.val s ⟨b, ys, rfl, h2.2, by simpa using r2⟩
      · subst e1
        simp only [List.length_nil] at l2
        have e3 := List.eq_nil_of_length_eq_zero l2.symm
        subst e3
        exact q.val s ⟨a, xs, rfl, h1.2, by simpa using r1⟩
    · cases e
theorem op_sub_data : OpR X (binaryOp .Sub) (R2D c dSub) := by
  refine opR_imp (op_sub (X := X)) fun x y H Q h => ?_
  obtain ⟨w, σ, dx, dy, d, s, rx, ry, e, q⟩ := h
  cases dx <;> cases dy <;> simp only [dSub, reduceCtorEq, Option.some.injEq] at e
  subst e
  exact ⟨_, _, rx.int, ry.int, q.int s⟩
theorem op_mod_data : OpR X (binaryOp .Mod) (R2D c dMod) := by
  refine opR_imp (op_mod (X := X)) fun x y H Q h => ?_
  obtain ⟨w, σ, dx, dy, d, s, rx, ry, e, q⟩ := h
  cases dx <;> cases dy <;> simp only [dMod, reduceCtorEq] at e
  split at e
  · cases e
    exact ⟨_, _, rx.int, ry.int, by assumption, q.int s⟩
  · cases e
theorem op_fdiv_data : OpR X (binaryOp .FloorDiv) (R2D c dFdiv) := by
  refine opR_imp (op_fdiv (X := X)) fun x y H Q h => ?_
  obtain ⟨w, σ, dx, dy, d, s, rx, ry, e, q⟩ := h
  cases dx <;> cases dy <;> simp only [dFdiv, reduceCtorEq] at e
  split at e
  · cases e
    exact ⟨_, _, rx.int, ry.int, by assumption, q.int s⟩
  · cases e
theorem op_pow_data : OpR X (binaryOp .Pow) (R2D c dPow) := by
  refine opR_imp (op_pow (X := X)) fun x y H Q h => ?_
  obtain ⟨w, σ, dx, dy, d, s, rx, ry, e, q⟩ := h
  cases dx <;> cases dy <;> simp only [dPow, reduceCtorEq] at e
  split at e
  · rename_i hc
    cases e
    exact ⟨_, _, rx.int, ry.int, ⟨hc.1, by omega, by omega⟩, q.int s⟩
  · cases e
theorem op_mul_data : OpR X (binaryOp .Mult) (R2D c dMul) := by
  refine opR_imp ((op_mul (X := X)).or (op_rep (X := X))) fun x y H Q h => ?_
  obtain ⟨w, σ, dx, dy, d, s, rx, ry, e, q⟩ := h
  cases dx <;> cases dy <;> simp only [dMul, reduceCtorEq] at e
  · split at e
    · rename_i hc
      cases e
      simp only [smallI, Bool.or_eq_true, Bool.and_eq_true, decide_eq_true_eq] at hc
      exact .inl ⟨_, _, rx.int, ry.int, hc, q.int s⟩
    · cases e
  · split at e
    · rename_i hc
      cases e
      obtain ⟨a, xs, rfl, h1, n1, r1⟩ := rx
      have l1 := r1.length
      exact .inr ⟨a, _, xs, rfl, ry.int, h1, by omega, by omega, lim_line (by rw [l1]; exact hc.2.2), q.new s ⟨_, rfl, r1.rep _⟩⟩
    · cases e

/-! ### < <= > >= in, not in, is -/
def dLt : D → D → Option D
  | .int i, .int j => some (.bl (decide (i < j)))
  | .str i, .str j => some (.bl (decide (i.cps.toList < j.cps.toList)))
  | _, _ => none
def dLe : D → D → Option D
  | .int i, .int j => some (.bl (decide (i ≤ j)))
  | _, _ => none
def dGt : D → D → Option D
  | .int i, .int j => some (.bl (decide (j < i)))
  | _, _ => none
def dGe : D → D → Option D
  | .int i, .int j => some (.bl (decide (j ≤ i)))
  | _, _ => none
theorem op_lt_data : OpR X (compareOp .Lt) (R2D c dLt) := by
  refine opR_imp ((op_lt (X := X)).or (op_lt_str (X := X))) fun x y H Q h => ?_
  obtain ⟨w, σ, dx, dy, d, s, rx, ry, e, q⟩ := h
  cases dx <;> cases dy <;> simp only [dLt, reduceCtorEq, Option.some.injEq] at e
  · subst e
    exact .inl ⟨_, _, rx.int, ry.int, q.bl s⟩
  · subst e
    exact .inr ⟨_, _, rx.str, ry.str, q.bl s⟩
theorem op_le_data : OpR X (compareOp .LtE) (R2D c dLe) := by
  refine opR_imp (op_le (X := X)) fun x y H Q h => ?_
  obtain ⟨w, σ, dx, dy, d, s, rx, ry, e, q⟩ := h
  cases dx <;> cases dy <;> simp only [dLe, reduceCtorEq, Option.some.injEq] at e
  subst e
  exact ⟨_, _, rx.int, ry.int, q.bl s⟩
theorem op_gt_data : OpR X (compareOp .Gt) (R2D c dGt) := by
  refine opR_imp (op_gt (X := X)) fun x y H Q h => ?_
  obtain ⟨w, σ, dx, dy, d, s, rx, ry, e, q⟩ := h
  cases dx <;> cases dy <;> simp only [dGt, reduceCtorEq, Option.some.injEq] at e
  subst e
  exact ⟨_, _, rx.int, ry.int, q.bl s⟩
theorem op_ge_data : OpR X (compareOp .GtE) (R2D c dGe) := by
  refine opR_imp (op_ge (X := X)) fun x y H Q h => ?_
  obtain ⟨w, σ, dx, dy, d, s, rx, ry, e, q⟩ := h
  cases dx <;> cases dy <;> simp only [dGe, reduceCtorEq, Option.some.injEq] at e
  subst e
  exact ⟨_, _, rx.int, ry.int, q.bl s⟩
/-- is, is not: with None or a truth value -/
def dIs : D → D → Option D
  | .bl a, .bl b => some (.bl (a == b))
  | .non, .non => some (.bl true)
  | .bl _, .non => some (.bl false)
  | .int _, .non => some (.bl false)
  | .str _, .non => some (.bl false)
  | .lst _, .non => some (.bl false)
  | .tup _, .non => some (.bl false)
  | .dic _, .non => some (.bl false)
  | .ins _ _, .non => some (.bl false)
  | _, _ => none
def dIsNot (x y : D) : Option D := (dIs x y).bind fun
  | .bl b => some (.bl (!b))
  | _ => none
theorem op_is_data : OpR X (compareOp .Is) (R2D c dIs) := by
  refine opR_imp ((op_isN (X := X)).or (op_isBl (X := X))) fun x y H Q h => ?_
  obtain ⟨w, σ, dx, dy, d, s, rx, ry, e, q⟩ := h
  cases dx <;> cases dy <;> simp only [dIs, reduceCtorEq, Option.some.injEq] at e <;> subst e
  case bl.bl a b => exact .inr ⟨_, _, rx.bl, ry.bl, by rw [show decide (a = b) = (a == b) from (Bool.beq_eq_decide_eq a b).symm]; exact q.bl s⟩
  case non.non => exact .inl ⟨ry.non, by rw [rx.non]; exact q.bl s⟩
  case bl.non => exact .inl ⟨ry.non, by rw [rx.bl]; exact q.bl s⟩
  case int.non => exact .inl ⟨ry.non, by rw [rx.int]; exact q.bl s⟩
  case str.non => exact .inl ⟨ry.non, by rw [rx.str]; exact q.bl s⟩
  case lst.non => obtain ⟨a, xs, rfl, _⟩ := rx; exact .inl ⟨ry.non, q.bl s⟩
  case tup.non => obtain ⟨a, xs, rfl, _⟩ := rx; exact .inl ⟨ry.non, q.bl s⟩
  case dic.non => obtain ⟨a, xs, rfl, _⟩ := rx; exact .inl ⟨ry.non, q.bl s⟩
  case ins.non => obtain ⟨a, dx, C, gs, rfl, _⟩ := rx; exact .inl ⟨ry.non, q.bl s⟩
theorem op_isnot_data : OpR X (compareOp .IsNot) (R2D c dIsNot) := by
  refine opR_imp ((op_notN (X := X)).or (op_notBl (X := X))) fun x y H Q h => ?_
  obtain ⟨w, σ, dx, dy, d, s, rx, ry, e, q⟩ := h
  cases dx <;> cases dy <;> simp only [dIsNot, dIs, reduceCtorEq, Option.some.injEq, Option.bind_some, Option.bind_none] at e <;> subst e
  case bl.bl a b => exact .inr ⟨_, _, rx.bl, ry.bl, by rw [show decide (a = b) = (a == b) from (Bool.beq_eq_decide_eq a b).symm]; exact q.bl s⟩
  case non.non => exact .inl ⟨ry.non, by rw [rx.non]; exact q.bl s⟩
  case bl.non => exact .inl ⟨ry.non, by rw [rx.bl]; exact q.bl s⟩
  case int.non => exact .inl ⟨ry.non, by rw [rx.int]; exact q.bl s⟩
  case str.non => exact .inl ⟨ry.non, by rw [rx.str]; exact q.bl s⟩
  case lst.non => obtain ⟨a, xs, rfl, _⟩ := rx; exact .inl ⟨ry.non, q.bl s⟩
  case tup.non => obtain ⟨a, xs, rfl, _⟩ := rx; exact .inl ⟨ry.non, q.bl s⟩
  case dic.non => obtain ⟨a, xs, rfl, _⟩ := rx; exact .inl ⟨ry.non, q.bl s⟩
  case ins.non => obtain ⟨a, dx, C, gs, rfl, _⟩ := rx; exact .inl ⟨ry.non, q.bl s⟩
end
end DL

set_option Elab.async false
set_option linter.all false
set_option maxRecDepth 100000
set_option maxHeartbeats 4000000
namespace DL
open PySem PySem.Spec L2
open PySem.SeqAt (EqAt RcAt EqP)
/-- one object, two readings: == with a third is the same -/
theorem rep_fun {cl : Str → Option Addr} {F : Hp} : ∀ (n : Nat) {d e x : D} {v : V} {a b : Bool}, Rep cl F d v → Rep cl F e v → eqN n d x = some a → eqN n e x = some b → a = b := by
  intro n
  induction n with
  | zero => intro d e x v a b _ _ h; simp [eqN] at h
  | succ n ih =>
    have hz : ∀ {xs ys zs : List D} {vs : List V} {a b : Bool}, Reps cl F xs vs → Reps cl F ys vs → eqZ (eqN n) xs zs = some a → eqZ (eqN n) ys zs = some b → a = b := by
      intro xs
      induction xs with
      | nil =>
        intro ys zs vs a b h1 h2 h3 h4
        simp only [Reps] at h1
        subst h1
        cases ys with
        | nil => rw [h3] at h4; exact Option.some.inj h4
        | cons y ys => simp [Reps] at h2
      | cons x xs ihx =>
        intro ys zs vs a b h1 h2 h3 h4
        simp only [Reps] at h1
        obtain ⟨z, vs', rfl, r1, h1⟩ := h1
        cases ys with
        | nil => simp [Reps] at h2
        | cons y ys =>
          simp only [Reps] at h2
          obtain ⟨z', zs', q, r2, h2⟩ := h2
          cases q
          cases zs with
          | nil => simp [eqZ] at h3 h4; rw [h3, h4]
          | cons w zs =>
            simp only [eqZ, Option.bind_eq_some_iff, Option.map_eq_some_iff] at h3 h4
            obtain ⟨k1, e1, k2, e2, rfl⟩ := h3
            obtain ⟨l1, f1, l2, f2, rfl⟩ := h4
            rw [ih r1 r2 e1 f1, ihx h1 h2 e2 f2]
    intro d e x v a b h1 h2 h3 h4
    cases d with
    | non =>
      have h1 : v = .non := by simpa [Rep] using h1
      subst h1
      have he : e = .non := by
        cases e <;> first
          | rfl
          | (simp [Rep] at h2; done)
      subst he
      rw [h3] at h4; exact Option.some.inj h4
    | bl k =>
      have h1 : v = .bl k := by simpa [Rep] using h1
      subst h1
      have he : e = .bl k := by
        cases e <;> first
          | (simp [Rep] at h2; done)
          | (simp [Rep] at h2; subst h2; rfl)
      subst he
      rw [h3] at h4; exact Option.some.inj h4
    | int k =>
      have h1 : v = .int k := by simpa [Rep] using h1
      subst h1
      have he : e = .int k := by
        cases e <;> first
          | (simp [Rep] at h2; done)
          | (simp [Rep] at h2; subst h2; rfl)
      subst he
      rw [h3] at h4; exact Option.some.inj h4
    | str k =>
      have h1 : v = .str k := by simpa [Rep] using h1
      subst h1
      have he : e = .str k := by
        cases e <;> first
          | (simp [Rep] at h2; done)
          | (simp [Rep] at h2; subst h2; rfl)
      subst he
      rw [h3] at h4; exact Option.some.inj h4
    | lst xs =>
      obtain ⟨p, us, rfl, e1, r1⟩ := h1
      cases e with
      | lst ys =>
        obtain ⟨p', us', q, e2, r2⟩ := h2
        cases q
        rw [e1] at e2
        cases e2
        have l1 := r1.length
        have l2 := r2.length
        cases x with
        | lst zs =>
          simp only [eqN] at h3 h4
          by_cases hl : xs.length = zs.length
          · rw [if_pos hl] at h3
            rw [if_pos (by omega)] at h4
            exact hz r1 r2 h3 h4
          · rw [if_neg hl] at h3
            rw [if_neg (by omega)] at h4
            rw [h3] at h4; exact Option.some.inj h4
        | _ => simp [eqN] at h3 h4 <;> rw [h3, h4]
      | tup ys =>
        obtain ⟨a', us', q, e2, r2⟩ := h2
        cases q
        rw [e1] at e2
        cases e2
      | _ => first
        | (simp [eqN] at h4; done)
        | (simp [Rep] at h2; done)
    | tup xs =>
      obtain ⟨p, us, rfl, e1, r1⟩ := h1
      cases e with
      | tup ys =>
        obtain ⟨p', us', q, e2, r2⟩ := h2
        cases q
        rw [e1] at e2
        cases e2
        have l1 := r1.length
        have l2 := r2.length
        cases x with
        | tup zs =>
          simp only [eqN, Option.map_eq_some_iff] at h3 h4
          obtain ⟨k1, h3, rfl⟩ := h3
          obtain ⟨k2, h4, rfl⟩ := h4
          rw [hz r1 r2 h3 h4]
          have hl : xs.length = ys.length := by omega
          rw [hl]
        | _ => simp [eqN] at h3 h4 <;> rw [h3, h4]
      | lst ys =>
        obtain ⟨a', us', q, e2, r2⟩ := h2
        cases q
        rw [e1] at e2
        cases e2
      | _ => first
        | (simp [eqN] at h4; done)
        | (simp [Rep] at h2; done)
    | _ => simp [eqN] at h3

/-! ### in, not in -/
def inZ (x : D) : List D → Option Bool
  | [] => some false
  | y :: ys => (eqN 59 y x).bind fun a => (inZ x ys).map fun b => a || b
theorem inZ_get {x : D} : ∀ {ys : List D} {b : Bool}, inZ x ys = some b → ∀ (j : Nat) (y : D), ys[j]? = some y → ∃ k, eqN 59 y x = some k
  | [], _, _, j, y, h => by simp at h
  | z :: ys, b, e, j, y, h => by
    simp only [inZ, Option.bind_eq_some_iff, Option.map_eq_some_iff] at e
    obtain ⟨k1, e1, k2, e2, _⟩ := e
    cases j with
    | zero =>
      simp only [List.getElem?_cons_zero, Option.some.injEq] at h
      subst h
      exact ⟨k1, e1⟩
    | succ j => exact inZ_get e2 j y (by simpa using h)
theorem inZ_iff {x : D} : ∀ {ys : List D} {b : Bool}, inZ x ys = some b → (b = true ↔ ∃ (j : Nat) (y : D), ys[j]? = some y ∧ eqN 59 y x = some true)
  | [], b, e => by
    simp [inZ] at e
    subst e
    simp
  | z :: ys, b, e => by
    simp only [inZ, Option.bind_eq_some_iff, Option.map_eq_some_iff] at e
    obtain ⟨k1, e1, k2, e2, rfl⟩ := e
    have ih := inZ_iff e2
    constructor
    · intro h
      cases k1 with
      | true => exact ⟨0, z, rfl, e1⟩
      | false =>
        obtain ⟨j, y, h1, h2⟩ := ih.mp (by simpa using h)
        exact ⟨j + 1, y, by simpa using h1, h2⟩
    · rintro ⟨j, y, h1, h2⟩
      cases j with
      | zero =>
        simp only [List.getElem?_cons_zero, Option.some.injEq] at h1
        subst h1
        rw [e1] at h2
        cases h2
        rfl
      | succ j =>
        have := ih.mpr ⟨j, y, by simpa using h1, h2⟩
        rw [this, Bool.or_true]
/-- the answer for one value -/
noncomputable def ansV (x : D) (ds : List D) (us : List Value) (u : Value) : Bool := @decide (∃ (j : Nat) (y : D), us[j]? = some u ∧ ds[j]? = some y ∧ eqN 59 y x = some true) (Classical.propDecidable _)
section
variable {X : Cx} {pins : List (Addr × Obj)} {σ0 : L2.St} {H : Hp} {s : Shared} {c : FC} {w : Wd} {σ : L2.St}
theorem ansV_at {x : D} {ds : List D} {xs : List V} {us : List Value} {F : Hp} {cl : Str → Option Addr} {b : Bool} (h : Reps cl F ds xs) (r : Vals xs us) (e : inZ x ds = some b) {j : Nat} {y : D} {u : Value} {k : Bool}
    (hu : us[j]? = some u) (hy : ds[j]? = some y) (hk : eqN 59 y x = some k) : ansV x ds us u = k := by
  cases k with
  | true => exact @decide_eq_true _ (Classical.propDecidable _) ⟨j, y, hu, hy, hk⟩
  | false =>
    refine @decide_eq_false _ (Classical.propDecidable _) ?_
    rintro ⟨j', y', hu', hy', hk'⟩
    obtain ⟨z, hz, rz⟩ := h.get hy
    obtain ⟨z', hz', rz'⟩ := h.get hy'
    obtain ⟨v, hv, rv⟩ := r.get hz
    obtain ⟨v', hv', rv'⟩ := r.get hz'
    rw [hu] at hv
    rw [hu'] at hv'
    cases hv
    cases hv'
    have ez : z = z' := rv.inj rv'
    subst ez
    have := rep_fun 59 rz rz' hk hk'
    cases this
theorem ansV_any {x : D} {ds : List D} {xs : List V} {us : List Value} {F : Hp} {cl : Str → Option Addr} {b : Bool} (h : Reps cl F ds xs) (r : Vals xs us) (e : inZ x ds = some b) : us.any (ansV x ds us) = b := by
  have l1 := h.length
  have l2 := r.length
  have key : us.any (ansV x ds us) = true ↔ b = true := by
    rw [inZ_iff e, List.any_eq_true]
    constructor
    · rintro ⟨u, hm, hu⟩
      obtain ⟨j, y, h1, h2, h3⟩ := @of_decide_eq_true _ (Classical.propDecidable _) hu
      exact ⟨j, y, h2, h3⟩
    · rintro ⟨j, y, h1, h2⟩
      have hj : j < us.length := by
        have := (List.getElem?_eq_some_iff.mp h1).1
        omega
      exact ⟨us[j], List.getElem_mem _, @decide_eq_true _ (Classical.propDecidable _) ⟨j, y, List.getElem?_eq_getElem _, h1, h2⟩⟩
  cases b <;> cases q : us.any (ansV x ds us) <;> simp_all
theorem mem_at (I : Inv X pins σ0 H s) (sr : SR c w σ H) {A : Around} (hu : A.units + 60 < cLine) {x : D} {ds : List D} {xs : List V} {us : List Value} {b : Bool} (h : Reps c.cl w.F ds xs) (r : Vals xs us) (e : inZ x ds = some b) {z : V} {v : Value} (rx : RepT c w.F H x z) (rv : RelV z v) :
    ∀ u, u ∈ us.toArray → EqAt A.in1 s u v (ansV x ds us u) := by
  intro u hm
  have hm : u ∈ us := by simpa using hm
  obtain ⟨j, hj, ej⟩ := List.getElem_of_mem hm
  have l1 := h.length
  have l2 := r.length
  obtain ⟨y, hy⟩ : ∃ y, ds[j]? = some y := ⟨ds[j]'(by omega), List.getElem?_eq_getElem _⟩
  obtain ⟨k, hk⟩ := inZ_get e j y hy
  have hu' : us[j]? = some u := by rw [List.getElem?_eq_getElem hj, ej]
  rw [ansV_at h r e hu' hy hk]
  obtain ⟨t, ht, rt⟩ := h.get hy
  obtain ⟨t', ht', rt'⟩ := r.get ht
  rw [hu'] at ht'
  cases ht'
  exact eq_at I sr 59 A.in1 (by show A.units + 1 + 59 < cLine; omega) (sr.view rt) rx rt' rv hk
end
/-- x in y -/
def dInB : D → D → Option Bool
  | .str x, .str y => match x.cps.toList with
    | [k] => some (decide (k ∈ y.cps.toList))
    | _ => none
  | x, .lst ys => inZ x ys
  | x, .tup ys => inZ x ys
  | x, .dic kvs => (keyD x).map fun k => (getK kvs k).isSome
  | _, _ => none
def dIn (x y : D) : Option D := (dInB x y).map .bl
def dNotIn (x y : D) : Option D := (dInB x y).map fun b => .bl (!b)
theorem str_one {x : Str} {k : Nat} (h : x.cps.toList = [k]) : x = ⟨#[k]⟩ := by
  obtain ⟨a⟩ := x
  have h : a.toList = [k] := h
  congr 1
  exact Array.toList_inj.mp (by rw [h])
section
variable {X : Cx} {c : FC}
theorem op_in_data (hu : X.A.units + 64 < cLine) : OpR X (compareOp .In) (R2D c dIn) := by
  intro pins s σ1 H x y v u Q I rx ry h
  obtain ⟨w, σ, dx, dy, d, sr, r1, r2, e, q⟩ := h
  unfold dIn at e
  rw [Option.map_eq_some_iff] at e
  obtain ⟨b, e, rfl⟩ := e
  have ql : ∀ (ys : List D), dy = .lst ys → inZ dx ys = some b → wpAny (model X.prog X.w) X.A (compareOp .In v u) (EP X pins σ1 Q) X.xe s := fun ys ey ez => by
    subst ey
    obtain ⟨a, zs, rfl, h1, _, rr⟩ := r2
    obtain rfl : u = .ref a := ry
    obtain ⟨us, rv, p, _⟩ := I.list (SqL.of (K := X.K) h1)
    refine SeqAt.in_listAt (ansV dx ys us) p.isList (mem_at I sr (by omega) rr rv ez r1 rx) ⟨.bl b, H, I, ?_, q.bl sr⟩
    show Value.bool _ = Value.bool b
    rw [show us.toArray.any (ansV dx ys us) = us.any (ansV dx ys us) by simp, ansV_any rr rv ez]
  have qt : ∀ (ys : List D), dy = .tup ys → inZ dx ys = some b → wpAny (model X.prog X.w) X.A (compareOp .In v u) (EP X pins σ1 Q) X.xe s := fun ys ey ez => by
    subst ey
    obtain ⟨a, zs, rfl, h1, _, rr⟩ := r2
    obtain rfl : u = .ref a := ry
    obtain ⟨us, rv, p, _⟩ := I.tuple (SqT.of (K := X.K) h1.1)
    refine SeqAt.in_tupleAt (ansV dx ys us) (show s.heap.IsTuple a us.toArray from p) (mem_at I sr (by omega) rr rv ez r1 rx) ⟨.bl b, H, I, ?_, q.bl sr⟩
    show Value.bool _ = Value.bool b
    rw [show us.toArray.any (ansV dx ys us) = us.any (ansV dx ys us) by simp, ansV_any rr rv ez]
  have qd : ∀ kvs, dy = .dic kvs → (keyD dx).map (fun k => (getK kvs k).isSome) = some b → wpAny (model X.prog X.w) X.A (compareOp .In v u) (EP X pins σ1 Q) X.xe s := fun kvs ey ez => by
    subst ey
    rw [Option.map_eq_some_iff] at ez
    obtain ⟨k, ek, rfl⟩ := ez
    obtain ⟨a, zs, rfl, h1, _, rr⟩ := r2
    obtain rfl : u = .ref a := ry
    have ex := keyD_rep ek r1
    refine d_in (by omega) I (.inl ⟨zs, k, h1, ex, rfl⟩) rx fun s' I' => ⟨_, H, I', ?_, q.bl sr⟩
    show Value.bool _ = Value.bool _
    rw [rr.isSome]
  cases dy with
  | str j =>
    cases dx with
    | str i =>
      simp only [dInB] at e
      split at e
      · rename_i k hk
        cases e
        have ex := r1.str
        rw [str_one hk] at ex
        exact op_in_sign pins s σ1 H x y v u Q I rx ry ⟨k, j, ex, r2.str, q.bl sr⟩
      · cases e
    | _ => simp [dInB] at e
  | lst ys => exact ql ys rfl (by cases dx <;> simpa [dInB] using e)
  | tup ys => exact qt ys rfl (by cases dx <;> simpa [dInB] using e)
  | dic kvs => exact qd kvs rfl (by cases dx <;> simpa [dInB] using e)
  | _ => cases dx <;> simp [dInB] at e
theorem op_notin_data (hu : X.A.units + 64 < cLine) : OpR X (compareOp .NotIn) (R2D c dNotIn) := by
  intro pins s σ1 H x y v u Q I rx ry h
  obtain ⟨w, σ, dx, dy, d, sr, r1, r2, e, q⟩ := h
  unfold dNotIn at e
  rw [Option.map_eq_some_iff] at e
  obtain ⟨b, e, rfl⟩ := e
  have ql : ∀ (ys : List D), dy = .lst ys → inZ dx ys = some b → wpAny (model X.prog X.w) X.A (compareOp .NotIn v u) (EP X pins σ1 Q) X.xe s := fun ys ey ez => by
    subst ey
    obtain ⟨a, zs, rfl, h1, _, rr⟩ := r2
    obtain rfl : u = .ref a := ry
    obtain ⟨us, rv, p, _⟩ := I.list (SqL.of (K := X.K) h1)
    refine SeqAt.notIn_listAt (ansV dx ys us) p.isList (mem_at I sr (by omega) rr rv ez r1 rx) ⟨.bl (!b), H, I, ?_, q.bl sr⟩
    show Value.bool _ = Value.bool (!b)
    rw [show us.toArray.any (ansV dx ys us) = us.any (ansV dx ys us) by simp, ansV_any rr rv ez]
  have qt : ∀ (ys : List D), dy = .tup ys → inZ dx ys = some b → wpAny (model X.prog X.w) X.A (compareOp .NotIn v u) (EP X pins σ1 Q) X.xe s := fun ys ey ez => by
    subst ey
    obtain ⟨a, zs, rfl, h1, _, rr⟩ := r2
    obtain rfl : u = .ref a := ry
    obtain ⟨us, rv, p, _⟩ := I.tuple (SqT.of (K := X.K) h1.1)
    refine SeqAt.notIn_tupleAt (ansV dx ys us) (show s.heap.IsTuple a us.toArray from p) (mem_at I sr (by omega) rr rv ez r1 rx) ⟨.bl (!b), H, I, ?_, q.bl sr⟩
    show Value.bool _ = Value.bool (!b)
    rw [show us.toArray.any (ansV dx ys us) = us.any (ansV dx ys us) by simp, ansV_any rr rv ez]
  have qd : ∀ kvs, dy = .dic kvs → (keyD dx).map (fun k => (getK kvs k).isSome) = some b → wpAny (model X.prog X.w) X.A (compareOp .NotIn v u) (EP X pins σ1 Q) X.xe s := fun kvs ey ez => by
    subst ey
    rw [Option.map_eq_some_iff] at ez
    obtain ⟨k, ek, rfl⟩ := ez
    obtain ⟨a, zs, rfl, h1, _, rr⟩ := r2
    obtain rfl : u = .ref a := ry
    have ex := keyD_rep ek r1
    refine d_notIn (by omega) I (.inl ⟨zs, k, h1, ex, rfl⟩) rx fun s' I' => ⟨_, H, I', ?_, q.bl sr⟩
    show Value.bool _ = Value.bool _
    rw [rr.isSome]
  cases dy with
  | str j =>
    cases dx with
    | str i =>
      simp only [dInB] at e
      split at e
      · rename_i k hk
        cases e
        have ex := r1.str
        rw [str_one hk] at ex
        exact op_notIn_sign pins s σ1 H x y v u Q I rx ry ⟨k, j, ex, r2.str, q.bl sr⟩
      · cases e
    | _ => simp [dInB] at e
  | lst ys => exact ql ys rfl (by cases dx <;> simpa [dInB] using e)
  | tup ys => exact qt ys rfl (by cases dx <;> simpa [dInB] using e)
  | dic kvs => exact qd kvs rfl (by cases dx <;> simpa [dInB] using e)
  | _ => cases dx <;> simp [dInB] at e
end
end DL

set_option Elab.async false
set_option linter.all false
set_option maxRecDepth 100000
set_option maxHeartbeats 4000000
namespace DL
open PySem PySem.Spec L2

/-! ### tests -/
theorem pw_imp {X : Cx} {e : Expr} {t t' : TT} (h : PW X e t) (q : ∀ σ H Q, t' σ H Q → t σ H Q) : PW X e t' := ⟨fun wh pins s σ H Q I hw => h.run wh pins s σ H Q I (q _ _ _ hw)⟩
def asB : D → Z → ER Bool
  | .bl b, z => .ok b z
  | _, _ => .bad
def mB (m : M D) : M Bool := fun s z => (m s z).bind asB
def mNot (m : M Bool) : M Bool := fun s z => (m s z).bind fun b z => .ok (!b) z
def mAnd (a b : M Bool) : M Bool := fun s z => (a s z).bind fun k z => if k = true then b s z else .ok false z
def mOr (a b : M Bool) : M Bool := fun s z => (a s z).bind fun k z => if k = true then .ok true z else b s z
def mIf {α : Type} (c : M Bool) (a b : M α) : M α := fun s z => (c s z).bind fun k z => if k = true then a s z else b s z
/-- and, or as values, all but the last truth values -/
def mAndV (a b : M D) : M D := fun s z => (a s z).bind fun x z => (asB x z).bind fun k z => if k = true then b s z else .ok (.bl false) z
def mOrV (a b : M D) : M D := fun s z => (a s z).bind fun x z => (asB x z).bind fun k z => if k = true then .ok (.bl true) z else b s z
def mNotV (a : M D) : M D := fun s z => (a s z).bind fun x z => (asB x z).bind fun k z => .ok (.bl (!k)) z
theorem wnt_asB {c : FC} {W : WX} {σ : L2.St} {w : Wd} {H : Hp} {α : Type} {R : Wd → Hp → α → Prop} {d : D} {f : Bool → Z → ER α} (h : Wnt c W σ w H R ((asB d w.z).bind f)) : ∃ b, d = .bl b ∧ Wnt c W σ w H R (f b w.z) := by
  cases d <;> first
    | exact ⟨_, rfl, h⟩
    | exact False.elim h
theorem Wnt.ok {c : FC} {W : WX} {σ : L2.St} {w : Wd} {H : Hp} {α : Type} {R : Wd → Hp → α → Prop} {a : α} (s : SR c w σ H) (h : Wnt c W σ w H R (.ok a w.z)) : R w H a := h H w (Step.refl s) rfl
section
variable {X : Cx} {c : FC} {W : WX} {a b e : Expr} {ma mb m : M D} {na nb : M Bool} {pos : Pos} {g : D → D → Option D} {rest : List Expr}
theorem tb_to {σ : L2.St} {H : Hp} {Q : Bool → Hp → Prop} (q : tT c W (mB m) σ H Q) : tB (tV c W m) σ H Q := by
  obtain ⟨w, s, q⟩ := q
  refine ⟨w, s, (Wnt.bind q).imp fun w1 H1 d s1 q1 v r => ?_⟩
  cases d <;> first
    | exact ⟨_, r.bl, Wnt.ok s1.sr q1⟩
    | exact False.elim q1
theorem dt_val (h : PE X e (tV c W m)) (he : ∀ whole, isTrue e X.env whole = (do let v ← whole; standAt e.pos; holding [v] (truthy v)) := by intro _; rfl) : PT X e (tT c W (mB m)) := pt_imp (pt_val h he) fun _ _ _ q => tb_to q
theorem dt_cmp {op : CmpOp} (ho : OpR X (compareOp op) (R2D c g)) (ha : PE X a (tV c W ma)) (hb : PE X b (tV c W mb)) (hm : behindInMarks op b = false) : PT X (.Compare a [op] [b] pos) (tT c W (mB (mOp g ma mb))) :=
  pt_imp (pt_cmpR ho ha hb hm) fun σ H Q q => by
    have q2 : tF c W (mOp g ma mb) σ H fun x H' => ∃ k, x = .bl k ∧ Q k H' := by
      obtain ⟨w, s, q⟩ := q
      refine ⟨w, s, (Wnt.bind q).imp fun w1 H1 d s1 q1 v r => ?_⟩
      cases d <;> first
        | exact ⟨_, by simpa [Rep] using r, Wnt.ok s1.sr q1⟩
        | exact False.elim q1
    exact op_to q2
theorem dt_not (h : PT X a (tT c W na)) : PT X (.UnaryOp .Not a pos) (tT c W (mNot na)) := pt_imp (pt_not h) fun σ H Q ⟨w, s, q⟩ => ⟨w, s, (Wnt.bind q).imp fun w1 H1 d s1 q1 => Wnt.ok s1.sr q1⟩
theorem dt_pw (h : PW X e (tT c W na)) : PT X e (tT c W na) := h.pt
theorem dw_and1 (h : PT X a (tT c W na)) : PW X (.BoolOp .And [a] pos) (tT c W na) := pw_and1 h
theorem dw_or1 (h : PT X a (tT c W na)) : PW X (.BoolOp .Or [a] pos) (tT c W na) := pw_or1 h
theorem dw_and (h : PT X a (tT c W na)) (h2 : PW X (.BoolOp .And (b :: rest) pos) (tT c W nb)) : PW X (.BoolOp .And (a :: b :: rest) pos) (tT c W (mAnd na nb)) := pw_imp (pw_and h h2) fun σ H Q ⟨w, s, q⟩ => ⟨w, s, (Wnt.bind q).imp fun w1 H1 d s1 q1 => by
  cases d with
  | true => exact ⟨w1, s1.sr, by rw [s1.sl]; exact q1⟩
  | false => exact Wnt.ok s1.sr q1⟩
theorem dw_or (h : PT X a (tT c W na)) (h2 : PW X (.BoolOp .Or (b :: rest) pos) (tT c W nb)) : PW X (.BoolOp .Or (a :: b :: rest) pos) (tT c W (mOr na nb)) := pw_imp (pw_or h h2) fun σ H Q ⟨w, s, q⟩ => ⟨w, s, (Wnt.bind q).imp fun w1 H1 d s1 q1 => by
  cases d with
  | false => exact ⟨w1, s1.sr, by rw [s1.sl]; exact q1⟩
  | true => exact Wnt.ok s1.sr q1⟩
theorem df_one {op} (h : PE X a (tF c W ma)) : PE X (.BoolOp op [a] pos) (tF c W ma) := pe_one h
theorem df_and (h : PE X a (tV c W ma)) (h2 : PE X (.BoolOp .And (b :: rest) pos) (tF c W mb)) : PE X (.BoolOp .And (a :: b :: rest) pos) (tF c W (mAndV ma mb)) := pe_imp (pe_and h h2) fun σ H Q ⟨w, s, q⟩ => ⟨w, s, (Wnt.bind q).imp fun w1 H1 d s1 q1 v r => by
  obtain ⟨k, rfl, q2⟩ := wnt_asB q1
  refine ⟨k, r.bl, ?_⟩
  cases k with
  | true => exact ⟨w1, s1.sr, by rw [s1.sl]; exact q2⟩
  | false => exact Wnt.ok s1.sr q2 _ (by simp [Rep])⟩
theorem df_or (h : PE X a (tV c W ma)) (h2 : PE X (.BoolOp .Or (b :: rest) pos) (tF c W mb)) : PE X (.BoolOp .Or (a :: b :: rest) pos) (tF c W (mOrV ma mb)) := pe_imp (pe_or h h2) fun σ H Q ⟨w, s, q⟩ => ⟨w, s, (Wnt.bind q).imp fun w1 H1 d s1 q1 v r => by
  obtain ⟨k, rfl, q2⟩ := wnt_asB q1
  refine ⟨k, r.bl, ?_⟩
  cases k with
  | false => exact ⟨w1, s1.sr, by rw [s1.sl]; exact q2⟩
  | true => exact Wnt.ok s1.sr q2 _ (by simp [Rep])⟩
theorem df_not (h : PE X a (tV c W ma)) : PE X (.UnaryOp .Not a pos) (tF c W (mNotV ma)) := pe_imp (pe_not h) fun σ H Q ⟨w, s, q⟩ => ⟨w, s, (Wnt.bind q).imp fun w1 H1 d s1 q1 v r => by
  obtain ⟨k, rfl, q2⟩ := wnt_asB q1
  exact ⟨k, r.bl, Wnt.ok s1.sr q2 _ (by simp [Rep])⟩⟩
theorem df_if {t : Expr} (ht : PT X t (tT c W na)) (ha : PE X a (tF c W ma)) (hb : PE X b (tF c W mb)) : PE X (.IfExp t a b pos) (tF c W (mIf na ma mb)) := pe_imp (pe_ifExp ht ha hb) fun σ H Q ⟨w, s, q⟩ => ⟨w, s, (Wnt.bind q).imp fun w1 H1 d s1 q1 => by
  cases d with
  | false => exact ⟨w1, s1.sr, by rw [s1.sl]; exact q1⟩
  | true => exact ⟨w1, s1.sr, by rw [s1.sl]; exact q1⟩⟩
theorem dv_if {t : Expr} (ht : PT X t (tT c W na)) (ha : PE X a (tV c W ma)) (hb : PE X b (tV c W mb)) : PE X (.IfExp t a b pos) (tV c W (mIf na ma mb)) := pe_imp (pe_ifExp ht ha hb) fun σ H Q ⟨w, s, q⟩ => ⟨w, s, (Wnt.bind q).imp fun w1 H1 d s1 q1 => by
  cases d with
  | false => exact ⟨w1, s1.sr, by rw [s1.sl]; exact q1⟩
  | true => exact ⟨w1, s1.sr, by rw [s1.sl]; exact q1⟩⟩
/-! a < b < c -/
def mChain (g g' : D → D → Option D) (a b d : M D) : M D := fun s z => (a s z).bind fun x z => (b s z).bind fun y z => match g x y with
  | some (.bl true) => (d s z).bind fun w z => match g' y w with
    | some r => .ok r z
    | none => .bad
  | some (.bl false) => .ok (.bl false) z
  | _ => .bad
theorem chain_to {md : M D} {g' : D → D → Option D} {σ : L2.St} {H : Hp} {Q : VK} (q : tF c W (mChain g g' ma mb md) σ H Q) : tChain (R2D c g) (R2D c g') (tV c W ma) (tV c W mb) (tV c W md) σ H Q := by
  obtain ⟨w, s, q⟩ := q
  refine ⟨w, s, (Wnt.bind q).imp fun w1 H1 dx s1 q1 v1 r1 => ⟨w1, s1.sr, ?_⟩⟩
  rw [s1.sl]
  refine (Wnt.bind q1).imp fun w2 H2 dy s2 q2 v2 r2 => ?_
  have s02 := s1.trans s2
  cases e : g dx dy with
  | none => rw [e] at q2; exact False.elim q2
  | some d =>
    rw [e] at q2
    refine ⟨w2, σ, dx, dy, d, s2.sr, RepT.keep s2.le s2.keep r1, r2, e, fun v H3 w3 s3 z3 r3 => ?_⟩
    cases d with
    | bl k =>
      cases k with
      | true =>
        refine ⟨true, by simpa [Rep] using r3, ?_⟩
        rw [if_pos rfl]
        refine ⟨w3, s3.sr, ?_⟩
        have e3 : w3.sl = w.sl := s3.sl.trans s02.sl
        rw [e3, z3]
        refine (Wnt.bind (Wnt.step s3 q2)).imp fun w4 H4 dz s4 q4 v4 r4 => ?_
        obtain ⟨d', e', q5⟩ := wnt_op s4.sr q4
        exact ⟨w4, σ, dy, dz, d', s4.sr, RepT.keep s4.le s4.keep (RepT.keep s3.le s3.keep r2), r4, e', q5⟩
      | false =>
        refine ⟨false, by simpa [Rep] using r3, ?_⟩
        rw [if_neg Bool.false_ne_true]
        exact q2 H3 w3 s3 z3 _ (by simp [Rep])
    | _ => exact False.elim q2
theorem df_chain {md : M D} {d : Expr} {op op' : CmpOp} {g' : D → D → Option D} (ho : OpR X (compareOp op) (R2D c g)) (ho' : OpR X (compareOp op') (R2D c g')) (ha : PE X a (tV c W ma)) (hb : PE X b (tV c W mb)) (hd : PE X d (tV c W md))
    (hm : lastMarks [op, op'] [b, d] = false := by with_unfolding_all rfl) : PE X (.Compare a [op, op'] [b, d] pos) (tF c W (mChain g g' ma mb md)) := pe_imp (pe_chain ho ho' ha hb hd hm) fun _ _ _ q => chain_to q
theorem dt_chain {md : M D} {d : Expr} {op op' : CmpOp} {g' : D → D → Option D} (ho : OpR X (compareOp op) (R2D c g)) (ho' : OpR X (compareOp op') (R2D c g')) (ha : PE X a (tV c W ma)) (hb : PE X b (tV c W mb)) (hd : PE X d (tV c W md))
    (hm : lastMarks [op, op'] [b, d] = false := by with_unfolding_all rfl) : PT X (.Compare a [op, op'] [b, d] pos) (tT c W (mB (mChain g g' ma mb md))) := pt_imp (pt_chain ho ho' ha hb hd hm) fun σ H Q q => by
    have q2 : tF c W (mChain g g' ma mb md) σ H fun x H' => ∃ k, x = .bl k ∧ Q k H' := by
      obtain ⟨w, s, q⟩ := q
      refine ⟨w, s, (Wnt.bind q).imp fun w1 H1 d s1 q1 v r => ?_⟩
      cases d <;> first
        | exact ⟨_, by simpa [Rep] using r, Wnt.ok s1.sr q1⟩
        | exact False.elim q1
    exact chain_to q2
/-! ### slices -/
def cutD {α : Type} (xs : List α) (lo hi : Option Int) : List α := (xs.drop (HT.sIx xs.length 0 lo)).take (HT.sIx xs.length xs.length hi - HT.sIx xs.length 0 lo)
def dSl : D → Option Int → Option Int → Option D
  | .lst ds, lo, hi => some (.lst (cutD ds lo hi))
  | .tup ds, lo, hi => some (.tup (cutD ds lo hi))
  | .str z, lo, hi => if z.length ≤ lim then some (.str (cutS z lo hi)) else none
  | _, _, _ => none
def asI : D → Z → ER (Option Int)
  | .int i, z => .ok (some i) z
  | _, _ => .bad
def mPart (m : M D) : M (Option Int) := fun s z => (m s z).bind asI
def mNoPart : M (Option Int) := fun _ z => .ok none z
def mSl (a : M D) (lo hi : M (Option Int)) : M D := fun s z => (a s z).bind fun x z => (lo s z).bind fun l z => (hi s z).bind fun h z => match dSl x l h with
  | some d => .ok d z
  | none => .bad
def tO (c : FC) (W : WX) (m : M (Option Int)) : TO := fun σ H Q => ∃ w, SR c w σ H ∧ Wnt c W σ w H (fun w' H' d => Q d H') (m w.sl w.z)
theorem po_imp {e : Option Expr} {t t' : TO} (h : PO X e t) (q : ∀ σ H Q, t' σ H Q → t σ H Q) : PO X e t' := ⟨fun pins s σ H Q I hw => h.run pins s σ H Q I (q _ _ _ hw)⟩
theorem do_none : PO X none (tO c W mNoPart) := po_imp po_none fun σ H Q ⟨w, s, q⟩ => Wnt.ok s q
theorem do_some (h : PE X e (tV c W m)) : PO X (some e) (tO c W (mPart m)) := po_imp (po_some h) fun σ H Q ⟨w, s, q⟩ => ⟨w, s, (Wnt.bind q).imp fun w1 H1 d s1 q1 v r => by
  cases d <;> first
    | exact ⟨_, r.int, Wnt.ok s1.sr q1⟩
    | exact False.elim q1⟩
theorem cutD_V {cl : Str → Option Addr} {F : Hp} {ds : List D} {xs : List V} (h : Reps cl F ds xs) (lo hi : Option Int) : Reps cl F (cutD ds lo hi) (cutV xs lo hi) := by
  unfold cutD cutV
  rw [h.length]
  exact (h.drop _).take _
theorem df_sl {lo hi : Option Expr} {p2 : Pos} {ml mh : M (Option Int)} (ha : PE X a (tV c W ma)) (hl : PO X lo (tO c W ml)) (hh : PO X hi (tO c W mh)) : PE X (.Subscript a (.Slice lo hi none p2) pos) (tF c W (mSl ma ml mh)) :=
  pe_imp (pe_slice ((sl_list (X := X)).or ((sl_tupA (X := X)).or (sl_str (X := X)))) ha hl hh) fun σ H Q ⟨w, s, q⟩ => ⟨w, s, (Wnt.bind q).imp fun w1 H1 dx s1 q1 v1 r1 => ⟨w1, s1.sr, by
    rw [s1.sl]
    refine (Wnt.bind q1).imp fun w2 H2 l s2 q2 => ⟨w2, s2.sr, ?_⟩
    rw [s2.sl, s1.sl]
    refine (Wnt.bind q2).imp fun w3 H3 h s3 q3 => ?_
    obtain ⟨d, e, q4⟩ := wnt_op s3.sr q3
    have r1 := RepT.keep s3.le s3.keep (RepT.keep s2.le s2.keep r1)
    cases dx <;> simp only [dSl, reduceCtorEq, Option.some.injEq] at e
    · split at e
      · rename_i hl
        cases e
        exact .inr (.inr ⟨_, r1.str, lim_line hl, q4.str s3.sr⟩)
      · cases e
    · subst e
      obtain ⟨p, xs, rfl, h1, _, rr⟩ := r1
      exact .inl ⟨p, xs, rfl, SqL.of h1, q4.new s3.sr ⟨_, rfl, cutD_V rr l h⟩⟩
    · subst e
      obtain ⟨p, xs, rfl, h1, _, rr⟩ := r1
      refine .inr (.inl ⟨p, xs, rfl, SqT.of h1.1, fun hw => ?_, fun _ => q4.new s3.sr ⟨_, rfl, cutD_V rr l h⟩⟩)
      refine q4.val s3.sr ⟨p, xs, rfl, h1.2, ?_⟩
      have ec : cutV xs l h = xs := by
        unfold cutV
        rw [hw.1, hw.2]
        simp
      rw [← ec]
      exact cutD_V rr l h⟩⟩
end
end DL

set_option Elab.async false
set_option linter.all false
set_option maxRecDepth 100000
set_option maxHeartbeats 4000000
namespace DL
open PySem PySem.Spec L2

/-! ### arguments, calls of built-ins -/
def mNil : M (List D) := fun _ z => .ok [] z
def mCons (a : M D) (r : M (List D)) : M (List D) := fun s z => (a s z).bind fun x z => (r s z).bind fun xs z => .ok (x :: xs) z
def mOpt (e : Option D) (z : Z) : ER D := match e with
  | some d => .ok d z
  | none => .bad
def mCall (g : List D → Option D) (m : M (List D)) : M D := fun s z => (m s z).bind fun xs z => mOpt (g xs) z
def C1D (c : FC) (g : List D → Option D) : List V → Hp → VK → Prop := fun vs H Q => ∃ w σ ds d, SR c w σ H ∧ RepTs c w.F H ds vs ∧ g ds = some d ∧ Wt c σ w H d Q
theorem wnt_opt {c : FC} {W : WX} {σ : L2.St} {w : Wd} {H : Hp} {Q : VK} {e : Option D} (s : SR c w σ H) (h : Wnt c W σ w H (fun w' H' d => ∀ v, Rep c.cl w'.F d v → Q v H') (mOpt e w.z)) : ∃ d, e = some d ∧ Wt c σ w H d Q := wnt_op s h
theorem RepTs.one {c : FC} {F H : Hp} {d : D} {vs : List V} (h : RepTs c F H [d] vs) : ∃ v, vs = [v] ∧ RepT c F H d v := by
  obtain ⟨y, ys, rfl, r, h⟩ := h
  exact ⟨y, by rw [show ys = [] from h], r⟩
theorem RepTs.two {c : FC} {F H : Hp} {d e : D} {vs : List V} (h : RepTs c F H [d, e] vs) : ∃ v u, vs = [v, u] ∧ RepT c F H d v ∧ RepT c F H e u := by
  obtain ⟨y, ys, rfl, r, h⟩ := h
  obtain ⟨u, e, r2⟩ := h.one
  exact ⟨y, u, by rw [e], r, r2⟩
section
variable {X : Cx} {c : FC} {W : WX} {a b e : Expr} {ma mb m : M D} {mr : M (List D)} {pos p : Pos} {g : List D → Option D} {es : List Expr} {x : Str}
theorem dav_nil : PA X [] (tAV c W mNil) := pa_imp pa_nil fun σ H Q ⟨w, s, q⟩ => Wnt.ok s q [] rfl
theorem dav_cons (ha : PE X e (tV c W ma)) (hr : PA X es (tAV c W mr)) (hs : starEach (e :: es) X.env = (false, eval e X.env) :: starEach es X.env := by rfl) : PA X (e :: es) (tAV c W (mCons ma mr)) :=
  pa_imp (pa_cons ha hr hs) fun σ H Q ⟨w, s, q⟩ => ⟨w, s, (Wnt.bind q).imp fun w1 H1 dx s1 q1 v1 r1 => ⟨w1, s1.sr, by
    rw [s1.sl]
    exact (Wnt.bind q1).imp fun w2 H2 l s2 q2 vs rs => Wnt.ok s2.sr q2 (v1 :: vs) ⟨v1, vs, rfl, RepT.keep s2.le s2.keep r1, rs⟩⟩⟩
theorem daf_nil : PA X [] (tAF c W mNil) := pa_imp pa_nil fun σ H Q ⟨w, s, q⟩ => Wnt.ok s q [] (by simp [Reps])
theorem daf_cons (ha : PE X e (tF c W ma)) (hr : PA X es (tAF c W mr)) (hs : starEach (e :: es) X.env = (false, eval e X.env) :: starEach es X.env := by rfl) : PA X (e :: es) (tAF c W (mCons ma mr)) :=
  pa_imp (pa_cons ha hr hs) fun σ H Q ⟨w, s, q⟩ => ⟨w, s, (Wnt.bind q).imp fun w1 H1 dx s1 q1 v1 r1 => ⟨w1, s1.sr, by
    rw [s1.sl]
    exact (Wnt.bind q1).imp fun w2 H2 l s2 q2 vs rs => Wnt.ok s2.sr q2 (v1 :: vs) (.cons (Rep.le s2.le r1) rs)⟩⟩
theorem call_to {σ : L2.St} {H : Hp} {Q : VK} (q : tF c W (mCall g mr) σ H Q) : tCB (C1D c g) (tAV c W mr) σ H Q := by
  obtain ⟨w, s, q⟩ := q
  refine ⟨w, s, (Wnt.bind q).imp fun w1 H1 ds s1 q1 vs rs => ?_⟩
  obtain ⟨d, e, q3⟩ := wnt_opt s1.sr q1
  exact ⟨w1, σ, ds, d, s1.sr, rs, e, q3⟩
theorem callR_imp {f : Value} {r r' : List V → Hp → VK → Prop} (h : CallR X f r) (q : ∀ xs H Q, r' xs H Q → r xs H Q) : CallR X f r' := fun pins s σ H xs us Q I rs hw => h pins s σ H xs us Q I rs (q _ _ _ hw)
theorem callR_or {f : Value} {r r' : List V → Hp → VK → Prop} (h : CallR X f r) (h' : CallR X f r') : CallR X f (fun xs H Q => r xs H Q ∨ r' xs H Q) := fun pins s σ H xs us Q I rs hw => hw.elim (h pins s σ H xs us Q I rs) (h' pins s σ H xs us Q I rs)
theorem df_callB {id : String} (hc : CallR X (.builtin id) (C1D c g)) (hg : Gl X x) (hm : X.mg x = none) (hv : bootBuiltins x = some (.builtin id)) (ha : PA X (e :: es) (tAV c W mr)) (hn : x ≠ "__name__" := by decide) (hdb : (x == ("__debug__" : Str)) = false := by decide)
    (he : starEach (e :: es) X.env = (false, eval e X.env) :: starEach es X.env := by rfl) (hpl : (backTo pos (starEach es X.env)).any (·.1) = false := by rfl) : PE X (.Call (.Name x p) (e :: es) [] pos) (tF c W (mCall g mr)) :=
  pe_imp (pe_callB hc hg hm hv ha hn hdb he hpl) fun _ _ _ q => call_to q
theorem df_callTy {T : String} (hc : CallR X (.type T) (C1D c g)) (hg : Gl X x) (hm : X.mg x = none) (hv : bootBuiltins x = some (.type T)) (ha : PA X (e :: es) (tAV c W mr)) (hn : x ≠ "__name__" := by decide) (hdb : (x == ("__debug__" : Str)) = false := by decide)
    (he : starEach (e :: es) X.env = (false, eval e X.env) :: starEach es X.env := by rfl) (hpl : (backTo pos (starEach es X.env)).any (·.1) = false := by rfl) : PE X (.Call (.Name x p) (e :: es) [] pos) (tF c W (mCall g mr)) :=
  pe_imp (pe_callTy hc hg hm hv ha hn hdb he hpl) fun _ _ _ q => call_to q

/-! len, str, int, list, tuple, all, any, sum -/
def dLen : List D → Option D
  | [.str x] => if x.length ≤ lim then some (.int x.length) else none
  | [.lst ds] => some (.int ds.length)
  | [.tup ds] => some (.int ds.length)
  | [.dic kvs] => some (.int kvs.length)
  | _ => none
theorem call_lenR : CallR X (.builtin "len") (fun xs H Q => ∃ a kvs, xs = [V.ref a] ∧ Rd H a (.dK kvs) ∧ Q (.int kvs.length) H) := by
  intro pins s σ H xs us Q I r h
  obtain ⟨a, kvs, rfl, e, q⟩ := h
  obtain ⟨u, rfl, ru⟩ := vals1 r
  obtain rfl : u = Value.ref a := ru
  exact d_len I e fun t s' I' => ⟨.int _, H, I', ⟨t, rfl⟩, q⟩
theorem c_len : CallR X (.builtin "len") (C1D c dLen) := by
  refine callR_imp (callR_or call_len call_lenR) fun xs H Q h => ?_
  obtain ⟨w, σ, ds, d, s, rs, e, q⟩ := h
  unfold dLen at e
  split at e
  · split at e
    · rename_i hl
      cases e
      obtain ⟨v, rfl, r⟩ := rs.one
      exact .inl ⟨_, _, rfl, by rw [r.str]; exact ⟨lim_line hl, rfl⟩, q.int s⟩
    · cases e
  · cases e
    obtain ⟨v, rfl, r⟩ := rs.one
    obtain ⟨p, ys, rfl, h1, _, rr⟩ := r
    exact .inl ⟨_, _, rfl, .inl ⟨ys, SqL.of h1, rfl⟩, by rw [rr.length]; exact q.int s⟩
  · cases e
    obtain ⟨v, rfl, r⟩ := rs.one
    obtain ⟨p, ys, rfl, h1, _, rr⟩ := r
    exact .inl ⟨_, _, rfl, .inr ⟨ys, SqT.of h1.1, rfl⟩, by rw [rr.length]; exact q.int s⟩
  · cases e
    obtain ⟨v, rfl, r⟩ := rs.one
    obtain ⟨p, ys, rfl, h1, _, rr⟩ := r
    exact .inr ⟨p, ys, rfl, h1, by rw [rr.length]; exact q.int s⟩
  · cases e
def strI (i : Int) : Str := (toString i : String)
def dStr : List D → Option D
  | [.int i] => if i.natAbs < 2 ^ 1000 then some (.str (strI i)) else none
  | _ => none
theorem log2_lt {n : Nat} (h : n < 2 ^ 1000) : n.log2 < 1920 := by
  by_cases h0 : n = 0
  · subst h0
    decide
  · have := (Nat.log2_lt h0).mpr h
    omega
theorem c_str : CallR X (.type "str") (C1D c dStr) := by
  refine callR_imp call_str_int fun xs H Q h => ?_
  obtain ⟨w, σ, ds, d, s, rs, e, q⟩ := h
  unfold dStr at e
  split at e
  · split at e
    · rename_i hl
      cases e
      obtain ⟨v, rfl, r⟩ := rs.one
      exact ⟨_, by rw [r.int], log2_lt hl, q.str s⟩
    · cases e
  · cases e
def dInt : List D → Option D
  | [.int i] => some (.int i)
  | [.bl b] => some (.int (if b = true then 1 else 0))
  | [.str x] => if x.length ≤ 600 then (PySem.intText? x).map .int else none
  | _ => none
theorem c_int : CallR X (.type "int") (C1D c dInt) := by
  refine callR_imp (callR_or call_int1 call_int_str) fun xs H Q h => ?_
  obtain ⟨w, σ, ds, d, s, rs, e, q⟩ := h
  unfold dInt at e
  split at e
  · cases e
    obtain ⟨v, rfl, r⟩ := rs.one
    exact .inl (.inl ⟨_, by rw [r.int], q.int s⟩)
  · cases e
    obtain ⟨v, rfl, r⟩ := rs.one
    exact .inl (.inr ⟨_, by rw [r.bl], q.int s⟩)
  · split at e
    · rename_i hl
      rw [Option.map_eq_some_iff] at e
      obtain ⟨n, e, rfl⟩ := e
      obtain ⟨v, rfl, r⟩ := rs.one
      exact .inr ⟨_, n, by rw [r.str], e, by omega, q.int s⟩
    · cases e
  · cases e
def keyOf : Key → D
  | .inl i => .int i
  | .inr x => .str x
theorem keys_reps {cl : Str → Option Addr} {F : Hp} : ∀ {kvs : List (Key × D)} {xs : List (Key × V)}, RepK cl F kvs xs → Reps cl F (kvs.map fun kv => keyOf kv.1) (xs.map fun kv => kV kv.1)
  | [], xs, h => by
    simp only [RepK] at h
    subst h
    simp [Reps]
  | (k, d) :: kvs, xs, h => by
    simp only [RepK] at h
    obtain ⟨y, ys, rfl, _, h⟩ := h
    exact .cons (by cases k <;> simp [Rep, keyOf, kV]) (keys_reps h)
def dList : List D → Option D
  | [.lst ds] => some (.lst ds)
  | [.tup ds] => some (.lst ds)
  | _ => none
theorem c_list : CallR X (.type "list") (C1D c dList) := by
  refine callR_imp call_list_of fun xs H Q h => ?_
  obtain ⟨w, σ, ds, d, s, rs, e, q⟩ := h
  unfold dList at e
  split at e
  · cases e
    obtain ⟨v, rfl, r⟩ := rs.one
    obtain ⟨p, ys, rfl, h1, _, rr⟩ := r
    exact ⟨p, ys, rfl, .inl (SqL.of h1), q.new s ⟨_, rfl, rr⟩⟩
  · cases e
    obtain ⟨v, rfl, r⟩ := rs.one
    obtain ⟨p, ys, rfl, h1, _, rr⟩ := r
    exact ⟨p, ys, rfl, .inr (SqT.of h1.1), q.new s ⟨_, rfl, rr⟩⟩
  · cases e
def dTuple : List D → Option D
  | [.lst ds] => some (.tup ds)
  | [.tup ds] => some (.tup ds)
  | _ => none
theorem c_tuple : CallR X (.type "tuple") (C1D c dTuple) := by
  refine callR_imp call_tuple_of fun xs H Q h => ?_
  obtain ⟨w, σ, ds, d, s, rs, e, q⟩ := h
  unfold dTuple at e
  split at e
  · cases e
    obtain ⟨v, rfl, r⟩ := rs.one
    obtain ⟨p, ys, rfl, h1, _, rr⟩ := r
    exact ⟨p, ys, rfl, .inl ⟨SqL.of h1, q.new s ⟨_, rfl, rr⟩⟩⟩
  · cases e
    obtain ⟨v, rfl, r⟩ := rs.one
    obtain ⟨p, ys, rfl, h1, _, rr⟩ := r
    exact ⟨p, ys, rfl, .inr ⟨SqT.of h1.1, q.val s ⟨p, ys, rfl, h1.2, rr⟩⟩⟩
  · cases e
def bools : List D → Option (List Bool)
  | [] => some []
  | .bl b :: ds => (bools ds).map fun bs => b :: bs
  | _ => none
theorem bools_reps {cl : Str → Option Addr} {F : Hp} : ∀ {ds : List D} {xs : List V} {bs : List Bool}, Reps cl F ds xs → bools ds = some bs → xs = bs.map V.bl
  | [], xs, bs, h, e => by
    simp only [Reps] at h
    simp only [bools, Option.some.injEq] at e
    subst e h
    rfl
  | d :: ds, xs, bs, h, e => by
    simp only [Reps] at h
    obtain ⟨y, ys, rfl, r, h⟩ := h
    cases d <;> simp only [bools, reduceCtorEq, Option.map_eq_some_iff] at e
    obtain ⟨bs', e, rfl⟩ := e
    rw [bools_reps h e]
    simp only [Rep] at r
    subst r
    rfl
def dAll : List D → Option D
  | [.lst ds] => (bools ds).map fun bs => .bl (bs.all id)
  | _ => none
def dAny : List D → Option D
  | [.lst ds] => (bools ds).map fun bs => .bl (bs.any id)
  | _ => none
theorem c_all (hc : X.calm = true) : CallR X (.builtin "all") (C1D c dAll) := by
  refine callR_imp (cr_all hc) fun xs H Q h => ?_
  obtain ⟨w, σ, ds, d, s, rs, e, q⟩ := h
  unfold dAll at e
  split at e
  · rw [Option.map_eq_some_iff] at e
    obtain ⟨bs, e, rfl⟩ := e
    obtain ⟨v, rfl, r⟩ := rs.one
    obtain ⟨p, ys, rfl, h1, _, rr⟩ := r
    exact ⟨p, bs, rfl, by rw [← bools_reps rr e]; exact SqL.of h1, q.bl s⟩
  · cases e
theorem c_any (hc : X.calm = true) : CallR X (.builtin "any") (C1D c dAny) := by
  refine callR_imp (cr_any hc) fun xs H Q h => ?_
  obtain ⟨w, σ, ds, d, s, rs, e, q⟩ := h
  unfold dAny at e
  split at e
  · rw [Option.map_eq_some_iff] at e
    obtain ⟨bs, e, rfl⟩ := e
    obtain ⟨v, rfl, r⟩ := rs.one
    obtain ⟨p, ys, rfl, h1, _, rr⟩ := r
    exact ⟨p, bs, rfl, by rw [← bools_reps rr e]; exact SqL.of h1, q.bl s⟩
  · cases e
/-! dict(pairs), dict(d) -/
def pairsD : List D → Option (List (Key × D))
  | [] => some []
  | .tup [k, d] :: ds => (keyD k).bind fun k => (pairsD ds).map fun r => (k, d) :: r
  | _ => none
def mergeD {κ α : Type} [DecidableEq κ] (acc more : List (κ × α)) : List (κ × α) := more.foldl (fun acc kv => setK acc kv.1 kv.2) acc
def dDict : List D → Option D
  | [.lst ds] => (pairsD ds).map fun kvs => .dic (mergeD [] kvs)
  | [.dic kvs] => some (.dic kvs)
  | _ => none
theorem RepK.any {cl : Str → Option Addr} {F : Hp} {k : Key} : ∀ {kvs : List (Key × D)} {xs : List (Key × V)}, RepK cl F kvs xs → (xs.any fun kv => decide (kv.1 = k)) = (kvs.any fun kv => decide (kv.1 = k))
  | [], xs, h => by
    simp only [RepK] at h
    subst h
    rfl
  | (j, d) :: kvs, xs, h => by
    simp only [RepK] at h
    obtain ⟨y, ys, rfl, _, h⟩ := h
    simp only [List.any_cons, RepK.any h]
theorem RepK.put {cl : Str → Option Addr} {F : Hp} {k : Key} {d : D} {v : V} {kvs : List (Key × D)} {xs : List (Key × V)} (h : RepK cl F kvs xs) (r : Rep cl F d v) : RepK cl F (setK kvs k d) (putK xs k v) := by
  have e : putK xs k v = if (xs.any fun kv => decide (kv.1 = k)) = true then xs.map (fun kv => if kv.1 = k then (kv.1, v) else kv) else xs ++ [(k, v)] := by
    first
      | rfl
      | (unfold putK; split <;> simp_all)
  rw [e, h.any]
  unfold setK
  split
  · have : ∀ {kvs : List (Key × D)} {xs : List (Key × V)}, RepK cl F kvs xs → RepK cl F (kvs.map fun kv => if kv.1 = k then (kv.1, d) else kv) (xs.map fun kv => if kv.1 = k then (kv.1, v) else kv) := by
      intro kvs
      induction kvs with
      | nil =>
        intro xs h
        simp only [RepK] at h
        subst h
        simp [RepK]
      | cons kv kvs ih =>
        intro xs h
        obtain ⟨j, e⟩ := kv
        simp only [RepK] at h
        obtain ⟨y, ys, rfl, ry, h⟩ := h
        simp only [List.map_cons]
        by_cases c : j = k
        · rw [if_pos c, if_pos c]
          simp only [RepK]
          exact ⟨v, _, rfl, r, ih h⟩
        · rw [if_neg c, if_neg c]
          simp only [RepK]
          exact ⟨y, _, rfl, ry, ih h⟩
    exact this h
  · have : ∀ {kvs : List (Key × D)} {xs : List (Key × V)}, RepK cl F kvs xs → RepK cl F (kvs ++ [(k, d)]) (xs ++ [(k, v)]) := by
      intro kvs
      induction kvs with
      | nil =>
        intro xs h
        simp only [RepK] at h
        subst h
        simp [RepK, r]
      | cons kv kvs ih =>
        intro xs h
        obtain ⟨j, e⟩ := kv
        simp only [RepK] at h
        obtain ⟨y, ys, rfl, ry, h⟩ := h
        simp only [List.cons_append, RepK]
        exact ⟨y, _, rfl, ry, ih h⟩
    exact this h
theorem RepK.merge {cl : Str → Option Addr} {F : Hp} : ∀ {more : List (Key × D)} {ys : List (Key × V)} {acc : List (Key × D)} {xs : List (Key × V)}, RepK cl F more ys → RepK cl F acc xs → RepK cl F (mergeD acc more) (mergeK xs ys)
  | [], ys, acc, xs, h, h' => by
    simp only [RepK] at h
    subst h
    exact h'
  | (k, d) :: more, ys, acc, xs, h, h' => by
    simp only [RepK] at h
    obtain ⟨y, zs, rfl, r, h⟩ := h
    show RepK cl F (mergeD (setK acc k d) more) (mergeK (putK xs k y) zs)
    exact RepK.merge h (h'.put r)
theorem pairs_reps {H : Hp} {w : Wd} {σ : L2.St} (s : SR c w σ H) : ∀ {ds : List D} {xs : List V} {kvs : List (Key × D)}, Reps c.cl w.F ds xs → pairsD ds = some kvs → ∃ (ps : List Addr) (ys : List (Key × V)), xs = ps.map V.ref ∧ Paired (fun p kv => SqT X.K H p [kV kv.1, kv.2]) ps ys ∧ RepK c.cl w.F kvs ys
  | [], xs, kvs, h, e => by
    simp only [Reps] at h
    simp only [pairsD, Option.some.injEq] at e
    subst e h
    exact ⟨[], [], rfl, .nil, by simp [RepK]⟩
  | d :: ds, xs, kvs, h, e => by
    simp only [Reps] at h
    obtain ⟨y, ys, rfl, r, h⟩ := h
    unfold pairsD at e
    split at e
    · rename_i heq
      cases heq
    · rename_i k d' ds' heq
      cases heq
      simp only [Option.bind_eq_some_iff, Option.map_eq_some_iff] at e
      obtain ⟨k', ek, r', e, rfl⟩ := e
      obtain ⟨ps, zs, rfl, hp, hk⟩ := pairs_reps s h e
      obtain ⟨p, us, rfl, hF, rr⟩ := r
      simp only [Reps] at rr
      obtain ⟨v1, l1, rfl, r1, v2, l2, rfl, r2, rfl⟩ := rr
      have e1 := keyD_rep (c := c) (H := H) ek (s.view r1)
      subst e1
      exact ⟨p :: ps, (k', v2) :: zs, rfl, .cons (SqT.of (s.sub _ _ hF).tup) hp, by simp only [RepK]; exact ⟨v2, zs, rfl, r2, hk⟩⟩
    · cases e
theorem call_copyR : CallR X (.type "dict") (fun xs H Q => ∃ a kvs, xs = [V.ref a] ∧ Rd H a (.dK kvs) ∧ ∀ p, H p = none → Q (.ref p) (upd H p (.dK kvs))) := by
  intro pins s σ H xs us Q I r h
  obtain ⟨a, kvs, rfl, e, q⟩ := h
  obtain ⟨u, rfl, ru⟩ := vals1 r
  obtain rfl : u = Value.ref a := ru
  exact d_copyOf I e fun p s' hp I' => ⟨.ref p, _, I', rfl, q p hp⟩
theorem c_dict (hc : X.calm = true) : CallR X (.type "dict") (C1D c dDict) := by
  refine callR_imp (callR_or (call_dictP hc) call_copyR) fun xs H Q h => ?_
  obtain ⟨w, σ, ds, d, s, rs, e, q⟩ := h
  unfold dDict at e
  split at e
  · rw [Option.map_eq_some_iff] at e
    obtain ⟨kvs, e, rfl⟩ := e
    obtain ⟨v, rfl, r⟩ := rs.one
    obtain ⟨p, ys, rfl, h1, _, rr⟩ := r
    obtain ⟨ps, zs, rfl, hp, hk⟩ := pairs_reps (X := X) s rr e
    exact .inl ⟨p, ps, zs, rfl, SqL.of h1, hp, q.new s ⟨_, rfl, RepK.merge hk (by simp [RepK])⟩⟩
  · cases e
    obtain ⟨v, rfl, r⟩ := rs.one
    obtain ⟨p, ys, rfl, h1, _, rr⟩ := r
    exact .inr ⟨p, ys, rfl, h1, q.new s ⟨_, rfl, rr⟩⟩
  · cases e
end
end DL

set_option Elab.async false
set_option linter.all false
set_option maxRecDepth 100000
set_option maxHeartbeats 4000000
namespace DL
open PySem PySem.Spec L2

/-! ### isinstance -/
inductive Ty where
  | int | bool | str | list | tuple | dict
  deriving DecidableEq
def Ty.name : Ty → String
  | .int => "int"
  | .bool => "bool"
  | .str => "str"
  | .list => "list"
  | .tuple => "tuple"
  | .dict => "dict"
def tyN : D → Option String
  | .non => some "NoneType"
  | .bl _ => some "bool"
  | .int _ => some "int"
  | .str _ => some "str"
  | .lst _ => some "list"
  | .tup _ => some "tuple"
  | .dic _ => some "dict"
  | _ => none
def isTy : D → Ty → Option Bool
  | .non, _ => some false
  | .bl _, t => some (decide (t = .bool ∨ t = .int))
  | .int _, t => some (decide (t = .int))
  | .str _, t => some (decide (t = .str))
  | .lst _, t => some (decide (t = .list))
  | .tup _, t => some (decide (t = .tuple))
  | .dic _, t => some (decide (t = .dict))
  | _, _ => none
theorem kit_all (n : String) (hn : n ∈ ["NoneType", "bool", "int", "str", "list", "tuple", "dict"]) (t : Ty) : kitB n t.name = some (decide ((n = t.name) ∨ (n = "bool" ∧ t = .int))) := by
  simp only [List.mem_cons, List.not_mem_nil, or_false] at hn
  rcases hn with rfl | rfl | rfl | rfl | rfl | rfl | rfl <;> cases t <;> decide +kernel
theorem isTy_kit {d : D} {t : Ty} {b : Bool} (h : isTy d t = some b) : ∃ n, tyN d = some n ∧ kitB n t.name = some b := by
  cases d <;> simp only [isTy, reduceCtorEq, Option.some.injEq] at h <;> subst h <;> refine ⟨_, rfl, ?_⟩ <;> rw [kit_all _ (by simp)] <;> cases t <;> rfl
theorem tyN_x {K : PySem.W.Frag} {c : FC} {F H : Hp} {d : D} {v : V} {n : String} (r : RepT c F H d v) (h : tyN d = some n) : TyX K H v (.type n) := by
  cases d <;> simp only [tyN, reduceCtorEq, Option.some.injEq] at h <;> subst h
  · rw [r.non]; exact .base .non
  · rw [r.bl]; exact .base (.bl _)
  · rw [r.int]; exact .base (.int _)
  · rw [r.str]; exact .base (.str _)
  · obtain ⟨p, ys, rfl, h1, _, rr⟩ := r
    exact .base (.lst h1)
  · obtain ⟨p, ys, rfl, h1, _, rr⟩ := r
    exact .base (.tup h1.1)
  · obtain ⟨p, ys, rfl, h1, _, rr⟩ := r
    rcases h1 with h1 | ⟨o, h1⟩
    · exact .base (.dK h1)
    · exact .fDict h1
def isTys (d : D) : List Ty → Option Bool
  | [] => some false
  | t :: ts => (isTy d t).bind fun b => if b = true then some true else isTys d ts
theorem isTys_kit {K : PySem.W.Frag} {d : D} {n : String} (hn : tyN d = some n) : ∀ {ts : List Ty} {b : Bool}, isTys d ts = some b → PySem.W.kitAny K (.type n) (ts.map fun t => .type t.name) = some b
  | [], b, h => by
    simp only [isTys, Option.some.injEq] at h
    subst h
    exact kitAny_nil
  | t :: ts, b, h => by
    simp only [isTys, Option.bind_eq_some_iff] at h
    obtain ⟨k, e, h⟩ := h
    obtain ⟨n', e1, e2⟩ := isTy_kit e
    rw [hn] at e1
    cases e1
    refine kitAny_cons (kit_ty e2) (fun hk => ?_) fun hk => ?_
    · subst hk
      exact isTys_kit hn (by simpa using h)
    · subst hk
      simpa using h.symm
def mIsi (ts : List Ty) (m : M D) : M D := fun s z => (m s z).bind fun x z => mOpt ((isTys x ts).map .bl) z
section
variable {X : Cx} {c : FC} {W : WX} {a b e : Expr} {ma mb m : M D} {mr : M (List D)} {pos p : Pos} {es : List Expr} {x : Str}
theorem df_isi {tE : Expr} {t : Ty} (hg : Gl X "isinstance") (hm : X.mg "isinstance" = none) (ha : PE X a (tV c W ma)) (hT : PE X tE (tC (.ty t.name)))
    (he : starEach [a, tE] X.env = (false, eval a X.env) :: starEach [tE] X.env := by rfl) (he2 : starEach [tE] X.env = (false, eval tE X.env) :: starEach [] X.env := by rfl) (hpl : (backTo pos (starEach [tE] X.env)).any (·.1) = false := by rfl) :
    PE X (.Call (.Name "isinstance" p) [a, tE] [] pos) (tF c W (mIsi [t] ma)) :=
  pe_imp (pe_callB call_isi hg hm (by decide +kernel) (pa_cons ha (pa_cons hT pa_nil he2) he) (by decide) (by decide) he hpl) fun σ H Q ⟨w, s, q⟩ => ⟨w, s, (Wnt.bind q).imp fun w1 H1 d s1 q1 v r => by
    obtain ⟨d', e, q2⟩ := wnt_opt s1.sr q1
    rw [Option.map_eq_some_iff] at e
    obtain ⟨b, e, rfl⟩ := e
    simp only [isTys, Option.bind_eq_some_iff] at e
    obtain ⟨k, e, h⟩ := e
    have hb : k = b := by cases k <;> simpa using h
    subst hb
    obtain ⟨n, e1, e2⟩ := isTy_kit e
    exact ⟨v, _, _, _, k, rfl, .ty _, tyN_x r e1, kit_ty e2, q2.bl s1.sr⟩⟩
theorem clsV_all : ∀ ts : List Ty, Paired ClsV (ts.map fun t => V.ty t.name) (ts.map fun t => Value.type t.name)
  | [] => .nil
  | _ :: ts => .cons (.ty _) (clsV_all ts)
theorem df_isiT {tEs : List Expr} {x1 : Nat} {t : Ty} {ts : List Ty} {tp : Pos} (hg : Gl X "isinstance") (hm : X.mg "isinstance" = none) (ha : PE X a (tV c W ma)) (hT : PA X tEs (fun _ H Q => Q ((t :: ts).map fun t => .ty t.name) H)) (hl : (t :: ts).length ≤ 10)
    (he : starEach [a, .Tuple tEs x1 tp] X.env = (false, eval a X.env) :: starEach [.Tuple tEs x1 tp] X.env := by rfl) (he2 : starEach [.Tuple tEs x1 tp] X.env = (false, eval (.Tuple tEs x1 tp) X.env) :: starEach [] X.env := by rfl)
    (hpl : (backTo pos (starEach [.Tuple tEs x1 tp] X.env)).any (·.1) = false := by rfl) :
    PE X (.Call (.Name "isinstance" p) [a, .Tuple tEs x1 tp] [] pos) (tF c W (mIsi (t :: ts) ma)) :=
  pe_imp (pe_callB call_isiT hg hm (by decide +kernel) (pa_cons ha (pa_cons (pe_tup hT) pa_nil he2) he) (by decide) (by decide) he hpl) fun σ H Q ⟨w, s, q⟩ => ⟨w, s, (Wnt.bind q).imp fun w1 H1 d s1 q1 v r => by
    obtain ⟨d', e, q2⟩ := wnt_opt s1.sr q1
    rw [Option.map_eq_some_iff] at e
    obtain ⟨b, e, rfl⟩ := e
    refine ⟨by rw [List.length_map, sizeLine_eq]; omega, fun tp' hp => ?_⟩
    have e0 := e
    simp only [isTys, Option.bind_eq_some_iff] at e0
    obtain ⟨k, e0, h⟩ := e0
    obtain ⟨n, hn, e2⟩ := isTy_kit e0
    have s2 := s1.sr.track (.tup ((t :: ts).map fun t => .ty t.name)) hp
    exact ⟨v, tp', _, _, (t :: ts).map (fun t => .type t.name), b, rfl, upd_same, clsV_all _, tyN_x (RepT.keep s2.le s2.keep r) hn, isTys_kit hn e, q2 _ _ _ s2 rfl (by simp [Rep])⟩⟩
end
end DL

set_option Elab.async false
set_option linter.all false
set_option maxRecDepth 100000
set_option maxHeartbeats 4000000
namespace DL
open PySem PySem.Spec L2

/-! ### objects of our own: written, frozen -/
def NoOwn (w : Wd) (σ : L2.St) (p : Addr) : Prop := ∀ (i : Nat) (d : D), w.sl[i]? = some (Slot.own d) → σ[i]? ≠ some (some (V.ref p))
section
variable {c : FC} {w : Wd} {σ : L2.St} {H : Hp} {p : Addr} {o o' : HO}
theorem SR.h0 (s : SR c w σ H) (hp : H p = none) : c.H0 p = none := by
  cases e : c.H0 p with
  | none => rfl
  | some u =>
    by_cases m : p ∈ c.chg
    · obtain ⟨v, z⟩ := s.chgd p m
      rw [hp] at z; cases z
    · rcases s.keep p u e m with z | ⟨_, _, z⟩
      · rw [hp] at z; cases z
      · rw [hp] at z; cases z
theorem SR.nochg (s : SR c w σ H) (hp : H p = none) : p ∉ c.chg := fun m => by
  obtain ⟨v, z⟩ := s.chgd p m
  rw [hp] at z; cases z
theorem SR.noown (s : SR c w σ H) (hp : H p = none) : NoOwn w σ p := fun i d h e => by
  obtain ⟨a, e1, o1, _⟩ := s.slots i _ h
  rw [e1] at e
  cases e
  obtain ⟨u, z⟩ := o1.some
  rw [hp] at z; cases z
theorem SR.over (s : SR c w σ H) (q : H p = some o) (ho : ∀ x, o ≠ .own x) (hF : w.F p = none) (h0 : c.H0 p = none) (hc : p ∉ c.chg) (hs : NoOwn w σ p) : SR c w σ (upd H p o') where
  sub := fun a u h => by
    have : a ≠ p := fun z => by rw [z, hF] at h; cases h
    rcases s.sub a u h with z | ⟨d, ob, z⟩
    · exact .inl (by rw [upd_ne this]; exact z)
    · exact .inr ⟨d, ob, by rw [upd_ne this]; exact z⟩
  keep := fun a u h n => by
    have : a ≠ p := fun z => by rw [z, h0] at h; cases h
    rcases s.keep a u h n with z | ⟨ob, l, z⟩
    · exact .inl (by rw [upd_ne this]; exact z)
    · exact .inr ⟨ob, l, by rw [upd_ne this]; exact z⟩
  slots := fun i sl h => by
    have q1 := s.slots i sl h
    cases sl with
    | own d =>
      obtain ⟨a, e1, e2, e3, e4, e5⟩ := q1
      have : a ≠ p := fun z => by subst z; exact hs i d h e1
      exact ⟨a, e1, OwnR.le (Le.refl _) (fun o z => by rw [upd_ne this]; exact z) e2, e3, e4, e5⟩
    | slf cn fs =>
      obtain ⟨a, dx, C, gs, e, e1, e2, e3, e4, e5, e6, e7⟩ := q1
      have h1 : a ≠ p := fun z => hc (by rw [← z, e2]; simp)
      have h2 : dx ≠ p := fun z => by
        rw [z, q] at e4
        exact ho _ (Option.some.inj e4)
      exact ⟨a, dx, C, gs, e, e1, e2, by rw [upd_ne h1]; exact e3, by rw [upd_ne h2]; exact e4, e5, e6, e7⟩
    | none => trivial
    | sh d => exact q1
    | strm => exact q1
    | xcp cn fs => exact q1
  dist := s.dist
  fmut := s.fmut
  chgd := fun a m => by
    obtain ⟨u, z⟩ := s.chgd a m
    exact ⟨u, by rw [upd_ne (fun e => hc (by rw [← e]; exact m))]; exact z⟩
  strm := fun sa la h => by
    obtain ⟨⟨h1, h2⟩, h3⟩ := s.strm sa la h
    exact ⟨⟨by rw [upd_ne (fun e => hc (by rw [← e, h3]; simp))]; exact h1, by rw [upd_ne (fun e => hc (by rw [← e, h3]; simp))]; exact h2⟩, h3⟩
  fz0 := s.fz0
  len := s.len
  lkd := fun a ha => by
    obtain ⟨u, e1, e2, e3⟩ := s.lkd a ha
    exact ⟨u, e1, e2, by rw [upd_ne (fun z => by rw [z, hF] at e1; cases e1)]; exact e3⟩
  lks := fun a u o h d e => by
    rw [upd_ne (fun z => by rw [z, hF] at h; cases h)] at e
    exact s.lks a u o h d e
theorem SR.frzF (s : SR c w σ H) (q : H p = some o) (ho : ∀ x, o ≠ .own x) (hF : w.F p = none) (h0 : c.H0 p = none) (hc : p ∉ c.chg) (hs : NoOwn w σ p) : SR c { w with F := upd w.F p o } σ H where
  sub := fun a u h => by
    by_cases e : a = p
    · subst e
      have h2 : upd w.F a o a = some u := h
      rw [upd_same] at h2
      cases h2
      exact .inl q
    · have h2 : upd w.F p o a = some u := h
      rw [upd_ne e] at h2
      exact s.sub a u h2
  keep := s.keep
  slots := fun i sl h => by
    have l : Le w.F (upd w.F p o) := fun a u h => by rw [upd_ne (ne_of_none h hF)]; exact h
    have q1 := s.slots i sl h
    cases sl with
    | own d =>
      obtain ⟨a, e1, e2, e3, e4, e5⟩ := q1
      have : a ≠ p := fun z => by subst z; exact hs i d h e1
      exact ⟨a, e1, OwnR.le l (fun o z => z) e2, by show upd w.F p o a = none; rw [upd_ne this]; exact e3, e4, e5⟩
    | slf cn fs =>
      obtain ⟨a, dx, C, gs, e, e1, e2, e3, e4, e5, e6, e7⟩ := q1
      have h2 : dx ≠ p := fun z => by
        rw [z, q] at e4
        exact ho _ (Option.some.inj e4)
      exact ⟨a, dx, C, gs, e, e1, e2, e3, e4, RepF.le l e5, by show upd w.F p o dx = none; rw [upd_ne h2]; exact e6, e7⟩
    | none => trivial
    | sh d =>
      obtain ⟨v, e, r⟩ := q1
      exact ⟨v, e, Rep.le l r⟩
    | strm => exact q1
    | xcp cn fs =>
      obtain ⟨a, C, dd, e1, e2, e3, e4⟩ := q1
      exact ⟨a, C, dd, e1, e2, e3, e4.le l⟩
  dist := s.dist
  fmut := fun a m => by
    show upd w.F p o a = none
    rw [upd_ne (fun e => hc (by rw [← e]; exact m))]
    exact s.fmut a m
  chgd := s.chgd
  strm := s.strm
  fz0 := fun a u h n => by
    show upd w.F p o a = none
    rw [upd_ne (fun e => by rw [e, h0] at h; cases h)]
    exact s.fz0 a u h n
  len := s.len
  lkd := fun a ha => by
    obtain ⟨u, e1, e2, e3⟩ := s.lkd a ha
    exact ⟨u, by show upd w.F p o a.1 = some u; rw [upd_ne (ne_of_none e1 hF)]; exact e1, e2, e3⟩
  lks := fun a u o' h d e => by
    by_cases z : a = p
    · subst z
      have h2 : upd w.F a o a = some u := h
      rw [upd_same] at h2
      cases h2
      obtain ⟨kvs, rfl⟩ := d
      rw [q] at e
      cases e
    · have h2 : upd w.F p o a = some u := h
      rw [upd_ne z] at h2
      exact s.lks a u o' h2 d e
theorem Step.wasnone {w1 : Wd} {H1 : Hp} (s1 : Step c σ w H w1 H1) (h : H1 p = none) : H p = none := by
  cases e : H p with
  | none => rfl
  | some u =>
    by_cases m : p ∈ c.chg
    · obtain ⟨v, z⟩ := s1.sr.chgd p m
      rw [h] at z; cases z
    · rw [s1.keep p u e m] at h; cases h
/-- an object that is new since then, written; and frozen -/
theorem Step.lay {w1 : Wd} {H1 : Hp} (s : SR c w σ H) (hp : H p = none) (s1 : Step c σ w H w1 H1) (hF : w1.F p = none) (ho : ∀ x, H1 p ≠ some (.own x)) (hn : ∀ x, o' ≠ .own x) :
    Step c σ w H w1 (upd H1 p o') ∧ Step c σ w H { w1 with F := upd w1.F p o' } (upd H1 p o') := by
  have hc := s.nochg hp
  have h0 := s.h0 hp
  have hno : NoOwn w1 σ p := fun i d h => by
    rw [s1.sl] at h
    exact s.noown hp i d h
  have s2 : SR c w1 σ (upd H1 p o') := by
    cases e : H1 p with
    | none => exact (s1.sr.track o' e).sr
    | some o0 => exact s1.sr.over e (fun x z => ho x (by rw [e, z])) hF h0 hc hno
  have k : ∀ a u, H a = some u → (H1 a = some u) → upd H1 p o' a = some u := fun a u h h' => by
    rw [upd_ne (ne_of_none h hp)]; exact h'
  refine ⟨⟨s2, s1.le, fun a u h n => k a u h (s1.keep a u h n), s1.lk, s1.sl, s1.fz, fun e a u h => k a u h (s1.all e a u h)⟩,
    ⟨s2.frzF upd_same hn hF h0 hc hno, s1.le.trans fun a u h => ?_, fun a u h n => k a u h (s1.keep a u h n), s1.lk, s1.sl, fun a u h n => ?_, fun e a u h => k a u h (s1.all e a u h)⟩⟩
  · show upd w1.F p o' a = some u
    rw [upd_ne (ne_of_none h hF)]; exact h
  · show upd w1.F p o' a = none
    rw [upd_ne (ne_of_none h hp)]
    exact s1.fz a u h n
end

/-! ### a new object that nothing else names -/
def tN (c : FC) (W : WX) (m : M D) : TE := fun σ H Q => ∃ w, SR c w σ H ∧ Wnt c W σ w H (fun w' H' d => ∀ o, NewR c.cl w'.F d o → ∀ p, H p = none → w'.F p = none → (∀ x, H' p ≠ some (.own x)) → Q (.ref p) (upd H' p o)) (m w.sl w.z)
theorem newR_own {cl : Str → Option Addr} {F : Hp} {d : D} {o : HO} (n : NewR cl F d o) (x : Addr) : o ≠ .own x := fun e => by
  subst e
  cases d <;> first
    | (obtain ⟨_, h, _⟩ := n; cases h)
    | exact n.elim
theorem tn_at {c : FC} {W : WX} {σ : L2.St} {w w1 : Wd} {H H1 : Hp} {Q : VK} {d : D} {o : HO} (s1 : Step c σ w H w1 H1) (q : ∀ o, NewR c.cl w1.F d o → ∀ p, H p = none → w1.F p = none → (∀ x, H1 p ≠ some (.own x)) → Q (.ref p) (upd H1 p o))
    (n : NewR c.cl w1.F d o) (p : Addr) (hp : H1 p = none) : Q (.ref p) (upd H1 p o) := q o n p (s1.wasnone hp) (s1.sr.fnone hp) fun x z => by rw [hp] at z; cases z
def mDisp (mk : List D → D) (m : M (List D)) : M D := fun s z => (m s z).bind fun ds z => if ds.length ≤ lim then .ok (mk ds) z else .bad
theorem wnt_if {c : FC} {W : WX} {σ : L2.St} {w : Wd} {H : Hp} {α : Type} {R : Wd → Hp → α → Prop} {p : Prop} [Decidable p] {a : α} {z : Z} (h : Wnt c W σ w H R (if p then .ok a z else .bad)) : p ∧ Wnt c W σ w H R (.ok a z) := by
  by_cases q : p
  · rw [if_pos q] at h
    exact ⟨q, h⟩
  · rw [if_neg q] at h
    exact h.elim
section
variable {X : Cx} {c : FC} {W : WX} {a b e : Expr} {ma mb m : M D} {mr : M (List D)} {pos p : Pos} {es : List Expr} {x : Str}
theorem tn_tf {σ : L2.St} {H : Hp} {Q : VK} (h : tF c W m σ H Q) : tN c W m σ H Q := by
  obtain ⟨w, s, q⟩ := h
  refine ⟨w, s, ?_⟩
  cases hm : m w.sl w.z with
  | ok d z =>
    rw [hm] at q
    intro H' w' st e o n p hp hF ho
    exact q _ _ (Step.lay s hp st hF ho (newR_own n)).2 e _ (n.rep hF)
  | exc cn fs z =>
    rw [hm] at q
    exact q
  | bad =>
    rw [hm] at q
    exact q
theorem dn (h : PE X e (tN c W m)) : PE X e (tF c W m) := pe_imp h fun _ _ _ => tn_tf
theorem dn_lst (h : PA X es (tAF c W mr)) : PE X (.List es pos) (tN c W (mDisp .lst mr)) := pe_imp (pe_lst h) fun σ H Q ⟨w, s, q⟩ => ⟨w, s, (Wnt.bind q).imp fun w1 H1 ds s1 q1 vs r => by
  obtain ⟨hl, q2⟩ := wnt_if q1
  exact ⟨lim_line (by rw [r.length]; exact hl), fun p hp => tn_at s1 (W := W) (Wnt.ok s1.sr q2) ⟨_, rfl, r⟩ p hp⟩⟩
theorem dn_tup {x1} (h : PA X es (tAF c W mr)) : PE X (.Tuple es x1 pos) (tN c W (mDisp .tup mr)) := pe_imp (pe_tup h) fun σ H Q ⟨w, s, q⟩ => ⟨w, s, (Wnt.bind q).imp fun w1 H1 ds s1 q1 vs r => by
  obtain ⟨hl, q2⟩ := wnt_if q1
  exact ⟨lim_line (by rw [r.length]; exact hl), fun p hp => tn_at s1 (W := W) (Wnt.ok s1.sr q2) ⟨_, rfl, r⟩ p hp⟩⟩
theorem dn_dic0 : PE X (.Dict [] [] pos) (tN c W (mC (.dic []))) := pe_imp pe_dnewK fun σ H Q ⟨w, s, q⟩ p hp => tn_at (Step.refl s) (W := W) (Wnt.ok s q) ⟨_, rfl, by simp [RepK]⟩ p hp

/-! {k: v, ..} -/
inductive PD (X : Cx) (c : FC) (W : WX) : List (Option Expr) → List Expr → List (M D × M D) → List (TE × TE) → Prop where
  | nil : PD X c W [] [] [] []
  | cons {k v : Expr} {ks : List (Option Expr)} {vs : List Expr} {mk mv : M D} {ms : List (M D × M D)} {ts : List (TE × TE)} (hk : PE X k (tF c W mk)) (hv : PE X v (tF c W mv)) (hr : PD X c W ks vs ms ts) :
    PD X c W (some k :: ks) (v :: vs) ((mk, mv) :: ms) ((tF c W mk, tF c W mv) :: ts)
theorem PD.pps {ks : List (Option Expr)} {vs : List Expr} {ms : List (M D × M D)} {ts : List (TE × TE)} (h : PD X c W ks vs ms ts) : PPs X pos ks vs ts := by
  induction h with
  | nil => exact pps_nil
  | cons hk hv _ ih => exact pps_cons hk hv ih
def mPairs : List (M D × M D) → M (List (D × D))
  | [] => fun _ z => .ok [] z
  | (k, v) :: r => fun s z => (k s z).bind fun x z => (v s z).bind fun y z => (mPairs r s z).bind fun ps z => .ok ((x, y) :: ps) z
def RepP (cl : Str → Option Addr) (F : Hp) : List (D × D) → List (V × V) → Prop
  | [], ps => ps = []
  | (x, y) :: r, ps => ∃ u v q, ps = (u, v) :: q ∧ Rep cl F x u ∧ Rep cl F y v ∧ RepP cl F r q
theorem PD.reads {ks : List (Option Expr)} {vs : List Expr} {ms : List (M D × M D)} {ts : List (TE × TE)} (h : PD X c W ks vs ms ts) : ∀ {σ : L2.St} {H : Hp} {w : Wd} {Q : List (V × V) → Hp → Prop}, SR c w σ H → 
    Wnt c W σ w H (fun w' H' ds => ∀ ps, RepP c.cl w'.F ds ps → Q ps H') (mPairs ms w.sl w.z) → tPairs ts σ H Q := by
  induction h with
  | nil =>
    intro σ H w Q s q
    exact Wnt.ok s q [] rfl
  | cons hk hv _ ih =>
    intro σ H w Q s q
    refine ⟨w, s, (Wnt.bind q).imp fun w1 H1 x s1 q1 u ru => ⟨w1, s1.sr, ?_⟩⟩
    rw [s1.sl]
    refine (Wnt.bind q1).imp fun w2 H2 y s2 q2 v rv => ih s2.sr ?_
    rw [s2.sl, s1.sl]
    refine (Wnt.bind q2).imp fun w3 H3 ds s3 q3 ps rp => Wnt.ok s3.sr q3 _ ⟨u, v, ps, rfl, Rep.le (s2.le.trans s3.le) ru, Rep.le s3.le rv, rp⟩
def keyPairs : List (D × D) → Option (List (Key × D))
  | [] => some []
  | (k, v) :: r => match keyD k, keyPairs r with
    | some k, some r => some ((k, v) :: r)
    | _, _ => none
theorem RepP.kv {c : FC} {F H : Hp} : ∀ {ds : List (D × D)} {ps : List (V × V)} {kvs : List (Key × D)}, RepP c.cl F ds ps → keyPairs ds = some kvs → ∃ xs : List (Key × V), ps = xs.map (fun kv => (kV kv.1, kv.2)) ∧ RepK c.cl F kvs xs ∧ xs.length = kvs.length
  | [], _, _, h, e => by
    cases e
    exact ⟨[], by rw [show _ = [] from h]; rfl, by simp [RepK], rfl⟩
  | (x, y) :: r, _, kvs, h, e => by
    obtain ⟨u, v, q, rfl, hu, hv, hq⟩ := h
    unfold keyPairs at e
    split at e
    · rename_i k kr ek er
      cases e
      obtain ⟨xs, rfl, rk, hl⟩ := RepP.kv (c := c) (H := H) hq er
      refine ⟨(k, v) :: xs, ?_, ?_, by simp [hl]⟩
      · have : u = kV k := keyD_rep (c := c) (F := F) (H := H) ek (by cases x <;> first | exact hu | cases ek)
        rw [this]; rfl
      · simp only [RepK]
        exact ⟨v, xs, rfl, hv, rk⟩
    · cases e
def mDic (ms : List (M D × M D)) : M D := fun s z => (mPairs ms s z).bind fun ds z => match keyPairs ds with
  | some kvs => if kvs.length ≤ 15 then .ok (.dic (mergeD [] kvs)) z else .bad
  | none => .bad
theorem dn_dic {ks : List (Option Expr)} {vs : List Expr} {ms : List (M D × M D)} {ts : List (TE × TE)} (h : PD X c W ks vs ms ts) (hall : ks.all (·.isSome) = true) (hl : ks.length = vs.length) (h0 : ks ≠ []) (h15 : ks.length ≤ 15) :
    PE X (.Dict ks vs pos) (tF c W (mDic ms)) := pe_imp (pe_disp h.pps hall hl h0 h15) fun σ H Q ⟨w, s, q⟩ p hp => by
  have st := s.track (.dK []) hp
  have out : ∀ w1 H1 ds kvs, Step c σ w (upd H p (.dK [])) w1 H1 → mPairs ms w.sl w.z = .ok ds w1.z → keyPairs ds = some kvs → kvs.length ≤ 15 → ∀ ps, RepP c.cl w1.F ds ps → 
      H1 p = some (.dK []) ∧ ∃ kvs : List (Key × V), ps = kvs.map (fun kv => (kV kv.1, kv.2)) ∧ kvs.length ≤ 15 ∧ Q (.ref p) (upd H1 p (.dK (mergeK [] kvs))) := by
    intro w1 H1 ds kvs s1 em e hk ps rp
    obtain ⟨xs, rfl, rk, hxl⟩ := rp.kv (c := c) (H := H1) e
    have hF : w1.F p = none := s1.fz p _ upd_same (s.fnone hp)
    have hp1 : H1 p = some (.dK []) := s1.keep _ _ upd_same (s.nochg hp)
    have s3 := (Step.lay (o' := .dK (mergeK [] xs)) s hp (st.trans s1) hF (fun x z => by rw [hp1] at z; cases z) (fun x z => by cases z)).2
    have rk2 : RepK c.cl w1.F (mergeD [] kvs) (mergeK [] xs) := rk.merge (by simp [RepK])
    have l : Le w1.F (upd w1.F p (.dK (mergeK [] xs))) := fun a u h => by rw [upd_ne (ne_of_none h hF)]; exact h
    refine ⟨hp1, xs, rfl, by omega, ?_⟩
    have q2 := q
    unfold mDic at q2
    rw [em] at q2
    simp only [ER.bind, e, if_pos hk] at q2
    exact q2 _ _ s3 rfl _ ⟨p, _, rfl, upd_same, RepK.le l rk2⟩
  refine h.reads st.sr ?_
  unfold mDic at q
  show Wnt c W σ w (upd H p (.dK [])) _ (mPairs ms w.sl w.z)
  cases em : mPairs ms w.sl w.z with
  | ok ds z =>
    intro H1 w1 s1 ez ps rp
    subst ez
    rw [em] at q
    cases e : keyPairs ds with
    | none =>
      simp only [ER.bind, e] at q
      exact q.elim
    | some kvs =>
      by_cases hk : kvs.length ≤ 15
      · exact out w1 H1 ds kvs s1 em e hk ps rp
      · simp only [ER.bind, e, if_neg hk] at q
        exact q.elim
  | exc cn fs z =>
    rw [em] at q
    exact ErrW.step st q
  | bad =>
    rw [em] at q
    exact q
end
end DL

set_option Elab.async false
set_option linter.all false
set_option maxRecDepth 100000
set_option maxHeartbeats 4000000
namespace DL
open PySem PySem.Spec L2

/-! ### slots -/
theorem wipe_get {σ : L2.St} : ∀ {vs : List Nat} {i : Nat}, i ∈ vs → ∀ v, (wipe σ vs)[i]? ≠ some (some v)
  | vs, i, h, v, e => (wipe_some e).2 h
theorem wipe_in {σ : L2.St} {i : Nat} : ∀ {vs : List Nat}, i ∈ vs → i < σ.length → (wipe σ vs)[i]? = some none
  | v :: vs, h, hl => by
    unfold wipe
    by_cases e : v = i
    · subst e
      rw [List.getElem?_set_self (by rw [wipe_length]; exact hl)]
    · rw [List.getElem?_set_ne e]
      exact wipe_in ((List.mem_cons.mp h).resolve_left fun z => e z.symm) hl
theorem wipe_ext {σ σ' : L2.St} {vs : List Nat} (hl : σ'.length = σ.length) (h : ∀ i, i ∉ vs → σ'[i]? = σ[i]?) : wipe σ' vs = wipe σ vs := by
  apply List.ext_getElem?
  intro i
  by_cases hi : i ∈ vs
  · by_cases hb : i < σ.length
    · rw [wipe_in hi hb, wipe_in hi (by rw [hl]; exact hb)]
    · rw [List.getElem?_eq_none (by rw [wipe_length]; omega), List.getElem?_eq_none (by rw [wipe_length]; omega)]
  · rw [wipe_out hi, wipe_out hi, h i hi]
theorem wipe_set {σ : L2.St} {vs : List Nat} {i : Nat} {v : Option V} (hi : i ∈ vs) : wipe (σ.set i v) vs = wipe σ vs :=
  wipe_ext (List.length_set ..) fun j hj => List.getElem?_set_ne fun e => hj (by rw [← e]; exact hi)
theorem wipe_wipe {σ : L2.St} {vs : List Nat} : wipe (wipe σ vs) vs = wipe σ vs := wipe_ext (wipe_length ..) fun j hj => wipe_out hj
def wipeS (s : Sl) : List Nat → Sl
  | [] => s
  | v :: vs => (wipeS s vs).set v .none
theorem wipeS_length (s : Sl) : ∀ vs : List Nat, (wipeS s vs).length = s.length
  | [] => rfl
  | v :: vs => by unfold wipeS; rw [List.length_set, wipeS_length s vs]
theorem wipeS_get {s : Sl} {i : Nat} {x : Slot} : ∀ {vs : List Nat}, (wipeS s vs)[i]? = some x → x = .none ∨ (s[i]? = some x ∧ i ∉ vs)
  | [], h => .inr ⟨h, by simp⟩
  | v :: vs, h => by
    unfold wipeS at h
    by_cases e : v = i
    · subst e
      by_cases hb : v < (wipeS s vs).length
      · rw [List.getElem?_set_self hb] at h
        exact .inl (Option.some.inj h).symm
      · rw [List.getElem?_eq_none (by simpa using hb)] at h; cases h
    · rw [List.getElem?_set_ne e] at h
      rcases wipeS_get h with z | ⟨z, n⟩
      · exact .inl z
      · exact .inr ⟨z, by simp only [List.mem_cons, not_or]; exact ⟨fun q => e q.symm, n⟩⟩
section
variable {c : FC} {w : Wd} {σ : L2.St} {H : Hp}
/-- other slots over the same heap -/
theorem SR.slots_to {s' : Sl} {σ' : L2.St} (s : SR c w σ H) (hl : s'.length = σ'.length) (h : ∀ (i : Nat) (x : Slot), s'[i]? = some x → x ≠ Slot.none → (w.sl[i]? = some x ∧ σ'[i]? = σ[i]?) ∨ (∃ d v, x = .sh d ∧ σ'[i]? = some (some v) ∧ Rep c.cl w.F d v)) : SR c { w with sl := s' } σ' H where
  sub := s.sub
  keep := s.keep
  slots := fun i x e => by
    by_cases hx : x = Slot.none
    · subst hx; trivial
    · rcases h i x e hx with ⟨e1, e2⟩ | ⟨d, v, rfl, e1, e2⟩
      · have q := s.slots i x e1
        cases x with
        | none => trivial
        | sh d =>
          obtain ⟨v, q1, q2⟩ := q
          exact ⟨v, e2.trans q1, q2⟩
        | own d =>
          obtain ⟨a, q1, q2⟩ := q
          exact ⟨a, e2.trans q1, q2⟩
        | strm =>
          obtain ⟨sa, la, q1, q2⟩ := q
          exact ⟨sa, la, q1, e2.trans q2⟩
        | slf cn fs =>
          obtain ⟨a, dx, C, gs, q1, q2⟩ := q
          exact ⟨a, dx, C, gs, e2.trans q1, q2⟩
        | xcp cn fs =>
          obtain ⟨a, C, dd, q1, q2⟩ := q
          exact ⟨a, C, dd, e2.trans q1, q2⟩
      · exact ⟨v, e1, e2⟩
  dist := fun i j a n hi hj ei ej => by
    obtain ⟨d, hi⟩ := hi
    obtain ⟨d', hj⟩ := hj
    rcases h i _ hi (fun z => by cases z) with ⟨e1, e2⟩ | ⟨_, _, z, _⟩
    · rcases h j _ hj (fun z => by cases z) with ⟨e3, e4⟩ | ⟨_, _, z, _⟩
      · exact s.dist i j a n ⟨d, e1⟩ ⟨d', e3⟩ (e2 ▸ ei) (e4 ▸ ej)
      · cases z
    · cases z
  fmut := s.fmut
  chgd := s.chgd
  strm := s.strm
  fz0 := s.fz0
  len := hl
  lkd := s.lkd
  lks := s.lks
theorem SR.wipe (s : SR c w σ H) (vs : List Nat) : SR c { w with sl := wipeS w.sl vs } (L2.wipe σ vs) H :=
  s.slots_to (by rw [wipeS_length, wipe_length]; exact s.len) fun i x e n => by
    rcases wipeS_get e with z | ⟨z, q⟩
    · exact absurd z n
    · exact .inl ⟨z, wipe_out q⟩
theorem SR.set_sh (s : SR c w σ H) {i : Nat} {d : D} {v : V} (r : Rep c.cl w.F d v) : SR c { w with sl := w.sl.set i (.sh d) } (σ.set i (some v)) H :=
  s.slots_to (by rw [List.length_set, List.length_set]; exact s.len) fun j x e n => by
    by_cases hj : i = j
    · subst hj
      by_cases hb : i < w.sl.length
      · rw [List.getElem?_set_self hb] at e
        exact .inr ⟨d, v, (Option.some.inj e).symm, by rw [List.getElem?_set_self (by rw [← s.len]; exact hb)], r⟩
      · rw [List.getElem?_eq_none (by simpa using hb)] at e; cases e
    · rw [List.getElem?_set_ne hj] at e
      exact .inl ⟨e, List.getElem?_set_ne hj⟩
/-- back to the slots from before a block -/
theorem Step.back {w2 w3 : Wd} {σ2 : L2.St} {H3 : Hp} (s : SR c w σ H) (hF : w2.F = w.F) (hk : w2.lk = w.lk) (t : Step c σ2 w2 H w3 H3) : Step c σ w H { w3 with sl := w.sl } H3 := by
  have le : Le w.F w3.F := hF ▸ t.le
  refine ⟨⟨t.sr.sub, t.sr.keep, fun i x e => ?_, s.dist, t.sr.fmut, t.sr.chgd, t.sr.strm, t.sr.fz0, s.len, t.sr.lkd, t.sr.lks⟩, le, t.keep, t.lk.trans hk, rfl, fun a o h n => t.fz a o h (by rw [hF]; exact n), t.all⟩
  have q := s.slots i x e
  cases x with
  | none => trivial
  | sh d =>
    obtain ⟨v, q1, q2⟩ := q
    exact ⟨v, q1, Rep.le le q2⟩
  | own d =>
    obtain ⟨a, q1, q2, q3, q4, q5⟩ := q
    obtain ⟨o, ho⟩ := q2.some
    exact ⟨a, q1, OwnR.le le (fun o h => t.keep a o h q5) q2, t.fz a o ho (by rw [hF]; exact q3), q4, q5⟩
  | strm => exact q
  | slf cn fs =>
    obtain ⟨a, dx, C, gs, q1, q2, q3, q4, q5, q6, q7, q8⟩ := q
    have st : c.st = none := by
      cases e : c.st with
      | none => rfl
      | some p =>
        have z := (s.strm p.1 p.2 e).2
        rw [q3] at z
        cases z
    exact ⟨a, dx, C, gs, q1, q2, q3, t.all st _ _ q4, t.all st _ _ q5, RepF.le le q6, t.fz dx _ q5 (by rw [hF]; exact q7), q8⟩
  | xcp cn fs =>
    obtain ⟨a, C, dd, e1, e2, e3, e4⟩ := q
    exact ⟨a, C, dd, e1, e2, e3, e4.le le⟩
end

/-! ### targets -/
abbrev Tg := D → Sl → Option Sl
def tgN (i : Nat) : Tg := fun d s => some (s.set i (.sh d))
def tgAll : List Tg → List D → Sl → Option Sl
  | [], [], s => some s
  | t :: ts, d :: ds, s => (t d s).bind fun s => tgAll ts ds s
  | _, _, _ => none
def tgT (ts : List Tg) : Tg := fun d s => match d with
  | .tup ds => tgAll ts ds s
  | .lst ds => tgAll ts ds s
  | _ => none
def gD (c : FC) (vs : List Nat) (t : Tg) : TG := fun v σ H Q => ∃ w d s', SR c w σ H ∧ Rep c.cl w.F d v ∧ t d w.sl = some s' ∧ ∀ σ', SR c { w with sl := s' } σ' H → wipe σ' vs = wipe σ vs → Q σ' H
def gDs (c : FC) (vs : List Nat) (ts : List Tg) : TGs := fun xs σ H Q => ∃ w ds s', SR c w σ H ∧ Reps c.cl w.F ds xs ∧ tgAll ts ds w.sl = some s' ∧ ∀ σ', SR c { w with sl := s' } σ' H → wipe σ' vs = wipe σ vs → Q σ' H
theorem pg_imp {X : Cx} {e : Expr} {t t' : TG} (h : PG X e t) (q : ∀ v σ H Q, t' v σ H Q → t v σ H Q) : PG X e t' := ⟨fun pins s σ H v u Q I r hw => h.run pins s σ H v u Q I r (q _ _ _ _ hw)⟩
theorem pgs_imp {X : Cx} {e : List Expr} {t t' : TGs} (h : PGs X e t) (q : ∀ v σ H Q, t' v σ H Q → t v σ H Q) : PGs X e t' := ⟨fun pins s σ H v u Q I r hw => h.run pins s σ H v u Q I r (q _ _ _ _ hw)⟩
theorem pg_or {X : Cx} {e : Expr} {t t' : TG} (h : PG X e t) (h' : PG X e t') : PG X e (fun v σ H Q => t v σ H Q ∨ t' v σ H Q) := ⟨fun pins s σ H v u Q I r hw => hw.elim (h.run pins s σ H v u Q I r) (h'.run pins s σ H v u Q I r)⟩
section
variable {X : Cx} {c : FC} {vs : List Nat} {i : Nat} {x : Str} {pos : Pos} {t : Tg} {ts : List Tg} {e : Expr} {es : List Expr}
theorem dg_name (hv : i ∈ vs) (h : PG X (.Name x pos) (gName i)) : PG X (.Name x pos) (gD c vs (tgN i)) := pg_imp h fun v σ H Q ⟨w, d, s', s, r, e, q⟩ => by
  cases e
  exact q _ (s.set_sh r) (wipe_set hv)
theorem dgs_nil : PGs X [] (gDs c vs []) := pgs_imp pgs_nil fun xs σ H Q ⟨w, ds, s', s, r, e, q⟩ => by
  cases ds with
  | nil =>
    cases e
    simp only [Reps] at r
    exact ⟨r, q _ s rfl⟩
  | cons d ds => cases e
theorem dgs_cons (h : PG X e (gD c vs t)) (hr : PGs X es (gDs c vs ts)) (hs : (assignEach (e :: es) X.env).map (·.2) = assign e X.env :: (assignEach es X.env).map (·.2) := by rfl) : PGs X (e :: es) (gDs c vs (t :: ts)) :=
  pgs_imp (pgs_cons h hr hs) fun xs σ H Q ⟨w, ds, s', s, r, e, q⟩ => by
    cases ds with
    | nil => cases e
    | cons d ds =>
      simp only [Reps] at r
      obtain ⟨y, ys, rfl, r1, r2⟩ := r
      simp only [tgAll, Option.bind_eq_some_iff] at e
      obtain ⟨s1, e1, e2⟩ := e
      exact ⟨y, ys, rfl, w, d, s1, s, r1, e1, fun σ1 sr1 h1 => ⟨{ w with sl := s1 }, ds, s', sr1, r2, e2, fun σ2 sr2 h2 => q σ2 sr2 (h2.trans h1)⟩⟩
theorem dg_tup {k n : Nat} (hc : X.calm = true) (hn0 : ts.length = n) (h : PGs X es (gDs c vs ts)) (hn : (assignEach es X.env).length = n := by rfl) (hst : (assignEach es X.env).findIdx? (·.1) = none := by rfl) : PG X (.Tuple es k pos) (gD c vs (tgT ts)) :=
  pg_imp (pg_or (pg_tup hc h hn hst) (pg_lst hc h hn hst)) fun v σ H Q ⟨w, d, s', s, r, e, q⟩ => by
    have hlen : ∀ {ts : List Tg} {ds : List D} {s s' : Sl}, tgAll ts ds s = some s' → ds.length = ts.length := by
      intro ts
      induction ts with
      | nil =>
        intro ds s s' e
        cases ds with
        | nil => rfl
        | cons => cases e
      | cons t ts ih =>
        intro ds s s' e
        cases ds with
        | nil => cases e
        | cons d ds =>
          simp only [tgAll, Option.bind_eq_some_iff] at e
          obtain ⟨s1, _, e2⟩ := e
          simp [ih e2]
    cases d with
    | tup ds =>
      simp only [Rep] at r
      obtain ⟨a, xs, rfl, f, r⟩ := r
      exact .inl ⟨a, xs, rfl, SqT.of (s.sub _ _ f).tup, by rw [r.length, hlen e, hn0], w, ds, s', s, r, e, q⟩
    | lst ds =>
      simp only [Rep] at r
      obtain ⟨a, xs, rfl, f, r⟩ := r
      exact .inr ⟨a, xs, rfl, SqL.of (s.sub _ _ f).lst, by rw [r.length, hlen e, hn0], w, ds, s', s, r, e, q⟩
    | _ => cases e
end
end DL

set_option Elab.async false
set_option linter.all false
set_option maxRecDepth 100000
set_option maxHeartbeats 4000000
namespace DL
open PySem PySem.Spec L2 RZ

/-! ### what is walked -/
def ItD (c : FC) (F1 : Hp) (lk1 : List (Addr × Obj)) (J : It) (ds : List D) : Prop := ∀ (i : Nat) (σ : L2.St) (w : Wd) (H : Hp), SR c w σ H → Le F1 w.F → w.lk = lk1 →
  (ds.length ≤ i → J.stop i H) ∧ ∀ d, ds[i]? = some d → J.go i H ∧ ∀ x H', J.yld i H x H' → ∃ w', Step c σ w H w' H' ∧ w'.z = w.z ∧ Rep c.cl w'.F d x
def iD (c : FC) (W : WX) (m : M (List D)) : TI := fun σ H R => ∃ w, SR c w σ H ∧ Wnt c W σ w H (fun w1 H1 ds => ∀ J, ItD c w1.F w1.lk J ds → ds.length ≤ lim → R J H1) (m w.sl w.z)
theorem pi_imp {X : Cx} {tg e : Expr} {t t' : TI} (h : PI X tg e t) (q : ∀ σ H Q, t' σ H Q → t σ H Q) : PI X tg e t' := ⟨fun pins s σ H R I hw => h.run pins s σ H R I (q _ _ _ hw)⟩
theorem pi_or {X : Cx} {tg e : Expr} {t t' : TI} (h : PI X tg e t) (h' : PI X tg e t') : PI X tg e (fun σ H R => t σ H R ∨ t' σ H R) := ⟨fun pins s σ H R I hw => hw.elim (h.run pins s σ H R I) (h'.run pins s σ H R I)⟩
theorem it_list {c : FC} {K : PySem.W.Frag} {F1 : Hp} {lk1 : List (Addr × Obj)} {a : Addr} {xs : List V} {ds : List D} (f : F1 a = some (.lst xs)) (r : Reps c.cl F1 ds xs) : ItD c F1 lk1 (Itl K a) ds := fun i σ w H s l _ => by
  have hq : SqL K H a xs := SqL.of (s.sub _ _ (l _ _ f)).lst
  refine ⟨fun hi => ⟨xs, hq, by rw [r.length]; exact hi⟩, fun d e => ?_⟩
  obtain ⟨v, e1, r1⟩ := r.get e
  refine ⟨⟨xs, v, hq, e1⟩, fun x H' ⟨e2, e3⟩ => ?_⟩
  subst e2
  have e4 := e3 xs hq
  rw [e1] at e4
  cases e4
  exact ⟨w, Step.refl s, rfl, Rep.le l r1⟩
theorem it_tup {c : FC} {K : PySem.W.Frag} {F1 : Hp} {lk1 : List (Addr × Obj)} {a : Addr} {xs : List V} {ds : List D} (f : F1 a = some (.tup xs)) (r : Reps c.cl F1 ds xs) : ItD c F1 lk1 (Itt K a) ds := fun i σ w H s l _ => by
  have hq : SqT K H a xs := SqT.of (s.sub _ _ (l _ _ f)).tup
  refine ⟨fun hi => ⟨xs, hq, by rw [r.length]; exact hi⟩, fun d e => ?_⟩
  obtain ⟨v, e1, r1⟩ := r.get e
  refine ⟨⟨xs, v, hq, e1⟩, fun x H' ⟨e2, e3⟩ => ?_⟩
  subst e2
  have e4 := e3 xs hq
  rw [e1] at e4
  cases e4
  exact ⟨w, Step.refl s, rfl, Rep.le l r1⟩
def signs (x : Str) : List D := x.cps.toList.map fun c => .str ⟨#[c]⟩
theorem it_str {c : FC} {F1 : Hp} {lk1 : List (Addr × Obj)} {x : Str} : ItD c F1 lk1 (Its x) (signs x) := fun i σ w H s l _ => by
  refine ⟨fun hi => by show x.cps.size ≤ i; unfold signs at hi; simpa using hi, fun d e => ?_⟩
  unfold signs at e
  rw [List.getElem?_map, Option.map_eq_some_iff] at e
  obtain ⟨c', e1, rfl⟩ := e
  have e1' : x.cps[i]? = some c' := by rw [← Array.getElem?_toList]; exact e1
  refine ⟨?_, fun v H' ⟨e2, c2, e3, e4⟩ => ?_⟩
  · have := List.getElem?_eq_some_iff.mp e1
    obtain ⟨h, _⟩ := this
    show i < x.cps.size
    simpa using h
  · subst e2 e4
    rw [e1'] at e3
    cases e3
    exact ⟨w, Step.refl s, rfl, by simp [Rep]⟩
def upto (lo : Int) (n : Nat) : List D := (List.range n).map fun (i : Nat) => .int (lo + i)
theorem it_range {c : FC} {F1 : Hp} {lk1 : List (Addr × Obj)} {lo : Int} {n : Nat} : ItD c F1 lk1 (Itr lo n) (upto lo n) := fun i σ w H s l _ => by
  refine ⟨fun hi => by show n ≤ i; unfold upto at hi; simpa using hi, fun d e => ?_⟩
  unfold upto at e
  rw [List.getElem?_map, Option.map_eq_some_iff] at e
  obtain ⟨k, e1, rfl⟩ := e
  obtain ⟨h, e2⟩ := List.getElem?_eq_some_iff.mp e1
  have hk : k = i := by rw [List.getElem_range] at e2; exact e2.symm
  subst hk
  refine ⟨show k < n by simpa using h, fun v H' ⟨e3, e4⟩ => ?_⟩
  subst e3 e4
  exact ⟨w, Step.refl s, rfl, by simp [Rep]⟩
def enumD (ds : List D) : List D := ds.zipIdx.map fun p => .tup [.int (p.2 : Int), p.1]
theorem it_enum {c : FC} {K : PySem.W.Frag} {F1 : Hp} {lk1 : List (Addr × Obj)} {a : Addr} {xs : List V} {ds : List D} (f : F1 a = some (.lst xs)) (r : Reps c.cl F1 ds xs) : ItD c F1 lk1 (Ite K a) (enumD ds) := fun i σ w H s l _ => by
  have hq : SqL K H a xs := SqL.of (s.sub _ _ (l _ _ f)).lst
  refine ⟨fun hi => ⟨xs, hq, by rw [r.length]; unfold enumD at hi; simpa using hi⟩, fun d e => ?_⟩
  unfold enumD at e
  rw [List.getElem?_map, Option.map_eq_some_iff] at e
  obtain ⟨⟨d', k⟩, e1, rfl⟩ := e
  rw [List.getElem?_zipIdx, Option.map_eq_some_iff] at e1
  obtain ⟨d2, e1, e5⟩ := e1
  cases e5
  obtain ⟨v, e2, r1⟩ := r.get e1
  refine ⟨⟨xs, v, hq, e2⟩, fun x H' ⟨T, y, hx, hT, hH, hy⟩ => ?_⟩
  have e4 := hy xs hq
  rw [e2] at e4
  cases e4
  subst hx hH
  refine ⟨_, s.fresh _ hT, rfl, ?_⟩
  have lF : Le w.F (upd w.F T (.tup [.int (i : Nat), v])) := fun a u h => by rw [upd_ne (ne_of_none h (s.fnone hT))]; exact h
  refine ⟨T, _, rfl, upd_same, ?_⟩
  simp only [Reps, Rep]
  exact ⟨_, _, rfl, by simp, _, _, rfl, Rep.le (l.trans lF) r1, rfl⟩
def zipD (ds es : List D) : List D := (ds.zip es).map fun p => .tup [p.1, p.2]
theorem zip_step {c : FC} {σ : L2.St} {w : Wd} {H H' : Hp} {F1 : Hp} {T : Addr} {x y v : V} {d e : D} (s : SR c w σ H) (l : Le F1 w.F) (hv : v = .ref T) (hT : H T = none) (hH : H' = upd H T (.tup [x, y])) (r1 : Rep c.cl F1 d x) (r2 : Rep c.cl F1 e y) :
    ∃ w', Step c σ w H w' H' ∧ w'.z = w.z ∧ Rep c.cl w'.F (.tup [d, e]) v := by
  subst hv hH
  refine ⟨_, s.fresh _ hT, rfl, ?_⟩
  have lF : Le w.F (upd w.F T (.tup [x, y])) := fun a u h => by rw [upd_ne (ne_of_none h (s.fnone hT))]; exact h
  refine ⟨T, _, rfl, upd_same, ?_⟩
  simp only [Reps]
  exact ⟨_, _, rfl, Rep.le (l.trans lF) r1, _, _, rfl, Rep.le (l.trans lF) r2, rfl⟩
theorem zip_get {ds es : List D} {i : Nat} {d : D} (h : (zipD ds es)[i]? = some d) : ∃ x y, ds[i]? = some x ∧ es[i]? = some y ∧ d = .tup [x, y] := by
  unfold zipD at h
  rw [List.getElem?_map, Option.map_eq_some_iff] at h
  obtain ⟨⟨x, y⟩, e1, rfl⟩ := h
  rw [List.getElem?_zip_eq_some] at e1
  exact ⟨x, y, e1.1, e1.2, rfl⟩
theorem it_zipL {c : FC} {K : PySem.W.Frag} {F1 : Hp} {lk1 : List (Addr × Obj)} {a b : Addr} {xs ys : List V} {ds es : List D} (f : F1 a = some (.lst xs)) (g : F1 b = some (.lst ys)) (r : Reps c.cl F1 ds xs) (r' : Reps c.cl F1 es ys) : ItD c F1 lk1 (Itz K a b) (zipD ds es) := fun i σ w H s l _ => by
  have hq : SqL K H a xs := SqL.of (s.sub _ _ (l _ _ f)).lst
  have hq' : SqL K H b ys := SqL.of (s.sub _ _ (l _ _ g)).lst
  refine ⟨fun hi => ⟨xs, ys, hq, hq', by unfold zipD at hi; simp at hi; rw [r.length, r'.length]; omega⟩, fun d e => ?_⟩
  obtain ⟨d1, d2, e1, e2, rfl⟩ := zip_get e
  obtain ⟨x, f1, r1⟩ := r.get e1
  obtain ⟨y, f2, r2⟩ := r'.get e2
  refine ⟨⟨xs, ys, x, y, hq, hq', f1, f2⟩, fun v H' ⟨T, x', y', hx, hT, hH, h1, h2⟩ => ?_⟩
  have e4 := h1 xs hq
  rw [f1] at e4
  cases e4
  have e5 := h2 ys hq'
  rw [f2] at e5
  cases e5
  exact zip_step s l hx hT hH r1 r2
theorem it_zipT {c : FC} {K : PySem.W.Frag} {F1 : Hp} {lk1 : List (Addr × Obj)} {a b : Addr} {xs ys : List V} {ds es : List D} (f : F1 a = some (.tup xs)) (g : F1 b = some (.tup ys)) (r : Reps c.cl F1 ds xs) (r' : Reps c.cl F1 es ys) : ItD c F1 lk1 (ItzT K a b) (zipD ds es) := fun i σ w H s l _ => by
  have hq : SqT K H a xs := SqT.of (s.sub _ _ (l _ _ f)).tup
  have hq' : SqT K H b ys := SqT.of (s.sub _ _ (l _ _ g)).tup
  refine ⟨fun hi => ⟨xs, ys, hq, hq', by unfold zipD at hi; simp at hi; rw [r.length, r'.length]; omega⟩, fun d e => ?_⟩
  obtain ⟨d1, d2, e1, e2, rfl⟩ := zip_get e
  obtain ⟨x, f1, r1⟩ := r.get e1
  obtain ⟨y, f2, r2⟩ := r'.get e2
  refine ⟨⟨xs, ys, x, y, hq, hq', f1, f2⟩, fun v H' ⟨T, x', y', hx, hT, hH, h1, h2⟩ => ?_⟩
  have e4 := h1 xs hq
  rw [f1] at e4
  cases e4
  have e5 := h2 ys hq'
  rw [f2] at e5
  cases e5
  exact zip_step s l hx hT hH r1 r2
/-! the keys, the pairs of a dict under its lock -/
def keyVs (kvs : List (Key × D)) : List D := kvs.map fun kv => keyOf kv.1
def itemVs (kvs : List (Key × D)) : List D := kvs.map fun kv => .tup [keyOf kv.1, kv.2]
theorem lock_at {c : FC} {σ : L2.St} {w : Wd} {H F1 : Hp} {lk1 : List (Addr × Obj)} {a : Addr} {o : Obj} {xs : List (Key × V)} (s : SR c w σ H) (l : Le F1 w.F) (hk : w.lk = lk1) (f : F1 a = some (.dK xs)) (hm : (a, o) ∈ lk1) : H a = some (.frz o (.dK xs)) := by
  obtain ⟨u, e1, e2, e3⟩ := s.lkd (a, o) (by rw [hk]; exact hm)
  rw [l _ _ f] at e1
  cases e1
  exact e3
theorem RepK.at {cl : Str → Option Addr} {F : Hp} : ∀ {kvs : List (Key × D)} {xs : List (Key × V)} {i : Nat} {k : Key} {d : D}, RepK cl F kvs xs → kvs[i]? = some (k, d) → ∃ v, xs[i]? = some (k, v) ∧ Rep cl F d v
  | [], xs, i, k, d, h, e => by simp at e
  | (k', d') :: ds, xs, 0, k, d, h, e => by
    simp only [RepK] at h
    obtain ⟨y, ys, rfl, r, h⟩ := h
    simp only [List.getElem?_cons_zero, Option.some.injEq] at e
    cases e
    exact ⟨y, by simp, r⟩
  | (k', d') :: ds, xs, i + 1, k, d, h, e => by
    simp only [RepK] at h
    obtain ⟨y, ys, rfl, r, h⟩ := h
    obtain ⟨v, e1, r1⟩ := RepK.at h (i := i) (k := k) (d := d) (by simpa using e)
    exact ⟨v, by simpa using e1, r1⟩
theorem keyOf_rep {cl : Str → Option Addr} {F : Hp} (k : Key) : Rep cl F (keyOf k) (kV k) := by
  cases k <;> simp [keyOf, kV, Rep]
theorem it_keys {c : FC} {F1 : Hp} {lk1 : List (Addr × Obj)} {a : Addr} {o : Obj} {xs : List (Key × V)} {kvs : List (Key × D)} (f : F1 a = some (.dK xs)) (hm : (a, o) ∈ lk1) (r : RepK c.cl F1 kvs xs) : ItD c F1 lk1 (Itk a o xs) (keyVs kvs) := fun i σ w H s l hk => by
  have hH := lock_at s l hk f hm
  refine ⟨fun hi => ⟨hH, by unfold keyVs at hi; rw [r.length]; simpa using hi⟩, fun d e => ?_⟩
  unfold keyVs at e
  rw [List.getElem?_map, Option.map_eq_some_iff] at e
  obtain ⟨⟨k, d'⟩, e1, rfl⟩ := e
  obtain ⟨v, e2, r1⟩ := r.at e1
  refine ⟨⟨hH, (List.getElem?_eq_some_iff.mp e2).1⟩, fun x H' ⟨e3, k2, v2, e4, e5⟩ => ?_⟩
  rw [e2] at e4
  cases e4
  subst e3 e5
  exact ⟨w, Step.refl s, rfl, keyOf_rep k⟩
theorem it_items {c : FC} {F1 : Hp} {lk1 : List (Addr × Obj)} {a : Addr} {o : Obj} {xs : List (Key × V)} {kvs : List (Key × D)} (f : F1 a = some (.dK xs)) (hm : (a, o) ∈ lk1) (r : RepK c.cl F1 kvs xs) : ItD c F1 lk1 (Iti a o xs) (itemVs kvs) := fun i σ w H s l hk => by
  have hH := lock_at s l hk f hm
  refine ⟨fun hi => ⟨hH, by unfold itemVs at hi; rw [r.length]; simpa using hi⟩, fun d e => ?_⟩
  unfold itemVs at e
  rw [List.getElem?_map, Option.map_eq_some_iff] at e
  obtain ⟨⟨k, d'⟩, e1, rfl⟩ := e
  obtain ⟨v, e2, r1⟩ := r.at e1
  refine ⟨⟨hH, (List.getElem?_eq_some_iff.mp e2).1⟩, fun x H' ⟨T, k2, v2, e4, e5, hT, hH'⟩ => ?_⟩
  rw [e2] at e4
  cases e4
  exact zip_step s (Le.refl _) e5 hT hH' (keyOf_rep k) (Rep.le l r1)
end DL

set_option Elab.async false
set_option linter.all false
set_option maxRecDepth 100000
set_option maxHeartbeats 4000000
namespace DL
open PySem PySem.Spec L2 RZ

/-! ### the walked things as rules -/
def chkL (ds : List D) (z : Z) : ER (List D) := if ds.length ≤ lim then .ok ds z else .bad
def itemsD : D → Z → ER (List D)
  | .lst ds, z => chkL ds z
  | .tup ds, z => chkL ds z
  | .str x, z => chkL (signs x) z
  | _, _ => .bad
def mItems (m : M D) : M (List D) := fun s z => (m s z).bind itemsD
def mRange1 (m : M D) : M (List D) := fun s z => (m s z).bind fun d z => match d with
  | .int j => if -(2 ^ 62) ≤ j ∧ j < 2 ^ 62 then chkL (upto 0 j.toNat) z else .bad
  | _ => .bad
def mRange2 (m m' : M D) : M (List D) := fun s z => (m s z).bind fun d z => (m' s z).bind fun e z => match d, e with
  | .int i, .int j => if -(2 ^ 62) ≤ i ∧ i < 2 ^ 62 ∧ -(2 ^ 62) ≤ j ∧ j < 2 ^ 62 then chkL (upto i (j - i).toNat) z else .bad
  | _, _ => .bad
def mEnum (m : M D) : M (List D) := fun s z => (m s z).bind fun d z => match d with
  | .lst ds => chkL (enumD ds) z
  | _ => .bad
def mZip (m m' : M D) : M (List D) := fun s z => (m s z).bind fun d z => (m' s z).bind fun e z => match d, e with
  | .lst ds, .lst es => chkL (zipD ds es) z
  | .tup ds, .tup es => chkL (zipD ds es) z
  | _, _ => .bad
theorem wnt_chk {c : FC} {W : WX} {σ : L2.St} {w : Wd} {H : Hp} {R : Wd → Hp → List D → Prop} {ds : List D} (s : SR c w σ H) (h : Wnt c W σ w H R (chkL ds w.z)) : ds.length ≤ lim ∧ R w H ds := by
  unfold chkL at h
  obtain ⟨h1, h2⟩ := wnt_if h
  exact ⟨h1, Wnt.ok s h2⟩
theorem wnt_chk0 {c : FC} {W : WX} {σ : L2.St} {w : Wd} {H : Hp} {R : Wd → Hp → List D → Prop} {ds : List D} {z : Z} (h : Wnt c W σ w H R (chkL ds z)) : ds.length ≤ lim ∧ ∀ H' w', Step c σ w H w' H' → w'.z = z → R w' H' ds := by
  unfold chkL at h
  exact wnt_if h
section
variable {X : Cx} {c : FC} {W : WX} {tg e e2 : Expr} {m m' : M D} {p pos tpos : Pos} {elts : List Expr} {kk : Nat}
theorem di_any (h : PE X e (tF c W m)) : PI X tg e (iD c W (mItems m)) := pi_imp (pi_or (pi_list h) (pi_or (pi_tup h) (pi_str h))) fun σ H R ⟨w, s, q⟩ => by
  unfold mItems at q
  cases hm : m w.sl w.z with
  | ok d z =>
    rw [hm] at q
    cases d with
    | lst ds =>
      obtain ⟨hl, q⟩ := wnt_chk0 (show Wnt c W σ w H _ (chkL ds z) from q)
      refine .inl ⟨w, s, ?_⟩
      rw [hm]
      intro H1 w1 s1 ez v r
      obtain ⟨a, xs, rfl, f, rr⟩ := r
      exact ⟨a, rfl, ⟨xs, SqL.of (s1.sr.sub _ _ f).lst⟩, q H1 w1 s1 ez _ (it_list f rr) hl⟩
    | tup ds =>
      obtain ⟨hl, q⟩ := wnt_chk0 (show Wnt c W σ w H _ (chkL ds z) from q)
      refine .inr (.inl ⟨w, s, ?_⟩)
      rw [hm]
      intro H1 w1 s1 ez v r
      obtain ⟨a, xs, rfl, f, rr⟩ := r
      exact ⟨a, rfl, ⟨xs, SqT.of (s1.sr.sub _ _ f).tup⟩, q H1 w1 s1 ez _ (it_tup f rr) hl⟩
    | str x =>
      obtain ⟨hl, q⟩ := wnt_chk0 (show Wnt c W σ w H _ (chkL (signs x) z) from q)
      refine .inr (.inr ⟨w, s, ?_⟩)
      rw [hm]
      intro H1 w1 s1 ez v r
      exact ⟨x, by simpa [Rep] using r, q H1 w1 s1 ez _ it_str hl⟩
    | _ => exact q.elim
  | exc cn fs z =>
    rw [hm] at q
    exact .inl ⟨w, s, by rw [hm]; exact q⟩
  | bad =>
    rw [hm] at q
    exact q.elim
theorem di_range1 {a : Expr} (hg : Gl X "range") (hm : X.mg "range" = none) (ha : PE X a (tV c W m)) (hs : starEach [a] X.env = [(false, eval a X.env)] := by rfl) : PI X tg (.Call (.Name "range" p) [a] [] pos) (iD c W (mRange1 m)) :=
  pi_imp (pi_range1 hg hm (pa_cons ha pa_nil hs) hs) fun σ H R ⟨w, s, q⟩ => ⟨w, s, (Wnt.bind q).imp fun w1 H1 d s1 q1 v r => by
    cases d with
    | int j =>
      have q1 := q1
      by_cases hb : -(2 ^ 62) ≤ j ∧ j < 2 ^ 62
      · simp only [if_pos hb] at q1
        obtain ⟨hl, q2⟩ := wnt_chk s1.sr q1
        exact ⟨j, by rw [r.int], hb.1, hb.2, q2 _ it_range hl⟩
      · simp only [if_neg hb] at q1
        exact q1.elim
    | _ => exact q1.elim⟩
theorem di_range2 {a b : Expr} (hg : Gl X "range") (hm : X.mg "range" = none) (ha : PE X a (tV c W m)) (hb : PE X b (tV c W m')) (hs : starEach [a, b] X.env = [(false, eval a X.env), (false, eval b X.env)] := by rfl) (hs2 : starEach [b] X.env = [(false, eval b X.env)] := by rfl)
    (hs3 : starEach [a, b] X.env = (false, eval a X.env) :: starEach [b] X.env := by rfl) : PI X tg (.Call (.Name "range" p) [a, b] [] pos) (iD c W (mRange2 m m')) :=
  pi_imp (pi_range2 hg hm (pa_cons ha (pa_cons hb pa_nil hs2) hs3) hs hs2) fun σ H R ⟨w, s, q⟩ => ⟨w, s, (Wnt.bind q).imp fun w1 H1 d s1 q1 v r => ⟨w1, s1.sr, by
    rw [s1.sl]
    refine (Wnt.bind q1).imp fun w2 H2 e s2 q2 u r2 => ?_
    cases d with
    | int i =>
      cases e with
      | int j =>
        by_cases hb : -(2 ^ 62) ≤ i ∧ i < 2 ^ 62 ∧ -(2 ^ 62) ≤ j ∧ j < 2 ^ 62
        · simp only [if_pos hb] at q2
          obtain ⟨hl, q3⟩ := wnt_chk s2.sr q2
          exact ⟨i, j, by rw [r.int, r2.int], hb, q3 _ it_range hl⟩
        · simp only [if_neg hb] at q2
          exact q2.elim
      | _ => exact q2.elim
    | _ => exact q2.elim⟩⟩
theorem di_enum (hg : Gl X "enumerate") (hm : X.mg "enumerate" = none) (ha : PE X e (tF c W m)) (hs : starEach [e] X.env = [(false, eval e X.env)] := by rfl) : PI X (.Tuple elts kk tpos) (.Call (.Name "enumerate" p) [e] [] pos) (iD c W (mEnum m)) :=
  pi_imp (pi_enum hg hm (pa_cons ha pa_nil hs) hs) fun σ H R ⟨w, s, q⟩ => ⟨w, s, (Wnt.bind q).imp fun w1 H1 d s1 q1 v r => by
    cases d with
    | lst ds =>
      obtain ⟨hl, q2⟩ := wnt_chk s1.sr q1
      obtain ⟨a, xs, rfl, f, rr⟩ := r
      exact ⟨a, xs, rfl, SqL.of (s1.sr.sub _ _ f).lst, q2 _ (it_enum f rr) hl⟩
    | _ => exact q1.elim⟩
theorem di_zip (hg : Gl X "zip") (hm : X.mg "zip" = none) (ha : PE X e (tF c W m)) (hb : PE X e2 (tF c W m')) (hs : starEach [e, e2] X.env = [(false, eval e X.env), (false, eval e2 X.env)] := by rfl) (hs2 : starEach [e2] X.env = [(false, eval e2 X.env)] := by rfl)
    (hs3 : starEach [e, e2] X.env = (false, eval e X.env) :: starEach [e2] X.env := by rfl) : PI X (.Tuple elts kk tpos) (.Call (.Name "zip" p) [e, e2] [] pos) (iD c W (mZip m m')) :=
  pi_imp (pi_zipA hg hm (pa_cons ha (pa_cons hb pa_nil hs2) hs3) hs3 (by rw [hs2]; rfl)) fun σ H R ⟨w, s, q⟩ => ⟨w, s, (Wnt.bind q).imp fun w1 H1 d s1 q1 v r => ⟨w1, s1.sr, by
    rw [s1.sl]
    refine (Wnt.bind q1).imp fun w2 H2 e s2 q2 u r2 => ?_
    cases d with
    | lst ds =>
      cases e with
      | lst es =>
        obtain ⟨hl, q3⟩ := wnt_chk s2.sr q2
        obtain ⟨a, xs, rfl, f, rr⟩ := Rep.le s2.le r
        obtain ⟨b, ys, rfl, f2, rr2⟩ := r2
        exact ⟨a, b, xs, ys, rfl, .inl ⟨SqL.of (s2.sr.sub _ _ f).lst, SqL.of (s2.sr.sub _ _ f2).lst, q3 _ (it_zipL f f2 rr rr2) hl⟩⟩
      | _ => exact q2.elim
    | tup ds =>
      cases e with
      | tup es =>
        obtain ⟨hl, q3⟩ := wnt_chk s2.sr q2
        obtain ⟨a, xs, rfl, f, rr⟩ := Rep.le s2.le r
        obtain ⟨b, ys, rfl, f2, rr2⟩ := r2
        exact ⟨a, b, xs, ys, rfl, .inr ⟨SqT.of (s2.sr.sub _ _ f).tup, SqT.of (s2.sr.sub _ _ f2).tup, q3 _ (it_zipT f f2 rr rr2) hl⟩⟩
      | _ => exact q2.elim
    | _ => exact q2.elim⟩⟩

/-! ### list comprehensions -/
def noX {α : Type} : ER α → ER α
  | .ok a z => .ok a z
  | _ => .bad
def lcGo (t : Tg) (tt : M Bool) (te : M D) (s0 : Sl) : List D → Z → ER (List D)
  | [], z => .ok [] z
  | d :: ds, z => match t d s0 with
    | none => .bad
    | some s => (tt s z).bind fun b z => if b = true then (te s z).bind fun y z => (lcGo t tt te s0 ds z).bind fun ys z => .ok (y :: ys) z else lcGo t tt te s0 ds z
def mLc (vs : List Nat) (mi : M (List D)) (t : Tg) (tt : M Bool) (te : M D) : M D := fun s z => (mi s z).bind fun ds z => (noX (lcGo t tt te (wipeS s vs) ds z)).bind fun ys z => .ok (.lst ys) z
def mYes : M Bool := fun _ z => .ok true z
def W0 : WX := fun _ _ _ _ => False
theorem pts_imp {X : Cx} {e : List Expr} {t t' : TT} (h : PTs X e t) (q : ∀ σ H Q, t' σ H Q → t σ H Q) : PTs X e t' := ⟨fun pins s σ H Q I hw => h.run pins s σ H Q I (q _ _ _ hw)⟩
theorem dts_nil : PTs X [] (tT c W mYes) := pts_imp pts_nil fun σ H Q ⟨w, s, q⟩ => Wnt.ok s q
theorem dts_one {n : M Bool} (h : PT X e (tT c W n)) : PTs X [e] (tT c W n) := pts_one h
end
end DL

set_option Elab.async false
set_option linter.all false
set_option maxRecDepth 100000
set_option maxHeartbeats 4000000
namespace DL
open PySem PySem.Spec L2 RZ
theorem upd_self {H : Hp} {a : Addr} {o : HO} (h : H a = some o) : upd H a o = H := by
  funext b
  by_cases e : b = a
  · rw [e, upd_same, h]
  · rw [upd_ne e]
/-- the state of a comprehension's loop -/
structure LcI (c : FC) (W : WX) (vs : List Nat) (t : Tg) (tt : M Bool) (te : M D) (σ : L2.St) (w : Wd) (H : Hp) (w1 : Wd) (ds : List D) (D0 : Addr) (Q : VK) (i : Nat) (Hc : Hp) : Prop where
  ex : ∃ wi acc accV, Step c σ w H wi Hc ∧ Hc D0 = some (.lst accV) ∧ wi.F D0 = none ∧ Le w1.F wi.F ∧ Reps c.cl wi.F acc accV ∧ acc.length ≤ i ∧ i ≤ ds.length ∧
    Wnt c W σ w H (fun w' H' d => ∀ o, NewR c.cl w'.F d o → ∀ p, H p = none → w'.F p = none → (∀ x, H' p ≠ some (.own x)) → Q (.ref p) (upd H' p o)) ((noX (lcGo t tt te (wipeS w.sl vs) (ds.drop i) wi.z)).bind fun ys z => .ok (.lst (acc ++ ys)) z)
section
variable {X : Cx} {c : FC} {W : WX} {mi : M (List D)} {t : Tg} {tt : M Bool} {te : M D}
theorem lc_to {vs : List Nat} {σ : L2.St} {H : Hp} {Q : VK} (q : tN c W (mLc vs mi t tt te) σ H Q) : tLc (iD c W mi) (gD c vs t) (tT c W0 tt) (tF c W0 te) vs σ H Q := by
  obtain ⟨w, s, q⟩ := q
  unfold mLc at q
  refine ⟨w, s, ?_⟩
  cases hm : mi w.sl w.z with
  | exc cn fs z =>
    rw [hm] at q
    exact q
  | bad =>
    rw [hm] at q
    exact q
  | ok ds z1 =>
  rw [hm] at q
  replace q : Wnt c W σ w H (fun w' H' d => ∀ o, NewR c.cl w'.F d o → ∀ p, H p = none → w'.F p = none → (∀ x, H' p ≠ some (.own x)) → Q (.ref p) (upd H' p o)) ((noX (lcGo t tt te (wipeS w.sl vs) ds z1)).bind fun ys z => .ok (.lst ys) z) := q
  intro H1 w1 s1 ez J hJ hl D0 hD
  subst ez
  have hD0 : H D0 = none := s1.wasnone hD
  refine ⟨fun i m Hc => m = ds.length - i ∧ LcI c W vs t tt te σ w H w1 ds D0 Q i Hc, ⟨_, rfl, ?_⟩, ?_⟩
  · have s2 := (Step.lay (o' := .lst []) s hD0 s1 (s1.sr.fnone hD) (fun x z => by rw [hD] at z; cases z) (fun x z => by cases z)).1
    exact ⟨w1, [], [], s2, upd_same, s1.sr.fnone hD, Le.refl _, by simp [Reps], Nat.le_refl _, Nat.zero_le _, by simpa using q⟩
  rintro i m Hc ⟨rfl, wi, acc, accV, st, hDc, hF, l1, ra, hal, hil, q2⟩
  have hIt := hJ i σ wi Hc st.sr l1 (st.lk.trans s1.lk.symm)
  have hsl : wi.sl = w.sl := st.sl
  by_cases hi' : i < ds.length
  · -- a turn
    obtain ⟨d, hd⟩ : ∃ d, ds[i]? = some d := ⟨_, List.getElem?_eq_getElem hi'⟩
    obtain ⟨hgo, hy⟩ := hIt.2 d hd
    have hdrop : ds.drop i = d :: ds.drop (i + 1) := by
      rw [List.drop_eq_getElem_cons hi']
      congr 1
      rw [List.getElem?_eq_getElem hi'] at hd
      exact Option.some.inj hd
    rw [hdrop] at q2
    refine .inr ⟨hgo, LcI c W vs t tt te σ w H w1 ds D0 Q (i + 1), fun H' p => ⟨ds.length - (i + 1), by omega, rfl, p⟩, fun x H' y => ?_⟩
    obtain ⟨w', sy, ezy, rx⟩ := hy x H' y
    have sw := sy.sr.wipe vs
    have hsl' : w'.sl = w.sl := sy.sl.trans hsl
    unfold lcGo at q2
    cases htg : t d (wipeS w.sl vs) with
    | none =>
      rw [htg] at q2
      exact q2.elim
    | some s' =>
    simp only [htg] at q2
    refine ⟨{ w' with sl := wipeS w'.sl vs }, d, s', sw, rx, by show t d (wipeS w'.sl vs) = some s'; rw [hsl']; exact htg, fun σ2 sr2 h2 => ?_⟩
    refine ⟨h2.trans wipe_wipe, { w' with sl := s' }, sr2, ?_⟩
    show Wnt c W0 σ2 { w' with sl := s' } H' _ (tt s' w'.z)
    have ezz : w'.z = wi.z := ezy
    rw [← ezz] at q2
    cases htt : tt s' w'.z with
    | exc cn fs z =>
      rw [htt] at q2
      exact q2.elim
    | bad =>
      rw [htt] at q2
      exact q2.elim
    | ok b z2 =>
    rw [htt] at q2
    intro H3 w3 s3 ez3
    subst ez3
    have b3 : Step c σ w' H' { w3 with sl := w'.sl } H3 := Step.back (w2 := { w' with sl := s' }) sy.sr rfl rfl s3
    have st3 := (st.trans sy).trans b3
    have hD3 : H3 D0 = some (.lst accV) := b3.keep _ _ (sy.keep _ _ hDc (s.nochg hD0)) (s.nochg hD0)
    have hF3 : w3.F D0 = none := b3.fz D0 _ (sy.keep _ _ hDc (s.nochg hD0)) (sy.fz D0 _ hDc hF)
    have l3 : Le w1.F w3.F := (l1.trans sy.le).trans b3.le
    cases b with
    | false =>
      simp only [Bool.false_eq_true, if_false]
      refine ⟨{ w3 with sl := w'.sl }, acc, accV, st3, hD3, hF3, l3, Reps.le (sy.le.trans b3.le) ra, by omega, by omega, ?_⟩
      exact q2
    | true =>
      simp only [if_true]
      replace q2 : Wnt c W σ w H _ ((noX ((te s' w3.z).bind fun y z => (lcGo t tt te (wipeS w.sl vs) (ds.drop (i + 1)) z).bind fun ys z => .ok (y :: ys) z)).bind fun ys z => .ok (D.lst (acc ++ ys)) z) := q2
      refine ⟨w3, s3.sr, ?_⟩
      rw [s3.sl]
      show Wnt c W0 σ2 w3 H3 _ (te s' w3.z)
      cases hte : te s' w3.z with
      | exc cn fs z =>
        rw [hte] at q2
        exact q2.elim
      | bad =>
        rw [hte] at q2
        exact q2.elim
      | ok y z4 =>
      rw [hte] at q2
      intro H4 w4 s4 ez4 v rv
      subst ez4
      have b4 : Step c σ { w3 with sl := w'.sl } H3 { w4 with sl := w'.sl } H4 := Step.back (w2 := w3) b3.sr rfl rfl s4
      have st4 := st3.trans b4
      have hD4 : H4 D0 = some (.lst accV) := b4.keep _ _ hD3 (s.nochg hD0)
      have hF4 : w4.F D0 = none := b4.fz D0 _ hD3 hF3
      refine ⟨accV, hD4, ?_, ?_⟩
      · rw [ra.length]
        have := lim_line (n := acc.length) (by omega)
        have h2 : acc.length < lim := by omega
        have h3 : lim < sizeLine := by rw [sizeLine_eq]; decide
        omega
      · have s5 := (Step.lay (o' := .lst (accV ++ [v])) s hD0 st4 hF4 (fun x z => by rw [hD4] at z; cases z) (fun x z => by cases z)).1
        refine ⟨{ w4 with sl := w'.sl }, acc ++ [y], accV ++ [v], s5, upd_same, hF4, l3.trans b4.le, (Reps.le ((sy.le.trans b3.le).trans b4.le) ra).append (by simp only [Reps]; exact ⟨v, [], rfl, rv, rfl⟩), by simp; omega, by omega, ?_⟩
        show Wnt c W σ w H _ ((noX (lcGo t tt te (wipeS w.sl vs) (ds.drop (i + 1)) w4.z)).bind fun ys z => .ok (D.lst (acc ++ [y] ++ ys)) z)
        cases hr : lcGo t tt te (wipeS w.sl vs) (ds.drop (i + 1)) w4.z with
        | ok ys z =>
          simp only [ER.bind, hr, noX] at q2 ⊢
          rw [show acc ++ [y] ++ ys = acc ++ y :: ys by simp]
          exact q2
        | exc cn fs z =>
          simp only [ER.bind, hr, noX] at q2
          exact q2.elim
        | bad =>
          simp only [ER.bind, hr, noX] at q2
          exact q2.elim
  · refine .inl ⟨hIt.1 (by omega), ?_⟩
    have e : ds.drop i = [] := List.drop_eq_nil_of_le (by omega)
    rw [e] at q2
    have := (show Wnt c W σ w H _ (.ok (D.lst (acc ++ [])) wi.z) from q2) _ _ st rfl (.lst accV) ⟨accV, rfl, by simpa using ra⟩ D0 hD0 hF (fun x z => by rw [hDc] at z; cases z)
    rw [upd_self hDc] at this
    exact this
theorem dn_lc {elt tg iter : Expr} {ifs : List Expr} {scope : Scope} {own : List (Str × Nat)} {pos : Pos} (hc : X.calm = true) (hN : X.N.Nodup) (hi : PI X tg iter (iD c W mi)) (ok : BlkOk X.N X.env.scope scope own)
    (hg : ∀ (s : Shared) (H : Hp) (C : Addr) (cl : List (Str × Addr)) (fp : List Addr), PG (X.blk s H scope (compEnvC scope cl C X.env) fp) tg (gD c (own.map (·.2)) t)) (ht : ∀ (s : Shared) (H : Hp) (C : Addr) (cl : List (Str × Addr)) (fp : List Addr), PTs (X.blk s H scope (compEnvC scope cl C X.env) fp) ifs (tT c W0 tt))
    (he : ∀ (s : Shared) (H : Hp) (C : Addr) (cl : List (Str × Addr)) (fp : List Addr), PE (X.blk s H scope (compEnvC scope cl C X.env) fp) elt (tF c W0 te)) (hs : ∀ x, foldedSetIterable iter X.env x = pure x := by intro _; rfl) :
    PE X (.ListComp elt [⟨tg, iter, ifs, 0⟩] scope pos) (tN c W (mLc (own.map (·.2)) mi t tt te)) := pe_imp (pe_lc hc hN hi ok hg ht he hs) fun _ _ _ q => lc_to q
end
end DL

set_option Elab.async false
set_option linter.all false
set_option maxRecDepth 100000
set_option maxHeartbeats 4000000
namespace DL
open PySem PySem.Spec L2 RZ

/-! ### statements -/
inductive FR where
  | nx (s : Sl) (z : Z)
  | rt (d : D) (s : Sl) (z : Z)
  | bk (s : Sl) (z : Z)
  | ct (s : Sl) (z : Z)
  | exc (c : Str) (fs : List (Str × D)) (s : Sl) (z : Z)
  | bad
abbrev SM := Sl → Z → FR
structure Lat (w w' : Wd) : Prop where
  le : Le w.F w'.F
  lk : w'.lk = w.lk
theorem Lat.refl (w : Wd) : Lat w w := ⟨Le.refl _, rfl⟩
theorem Lat.trans {a b d : Wd} (x : Lat a b) (y : Lat b d) : Lat a d := ⟨x.le.trans y.le, y.lk.trans x.lk⟩
theorem Step.lat {c : FC} {σ : L2.St} {w w1 : Wd} {H H1 : Hp} (s : Step c σ w H w1 H1) : Lat w w1 := ⟨s.le, s.lk⟩
def WntS (c : FC) (W : WX) (Dn : Ends) (w : Wd) : FR → Prop
  | .nx s z => ∀ σ' H' w', SR c w' σ' H' → Lat w w' → w'.sl = s → w'.z = z → Dn.nx σ' H'
  | .rt d s z => ∀ σ' H' w' v, SR c w' σ' H' → Lat w w' → w'.sl = s → w'.z = z → Rep c.cl w'.F d v → Dn.rt v H'
  | .bk s z => ∀ σ' H' w', SR c w' σ' H' → Lat w w' → w'.sl = s → w'.z = z → Dn.bk σ' H'
  | .ct s z => ∀ σ' H' w', SR c w' σ' H' → Lat w w' → w'.sl = s → w'.z = z → Dn.ct σ' H'
  | .exc cn fs s z => ∀ C dd σ' H' w', c.cl cn = some C → SR c w' σ' H' → Lat w w' → w'.sl = s → w'.z = z → XD c.cl w'.F fs dd → W (.ref C) dd σ' H'
  | .bad => False
def tS (c : FC) (W : WX) (m : SM) : TS := fun Dn σ H => ∃ w, SR c w σ H ∧ WntS c W Dn w (m w.sl w.z)
def toFR (s : Sl) (e : ER D) (k : D → Z → FR) : FR := match e with
  | .ok d z => k d z
  | .exc cn fs z => .exc cn fs s z
  | .bad => .bad
theorem WntS.lat {c : FC} {W : WX} {Dn : Ends} {w w1 : Wd} {e : FR} (l : Lat w w1) (h : WntS c W Dn w e) : WntS c W Dn w1 e := by
  cases e with
  | nx s z => exact fun σ' H' w' a b => h σ' H' w' a (l.trans b)
  | rt d s z => exact fun σ' H' w' v a b => h σ' H' w' v a (l.trans b)
  | bk s z => exact fun σ' H' w' a b => h σ' H' w' a (l.trans b)
  | ct s z => exact fun σ' H' w' a b => h σ' H' w' a (l.trans b)
  | exc cn fs s z => exact fun C dd σ' H' w' a b d => h C dd σ' H' w' a b (l.trans d)
  | bad => exact h
/-- an exception of an expression of the statement -/
theorem WntS.err {c : FC} {W : WX} {Dn : Ends} {σ : L2.St} {w : Wd} {H : Hp} {cn : Str} {fs : List (Str × D)} {z : Z} (h : WntS c W Dn w (.exc cn fs w.sl z)) : ErrW c W σ w H cn fs z := fun C dd H' w' h1 h2 h3 h4 => h C dd σ H' w' h1 h2.sr h2.lat h2.sl h3 h4
/-- an expression's value wanted by the rest of the statement -/
theorem toFR_wnt {c : FC} {W : WX} {Dn : Ends} {σ : L2.St} {w : Wd} {H : Hp} {e : ER D} {k : D → Z → FR} {R : Wd → Hp → D → Prop} (h : WntS c W Dn w (toFR w.sl e k)) (q : ∀ H' w' d, Step c σ w H w' H' → WntS c W Dn w' (k d w'.z) → R w' H' d) : Wnt c W σ w H R e := by
  cases e with
  | ok d z => exact fun H' w' st e => q H' w' d st (WntS.lat st.lat (e ▸ h))
  | exc cn fs z => exact WntS.err h
  | bad => exact h
def mSkip : SM := fun s z => .nx s z
def mSeq (a b : SM) : SM := fun s z => match a s z with
  | .nx s z => b s z
  | r => r
section
variable {X : Cx} {c : FC} {W : WX} {m m' : SM} {me : M D} {n : M Bool} {e : Expr} {st : Stmt} {sts : List Stmt} {pos : Pos}
theorem ds_nil : PSs X [] (tS c W mSkip) := pss_imp pss_nil fun Dn σ H ⟨w, s, q⟩ => q σ H w s (Lat.refl _) rfl rfl
theorem seq_to {t u : TS} {Dn : Ends} {σ : L2.St} {H : Hp} (ht : ∀ Dn σ H, tS c W m Dn σ H → t Dn σ H) (hu : ∀ Dn σ H, tS c W m' Dn σ H → u Dn σ H) (q : tS c W (mSeq m m') Dn σ H) : tSeq t u Dn σ H := by
  obtain ⟨w, s, q⟩ := q
  refine ht _ _ _ ⟨w, s, ?_⟩
  unfold mSeq at q
  cases hm : m w.sl w.z with
  | nx s1 z1 =>
    rw [hm] at q
    intro σ' H' w' a b e1 e2
    subst e1 e2
    exact hu _ _ _ ⟨w', a, WntS.lat b q⟩
  | rt d s z => rw [hm] at q; exact q
  | bk s z => rw [hm] at q; exact q
  | ct s z => rw [hm] at q; exact q
  | exc cn fs s z => rw [hm] at q; exact q
  | bad => rw [hm] at q; exact q
theorem ds_cons (h : PS X st (tS c W m)) (hs : PSs X sts (tS c W m')) : PSs X (st :: sts) (tS c W (mSeq m m')) := pss_imp (pss_cons h hs) fun _ _ _ q => seq_to (fun _ _ _ h => h) (fun _ _ _ h => h) q
theorem ds_one (h : PS X st (tS c W m)) : PSs X [st] (tS c W m) := pss_one h
theorem ds_pass : PS X (.Pass pos) (tS c W mSkip) := ps_imp ps_pass fun Dn σ H ⟨w, s, q⟩ => q σ H w s (Lat.refl _) rfl rfl
def mBrk : SM := fun s z => .bk s z
def mCnt : SM := fun s z => .ct s z
theorem ds_break : PS X (.Break pos) (tS c W mBrk) := ps_imp ps_break fun Dn σ H ⟨w, s, q⟩ => q σ H w s (Lat.refl _) rfl rfl
theorem ds_continue : PS X (.Continue pos) (tS c W mCnt) := ps_imp ps_continue fun Dn σ H ⟨w, s, q⟩ => q σ H w s (Lat.refl _) rfl rfl
def mRet (m : M D) : SM := fun s z => toFR s (m s z) fun d z => .rt d s z
theorem ds_ret (h : PE X e (tF c W me)) : PS X (.Return (some e) pos) (tS c W (mRet me)) := ps_imp (ps_ret h) fun Dn σ H ⟨w, s, q⟩ => ⟨w, s, toFR_wnt q fun H' w' d st q v r => q σ H' w' v st.sr (Lat.refl _) st.sl rfl r⟩
def mRetN : SM := fun s z => .rt .non s z
theorem ds_retN : PS X (.Return none pos) (tS c W mRetN) := ps_imp ps_retN fun Dn σ H ⟨w, s, q⟩ => q σ H w .non s (Lat.refl _) rfl rfl (by simp [Rep])
def mIfS (n : M Bool) (a b : SM) : SM := fun s z => match n s z with
  | .ok t z => if t = true then a s z else b s z
  | .exc cn fs z => .exc cn fs s z
  | .bad => .bad
theorem if_to {tc : TT} {t u : TS} {Dn : Ends} {σ : L2.St} {H : Hp} (hc : ∀ σ H Q, tT c W n σ H Q → tc σ H Q) (ht : ∀ Dn σ H, tS c W m Dn σ H → t Dn σ H) (hu : ∀ Dn σ H, tS c W m' Dn σ H → u Dn σ H) (q : tS c W (mIfS n m m') Dn σ H) : tIfS tc t u Dn σ H := by
  obtain ⟨w, s, q⟩ := q
  refine hc _ _ _ ⟨w, s, ?_⟩
  unfold mIfS at q
  cases hm : n w.sl w.z with
  | ok b z =>
    rw [hm] at q
    intro H' w' st e
    subst e
    cases b with
    | true =>
      simp only [if_true] at q ⊢
      exact ht _ _ _ ⟨w', st.sr, by rw [st.sl]; exact WntS.lat st.lat q⟩
    | false =>
      simp only [Bool.false_eq_true, if_false] at q ⊢
      exact hu _ _ _ ⟨w', st.sr, by rw [st.sl]; exact WntS.lat st.lat q⟩
  | exc cn fs z =>
    rw [hm] at q
    exact WntS.err q
  | bad =>
    rw [hm] at q
    exact q
theorem ds_if {t : Expr} {a b : List Stmt} (ht : PT X t (tT c W n)) (ha : PSs X a (tS c W m)) (hb : PSs X b (tS c W m')) : PS X (.If t a b pos) (tS c W (mIfS n m m')) := ps_imp (ps_if ht ha hb) fun _ _ _ q => if_to (fun _ _ _ h => h) (fun _ _ _ h => h) (fun _ _ _ h => h) q
def mDrop (m : M D) : SM := fun s z => toFR s (m s z) fun _ z => .nx s z
theorem ds_expr (h : PE X e (tF c W me)) (hs : swapsWith e none pos.line X.env = pure false := by rfl) : PS X (.Expr e pos) (tS c W (mDrop me)) := ps_imp (ps_expr h hs) fun Dn σ H ⟨w, s, q⟩ => ⟨w, s, by
  cases hm : me w.sl w.z with
  | ok d z =>
    unfold mDrop at q
    rw [hm] at q
    intro H' w' st e v r
    exact q σ H' w' st.sr st.lat st.sl e
  | exc cn fs z =>
    unfold mDrop at q
    rw [hm] at q
    exact WntS.err q
  | bad =>
    unfold mDrop at q
    rw [hm] at q
    exact q⟩
/-! assignments -/
def mAsg (t : Tg) (m : M D) : SM := fun s z => toFR s (m s z) fun d z => match t d s with
  | some s => .nx s z
  | none => .bad
theorem asg_to {vs : List Nat} {t : Tg} {te : TE} {g : TG} {Dn : Ends} {σ : L2.St} {H : Hp} (he : ∀ σ H Q, tF c W me σ H Q → te σ H Q) (hg : ∀ v σ H Q, gD c vs t v σ H Q → g v σ H Q) (q : tS c W (mAsg t me) Dn σ H) : tAsg te g Dn σ H := by
  obtain ⟨w, s, q⟩ := q
  refine he _ _ _ ⟨w, s, toFR_wnt q fun H' w' d st q v r => hg _ _ _ _ ?_⟩
  cases e : t d w.sl with
  | none =>
    rw [e] at q
    exact q.elim
  | some s' =>
    rw [e] at q
    exact ⟨w', d, s', st.sr, r, by rw [st.sl]; exact e, fun σ' sr' _ => q σ' H' _ sr' ⟨Le.refl _, rfl⟩ rfl rfl⟩
theorem ds_asg {vs : List Nat} {t : Tg} {te : TE} {g : TG} (h : PS X st (tAsg te g)) (he : ∀ σ H Q, tF c W me σ H Q → te σ H Q) (hg : ∀ v σ H Q, gD c vs t v σ H Q → g v σ H Q) : PS X st (tS c W (mAsg t me)) := ps_imp h fun _ _ _ q => asg_to he hg q
theorem gn_to {vs : List Nat} {i : Nat} (hv : i ∈ vs) {v : V} {σ : L2.St} {H : Hp} {Q : L2.St → Hp → Prop} (h : gD c vs (tgN i) v σ H Q) : gName i v σ H Q := by
  obtain ⟨w, d, s', s, r, e, q⟩ := h
  cases e
  exact q _ (s.set_sh r) (wipe_set hv)
theorem ds_set {i : Nat} {te : TE} (h : PS X st (tAsg te (gName i))) (he : ∀ σ H Q, tF c W me σ H Q → te σ H Q) : PS X st (tS c W (mAsg (tgN i) me)) := ds_asg (vs := [i]) h he fun _ _ _ _ q => gn_to (by simp) q
/-- a name gets a new list or dict of its own -/
def mOwn (i : Nat) (m : M D) : SM := fun s z => toFR s (m s z) fun d z => match d with
  | .lst ds => .nx (s.set i (.own (.lst ds))) z
  | .dic ds => .nx (s.set i (.own (.dic ds))) z
  | _ => .bad
theorem SR.set_own {w w1 : Wd} {σ : L2.St} {H H1 : Hp} {i : Nat} {d : D} {o : HO} {p : Addr} (s : SR c w σ H) (hp : H p = none) (s1 : Step c σ w H w1 H1) (hF : w1.F p = none) (ho : ∀ x, H1 p ≠ some (.own x)) (n : OwnR c.cl w1.F (upd H1 p o) p d) (hn : ∀ x, o ≠ .own x) :
    SR c { w1 with sl := w1.sl.set i (.own d) } (σ.set i (some (.ref p))) (upd H1 p o) := by
  have s2 := (Step.lay (o' := o) s hp s1 hF ho hn).1
  have no : NoOwn w1 σ p := fun j d h => by
    rw [s1.sl] at h
    exact s.noown hp j d h
  have far : ∀ j, j ≠ i → (w1.sl.set i (.own d))[j]? = w1.sl[j]? := fun j h => List.getElem?_set_ne (Ne.symm h)
  have far2 : ∀ j, j ≠ i → (σ.set i (some (V.ref p)))[j]? = σ[j]? := fun j h => List.getElem?_set_ne (Ne.symm h)
  refine ⟨s2.sr.sub, s2.sr.keep, fun j x e => ?_, fun j k a hjk hj hk ej ek => ?_, s2.sr.fmut, s2.sr.chgd, s2.sr.strm, s2.sr.fz0, by rw [List.length_set, List.length_set]; exact s2.sr.len, s2.sr.lkd, s2.sr.lks⟩
  · have e : (w1.sl.set i (.own d))[j]? = some x := e
    by_cases hj : j = i
    · subst hj
      by_cases hb : j < w1.sl.length
      · rw [List.getElem?_set_self hb] at e
        cases e
        exact ⟨p, by rw [List.getElem?_set_self (by rw [← s2.sr.len]; exact hb)], n, hF, s.h0 hp, s.nochg hp⟩
      · rw [List.getElem?_eq_none (by simpa using hb)] at e; cases e
    · rw [far j hj] at e
      have q := s2.sr.slots j x e
      cases x with
      | none => trivial
      | sh d =>
        obtain ⟨v, q1, q2⟩ := q
        exact ⟨v, (far2 j hj).trans q1, q2⟩
      | own d =>
        obtain ⟨a, q1, q2⟩ := q
        exact ⟨a, (far2 j hj).trans q1, q2⟩
      | strm =>
        obtain ⟨sa, la, q1, q2⟩ := q
        exact ⟨sa, la, q1, (far2 j hj).trans q2⟩
      | slf cn fs =>
        obtain ⟨a, dx, C, gs, q1, q2⟩ := q
        exact ⟨a, dx, C, gs, (far2 j hj).trans q1, q2⟩
      | xcp cn fs =>
        obtain ⟨a, C, dd, q1, q2⟩ := q
        exact ⟨a, C, dd, (far2 j hj).trans q1, q2⟩
  · obtain ⟨dj, hj⟩ := hj
    obtain ⟨dk, hk⟩ := hk
    have hj : (w1.sl.set i (.own d))[j]? = _ := hj
    have hk : (w1.sl.set i (.own d))[k]? = _ := hk
    by_cases h1 : j = i
    · have h2 : k ≠ i := fun z => hjk (h1.trans z.symm)
      rw [far k h2] at hk
      rw [far2 k h2] at ek
      rw [h1] at ej
      by_cases hb : i < σ.length
      · rw [List.getElem?_set_self hb] at ej
        cases ej
        exact no k _ hk ek
      · rw [List.getElem?_eq_none (by simpa using hb)] at ej; cases ej
    · rw [far j h1] at hj
      rw [far2 j h1] at ej
      by_cases h2 : k = i
      · rw [h2] at ek
        by_cases hb : i < σ.length
        · rw [List.getElem?_set_self hb] at ek
          cases ek
          exact no j _ hj ej
        · rw [List.getElem?_eq_none (by simpa using hb)] at ek; cases ek
      · rw [far k h2] at hk
        rw [far2 k h2] at ek
        exact s2.sr.dist j k a hjk ⟨_, hj⟩ ⟨_, hk⟩ ej ek
theorem own_to {i : Nat} {te : TE} {Dn : Ends} {σ : L2.St} {H : Hp} (he : ∀ σ H Q, tN c W me σ H Q → te σ H Q) (q : tS c W (mOwn i me) Dn σ H) : tAsg te (gName i) Dn σ H := by
  obtain ⟨w, s, q⟩ := q
  refine he _ _ _ ⟨w, s, toFR_wnt q fun H' w' d st q o n p hp hF ho => ?_⟩
  show Dn.nx _ _
  cases d with
  | lst ds =>
    obtain ⟨xs, rfl, r⟩ := n
    exact q _ _ _ (SR.set_own s hp st hF ho (d := .lst ds) ⟨xs, upd_same, r⟩ (fun x z => by cases z)) ⟨Le.refl _, rfl⟩ (by show w'.sl.set i _ = _; rw [st.sl]) rfl
  | dic ds =>
    obtain ⟨xs, rfl, r⟩ := n
    exact q _ _ _ (SR.set_own s hp st hF ho (d := .dic ds) ⟨xs, upd_same, r⟩ (fun x z => by cases z)) ⟨Le.refl _, rfl⟩ (by show w'.sl.set i _ = _; rw [st.sl]) rfl
  | _ => exact q.elim
theorem ds_own {i : Nat} {te : TE} (h : PS X st (tAsg te (gName i))) (he : ∀ σ H Q, tN c W me σ H Q → te σ H Q) : PS X st (tS c W (mOwn i me)) := ps_imp h fun _ _ _ q => own_to he q
end
end DL

set_option Elab.async false
set_option linter.all false
set_option maxRecDepth 100000
set_option maxHeartbeats 4000000
namespace DL
open PySem PySem.Spec L2 RZ

/-! ### a name's own object is frozen from here on -/
def frzS (i : Nat) (s : Sl) : Sl := match s[i]? with
  | some (.own d) => s.set i (.sh d)
  | _ => s
theorem SR.frz_slot {c : FC} {w : Wd} {σ : L2.St} {H : Hp} (s : SR c w σ H) (i : Nat) : ∃ F', SR c { w with F := F', sl := frzS i w.sl } σ H ∧ Le w.F F' := by
  unfold frzS
  cases e : w.sl[i]? with
  | none => exact ⟨w.F, s, Le.refl _⟩
  | some x =>
    cases x with
    | own d =>
      obtain ⟨a, q1, q2, q3, q4, q5⟩ := s.slots i _ e
      -- the object
      have key : ∃ o, H a = some o ∧ (∀ x, o ≠ .own x) ∧ Rep c.cl (upd w.F a o) d (.ref a) := by
        cases d with
        | lst ds =>
          obtain ⟨xs, h1, h2⟩ := q2
          exact ⟨_, h1, fun x z => (by cases z), NewR.rep q3 (d := .lst ds) ⟨xs, rfl, h2⟩⟩
        | dic ds =>
          obtain ⟨xs, h1, h2⟩ := q2
          exact ⟨_, h1, fun x z => (by cases z), NewR.rep q3 (d := .dic ds) ⟨xs, rfl, h2⟩⟩
        | _ => exact q2.elim
      obtain ⟨o, ho, hno, hr⟩ := key
      -- the slot first: nothing there
      have s1 : SR c { w with sl := w.sl.set i .none } σ H := s.slots_to (by rw [List.length_set]; exact s.len) fun j x ej n => by
        by_cases hj : i = j
        · subst hj
          by_cases hb : i < w.sl.length
          · rw [List.getElem?_set_self hb] at ej
            exact absurd (Option.some.inj ej).symm n
          · rw [List.getElem?_eq_none (by simpa using hb)] at ej; cases ej
        · rw [List.getElem?_set_ne hj] at ej
          exact .inl ⟨ej, rfl⟩
      have no : NoOwn { w with sl := w.sl.set i .none } σ a := fun j dj h ej => by
        have h : (w.sl.set i .none)[j]? = _ := h
        by_cases hj : i = j
        · subst hj
          by_cases hb : i < w.sl.length
          · rw [List.getElem?_set_self hb] at h; cases h
          · rw [List.getElem?_eq_none (by simpa using hb)] at h; cases h
        · rw [List.getElem?_set_ne hj] at h
          exact s.dist i j a hj ⟨d, e⟩ ⟨dj, h⟩ q1 ej
      have s2 := s1.frzF ho hno q3 q4 q5 no
      have s3 := s2.set_sh (i := i) hr
      have e1 : σ.set i (some (V.ref a)) = σ := by
        apply List.ext_getElem?
        intro j
        by_cases hj : i = j
        · subst hj
          obtain ⟨hb, _⟩ := List.getElem?_eq_some_iff.mp q1
          rw [List.getElem?_set_self hb, q1]
        · rw [List.getElem?_set_ne hj]
      rw [e1] at s3
      refine ⟨upd w.F a o, ?_, fun x u h => by rw [upd_ne (ne_of_none h q3)]; exact h⟩
      have e2 : (w.sl.set i .none).set i (.sh d) = w.sl.set i (.sh d) := List.set_set ..
      have s4 : SR c { F := upd w.F a o, lk := w.lk, sl := (w.sl.set i .none).set i (.sh d), z := w.z } σ H := s3
      rw [e2] at s4
      exact s4
    | _ => exact ⟨w.F, s, Le.refl _⟩
def mFz (i : Nat) (m : SM) : SM := fun s z => m (frzS i s) z
theorem fz_to {c : FC} {W : WX} {m : SM} {i : Nat} {Dn : Ends} {σ : L2.St} {H : Hp} (q : tS c W (mFz i m) Dn σ H) : tS c W m Dn σ H := by
  obtain ⟨w, s, q⟩ := q
  obtain ⟨F', s', l⟩ := s.frz_slot i
  exact ⟨_, s', WntS.lat ⟨l, rfl⟩ q⟩
section
variable {X : Cx} {c : FC} {W : WX} {m m' : SM} {me : M D} {n : M Bool} {e : Expr} {st : Stmt} {sts : List Stmt} {pos : Pos}
theorem ds_fz {i : Nat} (h : PS X st (tS c W m)) : PS X st (tS c W (mFz i m)) := ps_imp h fun _ _ _ q => fz_to q
theorem dss_fz {i : Nat} (h : PSs X sts (tS c W m)) : PSs X sts (tS c W (mFz i m)) := pss_imp h fun _ _ _ q => fz_to q

/-! ### a name's own object changes -/
theorem SR.own_set {w : Wd} {σ : L2.St} {H : Hp} {i : Nat} {d d' : D} {o : HO} {a : Addr} (s : SR c w σ H) (h : w.sl[i]? = some (.own d)) (e : σ[i]? = some (some (.ref a))) (n : OwnR c.cl w.F (upd H a o) a d') :
    SR c { w with sl := w.sl.set i (.own d') } σ (upd H a o) := by
  obtain ⟨a', q1, q2, q3, q4, q5⟩ := s.slots i _ h
  rw [e] at q1
  cases q1
  have hne : ∃ o0, H a = some o0 ∧ ∀ x, o0 ≠ .own x := by
    cases d with
    | lst ds => obtain ⟨xs, h1, _⟩ := q2; exact ⟨_, h1, fun x z => by cases z⟩
    | dic ds => obtain ⟨xs, h1, _⟩ := q2; exact ⟨_, h1, fun x z => by cases z⟩
    | _ => exact q2.elim
  obtain ⟨o0, ho0, hno⟩ := hne
  have s1 : SR c { w with sl := w.sl.set i .none } σ H := s.slots_to (by rw [List.length_set]; exact s.len) fun j x ej n => by
    by_cases hj : i = j
    · subst hj
      by_cases hb : i < w.sl.length
      · rw [List.getElem?_set_self hb] at ej
        exact absurd (Option.some.inj ej).symm n
      · rw [List.getElem?_eq_none (by simpa using hb)] at ej; cases ej
    · rw [List.getElem?_set_ne hj] at ej
      exact .inl ⟨ej, rfl⟩
  have no : NoOwn { w with sl := w.sl.set i .none } σ a := fun j dj hh ej => by
    have hh : (w.sl.set i .none)[j]? = _ := hh
    by_cases hj : i = j
    · subst hj
      by_cases hb : i < w.sl.length
      · rw [List.getElem?_set_self hb] at hh; cases hh
      · rw [List.getElem?_eq_none (by simpa using hb)] at hh; cases hh
    · rw [List.getElem?_set_ne hj] at hh
      exact s.dist i j a hj ⟨d, h⟩ ⟨dj, hh⟩ e ej
  have s2 := s1.over (o' := o) ho0 hno q3 q4 q5 no
  refine ⟨s2.sub, s2.keep, fun j x ej => ?_, fun j k b hjk hj hk bj bk => ?_, s2.fmut, s2.chgd, s2.strm, s2.fz0, by rw [List.length_set]; exact s.len, s2.lkd, s2.lks⟩
  · have ej : (w.sl.set i (.own d'))[j]? = some x := ej
    by_cases hj : i = j
    · subst hj
      by_cases hb : i < w.sl.length
      · rw [List.getElem?_set_self hb] at ej
        cases ej
        exact ⟨a, e, n, q3, q4, q5⟩
      · rw [List.getElem?_eq_none (by simpa using hb)] at ej; cases ej
    · rw [List.getElem?_set_ne hj] at ej
      exact s2.slots j x (by show (w.sl.set i .none)[j]? = _; rw [List.getElem?_set_ne hj]; exact ej)
  · have key : ∀ j, OwnS (w.sl.set i (.own d')) j → OwnS w.sl j := fun j ⟨dj, hj⟩ => by
      by_cases z : i = j
      · subst z
        exact ⟨d, h⟩
      · rw [List.getElem?_set_ne z] at hj
        exact ⟨dj, hj⟩
    exact s.dist j k b hjk (key j hj) (key k hk) bj bk
/-- name.append(e) -/
def mApp (i : Nat) (m : M D) : SM := fun s z => match s[i]? with
  | some (.own (.lst ds)) => toFR s (m s z) fun d z => if ds.length < lim then .nx (s.set i (.own (.lst (ds ++ [d])))) z else .bad
  | _ => .bad
/-- name.extend(e) -/
def mExt (i : Nat) (m : M D) : SM := fun s z => match s[i]? with
  | some (.own (.lst ds)) => toFR s (m s z) fun d z => match d with
    | .lst es => if ds.length + es.length ≤ lim then .nx (s.set i (.own (.lst (ds ++ es)))) z else .bad
    | _ => .bad
  | _ => .bad
theorem app_to {K : PySem.W.Frag} {i : Nat} {Dn : Ends} {σ : L2.St} {H : Hp} (q : tS c W (mApp i me) Dn σ H) : tDrop (tBM K "list" rAppend (tVar i) (tCons (tF c W me) tNil)) Dn σ H := by
  obtain ⟨w, s, q⟩ := q
  unfold mApp at q
  split at q
  · rename_i ds hs
    obtain ⟨a, q1, ⟨xs, q2, r⟩, q3⟩ := s.slots i _ hs
    refine ⟨_, q1, .inl ⟨rfl, xs, SqL.of q2⟩, w, s, toFR_wnt q fun H' w' d st q v rv => ?_⟩
    by_cases hl : ds.length < lim
    · rw [if_pos hl] at q
      have hs' : w'.sl[i]? = some (.own (.lst ds)) := by rw [st.sl]; exact hs
      obtain ⟨a', p1, ⟨xs', p2, r'⟩, p3⟩ := st.sr.slots i _ hs'
      rw [q1] at p1
      cases p1
      refine ⟨a, xs', v, rfl, rfl, p2, lim_lt (by rw [r'.length]; exact hl), ?_⟩
      exact q _ _ _ (st.sr.own_set (d' := .lst (ds ++ [d])) hs' q1 ⟨_, upd_same, r'.append (by simp only [Reps]; exact ⟨v, [], rfl, rv, rfl⟩)⟩) ⟨Le.refl _, rfl⟩ (by show w'.sl.set i _ = _; rw [st.sl]) rfl
    · rw [if_neg hl] at q
      exact q.elim
  · exact q.elim
theorem ext_to {K : PySem.W.Frag} {i : Nat} {Dn : Ends} {σ : L2.St} {H : Hp} (q : tS c W (mExt i me) Dn σ H) : tDrop (tBM K "list" rExtend (tVar i) (tCons (tF c W me) tNil)) Dn σ H := by
  obtain ⟨w, s, q⟩ := q
  unfold mExt at q
  split at q
  · rename_i ds hs
    obtain ⟨a, q1, ⟨xs, q2, r⟩, q3⟩ := s.slots i _ hs
    refine ⟨_, q1, .inl ⟨rfl, xs, SqL.of q2⟩, w, s, toFR_wnt q fun H' w' d st q v rv => ?_⟩
    cases d with
    | lst es =>
      by_cases hl : ds.length + es.length ≤ lim
      · simp only [if_pos hl] at q
        have hs' : w'.sl[i]? = some (.own (.lst ds)) := by rw [st.sl]; exact hs
        obtain ⟨a', p1, ⟨xs', p2, r'⟩, p3⟩ := st.sr.slots i _ hs'
        rw [q1] at p1
        cases p1
        obtain ⟨b, zs, rfl, f, rz⟩ := rv
        refine ⟨a, b, xs', zs, rfl, rfl, p2, (st.sr.sub _ _ f).lst, lim_line (by rw [r'.length, rz.length]; exact hl), ?_⟩
        exact q _ _ _ (st.sr.own_set (d' := .lst (ds ++ es)) hs' q1 ⟨_, upd_same, r'.append rz⟩) ⟨Le.refl _, rfl⟩ (by show w'.sl.set i _ = _; rw [st.sl]) rfl
      · simp only [if_neg hl] at q
        exact q.elim
    | _ => exact q.elim
  · exact q.elim
theorem ds_app {i : Nat} (h : PS X st (tDrop (tBM X.K "list" rAppend (tVar i) (tCons (tF c W me) tNil)))) : PS X st (tS c W (mApp i me)) := ps_imp h fun _ _ _ q => app_to q
theorem ds_ext {i : Nat} (h : PS X st (tDrop (tBM X.K "list" rExtend (tVar i) (tCons (tF c W me) tNil)))) : PS X st (tS c W (mExt i me)) := ps_imp h fun _ _ _ q => ext_to q
/-- name[key] = value: the value, the dict, the key -/
def mPut (i : Nat) (mv mk : M D) : SM := fun s z => match s[i]? with
  | some (.own (.dic kvs)) => toFR s (mv s z) fun v z => toFR s (mk s z) fun k z => match keyD k with
    | some k => if kvs.length < lim then .nx (s.set i (.own (.dic (setK kvs k v)))) z else .bad
    | none => .bad
  | _ => .bad
theorem put_to {i : Nat} {mv mk : M D} {Dn : Ends} {σ : L2.St} {H : Hp} (q : tS c W (mPut i mv mk) Dn σ H) : sDPut (tVar i) (tV c W mk) (tF c W mv) Dn σ H := by
  obtain ⟨w, s, q⟩ := q
  unfold mPut at q
  split at q
  · rename_i kvs hs
    refine ⟨w, s, toFR_wnt q fun H1 w1 dv s1 q v rv => ?_⟩
    have hs1 : w1.sl[i]? = some (.own (.dic kvs)) := by rw [s1.sl]; exact hs
    obtain ⟨a, q1, ⟨xs, q2, r⟩, q3⟩ := s1.sr.slots i _ hs1
    refine ⟨_, q1, w1, s1.sr, ?_⟩
    rw [← s1.sl] at q
    refine toFR_wnt q fun H2 w2 dk s2 q u ru => ?_
    have hs2 : w2.sl[i]? = some (.own (.dic kvs)) := by rw [s2.sl]; exact hs1
    obtain ⟨a', p1, ⟨xs', p2, r'⟩, p3⟩ := s2.sr.slots i _ hs2
    rw [q1] at p1
    cases p1
    cases ek : keyD dk with
    | none =>
      simp only [ek] at q
      exact q.elim
    | some k =>
      simp only [ek] at q
      by_cases hl : kvs.length < lim
      · rw [if_pos hl] at q
        have eu : u = kV k := keyD_rep ek ru
        refine ⟨a, _, rfl, .inl ⟨xs', k, p2, eu, ?_, rfl⟩, ?_⟩
        · exact lim_lt (by rw [r'.length]; exact hl)
        · exact q _ _ _ (s2.sr.own_set (d' := .dic (setK kvs k dv)) hs2 q1 ⟨_, upd_same, r'.put (Rep.le s2.le rv)⟩) ⟨Le.refl _, rfl⟩ (by show w2.sl.set i _ = _; rw [s2.sl]) rfl
      · rw [if_neg hl] at q
        exact q.elim
  · exact q.elim
theorem ds_put {i : Nat} {mv mk : M D} (h : PS X st (sDPut (tVar i) (tV c W mk) (tF c W mv))) : PS X st (tS c W (mPut i mv mk)) := ps_imp h fun _ _ _ q => put_to q

/-! ### loops -/
def mForG (t : Tg) (body : SM) : List D → SM
  | [] => fun s z => .nx s z
  | d :: ds => fun s z => match t d s with
    | none => .bad
    | some s1 => match body s1 z with
      | .nx s2 z2 => mForG t body ds s2 z2
      | .ct s2 z2 => mForG t body ds s2 z2
      | .bk s2 z2 => .nx s2 z2
      | r => r
def mFor (mi : M (List D)) (t : Tg) (body : SM) : SM := fun s z => match mi s z with
  | .ok ds z => mForG t body ds s z
  | .exc cn fs z => .exc cn fs s z
  | .bad => .bad
structure ForI (c : FC) (W : WX) (t : Tg) (body : SM) (w1 : Wd) (ds : List D) (Dn : Ends) (i : Nat) (σ : L2.St) (H : Hp) : Prop where
  ex : ∃ wi, SR c wi σ H ∧ Lat w1 wi ∧ i ≤ ds.length ∧ WntS c W Dn wi (mForG t body (ds.drop i) wi.sl wi.z)
theorem for_to {mi : M (List D)} {t : Tg} {body : SM} {vs : List Nat} {tb : TS} {g : TG} {Dn : Ends} {σ : L2.St} {H : Hp} (hg : ∀ v σ H Q, gD c vs t v σ H Q → g v σ H Q) (hb : ∀ Dn σ H, tS c W body Dn σ H → tb Dn σ H) (q : tS c W (mFor mi t body) Dn σ H) : tFor (iD c W mi) g tb Dn σ H := by
  obtain ⟨w, s, q⟩ := q
  refine ⟨w, s, ?_⟩
  unfold mFor at q
  cases hm : mi w.sl w.z with
  | exc cn fs z =>
    rw [hm] at q
    exact WntS.err q
  | bad =>
    rw [hm] at q
    exact q
  | ok ds z1 =>
  rw [hm] at q
  intro H1 w1 s1 ez J hJ hl
  subst ez
  refine ⟨fun i m σ H => m = ds.length - i ∧ ForI c W t body w1 ds Dn i σ H, ⟨_, rfl, ⟨w1, s1.sr, Lat.refl _, Nat.zero_le _, ?_⟩⟩, ?_⟩
  · rw [List.drop_zero, s1.sl]
    exact WntS.lat s1.lat q
  rintro i m σ' H' ⟨rfl, wi, sr, lt, hil, qi⟩
  have hIt := hJ i σ' wi H' sr lt.le lt.lk
  by_cases hi' : i < ds.length
  · obtain ⟨d, hd⟩ : ∃ d, ds[i]? = some d := ⟨_, List.getElem?_eq_getElem hi'⟩
    obtain ⟨hgo, hy⟩ := hIt.2 d hd
    have hdrop : ds.drop i = d :: ds.drop (i + 1) := by
      rw [List.drop_eq_getElem_cons hi']
      congr 1
      rw [List.getElem?_eq_getElem hi'] at hd
      exact Option.some.inj hd
    rw [hdrop] at qi
    refine .inr ⟨hgo, ForI c W t body w1 ds Dn (i + 1), fun σ' H' p => ⟨ds.length - (i + 1), by omega, rfl, p⟩, fun x H2 y => ?_⟩
    obtain ⟨w', sy, ezy, rx⟩ := hy x H2 y
    refine hg _ _ _ _ ?_
    unfold mForG at qi
    cases htg : t d wi.sl with
    | none =>
      rw [htg] at qi
      exact qi.elim
    | some s' =>
    simp only [htg] at qi
    refine ⟨w', d, s', sy.sr, rx, by rw [sy.sl]; exact htg, fun σ2 sr2 _ => hb _ _ _ ⟨_, sr2, ?_⟩⟩
    show WntS c W _ { w' with sl := s' } (body s' w'.z)
    rw [← ezy] at qi
    have lt2 : Lat w1 { w' with sl := s' } := lt.trans ⟨sy.le, sy.lk⟩
    have lt3 : Lat wi { w' with sl := s' } := ⟨sy.le, sy.lk⟩
    cases hbd : body s' w'.z with
    | nx s2 z2 =>
      rw [hbd] at qi
      intro σ3 H3 w3 sr3 l3 e1 e2
      subst e1 e2
      exact ⟨w3, sr3, lt2.trans l3, by omega, WntS.lat (lt3.trans l3) qi⟩
    | ct s2 z2 =>
      rw [hbd] at qi
      intro σ3 H3 w3 sr3 l3 e1 e2
      subst e1 e2
      exact ⟨w3, sr3, lt2.trans l3, by omega, WntS.lat (lt3.trans l3) qi⟩
    | bk s2 z2 =>
      rw [hbd] at qi
      intro σ3 H3 w3 sr3 l3 e1 e2
      exact qi σ3 H3 w3 sr3 (lt3.trans l3) e1 e2
    | rt d2 s2 z2 =>
      rw [hbd] at qi
      exact WntS.lat lt3 qi
    | exc cn fs s2 z2 =>
      rw [hbd] at qi
      exact WntS.lat lt3 qi
    | bad =>
      rw [hbd] at qi
      exact qi.elim
  · refine .inl ⟨hIt.1 (by omega), ?_⟩
    have e : ds.drop i = [] := List.drop_eq_nil_of_le (by omega)
    rw [e] at qi
    exact qi σ' H' wi sr (Lat.refl _) rfl rfl
theorem ds_for {mi : M (List D)} {t : Tg} {body : SM} {vs : List Nat} {tb : TS} {g : TG} (h : PS X st (tFor (iD c W mi) g tb)) (hg : ∀ v σ H Q, gD c vs t v σ H Q → g v σ H Q) (hb : ∀ Dn σ H, tS c W body Dn σ H → tb Dn σ H) : PS X st (tS c W (mFor mi t body)) := ps_imp h fun _ _ _ q => for_to hg hb q
def mWhile (n : M Bool) (body : SM) : Nat → SM
  | 0 => fun _ _ => .bad
  | k + 1 => fun s z => match n s z with
    | .ok b z => if b = true then (match body s z with
      | .nx s2 z2 => mWhile n body k s2 z2
      | .ct s2 z2 => mWhile n body k s2 z2
      | .bk s2 z2 => .nx s2 z2
      | r => r) else .nx s z
    | .exc cn fs z => .exc cn fs s z
    | .bad => .bad
theorem while_to {body : SM} {k : Nat} {Dn : Ends} {σ : L2.St} {H : Hp} (q : tS c W (mWhile n body k) Dn σ H) : tWhile (tT c W n) (tS c W body) Dn σ H := by
  obtain ⟨w, s, q⟩ := q
  refine ⟨fun m σ' H' => ∃ wi, SR c wi σ' H' ∧ Lat w wi ∧ WntS c W Dn wi (mWhile n body m wi.sl wi.z), ⟨k, w, s, Lat.refl _, q⟩, ?_⟩
  rintro m σ' H' ⟨wi, sr, lt, qi⟩
  cases m with
  | zero => exact qi.elim
  | succ m =>
    refine ⟨wi, sr, ?_⟩
    unfold mWhile at qi
    cases hn : n wi.sl wi.z with
    | exc cn fs z =>
      rw [hn] at qi
      exact WntS.err qi
    | bad =>
      rw [hn] at qi
      exact qi
    | ok b z =>
      rw [hn] at qi
      intro H2 w2 s2 ez
      subst ez
      cases b with
      | false =>
        simp only [Bool.false_eq_true, if_false] at qi ⊢
        exact qi _ _ _ s2.sr s2.lat s2.sl rfl
      | true =>
        simp only [if_true] at qi ⊢
        refine ⟨fun σ3 H3 => ∃ wi, SR c wi σ3 H3 ∧ Lat w wi ∧ WntS c W Dn wi (mWhile n body m wi.sl wi.z), fun σ3 H3 p => ⟨m, by omega, p⟩, w2, s2.sr, ?_⟩
        rw [s2.sl]
        have lt3 : Lat wi w2 := s2.lat
        cases hbd : body wi.sl w2.z with
        | nx s3 z3 =>
          rw [hbd] at qi
          intro σ3 H3 w3 sr3 l3 e1 e2
          subst e1 e2
          exact ⟨w3, sr3, (lt.trans lt3).trans l3, WntS.lat (lt3.trans l3) qi⟩
        | ct s3 z3 =>
          rw [hbd] at qi
          intro σ3 H3 w3 sr3 l3 e1 e2
          subst e1 e2
          exact ⟨w3, sr3, (lt.trans lt3).trans l3, WntS.lat (lt3.trans l3) qi⟩
        | bk s3 z3 =>
          rw [hbd] at qi
          intro σ3 H3 w3 sr3 l3 e1 e2
          exact qi σ3 H3 w3 sr3 (lt3.trans l3) e1 e2
        | rt d3 s3 z3 =>
          rw [hbd] at qi
          exact WntS.lat lt3 qi
        | exc cn fs s3 z3 =>
          rw [hbd] at qi
          exact WntS.lat lt3 qi
        | bad =>
          rw [hbd] at qi
          exact qi.elim
theorem ds_while {body : SM} (k : Nat) (h : PS X st (tWhile (tT c W n) (tS c W body))) : PS X st (tS c W (mWhile n body k)) := ps_imp h fun _ _ _ q => while_to q
end
end DL

set_option Elab.async false
set_option linter.all false
set_option maxRecDepth 100000
set_option maxHeartbeats 4000000
namespace DL
open PySem PySem.Spec PyProof.Rows L2 RZ

/-! ### defs: a call's start and its end -/
abbrev Fm := List D → Z → ER D
/-- the slots at a def's start -/
def startSl (n : Nat) (sm : Bool) (ds : List D) : Sl := (if sm = true then .strm :: ds.map .sh else ds.map .sh) ++ List.replicate (n - (ds.length + if sm = true then 1 else 0)) .none
/-- what holds while the callee runs -/
def calleeC (c : FC) (sm : Bool) (w : Wd) (H : Hp) : FC := { cl := c.cl, H0 := H, F0 := w.F, st := if sm = true then c.st else none, chg := if sm = true then c.chg else [] }
theorem Reps.at {cl : Str → Option Addr} {F : Hp} {ds : List D} {vs : List V} (h : Reps cl F ds vs) {i : Nat} {d : D} (e : ds[i]? = some d) : ∃ v, vs[i]? = some v ∧ Rep cl F d v := h.get e
theorem SR.call {c : FC} {w : Wd} {σ : L2.St} {H : Hp} (s : SR c w σ H) {sm : Bool} {n : Nat} {N : List Str} {ds : List D} {us vs : List V} {z0 : Z} (r : Reps c.cl w.F ds us) (hn : ds.length + (if sm = true then 1 else 0) ≤ N.length) (hN : N.length = n)
    (hv : if sm = true then ∃ sa la, c.st = some (sa, la) ∧ vs = .ref sa :: us else vs = us) (hz : sm = true → z0 = w.z) : SR (calleeC c sm w H) { F := w.F, lk := w.lk, sl := startSl n sm ds, z := z0 } (L2.start N vs) H where
  sub := s.sub
  keep := fun a o h _ => .inl h
  slots := fun i x e => by
    have e : (startSl n sm ds)[i]? = some x := e
    have lv : us.length = ds.length := r.length
    cases sm with
    | false =>
      simp only [Bool.false_eq_true, if_false] at hv hn
      subst hv
      unfold startSl at e
      simp only [Bool.false_eq_true, if_false] at e
      by_cases hi : i < ds.length
      · rw [List.getElem?_append_left (by simpa using hi), List.getElem?_map, Option.map_eq_some_iff] at e
        obtain ⟨d, e1, rfl⟩ := e
        obtain ⟨v, e2, rv⟩ := r.get e1
        refine ⟨v, ?_, rv⟩
        unfold L2.start
        rw [List.getElem?_append_left (by simpa [lv] using hi), List.getElem?_map, e2]
        rfl
      · rw [List.getElem?_append_right (by simpa using hi), List.getElem?_replicate] at e
        split at e <;> cases e
        trivial
    | true =>
      simp only [if_true] at hv hn
      obtain ⟨sa, la, e0, rfl⟩ := hv
      unfold startSl at e
      simp only [if_true] at e
      cases i with
      | zero =>
        simp at e
        subst e
        exact ⟨sa, la, e0, by unfold L2.start; simp⟩
      | succ i =>
        rw [List.cons_append, List.getElem?_cons_succ] at e
        by_cases hi : i < ds.length
        · rw [List.getElem?_append_left (by simpa using hi), List.getElem?_map, Option.map_eq_some_iff] at e
          obtain ⟨d, e1, rfl⟩ := e
          obtain ⟨v, e2, rv⟩ := r.get e1
          refine ⟨v, ?_, rv⟩
          unfold L2.start
          rw [List.map_cons, List.cons_append, List.getElem?_cons_succ, List.getElem?_append_left (by simpa [lv] using hi), List.getElem?_map, e2]
          rfl
        · rw [List.getElem?_append_right (by simpa using hi), List.getElem?_replicate] at e
          split at e <;> cases e
          trivial
  dist := fun i j a _ hi => by
    obtain ⟨d, hi⟩ := hi
    have hi : (startSl n sm ds)[i]? = some (.own d) := hi
    exfalso
    have : Slot.own d ∈ startSl n sm ds := List.mem_of_getElem? hi
    unfold startSl at this
    rw [List.mem_append] at this
    rcases this with h | h
    · cases sm with
      | false =>
        simp only [Bool.false_eq_true, if_false, List.mem_map] at h
        obtain ⟨_, _, z⟩ := h
        cases z
      | true =>
        simp only [if_true, List.mem_cons, List.mem_map] at h
        rcases h with z | ⟨_, _, z⟩
        · cases z
        · cases z
    · have := List.eq_of_mem_replicate h
      cases this
  fmut := fun a m => by
    cases sm with
    | false => exact absurd (show a ∈ ([] : List Addr) from m) (by simp)
    | true => exact s.fmut a m
  chgd := fun a m => by
    cases sm with
    | false => exact absurd (show a ∈ ([] : List Addr) from m) (by simp)
    | true => exact s.chgd a m
  strm := fun sa la h => by
    cases sm with
    | false => cases (show (none : Option (Addr × Addr)) = some (sa, la) from h)
    | true =>
      rw [hz rfl]
      exact s.strm sa la h
  fz0 := fun a o _ h => h
  len := by
    have lv : us.length = ds.length := r.length
    unfold startSl L2.start
    cases sm with
    | false =>
      simp only [Bool.false_eq_true, if_false] at hv hn ⊢
      subst hv
      simp [lv]
      omega
    | true =>
      simp only [if_true] at hv hn ⊢
      obtain ⟨sa, la, e0, rfl⟩ := hv
      simp [lv]
      omega
  lkd := s.lkd
  lks := s.lks
/-- back from a call -/
theorem SR.ret {c : FC} {w : Wd} {σ σ' : L2.St} {H H' : Hp} (s : SR c w σ H) {sm : Bool} {w0 w' : Wd} {zr : Z} (t : SR (calleeC c sm w H) w' σ' H') (hst : sm = true → ∃ p, c.st = some p) (l : Lat w0 w') (hF : w0.F = w.F) (hk : w0.lk = w.lk) (hz : if sm = true then zr = w'.z else zr = w.z) :
    Step c σ w H { F := w'.F, lk := w.lk, sl := w.sl, z := zr } H' := by
  have le : Le w.F w'.F := hF ▸ l.le
  have lk : w'.lk = w.lk := l.lk.trans hk
  have keep0 : ∀ a o, H a = some o → a ∉ (calleeC c sm w H).chg → H' a = some o := fun a o h n => by
    rcases t.keep a o h n with q | ⟨ob, m, q⟩
    · exact q
    · rw [lk] at m
      obtain ⟨u, e1, e2, e3⟩ := s.lkd _ m
      rw [h] at e3
      cases e3
      obtain ⟨u2, f1, f2, f3⟩ := t.lkd (a, ob) (by rw [lk]; exact m)
      rw [q] at f3
      have f4 : HO.frz ob u = u2 := by
        have := Option.some.inj f3
        injection this
      obtain ⟨kvs, e⟩ := f2
      rw [e] at f4
      cases f4
  have sub : ∀ a, a ∈ (calleeC c sm w H).chg → a ∈ c.chg := fun a m => by
    cases sm with
    | false => exact absurd (show a ∈ ([] : List Addr) from m) (by simp)
    | true => exact m
  have keep : KeepH c H H' := fun a o h n => keep0 a o h fun m => n (sub a m)
  have fz : ∀ a o, H a = some o → w.F a = none → w'.F a = none := fun a o h n => t.fz0 a o h n
  have all : c.st = none → ∀ a o, H a = some o → H' a = some o := fun e a o h => by
    cases sm with
    | false => exact keep0 a o h fun m => absurd (show a ∈ ([] : List Addr) from m) (by simp)
    | true =>
      obtain ⟨p, z⟩ := hst rfl
      rw [e] at z
      cases z
  have there : ∀ a o, c.H0 a = some o → ∃ u, H a = some u := fun a o h => by
    by_cases m : a ∈ c.chg
    · exact s.chgd a m
    · rcases s.keep a o h m with q | ⟨ob, _, q⟩
      · exact ⟨_, q⟩
      · exact ⟨_, q⟩
  refine ⟨⟨t.sub, fun a o h n => ?_, fun i x e => ?_, s.dist, fun a m => ?_, fun a m => ?_, fun sa la h => ?_, fun a o h n => ?_, s.len, fun p hp => ?_, fun a u o h d e => ?_⟩, le, keep, rfl, rfl, fz, all⟩
  · rcases s.keep a o h n with q | ⟨ob, m, q⟩
    · exact .inl (keep _ _ q n)
    · exact .inr ⟨ob, m, keep _ _ q n⟩
  · have q := s.slots i x e
    cases x with
    | none => trivial
    | sh d =>
      obtain ⟨v, q1, q2⟩ := q
      exact ⟨v, q1, Rep.le le q2⟩
    | own d =>
      obtain ⟨a, q1, q2, q3, q4, q5⟩ := q
      obtain ⟨o, ho⟩ := q2.some
      exact ⟨a, q1, OwnR.le le (fun o h => keep a o h q5) q2, fz a o ho q3, q4, q5⟩
    | strm => exact q
    | slf cn fs =>
      obtain ⟨a, dx, C, gs, q1, q2, q3, q4, q5, q6, q7, q8⟩ := q
      have st : c.st = none := by
        cases e : c.st with
        | none => rfl
        | some p =>
          have z := (s.strm p.1 p.2 e).2
          rw [q3] at z
          cases z
      exact ⟨a, dx, C, gs, q1, q2, q3, all st _ _ q4, all st _ _ q5, RepF.le le q6, fz dx _ q5 q7, q8⟩
    | xcp cn fs =>
      obtain ⟨a, C, dd, e1, e2, e3, e4⟩ := q
      exact ⟨a, C, dd, e1, e2, e3, e4.le le⟩
  · obtain ⟨o, ho⟩ := s.chgd a m
    exact fz a o ho (s.fmut a m)
  · cases sm with
    | false =>
      obtain ⟨o, ho⟩ := s.chgd a m
      exact ⟨o, keep0 a o ho fun m => absurd (show a ∈ ([] : List Addr) from m) (by simp)⟩
    | true => exact t.chgd a m
  · cases sm with
    | false =>
      obtain ⟨⟨h1, h2⟩, h3⟩ := s.strm sa la h
      have hz : zr = w.z := hz
      show StrmR H' sa la zr ∧ _
      rw [hz]
      exact ⟨⟨keep0 _ _ h1 fun m => absurd (show sa ∈ ([] : List Addr) from m) (by simp), keep0 _ _ h2 fun m => absurd (show la ∈ ([] : List Addr) from m) (by simp)⟩, h3⟩
    | true =>
      have hz : zr = w'.z := hz
      show StrmR H' sa la zr ∧ _
      rw [hz]
      exact t.strm sa la h
  · obtain ⟨u, hu⟩ := there a o h
    exact fz a u hu (s.fz0 a o h n)
  · exact t.lkd p (by rw [lk]; exact hp)
  · have := t.lks a u o h d e
    rw [lk] at this
    exact this

/-! ### what a def promises -/
def zDum : Z := ⟨[], 0, 0, 0⟩
def reZ {α : Type} (z : Z) : ER α → ER α
  | .ok a _ => .ok a z
  | .exc c fs _ => .exc c fs z
  | .bad => .bad
/-- f as it is called: with the spring it hands on, without it leaves it -/
def runF (sm : Bool) (f : Fm) (ds : List D) (z : Z) : ER D := if sm = true then f ds z else reZ z (f ds zDum)
def spM (cl : Str → Option Addr) (n : Nat) (sm : Bool) (f : Fm) : Sp := fun vs H Q E => ∃ (c : FC) (σ : L2.St) (w : Wd) (ds : List D) (us : List V), c.cl = cl ∧ SR c w σ H ∧ Reps c.cl w.F ds us ∧ ds.length = n ∧ (if sm = true then ∃ sa la, c.st = some (sa, la) ∧ vs = .ref sa :: us else vs = us) ∧
  Wnt c (fun C dd _ H' => E C dd H') σ w H (fun w' H' d => ∀ v, Rep c.cl w'.F d v → Q v H') (runF sm f ds w.z)
theorem spM_len {cl : Str → Option Addr} {n : Nat} {sm : Bool} {f : Fm} {vs : List V} {H : Hp} {Q : VK} {E : XK} (h : spM cl n sm f vs H Q E) : vs.length = n + if sm = true then 1 else 0 := by
  obtain ⟨c, σ, w, ds, us, _, _, r, hl, hv, _⟩ := h
  cases sm with
  | false =>
    simp only [Bool.false_eq_true, if_false] at hv ⊢
    rw [hv, r.length, hl]; rfl
  | true =>
    simp only [if_true] at hv ⊢
    obtain ⟨_, _, _, hv⟩ := hv
    rw [hv, List.length_cons, r.length, hl]
def fnM (n : Nat) (sm : Bool) (m : SM) : Fm := fun ds z => match m (startSl n sm ds) z with
  | .nx _ z => .ok .non z
  | .rt d _ z => .ok d z
  | .exc cn fs _ z => .exc cn fs z
  | _ => .bad
section
variable {P : Program} {w : World} {K : PySem.W.Frag} {mg : Str → Option Value} {base : Heap} {cl : Str → Option Addr}
theorem fn_dl {x qual : Str} {params : Arguments} {body : List Stmt} {scope : Scope} {f : Addr} {fd : FuncData} {N ps : List Str} {k n : Nat} {sm : Bool} {m : SM} (F : FunD K x qual params body scope [] [] f fd) (S : FnScope N ps scope) (hps : ps.length = n + if sm = true then 1 else 0)
    (hb : ∀ (cdv : Value) (A : Around) (outer : List Env) (s : Shared) (H : Hp) (E : XK) (c : FC) (W : WX), Room k (A.deeper (envOfC qual scope s.heap.objs.size f cdv)) → c.cl = cl → Takes (cxOf (L2.CX P w) P w K mg base N qual scope f cdv A outer s H E) W →
      PSs (cxOf (L2.CX P w) P w K mg base N qual scope f cdv A outer s H E) body (tS c W m)) : FnOk P w K mg base (L2.CX P w) (k + 1) f fd ps (spM cl n sm (fnM N.length sm m)) := by
  refine F.ok S (fun vs H Q E h => (spM_len h).trans hps.symm) fun cdv A outer s H vs Q E hr hsp => ?_
  obtain ⟨c, σ, w0, ds, us, rfl, sr, r, hl, hv, q⟩ := hsp
  refine ⟨_, hb cdv A outer s H E (calleeC c sm w0 H) (fun cls d _ H' => E cls d H') hr rfl (takes_of (E := E) rfl rfl rfl rfl), ?_⟩
  have hN : ps.length ≤ N.length := by have := congrArg List.length S.pre; rw [List.length_take] at this; omega
  have hst : sm = true → ∃ p, c.st = some p := fun e => by
    rw [if_pos e] at hv
    obtain ⟨sa, la, z, _⟩ := hv
    exact ⟨_, z⟩
  have s1 := sr.call (n := N.length) (N := N) (z0 := if sm = true then w0.z else zDum) r (by omega) rfl hv (fun e => by rw [if_pos e])
  refine ⟨_, s1, ?_⟩
  show WntS _ _ _ _ (m (startSl N.length sm ds) (if sm = true then w0.z else zDum))
  unfold runF fnM at q
  cases sm with
  | true =>
    simp only [if_true] at q s1 ⊢
    cases hm : m (startSl N.length true ds) w0.z with
    | nx s z =>
      rw [hm] at q
      intro σ' H' w' t l e1 e2
      exact q _ _ (sr.ret (zr := w'.z) t hst l rfl rfl rfl) e2 _ (by simp [Rep])
    | rt d s z =>
      rw [hm] at q
      intro σ' H' w' v t l e1 e2 rv
      exact q _ _ (sr.ret (zr := w'.z) t hst l rfl rfl rfl) e2 _ rv
    | exc cn fs s z =>
      rw [hm] at q
      intro C dd σ' H' w' hc t l e1 e2 x
      exact q C dd H' _ hc (sr.ret (zr := w'.z) t hst l rfl rfl rfl) e2 x
    | bk s z => rw [hm] at q; exact q.elim
    | ct s z => rw [hm] at q; exact q.elim
    | bad => rw [hm] at q; exact q.elim
  | false =>
    simp only [Bool.false_eq_true, if_false] at q s1 ⊢
    cases hm : m (startSl N.length false ds) zDum with
    | nx s z =>
      rw [hm] at q
      intro σ' H' w' t l e1 e2
      exact q _ _ (sr.ret (zr := w0.z) t hst l rfl rfl rfl) rfl _ (by simp [Rep])
    | rt d s z =>
      rw [hm] at q
      intro σ' H' w' v t l e1 e2 rv
      exact q _ _ (sr.ret (zr := w0.z) t hst l rfl rfl rfl) rfl _ rv
    | exc cn fs s z =>
      rw [hm] at q
      intro C dd σ' H' w' hc t l e1 e2 x
      exact q C dd H' _ hc (sr.ret (zr := w0.z) t hst l rfl rfl rfl) rfl x
    | bk s z => rw [hm] at q; exact q.elim
    | ct s z => rw [hm] at q; exact q.elim
    | bad => rw [hm] at q; exact q.elim
end
end DL

set_option Elab.async false
set_option linter.all false
set_option maxRecDepth 100000
set_option maxHeartbeats 4000000
namespace DL
open PySem PySem.Spec PyProof.Rows L2 RZ

/-! ### calls of defs -/
def mCallF (n : Nat) (f : Fm) (mr : M (List D)) : M D := fun s z => (mr s z).bind fun ds z => if ds.length = n then runF false f ds z else .bad
def mCallS (i n : Nat) (f : Fm) (mr : M (List D)) : M D := fun s z => match s[i]? with
  | some .strm => (mr s z).bind fun ds z => if ds.length = n then runF true f ds z else .bad
  | _ => .bad
theorem wnt_ite {c : FC} {W : WX} {σ : L2.St} {w : Wd} {H : Hp} {α : Type} {R : Wd → Hp → α → Prop} {p : Prop} [Decidable p] {e : ER α} (h : Wnt c W σ w H R (if p then e else .bad)) : p ∧ Wnt c W σ w H R e := by
  by_cases q : p
  · rw [if_pos q] at h
    exact ⟨q, h⟩
  · rw [if_neg q] at h
    exact h.elim
theorem wnt_W {c : FC} {W W' : WX} {σ : L2.St} {w : Wd} {H : Hp} {α : Type} {R : Wd → Hp → α → Prop} {e : ER α} (hW : ∀ C dd H', W C dd σ H' → W' C dd σ H') (h : Wnt c W σ w H R e) : Wnt c W' σ w H R e := by
  cases e with
  | ok a z => exact h
  | exc cn fs z => exact fun C dd H' w' h1 h2 h3 h4 => hW _ _ _ (h C dd H' w' h1 h2 h3 h4)
  | bad => exact h
section
variable {X : Cx} {c : FC} {W : WX} {e : Expr} {es : List Expr} {mr : M (List D)} {p pos apos : Pos} {x : Str} {f : Addr} {fd : FuncData} {ps : List Str} {k j n i : Nat} {g : Fm}
theorem callF_to {σ : L2.St} {H : Hp} {Q : VK} (q : tF c W (mCallF n g mr) σ H Q) : tCallS (spM c.cl n false g) (WE W) (tAF c W mr) σ H Q := by
  obtain ⟨w, s, q⟩ := q
  refine ⟨w, s, (Wnt.bind q).imp fun w1 H1 ds s1 q1 vs rs => ?_⟩
  obtain ⟨hn, q2⟩ := wnt_ite q1
  exact ⟨c, σ, w1, ds, vs, rfl, s1.sr, rs, hn, rfl, wnt_W (fun _ _ _ h => h) q2⟩
theorem callS_to {σ : L2.St} {H : Hp} {Q : VK} (q : tF c W (mCallS i n g mr) σ H Q) : tCallS (spM c.cl n true g) (WE W) (tCons (tVar i) (tAF c W mr)) σ H Q := by
  obtain ⟨w, s, q⟩ := q
  unfold mCallS at q
  split at q
  · rename_i hs
    obtain ⟨sa, la, q1, q2⟩ := s.slots i _ hs
    refine ⟨_, q2, w, s, (Wnt.bind q).imp fun w1 H1 ds s1 q3 vs rs => ?_⟩
    obtain ⟨hn, q4⟩ := wnt_ite q3
    exact ⟨c, σ, w1, ds, vs, rfl, s1.sr, rs, hn, ⟨sa, la, q1, rfl⟩, wnt_W (fun _ _ _ h => h) q4⟩
  · exact q.elim
theorem df_call {cl : Str → Option Addr} (hcl : c.cl = cl) (tk : Takes X W) (F : FnOk X.prog X.w X.K X.mg X.base (L2.CX X.prog X.w) k f fd ps (spM cl n false g)) (hr : Room j X.A) (hkj : k ≤ j) (hg : Gl X x) (hm : X.mg x = some (.ref f)) (hk : PySem.W.keepIn X.K (.ref f) = true) (hb : Binds X.K fd ps [])
    (ha : PA X (e :: es) (tAF c W mr)) (hdb : (x == ("__debug__" : Str)) = false := by decide) (he : starEach (e :: es) X.env = (false, eval e X.env) :: starEach es X.env := by rfl) (hpl : (backTo pos (starEach es X.env)).any (·.1) = false := by rfl) :
    PE X (.Call (.Name x p) (e :: es) [] pos) (tF c W (mCallF n g mr)) := pe_imp (pe_callS F (hr.mono hkj) hg hm hk hb (fun σ => passAt tk σ) ha hdb he hpl) fun _ _ _ q => by
  subst hcl
  exact callF_to q
theorem df_callS {cl : Str → Option Addr} (hcl : c.cl = cl) (tk : Takes X W) (F : FnOk X.prog X.w X.K X.mg X.base (L2.CX X.prog X.w) k f fd ps (spM cl n true g)) (hr : Room j X.A) (hkj : k ≤ j) (hg : Gl X x) (hm : X.mg x = some (.ref f)) (hk : PySem.W.keepIn X.K (.ref f) = true) (hb : Binds X.K fd ps [])
    (hv : PE X e (tVar i)) (ha : PA X es (tAF c W mr)) (hs : starEach (e :: es) X.env = (false, eval e X.env) :: starEach es X.env := by rfl) (hdb : (x == ("__debug__" : Str)) = false := by decide) (hpl : (backTo pos (starEach es X.env)).any (·.1) = false := by rfl) :
    PE X (.Call (.Name x p) (e :: es) [] pos) (tF c W (mCallS i n g mr)) := pe_imp (pe_callS F (hr.mono hkj) hg hm hk hb (fun σ => passAt tk σ) (pa_cons hv ha hs) hdb hs hpl) fun _ _ _ q => by
  subst hcl
  exact callS_to q
/-- f(): no arguments -/
theorem df_call0 {cl : Str → Option Addr} (hcl : c.cl = cl) (F : FnOk X.prog X.w X.K X.mg X.base (L2.CX X.prog X.w) k f fd ps (spM cl 0 false g)) (hr : Room j X.A) (hkj : k ≤ j) (hg : Gl X x) (hm : X.mg x = some (.ref f)) (hk : PySem.W.keepIn X.K (.ref f) = true) (hb : Binds X.K fd ps [])
    (hdb : (x == ("__debug__" : Str)) = false := by decide) : PE X (.Call (.Name x p) [] [] pos) (tF c W0 (mCallF 0 g mNil)) :=
  pe_imp (pe_call0 (dvs := []) (E := fun _ _ _ => False) F (hr.mono hkj) hg hm hk hb .nil (fun pins σ H s e s' I h => by
    obtain ⟨_, _, _, _, _, _, _, _, _, _, _, _, z⟩ := h
    exact z.elim) hdb) fun _ _ _ q => by
  subst hcl
  obtain ⟨w, s, q⟩ := q
  obtain ⟨_, q2⟩ := wnt_ite (show Wnt c W0 _ w _ _ (if ([] : List D).length = 0 then runF false g [] w.z else .bad) from q)
  exact ⟨c, _, w, [], [], rfl, s, by simp [Reps], rfl, rfl, wnt_W (fun _ _ _ h => h) q2⟩
end
end DL

set_option Elab.async false
set_option linter.all false
set_option maxRecDepth 100000
set_option maxHeartbeats 4000000
namespace EX
open PySem PySem.Spec PySem.Calls PyProof.Rows L2

/-! ### super().__init__('..') as the first statement of an own exception's __init__ -/
theorem boot_super : bootBuiltins ("super" : Str) = some (.type "super") := by first | boot_by_name | rfl | kernel_rfl
/-- what the written part says of such a class and its __init__ -/
structure SupC (P : Program) (K : PySem.W.Frag) (C cc cda : Addr) (fI : Addr) : Prop where
  oex : OexC K C
  cell : ∃ cl cld csl, K.lookup cc = some ⟨cl, cld, .cell (some (.ref C)), csl⟩
  code : ∃ ccl cdd vs ccs file tf, K.lookup cda = some ⟨ccl, cdd, .fields vs, ccs⟩ ∧ vs[2]? = some (.str file tf) ∧ ((P.main.file : Str) == file) = true
  clsC : ∃ cd, PySem.W.clsIn K C = some cd
  sub : PySem.W.mroIn K C (.ref C) = some true
  ve : PySem.W.subIn K (.ref C) (.type "ValueError") = some true
  sup : PySem.W.ks_superIn K C C "__init__" = some (some (.builtin "ValueError.__init__"))
  third : PySem.W.nsIn K cStatics "thirdparty.any" = some none
  top : (P.main.scope.names.lookup ("super" : Str)).isSome = false

section
variable {M : Model} {A : Around} {E : Value → Shared → Prop} {h : Heap} {g : Array GenState} {d : Drawn} {t : Nat} {os : OsState}
theorem callWith_mw {pos : Pos} {u x : Addr} {args : List (Bool × Sem Value)} {Q : Value → Shared → Prop} {s : Shared} (hplain : args.any (·.1) = false)
    (h : wpAny M A (evalArgs (.ref u) true args []) (fun ar s₁ => s₁.heap.get? u = some (PySem.W.kxs_mw "ValueError.__init__" x) ∧ wpAny M A (call (.ref u) ([] ++ ar.pos) ar.kw) Q E s₁) E s) : wpAny M A (callWith pos (.ref u) [] args []) Q E s :=
  PySem.W.kxs_callWith (i := "ValueError.__init__") (x := x) hplain h
/-- the wrapper called -/
theorem call_mw {prog : Program} {w : World} {K : PySem.W.Frag} {C a u t0 : Addr} {dv : Option Addr} {rest : List Value} {Q : Value → Shared → Prop} (T : OexC K C) (X : K.In h)
    (he : h.get? a = some { cls := .ref C, dict := dv, data := .fields #[.ref t0, .none, .none, .none, .bool false, .none] }) (hu : h.get? u = some (PySem.W.kxs_mw "ValueError.__init__" a)) (hz : rest.length ≤ sizeLine)
    (hq : ∀ h' t1, (∀ b o, b ≠ a → h.get? b = some o → h'.get? b = some o) → h'.get? a = some { cls := .ref C, dict := dv, data := .fields #[.ref t1, .none, .none, .none, .bool false, .none] } → Q .none ⟨h', g, d, t, os⟩) :
    wpAny (model prog w) A (call (.ref u) rest) Q E ⟨h, g, d, t, os⟩ := by
  obtain ⟨nm, q, N, bs, bm, sn, sub, ab, col, dd, k0, k1, k2, k3, k5, hC, hbm⟩ := T.cls
  refine wpAny_call (codeAny_of_tree ?_)
  show wpAny _ A.in1 (callAny (.ref u) ⟨rest, []⟩) _ _ _
  simp only [callAny]
  refine wpAny_bind (wpAny_load hu ?_)
  simp only [PySem.W.kxs_mw, show (Value.type "method-wrapper" == Value.type "method" || Value.type "method-wrapper" == Value.type "builtin_function_or_method" || Value.type "method-wrapper" == Value.type "method-wrapper") = true by decide, if_true]
  refine PySem.W.KFB.if_so (by decide) ?_
  refine wpAny_bind (PySem.W.check_bound_init F.excBase_ValueError.toExcCallFacts (X _ _ hC) he rfl ?_)
  refine wpAny_bind (wpAny_pure (wpAny_pure ?_))
  refine ⟨PySem.plainId_quiet F.excBase_ValueError.init.plain _, codeAny_builtin F.excBase_ValueError.initEntry ?_⟩
  exact PySem.W.exc_init_tree (cls := .ref C) (t0 := t0) (dv := dv) (c2 := .none) (c3 := .none) (b4 := .bool false) he hz fun h' k e' _ => hq h' _ k e'
end
section
variable {X : Cx} {pins : List (Addr × Obj)} {σ : L2.St} {H : Hp} {s : Shared} {E : Value → Shared → Prop}
/-- the first statement -/
theorem sup_first {P : Program} {a C cc cda f L : Addr} {qual self text : Str} {scope : Scope} {body : List Stmt} {oc : Value} {od : Option Addr} {osl : Array (Option Value)} {fd : FuncData} {ar : Arg} {i : Nat} {j : Nat} {p0 p1 p2 p3 p4 p5 : Pos}
    (hP : X.prog = P) (T : SupC P X.K C cc cda f) (henv : X.env = PySem.W.envX qual scope L f (.ref cda) [("__class__", cc)]) (hm : X.mg "super" = none)
    (hf : X.K.lookup f = some ⟨oc, od, .func fd, osl⟩) (hp : (fd.params.posonlyargs ++ fd.params.args).head? = some ar) (har : ar.arg = self)
    (hks : scope.names.lookup ("super" : Str) = some .globalImplicit) (hkc : scope.names.lookup ("__class__" : Str) = some .free) (hka : scope.names.lookup self = some .local) (hk : scope.kind = .function)
    (hN : X.N[i]? = some self) (I : Inv X pins σ H s) (hv : σ[i]? = some (some (.ref a))) (e : H a = some (exo a C none)) {Q : Flow → Shared → Prop} (q : ∀ s', Inv X pins σ H s' → Q .next s') {pl : Sem Bool}
    (he : eval (.Call (.Attribute (.Call (.Name "super" p0) [] [] p1) "__init__" p2) [.Constant (.str text) j p3] [] p4) X.env = (do
      let ov ← attributeBase (.Call (.Name "super" p0) [] [] p1) "__init__" X.env (eval (.Call (.Name "super" p0) [] [] p1) X.env)
      standAt p2.atName
      let (f, first) ← holding [ov] (getMethod ov "__init__" pl)
      callWith p4 f first (backTo p4 (starEach [.Constant (.str text) j p3] X.env)) [])) :
    PySem.wpAt (model X.prog X.w) X.A (.func body X.env) (exec (.Expr (.Call (.Attribute (.Call (.Name "super" p0) [] [] p1) "__init__" p2) [.Constant (.str text) j p3] [] p4) p5) X.env) Q E s := by
  obtain ⟨cl, cld, csl, hcell⟩ := T.cell
  obtain ⟨ccl, cdd, vs, ccs, file, tf, hcode, hvs, hfile⟩ := T.code
  obtain ⟨cd, hcd⟩ := T.clsC
  have KX : X.K.In s.heap := I.kIn
  obtain ⟨t1, ho⟩ := exo_at I.hok e
  obtain ⟨m, hns, hloc⟩ := I.loc
  have hD : ∃ oD, s.heap.get? C = some oD ∧ oD.data = .cls cd := by
    unfold PySem.W.clsIn at hcd
    split at hcd
    · rename_i c d cd' sl ho
      cases hcd
      exact ⟨_, KX _ _ ho, rfl⟩
    · cases hcd
  obtain ⟨oD, hD1, hD2⟩ := hD
  have kS : X.env.kindOf "super" = some .globalImplicit := by rw [henv]; exact hks
  have kC : X.env.kindOf "__class__" = some .free := by rw [henv]; exact hkc
  have kA : X.env.kindOf self = some .local := by rw [henv]; exact hka
  have kF : X.env.scope.kind = .function := by rw [henv]; exact hk
  have vis : Vis X.env.scope self := .inl kA
  obtain ⟨u, ru, hl⟩ := hloc i self _ hN hv vis
  obtain rfl : u = Value.ref a := ru
  have hms : m self = some (.ref a) := by
    rcases hl with ⟨_, z⟩ | ⟨k, _⟩
    · exact z
    · rw [kA] at k
      rcases k with k | k <;> cases k
  refine PySem.ks_wpAt_Expr_any ?_ (by rw [henv]; simp [interactive, hk]) rfl
  refine PySem.ks_wpAt_MethodCall ?_ he
  refine PySem.ks_wpAt_super_base (f := f) (cc := cda) kS kC (by decide) (by rw [henv]) (KX _ _ hf) rfl hp (by rw [henv]) (KX _ _ hcode) rfl hvs (by rw [hP]; exact hfile) (by rw [hP]; exact T.top) ?_
  obtain ⟨mb, h1, h2⟩ := I.mod.blt
  refine PySem.W.ks_loadName_global kF kS (Calls.loadGlobal_builtin (by rw [I.ok.glob]; exact I.mod.glob.keeps I.bk) hm (by rw [I.ok.blt]; exact h1.keeps I.bk) ((h2 _ (by decide)).trans boot_super) ⟨rfl, ?_⟩)
  refine wpAny_loadName_free kF kC (c := cc) (by rw [henv]; rfl) ⟨_, KX _ _ hcell, rfl⟩ ?_
  rw [har]
  refine wpAny_loadName_local kF kA hns hms ?_
  refine PySem.ks_wpAny_isType_cls hD1 hD2 ⟨rfl, ?_⟩
  refine PySem.ks_wpAny_call_super hD1 hD2 ho rfl (fun c z => by cases z) (PySem.W.looks_mroIn KX T.sub) (fun h1 e1 k1 => ?_)
  have I1 : Inv X pins σ H { s with heap := h1, toks := s.toks } := I.kept k1
  have ho1 := k1 _ _ ho
  have hVE : PySem.W.Looks (model X.prog X.w) h1 (isInstance (.ref a) (.type "ValueError")) true := by
    have J : PySem.W.InstAt h1 a { cls := .ref C, dict := none, data := .fields #[.ref t1, .none, .none, .none, .bool false, .none] } C none := ⟨ho1, rfl, rfl, trivial⟩
    exact J.type.andThen (PySem.W.looks_subIn I1.kIn T.ve)
  have hne : a ≠ C := fun z => by
    rw [← z, ho] at hD1
    cases hD1
    cases hD2
  have hsup := T.sup
  unfold PySem.W.ks_superIn at hsup
  rw [hcd] at hsup
  refine PySem.W.kxs_getMethod PySem.W.kxs_ValueError e1 (PySem.W.looks_opaque I1.kIn T.third) (l₀ := cd.mro) ?_ rfl I1.kIn hsup hVE hne (by decide) ?_
  · exact fun A Q E s k q => wpAny_bind ((PySem.W.looks_clsIn I1.kIn hcd) A _ E s k (wpAny_pure q))
  have k2 : ∀ b o, h1.get? b = some o → (h1.push (PySem.W.kxs_mw "ValueError.__init__" a)).get? b = some o := fun b o z => Heap.get?_push_of_some _ z
  have I2 : Inv X pins σ H { s with heap := h1.push (PySem.W.kxs_mw "ValueError.__init__" a), toks := s.toks + 1 } := I1.kept k2
  have hmw : (h1.push (PySem.W.kxs_mw "ValueError.__init__" a)).get? h1.objs.size = some (PySem.W.kxs_mw "ValueError.__init__" a) := Heap.get?_push_at rfl rfl
  refine callWith_mw (x := a) (by rfl) (evalArgs_plain ?_)
  have hfr : H h1.objs.size = none := I1.hok.fresh (Nat.le_refl _)
  have I3 : Inv X ((h1.objs.size, PySem.W.kxs_mw "ValueError.__init__" a) :: pins) σ H { s with heap := h1.push (PySem.W.kxs_mw "ValueError.__init__" a), toks := s.toks + 1 } := I2.pins_of fun p hp => by
    rcases List.mem_cons.mp hp with rfl | hp
    · exact ⟨hmw, hfr, Nat.ne_of_gt I1.lt, I1.nofs (Nat.le_refl _), fun v z => by cases z⟩
    · exact I2.pin p (List.mem_append_right _ hp)
  refine Calls.spliced_cons (thn ((pe_str (X := X) (x := text) (j := j) (pos := p3)).run _ _ σ H (fun x H1 => x = .str text ∧ H1 = H) I3 ⟨rfl, rfl⟩) fun u2 s2 hu2 => ?_)
  obtain ⟨v2, H2, I4, r2, rfl, rfl⟩ := hu2
  refine Calls.spliced_nil ?_
  have hu4 := (I4.pin (h1.objs.size, PySem.W.kxs_mw "ValueError.__init__" a) (List.mem_append_right _ List.mem_cons_self)).1
  refine ⟨hu4, ?_⟩
  obtain ⟨t4, ho4⟩ := exo_at I4.hok e
  have I5 : Inv X pins σ H2 s2 := I4.pins_of fun p hp => I4.pin p (List.mem_append_right _ (List.mem_cons_of_mem _ hp))
  obtain ⟨h5, g5, d5, t5, os5⟩ := s2
  refine call_mw T.oex I5.kIn ho4 hu4 (by rw [sizeLine_eq]; show 1 ≤ _; omega) fun h' t' k e' => q _ ?_
  have J := I5.write (t' := t5) (x := a) (e := a) (o := exo a C none) (by rw [e]; exact True.intro) (.inl rfl) k ⟨_, e'⟩ (exo_ok e')
  have eu : upd H2 a (exo a C none) = H2 := by
    funext b
    by_cases hb : b = a
    · rw [hb, upd_same, e]
    · rw [upd_ne hb]
  rw [eu] at J
  exact J
end
end EX

set_option Elab.async false
set_option linter.all false
set_option maxRecDepth 100000
set_option maxHeartbeats 4000000
namespace EX
open PySem PySem.Spec PySem.Calls PyProof.Rows L2 NdefX
/-- such an __init__ as a nested def's words: its captured cell is the class's -/
abbrev iniF (name qual : Str) (params : Arguments) (body : List Stmt) (scope : Scope) (cc cda : Addr) : NF := ⟨name, qual, params, body, scope, [("__class__", cc)], cda⟩
def supSt (text : Str) (j : Nat) (p0 p1 p2 p3 p4 p5 : Pos) : Stmt := .Expr (.Call (.Attribute (.Call (.Name "super" p0) [] [] p1) "__init__" p2) [.Constant (.str text) j p3] [] p4) p5
section
variable {P : Program} {w : World} {K : PySem.W.Frag} {mg : Str → Option Value} {base : Heap} {CX : CXT} {k : Nat} {C cc cda f : Addr} {name qual text : Str} {params : Arguments} {scope : Scope} {rest : List Stmt} {dV kV doc pm ct oc : Value} {an od : Option Addr} {osl : Array (Option Value)}
  {N ps : List Str} {sp : Sp} {ar : Arg} {j : Nat} {p0 p1 p2 p3 p4 p5 : Pos}
/-- THE RULE for an __init__ that begins with super().__init__('..') -/
theorem fn_ofS (lk : K.lookup f = some ⟨oc, od, .func (PySem.W.ksFn name qual params (supSt text j p0 p1 p2 p3 p4 p5 :: rest) scope dV kV doc pm an (.ref cda) ct cc), osl⟩) (hcd : PySem.W.codeIn K (.ref cda) qual = true)
    (S : NScope N ps ["__class__"] scope) (T : SupC P K C cc cda f) (hm : mg "super" = none) (hp : (params.posonlyargs ++ params.args).head? = some ar) (hps : ps.head? = some ar.arg)
    (hks : scope.names.lookup ("super" : Str) = some .globalImplicit) (len : ∀ vs H Q E, sp vs H Q E → vs.length = ps.length)
    {pl : Sem Bool} (he : ∀ L : Addr, eval (.Call (.Attribute (.Call (.Name "super" p0) [] [] p1) "__init__" p2) [.Constant (.str text) j p3] [] p4) (PySem.W.envX qual scope L f (.ref cda) [("__class__", cc)]) = (do
      let ov ← attributeBase (.Call (.Name "super" p0) [] [] p1) "__init__" (PySem.W.envX qual scope L f (.ref cda) [("__class__", cc)]) (eval (.Call (.Name "super" p0) [] [] p1) (PySem.W.envX qual scope L f (.ref cda) [("__class__", cc)]))
      standAt p2.atName
      let (g, first) ← holding [ov] (getMethod ov "__init__" pl)
      callWith p4 g first (backTo p4 (starEach [.Constant (.str text) j p3] (PySem.W.envX qual scope L f (.ref cda) [("__class__", cc)]))) []))
    (hbody : ∀ (A : Around) (outer : List Env) (s : Shared) (H : Hp) (vs : List V) (Q : VK) (E : XK), sp vs H Q E → ∃ a, vs.head? = some (.ref a) ∧ H a = some (exo a C none) ∧
      ∃ t, PSs (ncx CX P w K mg base N (iniF name qual params (supSt text j p0 p1 p2 p3 p4 p5 :: rest) scope cc cda) f A outer s H E) rest t ∧ t { nx := fun _ H' => Q .non H', rt := Q } (startF N vs [some (.ref C)]) H) :
    FnOk P w K mg base CX (k + 1) f (PySem.W.ksFn name qual params (supSt text j p0 p1 p2 p3 p4 p5 :: rest) scope dV kV doc pm an (.ref cda) ct cc) ps sp := by
  refine ⟨len, fun A outer s H args us vs Q E hr e0 hb r hsp => ?_⟩
  have hl := len _ _ _ _ hsp
  have KX : K.In s.heap := e0.mod.kin.keeps fun b o e => (e0.bs b o e).1
  have lim : s.heap.NoLimit := e0.mod.nolimit.keeps fun b o e => (e0.bs b o e).1
  obtain ⟨cl, cld, csl, hcell⟩ := T.cell
  have hcb := e0.bs _ _ (e0.mod.kin _ _ hcell)
  have CA : CellsAt [(("__class__" : Str), cc)] ["__class__"] [some (V.ref C)] s.heap H := by
    have lk1 : ∀ {y : Str} {c : Addr}, ([(("__class__" : Str), cc)] : List (Str × Addr)).lookup y = some c → y = "__class__" ∧ c = cc := fun {y c} h => by
      by_cases e : y = "__class__"
      · subst e
        simp [List.lookup] at h
        exact ⟨rfl, h.symm⟩
      · have e2 : (y == ("__class__" : Str)) = false := by simpa using e
        simp [List.lookup, e2] at h
    refine ⟨rfl, fun y c h => ?_, fun x y c h1 h2 => (lk1 h1).1.trans (lk1 h2).1.symm, fun i y h => ?_⟩
    · obtain ⟨rfl, rfl⟩ := lk1 h
      exact ⟨hcb.2, _, _, hcb.1, rfl⟩
    · cases i with
      | zero =>
        cases h
        exact ⟨cc, by simp [List.lookup], fun v hv => by
          cases hv
          exact ⟨.ref C, rfl, _, hcb.1, rfl⟩⟩
      | succ i => cases h
  refine PySem.ks_codeAny_call_defAt (fd := PySem.W.ksFn name qual params (supSt text j p0 p1 p2 p3 p4 p5 :: rest) scope dV kV doc pm an (.ref cda) ct cc) (body := supSt text j p0 p1 p2 p3 p4 p5 :: rest) (binds := ps.zip us) hr.depth (KX _ _ lk) rfl lim (PySem.W.codeRec_of KX hcd) rfl hb S.nocell
    (fun ⟨n, _⟩ hy => S.par n (List.of_mem_zip hy).1) (fun h₁ hns kp => ?_) S.co S.gen S.kind
  obtain ⟨a, hva, ha, t, ht, hq⟩ := hbody A outer s H vs Q E hsp
  have I : Inv (ncx CX P w K mg base N (iniF name qual params (supSt text j p0 p1 p2 p3 p4 p5 :: rest) scope cc cda) f A outer s H E) [] (startF N vs [some (.ref C)]) H { s with heap := h₁, toks := s.toks + (ps.zip us).length } :=
    inv_startN S hr.hd e0 hl r CA hns kp
  have hN : N[0]? = some ar.arg := by
    have h1 : (N.take (ps.length + (["__class__"] : List Str).length))[0]? = some ar.arg := by
      rw [S.pre, List.getElem?_append_left (by cases ps with | nil => cases hps | cons => simp), ← List.head?_eq_getElem?]
      exact hps
    rw [List.getElem?_take_of_lt (by simp)] at h1
    exact h1
  have hv0 : (startF N vs [some (.ref C)])[0]? = some (some (V.ref a)) := by
    cases vs with
    | nil => cases hva
    | cons v vs =>
      cases hva
      rfl
  refine PySem.ks_wpAt_execs_cons ?_
  refine sup_first (X := ncx CX P w K mg base N (iniF name qual params (supSt text j p0 p1 p2 p3 p4 p5 :: rest) scope cc cda) f A outer s H E) (P := P) (L := s.heap.objs.size) (scope := scope) (qual := qual) (i := 0) (self := ar.arg) rfl T rfl hm lk hp rfl hks (S.frk _ (by simp)) (S.par _ (List.mem_of_mem_head? hps)) S.kind hN I hv0 ha (fun s' J => ?_) (he _)
  refine PySem.wpAt_of_wpAny (wpAny_mono (ht.run [] _ (startF N vs [some (.ref C)]) H _ J hq) (fun fl s' hs => ?_) fun e s' hs => hs)
  have fin : ∀ {σ' : L2.St} {H' : Hp} {v : V} {u : Value}, Inv (ncx CX P w K mg base N (iniF name qual params (supSt text j p0 p1 p2 p3 p4 p5 :: rest) scope cc cda) f A outer s H E) [] σ' H' s' → L2.RelV v u → Q v H' → CE outer P w H s Q u s' :=
    fun {σ' H' v u} J rv q => ⟨v, H', J.os, J.bare, J.base, J.hok, rv, q⟩
  cases fl with
  | ret u =>
    obtain ⟨v, σ', H', J, rv, q⟩ := hs
    exact fin J rv q
  | next =>
    obtain ⟨σ', H', J, q⟩ := hs
    exact fin (v := V.non) (u := Value.none) J rfl q
  | brk =>
    obtain ⟨_, _, _, q⟩ := hs
    exact False.elim q
  | cont =>
    obtain ⟨_, _, _, q⟩ := hs
    exact False.elim q
end
end EX

set_option Elab.async false
set_option linter.all false
set_option maxRecDepth 100000
set_option maxHeartbeats 4000000
namespace EX
open PySem PySem.Spec PySem.Calls PyProof.Rows L2 NdefX
/-- what such an __init__ of one field promises -/
def spIni1 (C : Addr) (fl : Str) : Sp := fun vs H Q _ => ∃ (a : Addr) (y : V), vs = [.ref a, y] ∧ H a = some (exo a C none) ∧ ∀ dx, H dx = none → dx ≠ a → Q .non (upd (upd H dx (exd dx [(fl, y)])) a (exo a C (some dx)))
def spIni2 (C : Addr) (f1 f2 : Str) : Sp := fun vs H Q _ => ∃ (a : Addr) (y z : V), vs = [.ref a, y, z] ∧ H a = some (exo a C none) ∧ ∀ dx, H dx = none → dx ≠ a → Q .non (upd (upd (upd H dx (exd dx [(f1, y)])) a (exo a C (some dx))) dx (exd dx [(f2, z), (f1, y)]))
def spIni0 (C : Addr) : Sp := fun vs H Q _ => ∃ (a : Addr), vs = [.ref a] ∧ H a = some (exo a C none) ∧ Q .non H
def setSt (self x fl : Str) (p1 p2 p3 p4 : Pos) : Stmt := .Assign [.Attribute (.Name self p1) fl p2] (.Name x p3) p4
section
variable {P : Program} {w : World} {K : PySem.W.Frag} {mg : Str → Option Value} {base : Heap} {CX : CXT} {k : Nat} {C cc cda f : Addr} {name qual text : Str} {params : Arguments} {scope : Scope} {dV kV doc pm ct oc : Value} {an od : Option Addr} {osl : Array (Option Value)}
  {self x y fl fl2 : Str} {ar : Arg} {j : Nat} {p0 p1 p2 p3 p4 p5 q1 q2 q3 q4 r1 r2 r3 r4 : Pos}
theorem ini1_ok (lk : K.lookup f = some ⟨oc, od, .func (PySem.W.ksFn name qual params [supSt text j p0 p1 p2 p3 p4 p5, setSt self x fl q1 q2 q3 q4] scope dV kV doc pm an (.ref cda) ct cc), osl⟩) (hcd : PySem.W.codeIn K (.ref cda) qual = true)
    (S : NScope [self, x, "__class__"] [self, x] ["__class__"] scope) (T : SupC P K C cc cda f) (hm : mg "super" = none) (hp : (params.posonlyargs ++ params.args).head? = some ar) (hps : ar.arg = self)
    (hks : scope.names.lookup ("super" : Str) = some .globalImplicit) (hno : PySem.W.findIn K (.ref C) fl = some none) (hd1 : (self == ("__debug__" : Str)) = false) (hd2 : (x == ("__debug__" : Str)) = false) (hd3 : (self == ("__classdict__" : Str)) = false) (hd4 : (x == ("__classdict__" : Str)) = false)
    {pl : Sem Bool} (he : ∀ L : Addr, eval (.Call (.Attribute (.Call (.Name "super" p0) [] [] p1) "__init__" p2) [.Constant (.str text) j p3] [] p4) (PySem.W.envX qual scope L f (.ref cda) [("__class__", cc)]) = (do
      let ov ← attributeBase (.Call (.Name "super" p0) [] [] p1) "__init__" (PySem.W.envX qual scope L f (.ref cda) [("__class__", cc)]) (eval (.Call (.Name "super" p0) [] [] p1) (PySem.W.envX qual scope L f (.ref cda) [("__class__", cc)]))
      standAt p2.atName
      let (g, first) ← holding [ov] (getMethod ov "__init__" pl)
      callWith p4 g first (backTo p4 (starEach [.Constant (.str text) j p3] (PySem.W.envX qual scope L f (.ref cda) [("__class__", cc)]))) [])) :
    FnOk P w K mg base CX (k + 1) f (PySem.W.ksFn name qual params [supSt text j p0 p1 p2 p3 p4 p5, setSt self x fl q1 q2 q3 q4] scope dV kV doc pm an (.ref cda) ct cc) [self, x] (spIni1 C fl) := by
  refine fn_ofS lk hcd S T hm hp (by rw [hps]; rfl) hks (fun vs H Q E h => ?_) he fun A outer s H vs Q E hsp => ?_
  · obtain ⟨a, y, rfl, _⟩ := h
    rfl
  · obtain ⟨a, y, rfl, ha, q⟩ := hsp
    refine ⟨a, rfl, ha, tOst K fl (tVar 0) (tVar 1), pss_one (ps_ost (X := ncx CX P w K mg base [self, x, "__class__"] _ f A outer s H E) (pe_var rfl (.inl (S.par self (by simp))) hd1 hd3) (pe_var rfl (.inl (S.par x (by simp))) hd2 hd4)), ?_⟩
    exact ⟨_, rfl, _, rfl, a, C, rfl, T.oex, hno, .inl ⟨ha, fun dx n ne => q dx n ne⟩⟩
end
end EX

set_option Elab.async false
set_option linter.all false
set_option maxRecDepth 100000
set_option maxHeartbeats 4000000
namespace DL
open PySem PySem.Spec PyProof.Rows L2 RZ EX

theorem wntS_ite {c : FC} {W : WX} {Dn : Ends} {w : Wd} {p : Prop} [Decidable p] {e : FR} (h : WntS c W Dn w (if p then e else .bad)) : p ∧ WntS c W Dn w e := by
  by_cases q : p
  · rw [if_pos q] at h
    exact ⟨q, h⟩
  · rw [if_neg q] at h
    exact h.elim
/-! ### raise -/
def mRaise (cn : Str) (mk : List D → Option (List (Str × D))) (mr : M (List D)) : SM := fun s z => match mr s z with
  | .ok ds z => (match mk ds with
    | some fs => .exc cn fs s z
    | none => .bad)
  | .exc c fs z => .exc c fs s z
  | .bad => .bad
def mk1 (fl : Str) : List D → Option (List (Str × D))
  | [d] => some [(fl, d)]
  | _ => none
theorem raise1_to {c : FC} {W : WX} {cn fl : Str} {C : Addr} {mr : M (List D)} {Dn : Ends} {σ : L2.St} {H : Hp} (hc : c.cl cn = some C) (q : tS c W (mRaise cn (mk1 fl) mr) Dn σ H) : tMkO C (spIni1 C fl) [] (tAF c W mr) σ H (fun cls d H' => W cls d σ H') := by
  obtain ⟨w, s, q⟩ := q
  unfold mRaise at q
  refine ⟨w, s, ?_⟩
  cases hm : mr w.sl w.z with
  | exc cn fs z =>
    rw [hm] at q
    exact WntS.err q
  | bad =>
    rw [hm] at q
    exact q
  | ok ds z =>
    rw [hm] at q
    intro H1 w1 s1 ez vs rs
    subst ez
    match ds, q with
    | [d], q =>
      simp only [mk1] at q
      simp only [Reps] at rs
      obtain ⟨y, ys, rfl, ry, rfl⟩ := rs
      refine ⟨by simp, fun a ha => ⟨a, y, rfl, upd_same, fun dx n ne => ?_⟩⟩
      have hdx : H1 dx = none := by
        rw [upd_ne ne] at n
        exact n
      refine ⟨rfl, dx, _, upd_same, by rw [upd_ne ne]; exact upd_same, hdx, ?_⟩
      have e : upd (del (upd (upd (upd H1 a (exo a C none)) dx (exd dx [(fl, y)])) a (exo a C (some dx))) a) dx (.xd [(fl, y)]) = upd H1 dx (.xd [(fl, y)]) := by
        funext b
        by_cases hb : b = dx
        · rw [hb, upd_same, upd_same]
        · rw [upd_ne hb, upd_ne hb]
          by_cases hb2 : b = a
          · rw [hb2, del_same, ha]
          · rw [del_ne hb2, upd_ne hb2, upd_ne hb, upd_ne hb2]
      rw [e]
      have st := s1.sr.fresh (.xd [(fl, y)]) hdx
      refine q C (some dx) σ _ _ hc st.sr (s1.trans st).lat ((s1.trans st).sl) rfl ⟨_, upd_same, ?_⟩
      simp only [RepF]
      exact ⟨y, [], rfl, Rep.le st.le ry, rfl⟩
    | [], q => exact q.elim
    | _ :: _ :: _, q => exact q.elim
section
variable {X : Cx} {c : FC} {W : WX} {e : Expr} {mr : M (List D)} {pos : Pos} {cn fl : Str} {C : Addr}
theorem ds_raise1 (hca : X.calm = true) (tk : Takes X W) (hc : c.cl cn = some C) (he : PMk X e (tMkO C (spIni1 C fl) [] (tAF c W mr))) : PS X (.Raise (some e) none pos) (tS c W (mRaise cn (mk1 fl) mr)) :=
  ps_imp (ps_raise hca tk he) fun _ _ _ q => raise1_to hc q
end

/-! ### try .. except C as e -/
def noXcp (s : Sl) : Bool := s.all fun x => match x with
  | .xcp _ _ => false
  | _ => true
theorem noXcp_at {s : Sl} (h : noXcp s = true) {i : Nat} {cn : Str} {fs : List (Str × D)} : s[i]? ≠ some (.xcp cn fs) := fun e => by
  have := List.all_eq_true.mp h _ (List.mem_of_getElem? e)
  cases this
theorem SR.xc {c : FC} {w : Wd} {σ : L2.St} {H : Hp} (s : SR c w σ H) (n : noXcp w.sl = true) (x : Option (Addr × Value × Option Addr)) : SR { c with xc := x } w σ H where
  sub := s.sub
  keep := s.keep
  slots := fun i sl e => by
    have q := s.slots i sl e
    cases sl with
    | xcp cn fs => exact absurd e (noXcp_at n)
    | none => trivial
    | sh d => exact q
    | own d => exact q
    | strm => exact q
    | slf cn fs => exact q
  dist := s.dist
  fmut := s.fmut
  chgd := s.chgd
  strm := s.strm
  fz0 := s.fz0
  len := s.len
  lkd := s.lkd
  lks := s.lks
/-- the end of the suite: the name is gone -/
def clrX (i : Nat) : FR → FR
  | .nx s z => if noXcp (s.set i .none) = true then .nx (s.set i .none) z else .bad
  | .rt d s z => if noXcp (s.set i .none) = true then .rt d (s.set i .none) z else .bad
  | .bk s z => if noXcp (s.set i .none) = true then .bk (s.set i .none) z else .bad
  | .ct s z => if noXcp (s.set i .none) = true then .ct (s.set i .none) z else .bad
  | _ => .bad
def mTry (i : Nat) (ctch : Str → Option Bool) (mb mh : SM) : SM := fun s z => match mb s z with
  | .exc cn fs s1 z1 => (match ctch cn with
    | some true => if noXcp s1 = true then clrX i (mh (s1.set i (.xcp cn fs)) z1) else .bad
    | some false => .exc cn fs s1 z1
    | none => .bad)
  | r => r
theorem SR.set_none {c : FC} {w : Wd} {σ : L2.St} {H : Hp} (s : SR c w σ H) (i : Nat) (v : Option V) : SR c { w with sl := w.sl.set i .none } (σ.set i v) H :=
  s.slots_to (by rw [List.length_set, List.length_set]; exact s.len) fun j x e n => by
    by_cases hj : i = j
    · subst hj
      by_cases hb : i < w.sl.length
      · rw [List.getElem?_set_self hb] at e
        exact absurd (Option.some.inj e).symm n
      · rw [List.getElem?_eq_none (by simpa using hb)] at e; cases e
    · rw [List.getElem?_set_ne hj] at e
      exact .inl ⟨e, List.getElem?_set_ne hj⟩
theorem SR.set_xcp {c : FC} {w : Wd} {σ : L2.St} {H : Hp} (s : SR c w σ H) (n : noXcp w.sl = true) {i : Nat} {a C : Addr} {cn : Str} {fs : List (Str × D)} {dd : Option Addr} (hc : c.cl cn = some C) (x : XD c.cl w.F fs dd) :
    SR { c with xc := some (a, .ref C, dd) } { w with sl := w.sl.set i (.xcp cn fs) } (σ.set i (some (.ref a))) H := by
  have n2 : noXcp (w.sl.set i .none) = true := by
    unfold noXcp at n ⊢
    rw [List.all_eq_true] at n ⊢
    intro y hy
    rcases List.mem_or_eq_of_mem_set hy with h | h
    · exact n y h
    · subst h; rfl
  have s2 := (s.set_none i (some (.ref a))).xc n2 (some (a, .ref C, dd))
  refine ⟨s2.sub, s2.keep, fun j x e => ?_, fun j k b hjk hj hk bj bk => ?_, s2.fmut, s2.chgd, s2.strm, s2.fz0, by rw [List.length_set, List.length_set]; exact s.len, s2.lkd, s2.lks⟩
  · have e : (w.sl.set i (.xcp cn fs))[j]? = some x := e
    by_cases hj : i = j
    · subst hj
      by_cases hb : i < w.sl.length
      · rw [List.getElem?_set_self hb] at e
        cases e
        exact ⟨a, C, dd, by rw [List.getElem?_set_self (by rw [← s.len]; exact hb)], rfl, hc, x⟩
      · rw [List.getElem?_eq_none (by simpa using hb)] at e; cases e
    · rw [List.getElem?_set_ne hj] at e
      exact s2.slots j x (by show (w.sl.set i .none)[j]? = _; rw [List.getElem?_set_ne hj]; exact e)
  · have key : ∀ j, OwnS (w.sl.set i (.xcp cn fs)) j → OwnS (w.sl.set i .none) j := fun j ⟨dj, hj⟩ => by
      by_cases z : i = j
      · subst z
        by_cases hb : i < w.sl.length
        · rw [List.getElem?_set_self hb] at hj; cases hj
        · rw [List.getElem?_eq_none (by simpa using hb)] at hj; cases hj
      · rw [List.getElem?_set_ne z] at hj
        exact ⟨dj, by rw [List.getElem?_set_ne z]; exact hj⟩
    exact s2.dist j k b hjk (key j hj) (key k hk) bj bk
theorem try_to {c : FC} {Wout : WX} {K : PySem.W.Frag} {cV : Value} {i : Nat} {ctch : Str → Option Bool} {mb mh : SM} {ts : Addr → Value → Option Addr → TS} {Dn : Ends} {σ : L2.St} {H : Hp}
    (hx : ∀ cn C b, ctch cn = some b → c.cl cn = some C → PySem.W.exmOne K (.ref C) cV = some b) (hts : ∀ (a C : Addr) (dd : Option Addr) Dn σ H, tS { c with xc := some (a, .ref C, dd) } W0 mh Dn σ H → ts a (.ref C) dd Dn σ H)
    (q : tS c Wout (mTry i ctch mb mh) Dn σ H) : tS c (wAs K cV i ts Wout Dn) mb Dn σ H := by
  obtain ⟨w, s, q⟩ := q
  refine ⟨w, s, ?_⟩
  unfold mTry at q
  cases hm : mb w.sl w.z with
  | nx s z => rw [hm] at q; exact q
  | rt d s z => rw [hm] at q; exact q
  | bk s z => rw [hm] at q; exact q
  | ct s z => rw [hm] at q; exact q
  | bad => rw [hm] at q; exact q
  | exc cn fs s1 z1 =>
    rw [hm] at q
    intro C dd σ' H' w' hc sr lt e1 e2 x
    subst e1 e2
    cases hct : ctch cn with
    | none => simp only [hct] at q; exact q.elim
    | some b =>
      refine ⟨b, hx cn C b hct hc, fun hb a ha => ?_, fun hb => ?_⟩
      · subst hb
        simp only [hct] at q
        by_cases hn : noXcp w'.sl = true
        · rw [if_pos hn] at q
          refine hts _ _ _ _ _ _ ⟨_, sr.set_xcp hn (i := i) hc x, ?_⟩
          show WntS _ W0 _ _ (mh (w'.sl.set i (.xcp cn fs)) w'.z)
          have back : ∀ {s2 : Sl} {σ2 : L2.St} {H2 : Hp} {w2 : Wd}, SR { c with xc := some (a, .ref C, dd) } w2 σ2 H2 → w2.sl = s2 → noXcp (s2.set i .none) = true → SR c { w2 with sl := s2.set i .none } (σ2.set i none) H2 := fun {s2 σ2 H2 w2} t e n => by
            subst e
            exact (t.set_none i none).xc n c.xc
          cases hh : mh (w'.sl.set i (.xcp cn fs)) w'.z with
          | nx s2 z2 =>
            rw [hh] at q
            obtain ⟨n, q⟩ := wntS_ite (by unfold clrX at q; exact q)
            · intro σ2 H2 w2 t l e3 e4
              exact q _ _ _ (back t e3 n) (lt.trans ⟨l.le, l.lk⟩) rfl e4
          | rt d s2 z2 =>
            rw [hh] at q
            obtain ⟨n, q⟩ := wntS_ite (by unfold clrX at q; exact q)
            · intro σ2 H2 w2 v t l e3 e4 r
              exact q _ _ _ v (back t e3 n) (lt.trans ⟨l.le, l.lk⟩) rfl e4 r
          | bk s2 z2 =>
            rw [hh] at q
            obtain ⟨n, q⟩ := wntS_ite (by unfold clrX at q; exact q)
            · intro σ2 H2 w2 t l e3 e4
              exact q _ _ _ (back t e3 n) (lt.trans ⟨l.le, l.lk⟩) rfl e4
          | ct s2 z2 =>
            rw [hh] at q
            obtain ⟨n, q⟩ := wntS_ite (by unfold clrX at q; exact q)
            · intro σ2 H2 w2 t l e3 e4
              exact q _ _ _ (back t e3 n) (lt.trans ⟨l.le, l.lk⟩) rfl e4
          | exc c2 f2 s2 z2 => rw [hh] at q; exact q.elim
          | bad => rw [hh] at q; exact q.elim
        · rw [if_neg hn] at q
          exact q.elim
      · subst hb
        simp only [hct] at q
        exact q C dd σ' H' w' hc sr lt rfl rfl x
/-! e.f in the suite -/
def mXf (i : Nat) (cn0 f : Str) : M D := fun s z => match s[i]? with
  | some (.xcp cn fs) => if cn = cn0 then mOpt (fs.lookup f) z else .bad
  | _ => .bad
theorem RepF.look {cl : Str → Option Addr} {F : Hp} {f : Str} {d : D} : ∀ {fs : List (Str × D)} {gs : List (Str × V)}, RepF cl F fs gs → fs.lookup f = some d → ∃ v, gs.lookup f = some v ∧ Rep cl F d v
  | [], gs, h, e => by cases e
  | (k, d') :: fs, gs, h, e => by
    simp only [RepF] at h
    obtain ⟨y, ys, rfl, r, h⟩ := h
    rw [List.lookup_cons] at e ⊢
    cases q : f == k with
    | true =>
      rw [q] at e
      cases e
      exact ⟨y, rfl, r⟩
    | false =>
      rw [q] at e
      exact RepF.look h e
theorem xf_to {c : FC} {W : WX} {i : Nat} {cn0 f : Str} {a C : Addr} {cls : Value} {d : Option Addr} {σ : L2.St} {H : Hp} {Q : VK} (hcl : c.cl cn0 = some C) (hx : c.xc = some (a, cls, d)) (q : tF c W (mXf i cn0 f) σ H Q) : tXf a cls d C f (tVar i) σ H Q := by
  obtain ⟨w, s, q⟩ := q
  unfold mXf at q
  split at q
  · rename_i cn fs hs
    obtain ⟨hcn, q3⟩ := wnt_ite q
    clear q
    subst hcn
    obtain ⟨a', C', dd, e1, e2, e3, e4⟩ := s.slots i _ hs
    rw [hx] at e2
    cases e2
    rw [hcl] at e3
    cases e3
    obtain ⟨v, hv, q2⟩ := wnt_opt s q3
    refine ⟨_, e1, rfl, rfl, ?_⟩
    cases d with
    | none =>
      rw [show fs = [] from e4] at hv
      cases hv
    | some dd =>
      obtain ⟨gs, f1, r⟩ := e4
      obtain ⟨u, hu, ru⟩ := r.look hv
      have hxd : H dd = some (.xd gs) := by
        rcases s.sub _ _ f1 with z | ⟨⟨_, z⟩, _⟩
        · exact z
        · cases z
      exact ⟨dd, gs, u, rfl, hxd, hu, q2.val s ru⟩
  · exact q.elim
end DL

set_option Elab.async false
set_option linter.all false
set_option maxRecDepth 100000
set_option maxHeartbeats 4000000
namespace DL
open PySem PySem.Spec PyProof.Rows L2 RZ

/-! ### the spring of draws -/
theorem SR.strm_ne {c : FC} {w : Wd} {σ : L2.St} {H : Hp} {sa la : Addr} (s : SR c w σ H) (e : c.st = some (sa, la)) : sa ≠ la := fun z => by
  obtain ⟨⟨h1, h2⟩, _⟩ := s.strm sa la e
  rw [z, h2] at h1
  have h3 := Option.some.inj h1
  injection h3 with h4
  cases hc : w.z.cells with
  | nil => rw [hc] at h4; cases h4
  | cons a r => rw [hc] at h4; cases h4
/-- one of the spring's objects written -/
theorem SR.strm_w {c : FC} {w : Wd} {σ : L2.St} {H : Hp} {sa la a : Addr} {o : HO} {z' : Z} (s : SR c w σ H) (e : c.st = some (sa, la)) (ha : a = sa ∨ a = la) (n : StrmR (upd H a o) sa la z') : SR c { w with z := z' } σ (upd H a o) := by
  obtain ⟨_, hc⟩ := s.strm sa la e
  have hm : a ∈ c.chg := by
    rw [hc]
    rcases ha with z | z
    · rw [z]; simp
    · rw [z]; simp
  have ne : ∀ {b : Addr}, b ∉ c.chg → b ≠ a := fun {b} h z => h (z ▸ hm)
  refine ⟨fun b u h => ?_, fun b u h m => ?_, fun i x h => ?_, s.dist, s.fmut, fun b m => ?_, fun sa' la' e' => ?_, s.fz0, s.len, fun p hp => ?_, fun b u o' h d e' => ?_⟩
  · have := ne (s.nomut h)
    rcases s.sub b u h with q | ⟨d, ob, q⟩
    · exact .inl (by rw [upd_ne this]; exact q)
    · exact .inr ⟨d, ob, by rw [upd_ne this]; exact q⟩
  · have := ne m
    rcases s.keep b u h m with q | ⟨ob, l, q⟩
    · exact .inl (by rw [upd_ne this]; exact q)
    · exact .inr ⟨ob, l, by rw [upd_ne this]; exact q⟩
  · have q := s.slots i x h
    cases x with
    | own d =>
      obtain ⟨b, q1, q2, q3, q4, q5⟩ := q
      exact ⟨b, q1, OwnR.le (Le.refl _) (fun o h => by rw [upd_ne (ne q5)]; exact h) q2, q3, q4, q5⟩
    | slf cn fs =>
      obtain ⟨b, dx, C, gs, q1, q2, q3, _⟩ := q
      rw [hc] at q3
      cases q3
    | none => trivial
    | sh d => exact q
    | strm => exact q
    | xcp cn fs => exact q
  · by_cases hb : b = a
    · exact ⟨o, by rw [hb]; exact upd_same⟩
    · obtain ⟨u, q⟩ := s.chgd b m
      exact ⟨u, by rw [upd_ne hb]; exact q⟩
  · rw [e] at e'
    cases e'
    exact ⟨n, hc⟩
  · obtain ⟨u, e1, e2, e3⟩ := s.lkd p hp
    exact ⟨u, e1, e2, by rw [upd_ne (ne (s.nomut e1))]; exact e3⟩
  · rw [upd_ne (ne (s.nomut h))] at e'
    exact s.lks b u o' h d e'
def Z.get (z : Z) : Nat → Option Int
  | 1 => some z.rest
  | 2 => some z.count
  | 3 => some z.mix
  | _ => none
def Z.put (z : Z) (j : Int) : Nat → Option Z
  | 1 => some { z with rest := j }
  | 2 => some { z with count := j }
  | 3 => some { z with mix := j }
  | _ => none
def mStrmI (i k : Nat) : M D := fun s z => match s[i]? with
  | some .strm => mOpt ((z.get k).map .int) z
  | _ => .bad
def mStrmNe (i : Nat) : M Bool := fun s z => match s[i]? with
  | some .strm => .ok (!z.cells.isEmpty) z
  | _ => .bad
def mStrmSet (i k : Nat) (m : M D) : SM := fun s z => match s[i]? with
  | some .strm => toFR s (m s z) fun d z => match d with
    | .int j => (match z.put j k with
      | some z => .nx s z
      | none => .bad)
    | _ => .bad
  | _ => .bad
def mStrmPop (i j : Nat) : SM := fun s z => match s[i]? with
  | some .strm => (match z.cells with
    | x :: r => .nx (s.set j (.sh (.int x))) { z with cells := r }
    | [] => .bad)
  | _ => .bad
section
variable {c : FC} {W : WX} {K : PySem.W.Frag} {i k : Nat} {me : M D}
theorem strmI_to {σ : L2.St} {H : Hp} {Q : VK} (q : tF c W (mStrmI i k) σ H Q) : tOp (rIxL K) (tVar i) (tC (.int k)) σ H Q := by
  obtain ⟨w, s, q⟩ := q
  unfold mStrmI at q
  split at q
  · rename_i hs
    obtain ⟨sa, la, e, e1⟩ := s.slots i _ hs
    obtain ⟨⟨h1, h2⟩, hc⟩ := s.strm sa la e
    obtain ⟨d, hd, q2⟩ := wnt_opt s q
    rw [Option.map_eq_some_iff] at hd
    obtain ⟨j, hj, rfl⟩ := hd
    refine ⟨_, e1, sa, _, _, .int j, rfl, rfl, SqL.of h1, ?_, q2.int s⟩
    match k, hj with
    | 1, hj => cases hj; rfl
    | 2, hj => cases hj; rfl
    | 3, hj => cases hj; rfl
  · exact q.elim
theorem strmSet_to {Dn : Ends} {σ : L2.St} {H : Hp} (q : tS c W (mStrmSet i k me) Dn σ H) : tAsg (tF c W me) (gSub (tVar i) (tC (.int k)) rSetL) Dn σ H := by
  obtain ⟨w, s, q⟩ := q
  unfold mStrmSet at q
  split at q
  · rename_i hs
    refine ⟨w, s, toFR_wnt q fun H1 w1 d s1 q v r => ?_⟩
    cases d with
    | int j =>
      have hs1 : w1.sl[i]? = some .strm := by rw [s1.sl]; exact hs
      obtain ⟨sa, la, e, e1⟩ := s1.sr.slots i _ hs1
      obtain ⟨⟨h1, h2⟩, hc⟩ := s1.sr.strm sa la e
      have hne := s1.sr.strm_ne e
      obtain rfl : v = .int j := by simpa [Rep] using r
      cases hp : w1.z.put j k with
      | none =>
        simp only [hp] at q
        exact q.elim
      | some z' =>
        simp only [hp] at q
        refine ⟨_, e1, sa, _, _, k, rfl, rfl, h1, ?_, q σ _ { w1 with z := z' } (s1.sr.strm_w (z' := z') e (.inl rfl) ⟨?_, ?_⟩) ⟨Le.refl _, rfl⟩ (by show w1.sl = _; rw [s1.sl]) rfl⟩
        · match k, hp with
          | 1, hp => rfl
          | 2, hp => rfl
          | 3, hp => rfl
        · rw [upd_same]
          match k, hp with
          | 1, hp => cases hp; rfl
          | 2, hp => cases hp; rfl
          | 3, hp => cases hp; rfl
        · rw [upd_ne (Ne.symm hne), h2]
          match k, hp with
          | 1, hp => cases hp; rfl
          | 2, hp => cases hp; rfl
          | 3, hp => cases hp; rfl
    | _ => exact q.elim
  · exact q.elim
theorem strmPop_to {j : Nat} {Dn : Ends} {σ : L2.St} {H : Hp} (q : tS c W (mStrmPop i j) Dn σ H) : tAsg (tBM K "list" rPopAt (tOp (rIxL K) (tVar i) (tC (.int 0))) (tCons (tC (.int 0)) tNil)) (gName j) Dn σ H := by
  obtain ⟨w, s, q⟩ := q
  unfold mStrmPop at q
  split at q
  · rename_i hs
    obtain ⟨sa, la, e, e1⟩ := s.slots i _ hs
    obtain ⟨⟨h1, h2⟩, hc⟩ := s.strm sa la e
    have hne := s.strm_ne e
    cases hz : w.z.cells with
    | nil =>
      simp only [hz] at q
      exact q.elim
    | cons x r =>
      simp only [hz] at q
      rw [hz] at h2
      refine ⟨_, e1, sa, _, _, .ref la, rfl, rfl, SqL.of h1, rfl, .inl ⟨rfl, _, SqL.of h2⟩, la, _, 0, 0, .int x, rfl, rfl, h2, by decide, by decide, ?_, rfl, ?_⟩
      · unfold seqIndex?
        simp
      · have s2 := s.strm_w (z' := { w.z with cells := r }) (o := .lst ((V.int x :: r.map V.int).eraseIdx 0)) e (.inr rfl) ⟨by rw [upd_ne hne]; exact h1, by rw [upd_same]; rfl⟩
        exact q _ _ _ (s2.set_sh (i := j) (d := .int x) (v := .int x) (by simp [Rep])) ⟨Le.refl _, rfl⟩ rfl rfl
  · exact q.elim
end
end DL

set_option Elab.async false
set_option linter.all false
set_option maxRecDepth 100000
set_option maxHeartbeats 4000000
namespace PySem
namespace EXK
open PySem.W PySem.Calls PyProof.Rows HandSPX
section
variable {M : Model} {A : Around} {E : Value → Shared → Prop} {h : Heap} {g : Array GenState} {d : Drawn} {t : Nat} {os : OsState}
variable {nm q : Str} {C N : Addr} {bs bm bmB : List Value} {hdct : Bool} {sn : List Str} {sub : List Value} {ab : Bool} {col : Option Bool} {dd : Option Addr} {k0 k1 k2 k3 k5 : Option Value} {B newId initId : String} {kw : List (Str × Value)}
theorem check_new_ownK (F : ExcBaseFacts B newId initId bmB) (hT : ∀ X : String, bm.contains (.type X) = bmB.contains (.type X)) {rest : List Value} {Q : Unit → Shared → Prop}
    (hC : h.get? C = some (excClassObj nm q C N bs bm hdct sn sub ab col dd k0 k1 k2 k3 k5 newId)) (hq : Q () ⟨h, g, d, t, os⟩) : wpAny M A (checkBuiltinCall newId ⟨.ref C :: rest, kw⟩) Q E ⟨h, g, d, t, os⟩ := by
  have hcont : (Value.ref C :: bm).contains (.type B) = true := by rw [List.contains_cons, hT, F.hasB, Bool.or_true]
  have hstar := F.noStar
  simp only [checkBuiltinCall, F.newKind, F.newSplit, F.newRow]
  repeat (first | refine wpAny_loadPart_at hC ?_ | (refine wpAny_isSubtype_exc hC ?_; rw [hcont]) | refine wpAny_staticBase_exc hC ?_ | refine wpAny_madeBy_exc hC ?_ | simp only [bne_self_eq_false, Bool.false_eq_true, if_false] | wp_step)
  exact hq
end
section
variable {prog : Program} {w : World} {A : Around} {E : Value → Shared → Prop} {R : Result → Shared → Prop} {h : Heap} {g : Array GenState} {d : Drawn} {t : Nat} {os : OsState}
variable {nm q : Str} {C N : Addr} {bs bm bmB : List Value} {hdct : Bool} {sn : List Str} {sub : List Value} {ab : Bool} {col : Option Bool} {dd : Option Addr} {k0 k1 k2 k3 k5 : Option Value} {B newId initId : String} {kw : List (Str × Value)}
theorem new_ownK (F : ExcBaseFacts B newId initId bmB) (hT : ∀ X : String, bm.contains (.type X) = bmB.contains (.type X)) {rest : List Value}
    (hC : h.get? C = some (excClassObj nm q C N bs bm hdct sn sub ab col dd k0 k1 k2 k3 k5 newId))
    (hq : R (.ok (.ret (.ref (h.objs.size + 1)))) ⟨(h.push { cls := .type "tuple", data := .seq rest.toArray }).push
      { cls := .ref C, data := .fields #[.ref h.objs.size, .none, .none, .none, .bool false, .none] }, g, d, t, os⟩) (hrest : rest.length ≤ sizeLine) :
    codeAny (model prog w) A (.builtin newId ⟨.ref C :: rest, kw⟩) R ⟨h, g, d, t, os⟩ := by
  have hends := F.ends
  have hcB : (Value.ref C :: bm).contains (.type B) = true := by rw [List.contains_cons, hT, F.hasB, Bool.or_true]
  have hcA : (Value.ref C :: bm).contains (.type "AttributeError") = false := by rw [List.contains_cons, hT, F.noAttr]; rfl
  have hcN : (Value.ref C :: bm).contains (.type "NameError") = false := by rw [List.contains_cons, hT, F.noName]; rfl
  refine codeAny_builtinAt F.entry ?_
  unfold Builtin.«BaseException.__new__»
  refine wpAt_bind ?_
  show wpAt _ _ _ (stack >>= _) _ _ _
  refine wpAt_bind (wpAt_stack fun p below => wpAt_of_wpAny ?_)
  wp_walk
  refine wpAt_of_wpAny ?_
  rw [F.owner]
  repeat (first | with_reducible refine wpAny_madeHere_exc F.canon hC ?_ | with_reducible refine wpAny_loadPart_at hC ?_ | (with_reducible refine wpAny_isSubtype_exc hC ?_; first | rw [hcB] | rw [hcA] | rw [hcN]) | wp_step)
  show R _ _
  rw [Heap.size_push]
  exact hq
theorem type_call_ownK (F : ExcBaseFacts B newId initId bmB) (hT : ∀ X : String, bm.contains (.type X) = bmB.contains (.type X)) {rest : List Value} {fI : Addr} {Q : Fin → Shared → Prop}
    (hC : h.get? C = some (excClassObj nm q C N bs bm hdct sn sub ab col dd k0 k1 k2 k3 k5 newId))
    (hi : W.Looks (model prog w) h (typeLookup (.ref C) "__init__") (some (.ref fI))) (hb : ∀ self, W.Looks (model prog w) h (bindSpecial (.ref fI) self) (.ref fI, [self])) (hrest : rest.length ≤ sizeLine)
    (hq : codeAny (model prog w) A (.call (.ref fI) ⟨.ref (h.objs.size + 1) :: rest, kw⟩)
      (fun r s' => match r with | .ok (.ret v) => v = .none ∧ Q (.done (.ret (.ref (h.objs.size + 1)))) s' | .ok _ => False | .error e => E e s')
      ⟨(h.push (W.kdv_tup rest)).push (excO C h.objs.size), g, d, t, os⟩) :
    wpAny (model prog w) A (Builtin.«type.__call__» ⟨.ref C :: rest, kw⟩) Q E ⟨h, g, d, t, os⟩ := by
  repeat (first | with_reducible refine wpAny_loadPart_at hC ?_ | with_reducible refine wpAny_madeBy_exc hC ?_ | wp_step)
  refine codeAny_call_builtin_code (Code.quiet_builtin _ F.quiet) (check_new_ownK F hT hC ?_)
  refine new_ownK F hT hC ?_ hrest
  show wpAny _ _ _ _ _ _
  have k : ∀ b o, h.get? b = some o → ((h.push (W.kdv_tup rest)).push (excO C h.objs.size)).get? b = some o := fun b o e => Heap.get?_push_of_some _ (Heap.get?_push_of_some _ e)
  have hC₁ := k _ _ hC
  have hget : ((h.push (W.kdv_tup rest)).push (excO C h.objs.size)).get? (h.objs.size + 1) = some (excO C h.objs.size) := by heap_get
  have hcC : (Value.ref C :: bm).contains (.ref C) = true := by simp
  have i1 := hi.keeps k
  have b1 := (hb (.ref (h.objs.size + 1))).keeps k
  unfold isInstance
  repeat (first | with_reducible refine wpAny_loadPart_at hget ?_ | (with_reducible refine wpAny_isSubtype_exc hC₁ ?_; rw [hcC]) | wp_step)
  show wpAny _ _ (typeLookup (.ref C) _) _ _ _
  refine i1.at ?_
  refine wpAny_holding (wpAny_bind (b1.at ?_))
  refine wpAny_bind (wpAny_call (codeAny_mono hq fun r s' z => ?_))
  rcases r with e | (v | _ | _ | _) <;> first | exact z | exact z.elim | skip
  obtain ⟨rfl, z⟩ := z
  first
    | exact wpAny_pure (wpAny_pure z)
    | (wp_walk; exact z)
theorem call_ownK (F : ExcBaseFacts B newId initId bmB) (hT : ∀ X : String, bm.contains (.type X) = bmB.contains (.type X)) {rest : List Value} {fI : Addr}
    (hC : h.get? C = some (excClassObj nm q C N bs bm hdct sn sub ab col dd k0 k1 k2 k3 k5 newId))
    (hi : W.Looks (model prog w) h (typeLookup (.ref C) "__init__") (some (.ref fI))) (hb : ∀ self, W.Looks (model prog w) h (bindSpecial (.ref fI) self) (.ref fI, [self])) (hrest : rest.length ≤ sizeLine)
    (hq : codeAny (model prog w) (A.under (.builtin "type.__call__" ⟨.ref C :: rest, kw⟩)) (.call (.ref fI) ⟨.ref (h.objs.size + 1) :: rest, kw⟩) (W.InitBack (h.objs.size + 1) R)
      ⟨(h.push (W.kdv_tup rest)).push (excO C h.objs.size), g, d, t, os⟩) :
    codeAny (model prog w) A (.call (.ref C) ⟨rest, kw⟩) R ⟨h, g, d, t, os⟩ := by
  have f1 := tc_lookup
  have f2 := tc_bind (.ref C)
  have hTy : (⟨h, g, d, t, os⟩ : Shared).TypeIs (.ref C) "type" := ⟨_, hC, rfl⟩
  refine codeAny_of_tree ?_
  show wpAny _ _ (callAny (.ref C) _) _ _ _
  repeat (any_goals (first | assumption | with_reducible refine wpAny_loadPart_at hC ?_ | wp_step))
  refine ⟨rfl, ?_⟩
  refine codeAny_call_builtin_at (Code.quiet_builtin _ (by decide +kernel)) entry_typeCall (wpAny_check_type_call_sub hC (type_call_ownK F hT hC hi hb hrest ?_))
  refine codeAny_mono hq fun r s' z => ?_
  rcases r with e | (v | _ | _ | _) <;> exact z
end
end EXK
end PySem

set_option Elab.async false
set_option linter.all false
set_option maxRecDepth 100000
set_option maxHeartbeats 4000000
namespace EX
open PySem PySem.Spec PySem.Calls PyProof.Rows L2 NdefX
/-! ### an exception made as a value -/
section
variable {X : Cx} {CX : CXT} {k : Nat} {C fI : Addr} {fd : FuncData} {ps ks : List Str} {sp : Sp} {x : Str} {p pos : Pos} {e : Expr} {es : List Expr} {kws : List Keyword} {t tk : TA}
theorem run_mkE {pins : List (Addr × Obj)} {σ : L2.St} {H : Hp} {s : Shared} {Q : VK} {us us2 : List Value} {kw : List (Str × Value)} {vs : List V} (T : OexC X.K C) (iC : PySem.W.findIn X.K (.ref C) "__init__" = some (some (.ref fI))) (tI : PySem.W.typeIn X.K (.ref fI) = some (.type "function"))
    (F1 : FnOk X.prog X.w X.K X.mg X.base CX k fI fd ps sp) (hr : Room (k + 1) X.A) (hb : ∀ (s : Shared) (u : Value), X.K.In s.heap → BindsTo s fd ⟨u :: us, kw⟩ (ps.zip (u :: us2))) (hx : Passes CX X (fun _ _ _ => False)) (I : Inv X pins σ H s) (r : Vals vs us2) (hus : us.length ≤ sizeLine)
    (h : ∀ a, H a = none → sp (.ref a :: vs) (upd H a (exo a C none)) (fun v H2 => v = .non ∧ Q (.ref a) H2) (fun _ _ _ => False)) : wpAny (model X.prog X.w) X.A (call (.ref C) us kw) (EP X pins σ Q) X.xe s := by
  obtain ⟨nm, q, N, bs, bm, sn, sub, ab, col, dd, k0, k1, k2, k3, k5, hC, hbm⟩ := T.cls
  obtain ⟨hp, g, dr, tk, os⟩ := s
  have hsz : hp.objs.size ≤ hp.objs.size + 1 := Nat.le_succ _
  have hn : H (hp.objs.size + 1) = none := I.hok.fresh hsz
  have hq := h (hp.objs.size + 1) hn
  have kk : ∀ b o, hp.get? b = some o → ((hp.push (PySem.W.kdv_tup us)).push (PySem.HandSPX.excO C hp.objs.size)).get? b = some o := fun b o e => Heap.get?_push_of_some _ (Heap.get?_push_of_some _ e)
  have hget : ((hp.push (PySem.W.kdv_tup us)).push (PySem.HandSPX.excO C hp.objs.size)).get? (hp.objs.size + 1) = some (PySem.HandSPX.excO C hp.objs.size) := by heap_get
  have I2 : Inv X pins σ (upd H (hp.objs.size + 1) (exo (hp.objs.size + 1) C none)) ⟨(hp.push (PySem.W.kdv_tup us)).push (PySem.HandSPX.excO C hp.objs.size), g, dr, tk, os⟩ :=
    I.laid (t' := tk) (a := hp.objs.size + 1) (o := exo (hp.objs.size + 1) C none) (h' := (hp.push (PySem.W.kdv_tup us)).push (PySem.HandSPX.excO C hp.objs.size)) kk hsz (exo_ok hget)
  have r2 : Vals (V.ref (hp.objs.size + 1) :: vs) (Value.ref (hp.objs.size + 1) :: us2) := .cons rfl r
  refine wpAny_call (PySem.EXK.call_ownK F.excBase_ValueError (fun Y => PySem.HandSPX.refsVE_contains Y bm hbm) (I.kIn _ _ hC) (PySem.W.looks_findIn I.kIn iC) (fun self => PySem.W.bind_fn I.kIn self tI) hus
    (codeAny_mono (F1.run _ X.stack _ _ ⟨Value.ref (hp.objs.size + 1) :: us, kw⟩ (Value.ref (hp.objs.size + 1) :: us2) _ _ (fun _ _ _ => False) (hr.make C us kw) (I2.env0.make C us kw) (hb _ _ I2.kIn) r2 hq) fun r s' hq' => ?_))
  cases r with
  | error er => exact hx pins σ _ _ er s' I2 hq'
  | ok fl =>
    cases fl with
    | ret u =>
      obtain ⟨v, H', I3, rv, ev, q3⟩ := I2.after hq'
      subst ev
      exact ⟨rv, ⟨V.ref (hp.objs.size + 1), H', I3, rfl, q3⟩⟩
    | next => exact False.elim hq'
    | brk => exact False.elim hq'
    | cont => exact False.elim hq'
/-- C(e, ..) -/
def tMkV (C : Addr) (sp : Sp) (t : TA) : TE := fun σ H Q => t σ H fun vs H1 => vs.length ≤ 1000 ∧ ∀ a, H1 a = none → sp (.ref a :: vs) (upd H1 a (exo a C none)) (fun v H2 => v = .non ∧ Q (.ref a) H2) (fun _ _ _ => False)
theorem pe_mkE (T : OexC X.K C) (iC : PySem.W.findIn X.K (.ref C) "__init__" = some (some (.ref fI))) (tI : PySem.W.typeIn X.K (.ref fI) = some (.type "function")) (F1 : FnOk X.prog X.w X.K X.mg X.base CX k fI fd ps sp) (hr : Room (k + 1) X.A) (hb : Binds X.K fd ps [])
    (hx : Passes CX X (fun _ _ _ => False)) (hg : Gl X x) (hm : X.mg x = some (.ref C)) (ha : PA X (e :: es) t) (hl : ∀ vs H Q E, sp vs H Q E → vs.length = ps.length)
    (hdb : (x == ("__debug__" : Str)) = false := by decide) (he : starEach (e :: es) X.env = (false, eval e X.env) :: starEach es X.env := by rfl) (hpl : (backTo pos (starEach es X.env)).any (·.1) = false := by rfl) : PE X (.Call (.Name x p) (e :: es) [] pos) (tMkV C sp t) := by
  refine ⟨fun pins s σ H Q I h => ?_⟩
  refine wpAny_Call_Name_kw (ld_glob I hg hm ?_ hdb)
  refine PySem.W.callWith_K (h₀ := X.base) I.ok.mod.kin T.kC (thn (ha.run pos pins s σ H _ I h) fun us s1 ⟨vs, H1, I1, r1, hz, q1⟩ => ⟨I1.kIn, ?_⟩) he hpl
  have len : us.length + 1 = ps.length := by
    have := hl _ _ _ _ (q1 _ (I1.hok.fresh (Nat.le_refl _)))
    rw [List.length_cons, r1.length] at this
    exact this
  have hus : us.length ≤ sizeLine := by rw [← r1.length, sizeLine_eq]; omega
  refine run_mkE T iC tI F1 hr (fun s u X => ?_) hx I1 r1 hus q1
  have b := hb s (u :: us) X (by rw [List.append_nil, List.length_cons]; exact len)
  rw [List.append_nil] at b
  exact b
/-- C() -/
theorem pe_mkE0 (T : OexC X.K C) (iC : PySem.W.findIn X.K (.ref C) "__init__" = some (some (.ref fI))) (tI : PySem.W.typeIn X.K (.ref fI) = some (.type "function")) (F1 : FnOk X.prog X.w X.K X.mg X.base CX k fI fd ps sp) (hr : Room (k + 1) X.A) (hb : Binds X.K fd ps [])
    (hx : Passes CX X (fun _ _ _ => False)) (hg : Gl X x) (hm : X.mg x = some (.ref C)) (hl : ps.length = 1)
    (hdb : (x == ("__debug__" : Str)) = false := by decide) : PE X (.Call (.Name x p) [] [] pos) (tMkV C sp tNil) := by
  refine ⟨fun pins s σ H Q I h => ?_⟩
  refine wpAny_Call_Name_kw (ld_glob I hg hm ?_ hdb)
  refine PySem.W.callWith_K0 I.kIn T.kC (run_mkE (us := []) (us2 := []) (vs := []) T iC tI F1 hr (fun s u X => ?_) hx I .nil (by simp) h.2)
  have b := hb s [u] X (by rw [List.append_nil]; exact hl.symm)
  rw [List.append_nil] at b
  exact b
/-- C(k = v, ..), the keywords in the parameters' order -/
theorem pe_mkEK (T : OexC X.K C) (iC : PySem.W.findIn X.K (.ref C) "__init__" = some (some (.ref fI))) (tI : PySem.W.typeIn X.K (.ref fI) = some (.type "function")) (F1 : FnOk X.prog X.w X.K X.mg X.base CX k fI fd ps sp) (hr : Room (k + 1) X.A)
    (hb : ∀ (s : Shared) (u : Value) (ws : List Value), ws.length = ks.length → BindsTo s fd ⟨[u], ks.zip ws⟩ (ps.zip (u :: ws))) (hx : Passes CX X (fun _ _ _ => False)) (hg : Gl X x) (hm : X.mg x = some (.ref C)) (hkw : PK X kws tk) (hl : ∀ vs H Q E, sp vs H Q E → vs.length = ps.length) (hpk : ps.length = ks.length + 1)
    (hall : (backToKw pos (keywordEach kws X.env)).all (·.1.isSome) = true := by rfl) (hks : (backToKw pos (keywordEach kws X.env)).filterMap (·.1) = ks := by rfl) (hdb : (x == ("__debug__" : Str)) = false := by decide)
    (hpl : ((backTo pos (starEach [] X.env)).any (·.1) || (backToKw pos (keywordEach kws X.env)).any (·.1.isNone)) = false := by rfl) :
    PE X (.Call (.Name x p) [] kws pos) (tMkV C sp tk) := by
  refine ⟨fun pins s σ H Q I h => ?_⟩
  refine wpAny_Call_Name_kw (ld_glob I hg hm ?_ hdb)
  refine PySem.W.callWith_KW0 (h₀ := X.base) I.ok.mod.kin T.kC hall ?_ hpl
  refine thn (hkw.run pos pins s σ H _ I h) fun ws s2 ⟨zs, H2, I2, rz, hz, q2⟩ => ⟨I2.kIn, ?_⟩
  rw [hks]
  have len : ws.length = ks.length := by
    have := hl _ _ _ _ (q2 _ (I2.hok.fresh (Nat.le_refl _)))
    rw [List.length_cons, rz.length] at this
    omega
  exact run_mkE (us := []) T iC tI F1 hr (fun s u _ => hb s u ws len) hx I2 rz (by simp) q2
/-- C(), C without an own __init__ -/
theorem pe_mkE00 {bmB : List Value} {newId : String} (q : PySem.W.excIn X.K C bmB newId = true) (F : ExcBaseFacts "ValueError" newId "ValueError.__init__" bmB) (kC : PySem.W.keepIn X.K (.ref C) = true) (hg : Gl X x) (hm : X.mg x = some (.ref C)) (hdb : (x == ("__debug__" : Str)) = false := by decide) :
    PE X (.Call (.Name x p) [] [] pos) (fun _ H Q => ∀ a, H a = none → Q (.ref a) (upd H a (exo a C none))) := by
  refine ⟨fun pins s σ H Q I h => ?_⟩
  refine wpAny_Call_Name_kw (ld_glob I hg hm ?_ hdb)
  refine PySem.W.callWith_K0 I.kIn kC ?_
  obtain ⟨bm, N, nm, qn, bs, hdct, sn, sub, ab, col, dd, k0, k1, k2, k3, k5, mN, hC, hN, hni, T⟩ := exc_obj I.kIn q
  refine wpAny_call_exc_subT F T hC hN hni (fun h' a hm => ?_) (by simp)
  have hn : H a = none := I.hok.gone hm.new
  obtain ⟨t, ht, _, _⟩ := hm.there
  exact ⟨.ref a, upd H a (exo a C none), I.laidN hm.keeps hm.new hn (exo_ok ht), rfl, h a hn⟩

/-! ### an exception's field, its class -/
structure ExV (K : PySem.W.Frag) (C : Addr) : Prop where
  xf : XfC K C
  ex : ExcC K C
/-- e.f, e an exception object -/
def tEf (K : PySem.W.Frag) (f : Str) (te : TE) : TE := fun σ H Q => te σ H fun x H1 => ∃ (a C dx : Addr) (fs : List (Str × V)) (v : V), x = .ref a ∧ H1 a = some (exo a C (some dx)) ∧ H1 dx = some (exd dx fs) ∧ XfC K C ∧ PySem.W.findIn K (.ref C) f = some none ∧ fs.lookup f = some v ∧ Q v H1
theorem pe_ef {te : TE} {n : Str} (he : PE X e te) (hb : attributeBase e n X.env (eval e X.env) = eval e X.env := by rfl) : PE X (.Attribute e n pos) (tEf X.K n te) := by
  refine ⟨fun pins s σ H Q I h => ?_⟩
  refine attr_of hb (thn (he.run pins s σ H _ I h) fun u s1 hh => ?_)
  obtain ⟨x, H1, I1, rx, a, C, dx, fs, v, ex, ea, ed, T, hno, l, q⟩ := hh
  subst ex
  obtain rfl : u = Value.ref a := rx
  obtain ⟨t1, ho1⟩ := exo_at I1.hok ea
  obtain ⟨mA, hns, hr⟩ := exd_at I1.hok ed
  obtain ⟨od, ho, hl⟩ := lookIn_ns hns
  obtain ⟨u, hu, ru⟩ := RelO.some_of (v := v) (o := mA n) (by rw [← l]; exact hr n)
  have J : PySem.W.InstAt s1.heap a { cls := .ref C, dict := some dx, data := .fields #[.ref t1, .none, .none, .none, .bool false, .none] } C (some od) := ⟨ho1, rfl, rfl, ho⟩
  exact HandSPX.exc_get I1.kIn J T.ga T.gg T.exC (PySem.W.findObj_own T.hdC hno rfl (by rw [hl, hu])) (handed_of ru) ⟨v, H1, I1.tok _, ru, q⟩
end
end EX

set_option Elab.async false
set_option linter.all false
set_option maxRecDepth 100000
set_option maxHeartbeats 4000000
namespace PySem
namespace W
open PySem PySem.Spec PySem.Calls PyProof.Rows
section
variable {prog : Program} {w : World} {A : Around} {E : Value → Shared → Prop} {s : Shared} {K : Frag} {x D : Addr} {ox : Obj} {od : Option Obj}
theorem findObj_dataA {C : Addr} {name : Str} {a g : Value} (hc : (clsIn K C).isSome = true) (ha : findIn K (.ref C) name = some (some a)) (hg : specialIn K a "__get__" = some (some g)) (ht : takesIn K a = some true) : findObj K C od name = some (.bind g a) := by
  cases od with
  | none => exact findObj_dataN hc ha hg ht
  | some o => exact findObj_data hc ha hg ht
theorem exv_class {Q : Option Value → Shared → Prop} (hga : findIn K (.ref D) "__getattribute__" = some (some (.builtin "BaseException.__getattribute__"))) (hgt : findIn K (.ref D) "__getattr__" = some none) (hsub : subIn K (.ref D) (.type "BaseException") = some true)
    (hdct : hasDictIn K D = true) (ha : findIn K (.ref D) "__class__" = some (some (.builtin "object.__class__")))
    (hn : specialIn K (.builtin "object.__class__") "__get__" = some (some (.builtin "getset_descriptor.__get__"))) (htk : takesIn K (.builtin "object.__class__") = some true) (hm : mroIn K D (.type "object") = some true)
    (X : K.In s.heap) (I : InstAt s.heap x ox D od) (h : Q (some (.ref D)) { s with toks := s.toks + 1 }) : wpAny (model prog w) A (getAttr? (.ref x) "__class__") Q E s := by
  have hf : findObj K D od "__class__" = some (.bind (.builtin "getset_descriptor.__get__") (.builtin "object.__class__")) := findObj_dataA (by obtain ⟨cd, hc, _⟩ := any_some hdct; rw [hc]; rfl) ha hn htk
  obtain ⟨hp, g, d, t, os⟩ := s
  have L0 := I.type (M := model prog w)
  have L1 := looks_findIn (M := model prog w) X hga
  have L2 := looks_findIn (M := model prog w) X hgt
  have L3 := looks_find (M := model prog w) X I hf
  have sub : Looks (model prog w) hp (isInstance (.ref x) (.type "BaseException")) true := L0.andThen (looks_subIn X hsub)
  have hx0 : (false && onTheHeap (Value.builtin "BaseException.__getattribute__")) = false := rfl
  have hx2 : (Value.builtin "BaseException.__getattribute__" == Value.builtin "object.__getattribute__") = false := by decide +kernel
  have hx1 : (onTheHeap (Value.ref D) && Value.builtin "BaseException.__getattribute__" == Value.builtin "object.__getattribute__") = false := by rw [hx2]; rfl
  unfold getAttr? getAttrBy? getAttrBy
  refine wpAny_bind (wpAny_mkText (wpAny_bind (wpAny_attempt (wpAny_holding (wpAny_bind (L0.at (wpAny_bind (L1.at ?_))))))))
  show wpAny _ _ (if (onTheHeap (Value.ref D) && Value.builtin "BaseException.__getattribute__" == Value.builtin "object.__getattribute__") = true then _ else _) _ _ _
  rw [hx1, if_neg Bool.false_ne_true]
  unfold getAttrByItsOwn hookBefore
  refine wpAny_bind ?_
  rw [if_pos (show onTheHeap (Value.ref D) = true from rfl)]
  refine L2.at ?_
  refine wpAny_bind (wpAny_attempt (wpAny_holding ?_))
  unfold callGetattribute
  rw [hx0, if_neg Bool.false_ne_true]
  unfold boundAndCalled
  rw [PySem.F.excAttr_ValueError.ga.bind (.ref x)]
  refine wpAny_bind (wpAny_pure ?_)
  show wpAny _ _ (call (.builtin "BaseException.__getattribute__") [.ref x, .str "__class__" t]) _ _ _
  refine wpAny_call (codeAny_call_builtin PySem.F.excAttr_ValueError.ga.plain PySem.F.entry_bexc_ga ?_)
  refine @check_slot (model prog w) _ _ ⟨hp, g, d, t + 1, os⟩ "BaseException.__getattribute__" "BaseException" "__getattribute__" (.ref x) [.str "__class__" t] [] _ (by decide +kernel) (by decide +kernel) sub (PySem.F.args_bexc_ga (.ref x) (.str "__class__" t)) ?_
  unfold Builtin.«object.__getattribute__»
  refine wpAny_bind (wpAny_of_eq (a := ((Value.ref x : Value), [Value.str "__class__" t])) (by first | rfl | (simp only [slotArgs]; rfl)) ?_)
  refine wpAny_bind (wpAny_pure (wpAny_bind (L0.at (wpAny_bind (L3.at ?_)))))
  show wpAny _ _ (holding [Value.builtin "object.__class__"] (call (.builtin "getset_descriptor.__get__") [.builtin "object.__class__", .ref x, .ref D]) >>= ret) _ _ _
  refine wpAny_bind (wpAny_holding (wpAny_call (class_get (s := ⟨hp, g, d, t + 1, os⟩) (ox := ox) (od := od) X I hm ?_)))
  refine wpAny_pure ?_
  show wpAny _ _ (handedOut (.ref D)) _ _ _
  rw [handedOut_of (v := .ref D) rfl]
  first
    | exact wpAny_pure (wpAny_pure h)
    | exact wpAny_pure h
    | exact wpAny_pure (wpAny_bind (wpAny_pure (wpAny_pure h)))
theorem exv_kit (hga : findIn K (.ref D) "__getattribute__" = some (some (.builtin "BaseException.__getattribute__"))) (hgt : findIn K (.ref D) "__getattr__" = some none) (hsub : subIn K (.ref D) (.type "BaseException") = some true) (hdct : hasDictIn K D = true) (ha : findIn K (.ref D) "__class__" = some (some (.builtin "object.__class__")))
    (hn : specialIn K (.builtin "object.__class__") "__get__" = some (some (.builtin "getset_descriptor.__get__"))) (htk : takesIn K (.builtin "object.__class__") = some true) (hm : mroIn K D (.type "object") = some true) :
    KitX K (.ref x) (.ref D) (fun h => ∃ ox od, InstAt h x ox D od) where
  ty := fun _ _ _ ⟨_, _, I⟩ => I.type
  it := fun _ _ X _ => by
    obtain ⟨cdD, hcD, _⟩ := any_some hdct
    unfold clsIn at hcD
    split at hcD
    · rename_i c' d' cd' sl' ho
      intro A' Q' E' s' k q
      unfold isType loadHead
      exact wpAny_bind (wpAny_loadPart (k _ _ (X _ _ ho)) (wpAny_pure q))
    · cases hcD
  ne := fun h tp dd its n sl X htp => by
    obtain ⟨cdD, hcD, _⟩ := any_some hdct
    refine Bool.eq_false_iff.mpr fun q => ?_
    have e : D = tp := Value.ref.inj (beq_iff_eq.mp q)
    subst e
    unfold clsIn at hcD
    split at hcD
    · rename_i c' d' cd' sl' ho
      have z := (X _ _ ho).symm.trans htp
      cases z
    · cases hcD
  ca := fun X ⟨ox, od, I⟩ k => exv_class hga hgt hsub hdct ha hn htk hm X I k
end
end W
end PySem
namespace EX
open PySem PySem.Spec PySem.Calls PyProof.Rows L2
/-- isinstance(e, c), e an exception object -/
def rIsV (K : PySem.W.Frag) : List V → Hp → VK → Prop := fun xs H Q => ∃ (a C : Addr) (dO : Option Addr) (fs : List (Str × V)) (cv : V) (u : Value) (b : Bool), xs = [.ref a, cv] ∧ H a = some (exo a C dO) ∧ (∀ dx, dO = some dx → H dx = some (exd dx fs)) ∧ ExcC K C ∧ ClsV cv u ∧ PySem.W.kitOne K (.ref C) u = some b ∧ Q (.bl b) H
theorem call_isV {X : Cx} : CallR X (.builtin "isinstance") (rIsV X.K) := by
  intro pins s σ H xs us Q I r h
  obtain ⟨a, C, dO, fs, cv, u, b, rfl, ea, ed, T, k, e, q⟩ := h
  obtain ⟨u1, u2, rfl, r1, r2⟩ := vals2 r
  have e2 := k.eq r2
  subst e2
  obtain rfl : u1 = Value.ref a := r1
  obtain ⟨t1, ho⟩ := exo_at I.hok ea
  have J : ∃ ox od, PySem.W.InstAt s.heap a ox C od := by
    cases dO with
    | none => exact ⟨_, none, ho, rfl, rfl, trivial⟩
    | some dx =>
      obtain ⟨mA, ⟨oD, es, ep, hoD, _⟩, _⟩ := exd_at I.hok (ed dx rfl)
      exact ⟨_, some oD, ho, rfl, rfl, hoD⟩
  exact PySem.W.kia_one (PySem.W.exv_kit T.hg T.hk T.hs T.hd T.ha T.hn T.ht T.hm) I.kIn J e (fun z => nomatch z) fun tk => ⟨.bl b, H, I.tok tk, rfl, q⟩
end EX

set_option Elab.async false
set_option linter.all false
set_option maxRecDepth 100000
set_option maxHeartbeats 4000000
namespace DL
open PySem PySem.Spec PyProof.Rows L2 RZ EX

/-! ### stream[0] != [] -/
def c0 : FC := { cl := fun _ => none, H0 := fun _ => none, F0 := fun _ => none, st := none, chg := [] }
theorem sr0 (H : Hp) : SR c0 { F := fun _ => none, lk := [], sl := [], z := zDum } [] H where
  sub := fun a u h => by cases h
  keep := fun a o h _ => by cases h
  slots := fun i x h => by simp at h
  dist := fun i j a _ hi => by obtain ⟨d, h⟩ := hi; simp at h
  fmut := fun a m => rfl
  chgd := fun a m => by simp [c0] at m
  strm := fun sa la h => by cases h
  fz0 := fun a o h _ => by cases h
  len := rfl
  lkd := fun p hp => by simp at hp
  lks := fun a u o h => by cases h
theorem reps_ints {cl : Str → Option Addr} {F : Hp} : ∀ cs : List Int, Reps cl F (cs.map .int) (cs.map .int)
  | [] => by simp [Reps]
  | x :: r => by
    simp only [List.map_cons, Reps, Rep]
    exact ⟨_, _, rfl, rfl, reps_ints r⟩
theorem strmNe_to {c : FC} {W : WX} {K : PySem.W.Frag} {i : Nat} {σ : L2.St} {H : Hp} {Q : Bool → Hp → Prop} (q : tT c W (mStrmNe i) σ H Q) : tB (tOp (R2D c0 dNe) (tOp (rIxL K) (tVar i) (tC (.int 0))) (tLst tNil)) σ H Q := by
  obtain ⟨w, s, q⟩ := q
  unfold mStrmNe at q
  split at q
  · rename_i hs
    obtain ⟨sa, la, e, e1⟩ := s.slots i _ hs
    obtain ⟨⟨h1, h2⟩, hc⟩ := s.strm sa la e
    refine ⟨_, e1, sa, _, _, .ref la, rfl, rfl, SqL.of h1, rfl, by simp, fun p hp => ?_⟩
    have hla : upd H p (.lst []) la = some (.lst (w.z.cells.map V.int)) := by rw [upd_ne (ne_of_none h2 hp)]; exact h2
    refine ⟨_, [], .lst (w.z.cells.map .int), .lst [], .bl (!w.z.cells.isEmpty), sr0 _, ⟨la, _, rfl, hla, by simp [c0], reps_ints _⟩, ⟨p, [], rfl, upd_same, by simp [c0], by simp [Reps]⟩, ?_, fun v H' w' st ez rv => ?_⟩
    · cases w.z.cells with
      | nil => rfl
      | cons x r => rfl
    · refine ⟨_, by simpa [Rep] using rv, ?_⟩
      have g : Gr c w.F H w.F H' w.z := ⟨fun a o h _ => st.keep a o (by rw [upd_ne (ne_of_none h hp)]; exact h) (by simp [c0]), fun _ a o h => st.keep a o (by rw [upd_ne (ne_of_none h hp)]; exact h) (by simp [c0]), Le.refl _, fun a u h => .inl h, fun sa' la' e' => by
        rw [e] at e'
        cases e'
        exact ⟨st.keep _ _ (by rw [upd_ne (ne_of_none h1 hp)]; exact h1) (by simp [c0]), st.keep _ _ hla (by simp [c0])⟩⟩
      exact q H' _ (s.step g) rfl
  · exact q.elim

/-! ### exceptions made as values -/
def mMkE (cn : Str) (mk : List D → Option (List (Str × D))) (mr : M (List D)) : M D := fun s z => (mr s z).bind fun ds z => match mk ds with
  | some fs => .ok (.err cn fs) z
  | none => .bad
def mk0 : List D → Option (List (Str × D))
  | [] => some []
  | _ => none
def mk2 (f1 f2 : Str) : List D → Option (List (Str × D))
  | [d, e] => some [(f2, e), (f1, d)]
  | _ => none
theorem err_lay {c : FC} {σ : L2.St} {w : Wd} {H : Hp} {a dx C : Addr} {cn : Str} {fs : List (Str × D)} {gs : List (Str × V)} (s : SR c w σ H) (hc : c.cl cn = some C) (r : RepF c.cl w.F fs gs) (ha : H a = none) (hd : H dx = none) (ne : dx ≠ a) :
    ∃ w', Step c σ w H w' (upd (upd H dx (exd dx gs)) a (exo a C (some dx))) ∧ w'.z = w.z ∧ Rep c.cl w'.F (.err cn fs) (.ref a) := by
  have s1 := s.fresh (exd dx gs) hd
  have ha1 : upd H dx (exd dx gs) a = none := by rw [upd_ne (Ne.symm ne)]; exact ha
  have s2 := s1.sr.fresh (exo a C (some dx)) ha1
  refine ⟨_, s1.trans s2, rfl, ?_⟩
  refine ⟨a, C, some dx, rfl, hc, upd_same, fun d e => ?_, fun e => by cases e⟩
  cases e
  refine ⟨gs, ?_, RepF.le (s1.trans s2).le r⟩
  show upd (upd w.F dx (exd dx gs)) a _ dx = _
  rw [upd_ne ne, upd_same]
theorem mkE1_to {c : FC} {W : WX} {cn fl : Str} {C : Addr} {mr : M (List D)} {σ : L2.St} {H : Hp} {Q : VK} (hc : c.cl cn = some C) (q : tF c W (mMkE cn (mk1 fl) mr) σ H Q) : tMkV C (spIni1 C fl) (tAF c W mr) σ H Q := by
  obtain ⟨w, s, q⟩ := q
  refine ⟨w, s, (Wnt.bind q).imp fun w1 H1 ds s1 q1 vs rs => ?_⟩
  match ds, q1 with
  | [d], q1 =>
    simp only [Reps] at rs
    obtain ⟨y, ys, rfl, ry, rfl⟩ := rs
    refine ⟨by simp, fun a ha => ⟨a, y, rfl, upd_same, fun dx n ne => ⟨rfl, ?_⟩⟩⟩
    have hdx : H1 dx = none := by
      rw [upd_ne ne] at n
      exact n
    obtain ⟨w', st, ez, rp⟩ := err_lay (fs := [(fl, d)]) (gs := [(fl, y)]) s1.sr hc (by simp only [RepF]; exact ⟨y, [], rfl, ry, rfl⟩) ha hdx ne
    have e : upd (upd (upd H1 a (exo a C none)) dx (exd dx [(fl, y)])) a (exo a C (some dx)) = upd (upd H1 dx (exd dx [(fl, y)])) a (exo a C (some dx)) := by
      funext b
      by_cases hb : b = a
      · rw [hb, upd_same, upd_same]
      · rw [upd_ne hb, upd_ne hb]
        by_cases hb2 : b = dx
        · rw [hb2, upd_same, upd_same]
        · rw [upd_ne hb2, upd_ne hb2, upd_ne hb]
    rw [e]
    exact (show Wnt c W σ w1 H1 _ (ER.ok (D.err cn [(fl, d)]) w1.z) from q1) _ _ st ez _ rp
  | [], q1 => exact q1.elim
  | _ :: _ :: _, q1 => exact q1.elim
theorem mkE2_to {c : FC} {W : WX} {cn f1 f2 : Str} {C : Addr} {mr : M (List D)} {σ : L2.St} {H : Hp} {Q : VK} (hc : c.cl cn = some C) (q : tF c W (mMkE cn (mk2 f1 f2) mr) σ H Q) : tMkV C (spIni2 C f1 f2) (tAF c W mr) σ H Q := by
  obtain ⟨w, s, q⟩ := q
  refine ⟨w, s, (Wnt.bind q).imp fun w1 H1 ds s1 q1 vs rs => ?_⟩
  match ds, q1 with
  | [d, d'], q1 =>
    simp only [Reps] at rs
    obtain ⟨y, ys, rfl, ry, y', ys', rfl, ry', rfl⟩ := rs
    refine ⟨by simp, fun a ha => ⟨a, y, y', rfl, upd_same, fun dx n ne => ⟨rfl, ?_⟩⟩⟩
    have hdx : H1 dx = none := by
      rw [upd_ne ne] at n
      exact n
    obtain ⟨w', st, ez, rp⟩ := err_lay (fs := [(f2, d'), (f1, d)]) (gs := [(f2, y'), (f1, y)]) s1.sr hc (by simp only [RepF]; exact ⟨y', _, rfl, ry', y, [], rfl, ry, rfl⟩) ha hdx ne
    have e : upd (upd (upd (upd H1 a (exo a C none)) dx (exd dx [(f1, y)])) a (exo a C (some dx))) dx (exd dx [(f2, y'), (f1, y)]) = upd (upd H1 dx (exd dx [(f2, y'), (f1, y)])) a (exo a C (some dx)) := by
      funext b
      by_cases hb : b = a
      · rw [hb, upd_same, upd_ne (Ne.symm ne), upd_same]
      · by_cases hb2 : b = dx
        · rw [hb2, upd_same, upd_ne ne, upd_same]
        · rw [upd_ne hb2, upd_ne hb, upd_ne hb2, upd_ne hb, upd_ne hb, upd_ne hb2]
    rw [e]
    exact (show Wnt c W σ w1 H1 _ (ER.ok (D.err cn [(f2, d'), (f1, d)]) w1.z) from q1) _ _ st ez _ rp
  | [], q1 => exact q1.elim
  | [_], q1 => exact q1.elim
  | _ :: _ :: _ :: _, q1 => exact q1.elim
theorem err_lay0 {c : FC} {σ : L2.St} {w : Wd} {H : Hp} {a C : Addr} {cn : Str} (s : SR c w σ H) (hc : c.cl cn = some C) (ha : H a = none) : ∃ w', Step c σ w H w' (upd H a (exo a C none)) ∧ w'.z = w.z ∧ Rep c.cl w'.F (.err cn []) (.ref a) :=
  ⟨_, s.fresh (exo a C none) ha, rfl, a, C, none, rfl, hc, upd_same, (fun d e => by cases e), fun _ => rfl⟩
theorem mkE0_to {c : FC} {W : WX} {cn : Str} {C : Addr} {σ : L2.St} {H : Hp} {Q : VK} (hc : c.cl cn = some C) (q : tF c W (mMkE cn mk0 mNil) σ H Q) : tMkV C (spIni0 C) tNil σ H Q := by
  obtain ⟨w, s, q⟩ := q
  refine ⟨by simp, fun a ha => ⟨a, rfl, upd_same, rfl, ?_⟩⟩
  obtain ⟨w', st, ez, rp⟩ := err_lay0 s hc ha
  exact (show Wnt c W σ w H _ (ER.ok (D.err cn []) w.z) from q) _ _ st ez _ rp
theorem mkE00_to {c : FC} {W : WX} {cn : Str} {C : Addr} {σ : L2.St} {H : Hp} {Q : VK} (hc : c.cl cn = some C) (q : tF c W (mMkE cn mk0 mNil) σ H Q) : ∀ a, H a = none → Q (.ref a) (upd H a (exo a C none)) := by
  obtain ⟨w, s, q⟩ := q
  intro a ha
  obtain ⟨w', st, ez, rp⟩ := err_lay0 s hc ha
  exact (show Wnt c W σ w H _ (ER.ok (D.err cn []) w.z) from q) _ _ st ez _ rp
/-! a field of such, its class -/
theorem ext_at {F H : Hp} {c : FC} {w : Wd} {σ : L2.St} {a : Addr} {φ : Heap → Prop} (s : SR c w σ H) (h : w.F a = some (.ext φ)) : H a = some (.ext φ) := by
  rcases s.sub _ _ h with z | ⟨⟨_, z⟩, _⟩
  · exact z
  · cases z
def mEf (okc : Str → Bool) (f : Str) (m : M D) : M D := fun s z => (m s z).bind fun d z => match d with
  | .err cn fs => if okc cn = true then mOpt (fs.lookup f) z else .bad
  | _ => .bad
theorem ef_to {c : FC} {W : WX} {K : PySem.W.Frag} {okc : Str → Bool} {f : Str} {m : M D} {te : TE} {σ : L2.St} {H : Hp} {Q : VK} (hE : ∀ cn C, okc cn = true → c.cl cn = some C → XfC K C ∧ PySem.W.findIn K (.ref C) f = some none) (he : ∀ σ H Q, tF c W m σ H Q → te σ H Q) (q : tF c W (mEf okc f m) σ H Q) : tEf K f te σ H Q := by
  obtain ⟨w, s, q⟩ := q
  refine he _ _ _ ⟨w, s, (Wnt.bind q).imp fun w1 H1 d s1 q1 v r => ?_⟩
  cases d with
  | err cn fs =>
    obtain ⟨ho, q2⟩ := wnt_ite q1
    obtain ⟨d2, hd, q3⟩ := wnt_opt s1.sr q2
    obtain ⟨a, C, dO, rfl, hc, fa, fd, f0⟩ := r
    obtain ⟨x1, x2⟩ := hE cn C ho hc
    cases dO with
    | none =>
      rw [f0 rfl] at hd
      cases hd
    | some dx =>
      obtain ⟨gs, g1, g2⟩ := fd dx rfl
      obtain ⟨u, hu, ru⟩ := g2.look hd
      exact ⟨a, C, dx, gs, u, rfl, ext_at (F := w1.F) s1.sr fa, ext_at (F := w1.F) s1.sr g1, x1, x2, hu, q3.val s1.sr ru⟩
  | _ => exact q1.elim
def mIsE (rel : Str → Option Bool) (m : M D) : M D := fun s z => (m s z).bind fun d z => match d with
  | .err cn _ => mOpt ((rel cn).map .bl) z
  | _ => .bad
theorem isE_to {c : FC} {W : WX} {K : PySem.W.Frag} {rel : Str → Option Bool} {m : M D} {te : TE} {cv : V} {u : Value} {σ : L2.St} {H : Hp} {Q : VK} (hk : ClsV cv u) (hE : ∀ cn C b, rel cn = some b → c.cl cn = some C → ExcC K C ∧ PySem.W.kitOne K (.ref C) u = some b) (he : ∀ σ H Q, tF c W m σ H Q → te σ H Q) (q : tF c W (mIsE rel m) σ H Q) :
    tCB (rIsV K) (tCons te (tCons (tC cv) tNil)) σ H Q := by
  obtain ⟨w, s, q⟩ := q
  refine he _ _ _ ⟨w, s, (Wnt.bind q).imp fun w1 H1 d s1 q1 v r => ?_⟩
  cases d with
  | err cn fs =>
    obtain ⟨d2, hd, q3⟩ := wnt_opt s1.sr q1
    rw [Option.map_eq_some_iff] at hd
    obtain ⟨b, hb, rfl⟩ := hd
    obtain ⟨a, C, dO, rfl, hc, fa, fd, f0⟩ := r
    obtain ⟨x1, x2⟩ := hE cn C b hb hc
    cases dO with
    | none => exact ⟨a, C, none, [], cv, u, b, rfl, ext_at (F := w1.F) s1.sr fa, (fun dx e => by cases e), x1, hk, x2, q3.bl s1.sr⟩
    | some dx =>
      obtain ⟨gs, g1, g2⟩ := fd dx rfl
      exact ⟨a, C, some dx, gs, cv, u, b, rfl, ext_at (F := w1.F) s1.sr fa, (fun dx' e => by cases e; exact ext_at (F := w1.F) s1.sr g1), x1, hk, x2, q3.bl s1.sr⟩
  | _ => exact q1.elim
end DL

set_option Elab.async false
set_option linter.all false
set_option maxRecDepth 100000
set_option maxHeartbeats 4000000
namespace XH
open PySem PySem.Spec PySem.Calls PyProof.Rows L2 NdefX EX
/-! ### what the head tells of own exception classes -/
theorem ba {a b : Bool} (h : (a && b) = true) : a = true ∧ b = true := Bool.and_eq_true_iff.mp h
theorem oexB_ok {K : PySem.W.Frag} {C : Addr} (h : oexB K C = true) : OexC K C := by
  obtain ⟨h1, h⟩ := ba h
  obtain ⟨h2, h⟩ := ba h
  obtain ⟨h3, h⟩ := ba h
  obtain ⟨h4, h5⟩ := ba h
  refine ⟨?_, of_decide_eq_true h2, of_decide_eq_true h3, of_decide_eq_true h4, h5⟩
  split at h1
  · rename_i dd cd sl lk
    obtain ⟨nm, bs, mro, N, q, hd, sn, sub, ab, col, del⟩ := cd
    dsimp only at h1
    split at h1
    · rename_i C' bm k0 k1 k2 k3 n k5 hs
      obtain ⟨e1, h1⟩ := ba h1
      obtain ⟨e2, h1⟩ := ba h1
      obtain ⟨e3, h1⟩ := ba h1
      obtain ⟨e4, e5⟩ := ba h1
      have e1 := beq_iff_eq.mp e1
      have e2 := beq_iff_eq.mp e2
      have e3 : del = false := by simpa using e3
      subst e1 e2 e3 e4
      have hsl : sl = #[k0, k1, k2, k3, some (.builtin "ValueError.__new__"), k5] := by
        rw [← hs]
      subst hsl
      exact ⟨nm, q, N, bs, bm, sn, sub, ab, col, dd, k0, k1, k2, k3, k5, lk, e5⟩
    · cases h1
  · cases h1
/-- the class x -/
structure XCls (P : Program) (K : PySem.W.Frag) (d : IniD) : Prop where
  fn : ∃ (oc kV doc pm ct : Value) (od an : Option Addr) (osl : Array (Option Value)) (cc cda : Addr), K.lookup (iAd K d.cls) = some ⟨oc, od, .func (PySem.W.ksFn "__init__" d.qual d.params d.body d.scope .none kV doc pm an (.ref cda) ct cc), osl⟩ ∧ PySem.W.codeIn K (.ref cda) d.qual = true ∧
    ((P.main.scope.names.lookup ("super" : Str)).isSome = false → SupC P K (cAd K d.cls) cc cda (iAd K d.cls))
  oex : OexC K (cAd K d.cls)
  ini : PySem.W.findIn K (.ref (cAd K d.cls)) "__init__" = some (some (.ref (iAd K d.cls)))
  typ : PySem.W.typeIn K (.ref (iAd K d.cls)) = some (.type "function")
  fld : ∀ f ∈ d.fields, PySem.W.findIn K (.ref (cAd K d.cls)) f = some none
theorem iniB_ok {P : Program} {K : PySem.W.Frag} {d : IniD} (e : iniW K d.cls = d.val) (h : iniB P K d = true) : XCls P K d := by
  obtain ⟨h1, h⟩ := ba h
  obtain ⟨h2, h⟩ := ba h
  obtain ⟨h3, h⟩ := ba h
  obtain ⟨h4, h⟩ := ba h
  obtain ⟨h5, h⟩ := ba h
  obtain ⟨h6, h⟩ := ba h
  obtain ⟨h7, h⟩ := ba h
  obtain ⟨h8, h⟩ := ba h
  obtain ⟨h9, h10⟩ := ba h
  have hoex := oexB_ok h2
  refine ⟨?_, hoex, of_decide_eq_true h8, of_decide_eq_true h9, fun f hf => of_decide_eq_true (List.all_eq_true.mp h10 f hf)⟩
  unfold iniW at e
  split at h1
  · rename_i oc od fd osl lk
    rw [lk] at e
    obtain ⟨n1, n2, n3, n4, n5, n6, n7, n8, n9, n10, n11, n12, n13, n14, n15⟩ := fd
    have e2 : (some (n1, n2, n3, n4, n5, n6, n7.map (·.1), n15) : IniW) = d.val := e
    unfold IniD.val at e2
    simp only [Option.some.injEq, Prod.mk.injEq] at e2
    obtain ⟨q1, q2, q3, q4, q5, q6, q7, q8⟩ := e2
    dsimp only at h1
    split at h1
    · rename_i nn cc cda
      obtain ⟨k1, k⟩ := ba h1
      obtain ⟨k2, k3⟩ := ba k
      have q7 : [nn] = [("__class__" : Str)] := q7
      have q7 : nn = "__class__" := by injection q7
      subst q1 q2 q3 q4 q5 q6 q7 q8
      refine ⟨oc, n9, n10, n11, n14, od, n12, osl, cc, cda, lk, k1, fun htop => ?_⟩
      refine ⟨hoex, ?_, ?_, Option.isSome_iff_exists.mp h3, of_decide_eq_true h4, of_decide_eq_true h5, of_decide_eq_true h6, of_decide_eq_true h7, htop⟩
      · split at k2
        · rename_i cl cld D csl lc
          have := beq_iff_eq.mp k2
          subst this
          exact ⟨_, _, _, lc⟩
        · cases k2
      · split at k3
        · rename_i ccl cdd vs ccs lc
          split at k3
          · rename_i file tf hv
            exact ⟨_, _, _, _, _, _, lc, hv, k3⟩
          · cases k3
        · cases k3
    · cases h1
  · cases h1
end XH

set_option Elab.async false
set_option linter.all false
set_option maxRecDepth 100000
set_option maxHeartbeats 4000000
namespace XH
open PySem PySem.Spec PySem.Calls PyProof.Rows L2 NdefX EX
/-! ### the hook: defs, facts, exception classes -/
def asI (g : Addr → Option Obj) (n : Nat) : List Addr := He.asD g n ++ [cStatics]
def obsI (P : Program) (fa : List He.Fa) (fn : List He.DefD) (ini : List IniD) (ex : PySem.W.Frag → Bool) (K : PySem.W.Frag) : AlI := (He.obsD fa fn K, (ini.all fun d => iniB P K d) && ex K, ini.map fun d => iniW K d.cls)
def valI (fn : List He.DefD) (ini : List IniD) : AlI := (He.valD fn, true, ini.map IniD.val)
structure SaysI (P : Program) (fa : List He.Fa) (fn : List He.DefD) (ini : List IniD) (ex : PySem.W.Frag → Bool) (K : PySem.W.Frag) : Prop where
  d : He.SaysD fa fn K
  x : ∀ d ∈ ini, XCls P K d
  ex : ex K = true
theorem saysI_of {P : Program} {fa : List He.Fa} {fn : List He.DefD} {ini : List IniD} {ex : PySem.W.Frag → Bool} {K : PySem.W.Frag} (e : obsI P fa fn ini ex K = valI fn ini) : SaysI P fa fn ini ex K := by
  have e1 : He.obsD fa fn K = He.valD fn := congrArg (fun z : AlI => z.1) e
  have e2 : ((ini.all fun d => iniB P K d) && ex K) = true := congrArg (fun z : AlI => z.2.1) e
  have e3 : (ini.map fun d => iniW K d.cls) = ini.map IniD.val := congrArg (fun z : AlI => z.2.2) e
  obtain ⟨e4, e5⟩ := ba e2
  refine ⟨e1, fun d hd => iniB_ok ?_ (List.all_eq_true.mp e4 d hd), e5⟩
  obtain ⟨i, hi, rfl⟩ := List.mem_iff_getElem.mp hd
  have q : (ini.map fun d => iniW K d.cls)[i]? = (ini.map IniD.val)[i]? := by rw [e3]
  rw [List.getElem?_map, List.getElem?_map, List.getElem?_eq_getElem hi] at q
  exact Option.some.inj q
def obsG (P : Program) (n : Nat) (fa : List He.Fa) (fn : List He.DefD) (ini : List IniD) (ex : PySem.W.Frag → Bool) (g : Addr → Option Obj) : AlI := obsI P fa fn ini ex (He.frG g (asI g n))
def hookI (P : Program) (n : Nat) (fa : List He.Fa) (fn : List He.DefD) (ini : List IniD) (ex : PySem.W.Frag → Bool) : PySem.W.Hook where
  α := AlI
  obs := fun s => obsG P n fa fn ini ex s.heap.get?
  val := fun _ => valI fn ini
  says := fun _ h => ∃ K : PySem.W.Frag, K.In h ∧ SaysI P fa fn ini ex K
  of := fun _ _ e => ⟨_, He.frG_in, saysI_of e⟩
  keeps := fun _ _ _ ⟨K, hK, c⟩ k => ⟨K, PySem.W.Frag.In.keeps hK k, c⟩
theorem obsG_eq {P : Program} {n : Nat} {fa : List He.Fa} {fn : List He.DefD} {ini : List IniD} {ex : PySem.W.Frag → Bool} {g : Addr → Option Obj} {s : Shared} (h : ∀ a, g a = s.heap.get? a) : obsG P n fa fn ini ex g = (hookI P n fa fn ini ex).obs s := by
  have e : g = s.heap.get? := funext h
  rw [e] <;> rfl

/-! ### classes among each other -/
theorem excB_ok {K : PySem.W.Frag} {D : Addr} (h : excB K D = true) : XfC K D ∧ ExcC K D := by
  obtain ⟨h1, h⟩ := ba h
  obtain ⟨h2, h⟩ := ba h
  obtain ⟨h3, h⟩ := ba h
  obtain ⟨h4, h⟩ := ba h
  obtain ⟨h5, h⟩ := ba h
  obtain ⟨h6, h⟩ := ba h
  obtain ⟨h7, h8⟩ := ba h
  have h1 := of_decide_eq_true h1
  have h2 := of_decide_eq_true h2
  have h3 := of_decide_eq_true h3
  exact ⟨⟨h1, h2, h3, h4⟩, ⟨h1, h2, h3, h4, of_decide_eq_true h5, of_decide_eq_true h6, of_decide_eq_true h7, of_decide_eq_true h8⟩⟩
theorem incB_lt : ∀ {l : List Addr} {a : Addr}, incB (a :: l) = true → ∀ b ∈ l, a < b
  | [], _, _, b, hb => by simp at hb
  | c :: r, a, h, b, hb => by
    obtain ⟨h1, h2⟩ := ba (show (decide (a < c) && incB (c :: r)) = true from h)
    have h1 := of_decide_eq_true h1
    rcases List.mem_cons.mp hb with z | z
    · rw [z]; exact h1
    · exact Nat.lt_trans h1 (incB_lt h2 b z)
theorem incB_tail {a : Addr} {l : List Addr} (h : incB (a :: l) = true) : incB l = true := by
  cases l with
  | nil => rfl
  | cons b r => exact (ba (show (decide (a < b) && incB (b :: r)) = true from h)).2
theorem incB_inj {f : Str → Addr} : ∀ {l : List Str}, incB (l.map f) = true → ∀ x ∈ l, ∀ y ∈ l, f x = f y → x = y
  | [], _, x, hx, _, _, _ => by simp at hx
  | a :: l, h, x, hx, y, hy, e => by
    have h' : incB (f a :: l.map f) = true := h
    rcases List.mem_cons.mp hx with zx | zx
    · rcases List.mem_cons.mp hy with zy | zy
      · rw [zx, zy]
      · have := incB_lt h' (f y) (List.mem_map_of_mem zy)
        rw [zx] at e
        rw [e] at this
        exact absurd this (Nat.lt_irrefl _)
    · rcases List.mem_cons.mp hy with zy | zy
      · have := incB_lt h' (f x) (List.mem_map_of_mem zx)
        rw [zy] at e
        rw [e] at this
        exact absurd this (Nat.lt_irrefl _)
      · exact incB_inj (incB_tail h') x zx y zy e
structure Fam (K : PySem.W.Frag) (w : Str) (names : List Str) : Prop where
  inc : incB (cAd K w :: names.map (cAd K)) = true
  mro : ∀ x ∈ names, (PySem.W.clsIn K (cAd K x)).map (·.mro) = some (Value.ref (cAd K x) :: Value.ref (cAd K w) :: He.veBase)
  typ : ∀ x ∈ names, PySem.W.typeIn K (.ref (cAd K x)) = some (.type "type")
  exc : ∀ x ∈ names, XfC K (cAd K x) ∧ ExcC K (cAd K x)
  mroW : (PySem.W.clsIn K (cAd K w)).map (·.mro) = some (Value.ref (cAd K w) :: He.veBase)
  typW : PySem.W.typeIn K (.ref (cAd K w)) = some (.type "type")
  excW : XfC K (cAd K w) ∧ ExcC K (cAd K w)
theorem famB_ok {K : PySem.W.Frag} {w : Str} {names : List Str} (h : famB K w names = true) : Fam K w names := by
  obtain ⟨h1, h2⟩ := ba h
  obtain ⟨h3, h4⟩ := ba h1
  obtain ⟨h5, h6⟩ := ba h2
  obtain ⟨h7, h8⟩ := ba h6
  have key : ∀ x ∈ names, _ := fun x hx => ba (List.all_eq_true.mp h4 x hx)
  exact ⟨h3, fun x hx => of_decide_eq_true (ba (key x hx).1).1, fun x hx => of_decide_eq_true (ba (key x hx).1).2, fun x hx => excB_ok (key x hx).2, of_decide_eq_true h5, of_decide_eq_true h7, excB_ok h8⟩
theorem sub_of {K : PySem.W.Frag} {C : Addr} {l : List Value} {c : Value} (h : (PySem.W.clsIn K C).map (·.mro) = some (Value.ref C :: l)) : PySem.W.subIn K (.ref C) c = some ((Value.ref C :: l).contains c) := by
  show PySem.W.mroIn K C c = _
  unfold PySem.W.mroIn
  rw [Option.map_eq_some_iff] at h
  obtain ⟨cd, h1, h2⟩ := h
  rw [h1, Option.bind_some, h2]
  rfl
theorem kit_own {K : PySem.W.Frag} {t : Value} {C : Addr} {l : List Value} {b : Bool} (hm : (PySem.W.clsIn K C).map (·.mro) = some l) (ht : PySem.W.typeIn K (.ref C) = some (.type "type")) (hs : PySem.W.subIn K t (.ref C) = some b) (hb : t = .ref C → b = true) : PySem.W.kitOne K t (.ref C) = some b := by
  unfold PySem.W.kitOne
  by_cases e : t = .ref C
  · rw [if_pos (by simpa using e), hb e]
  · rw [if_neg (by simpa using e)]
    unfold PySem.W.kitCls
    rw [Option.map_eq_some_iff] at hm
    obtain ⟨cd, h1, _⟩ := hm
    show (if ((PySem.W.clsIn K C).isSome && PySem.W.typeIn K (.ref C) == some (.type "type")) = true then PySem.W.subIn K t (.ref C) else none) = some b
    rw [if_pos (by rw [h1, ht]; rfl)]
    exact hs
theorem Fam.kit {K : PySem.W.Frag} {w : Str} {names : List Str} (F : Fam K w names) {x y : Str} (hx : x ∈ names) (hy : y ∈ names) : PySem.W.kitOne K (.ref (cAd K x)) (.ref (cAd K y)) = some (decide (x = y)) := by
  have hW : ∀ z ∈ names, cAd K z ≠ cAd K w := fun z hz e => by
    have := incB_lt F.inc _ (List.mem_map_of_mem (f := cAd K) hz)
    rw [e] at this
    exact absurd this (Nat.lt_irrefl _)
  have hi := incB_inj (f := cAd K) (incB_tail F.inc)
  refine kit_own (F.mro y hy) (F.typ y hy) ?_ fun e => ?_
  · rw [sub_of (F.mro x hx)]
    congr 1
    simp only [List.contains_cons, He.veBase]
    by_cases e : x = y
    · subst e
      simp
    · have h1 : cAd K y ≠ cAd K x := fun z => e (hi x hx y hy z.symm)
      have h2 : cAd K y ≠ cAd K w := hW y hy
      simp [e, h1, h2]
  · have : cAd K x = cAd K y := by injection e
    simp [hi x hx y hy this]
theorem Fam.kitW {K : PySem.W.Frag} {w : Str} {names : List Str} (F : Fam K w names) {x : Str} (hx : x ∈ names) : PySem.W.kitOne K (.ref (cAd K x)) (.ref (cAd K w)) = some true := by
  refine kit_own F.mroW F.typW ?_ fun _ => rfl
  rw [sub_of (F.mro x hx)]
  simp
theorem Fam.kitV {K : PySem.W.Frag} {w : Str} {names : List Str} (F : Fam K w names) {x : Str} (hx : x ∈ names) : PySem.W.kitOne K (.ref (cAd K x)) (.type "ValueError") = some true := by
  unfold PySem.W.kitOne
  rw [if_neg (by simp)]
  show (if PySem.W.kitMeta "ValueError" = true then PySem.W.subIn K (.ref (cAd K x)) (.type "ValueError") else none) = some true
  rw [if_pos (by decide +kernel), sub_of (F.mro x hx)]
  simp [He.veBase]
theorem Fam.kitWV {K : PySem.W.Frag} {w : Str} {names : List Str} (F : Fam K w names) : PySem.W.kitOne K (.ref (cAd K w)) (.type "ValueError") = some true := by
  unfold PySem.W.kitOne
  rw [if_neg (by simp)]
  show (if PySem.W.kitMeta "ValueError" = true then PySem.W.subIn K (.ref (cAd K w)) (.type "ValueError") else none) = some true
  rw [if_pos (by decide +kernel), sub_of F.mroW]
  simp [He.veBase]
end XH

set_option Elab.async false
set_option linter.all false
set_option maxRecDepth 100000
set_option maxHeartbeats 4000000
namespace DL
open PySem PySem.Spec PyProof.Rows L2 RZ EX

/-! ### != of dicts that are alike -/
def flatEq : D → D → Bool
  | .non, .non => true
  | .bl a, .bl b => a == b
  | .int a, .int b => a == b
  | .str a, .str b => decide (a = b)
  | _, _ => false
def sameK (ks ls : List (Key × D)) : Bool := ks.length == ls.length && ks.all fun p => match getK ls p.1 with
  | some d => flatEq p.2 d
  | none => false
def dNeX : D → D → Option D
  | .dic ks, .dic ls => if sameK ks ls = true then some (.bl false) else none
  | d, e => dNe d e
theorem flatEq_rep {cl : Str → Option Addr} {F : Hp} {d e : D} {v u : V} (h : flatEq d e = true) (rv : Rep cl F d v) (ru : Rep cl F e u) : u = v ∧ flatB v = true := by
  cases d <;> cases e <;> simp only [flatEq, Bool.false_eq_true, beq_iff_eq, decide_eq_true_eq] at h <;> simp only [Rep] at rv ru <;> subst rv ru <;> simp [flatB, h]
section
variable {X : Cx} {c : FC}
def rNeD : R2 := fun x y H Q => ∃ a b ks ls, x = .ref a ∧ y = .ref b ∧ Rd H a (.dK ks) ∧ Rd H b (.dK ls) ∧ ks.length = ls.length ∧ (∀ p ∈ ks, valV ls p.1 = some p.2 ∧ flatB p.2 = true) ∧ Q (.bl false) H
theorem op_ne_alike (hu : X.A.units < cLine) : OpR X (compareOp .NotEq) rNeD := by
  intro pins s σ H x y v u Q I rx ry ⟨a, b, ks, ls, ex, ey, ea, eb, hlen, hp, q⟩
  subst ex ey
  obtain ⟨_, ya, va, ra, da⟩ := dk_rd I.hok ea
  obtain ⟨_, yb, vb, rb, db⟩ := dk_rd I.hok eb
  obtain rfl : v = Value.ref a := rx
  obtain rfl : u = Value.ref b := ry
  exact PySem.W.keq_ne (knd := mixKind X.prog X.w) (r := true) ya yb da db hu (fun _ => hits_all rb ra hp) (fin_bl I q (by have h1 := ra.length; have h2 := rb.length; simp; omega))
theorem sameK_rep {cl : Str → Option Addr} {F : Hp} {ls : List (Key × D)} {ys : List (Key × V)} (rl : RepK cl F ls ys) : ∀ {ks : List (Key × D)} {xs : List (Key × V)}, RepK cl F ks xs → (ks.all fun p => match getK ls p.1 with
  | some d => flatEq p.2 d
  | none => false) = true → ∀ p ∈ xs, valV ys p.1 = some p.2 ∧ flatB p.2 = true
  | [], xs, h, _, p, hp => by
    simp only [RepK] at h
    subst h
    simp at hp
  | (k, d) :: ks, xs, h, e, p, hp => by
    simp only [RepK] at h
    obtain ⟨y, zs, rfl, r, h⟩ := h
    rw [List.all_cons, Bool.and_eq_true] at e
    rcases List.mem_cons.mp hp with rfl | hp
    · have e1 := e.1
      split at e1
      · rename_i d2 hd
        obtain ⟨v, hv, rv⟩ := rl.get hd
        obtain ⟨z1, z2⟩ := flatEq_rep e1 r rv
        subst z1
        exact ⟨hv, z2⟩
      · cases e1
    · exact sameK_rep rl h e.2 p hp
theorem op_neX_data (hu : X.A.units + 64 < cLine) : OpR X (compareOp .NotEq) (R2D c dNeX) := by
  refine opR_imp ((op_ne_data (c := c) hu).or (op_ne_alike (X := X) (by omega))) fun x y H Q h => ?_
  obtain ⟨w, σ, dx, dy, d, s, rx, ry, e, q⟩ := h
  by_cases hd : ∃ ks ls, dx = .dic ks ∧ dy = .dic ls
  · obtain ⟨ks, ls, rfl, rfl⟩ := hd
    simp only [dNeX] at e
    split at e
    · rename_i hs
      cases e
      obtain ⟨a, xs, rfl, h1, _, r1⟩ := rx
      obtain ⟨b, ys, rfl, h2, _, r2⟩ := ry
      unfold sameK at hs
      rw [Bool.and_eq_true] at hs
      have hl := beq_iff_eq.mp hs.1
      exact .inr ⟨a, b, xs, ys, rfl, rfl, h1, h2, by rw [r1.length, r2.length, hl], sameK_rep r2 r1 hs.2, q.bl s⟩
    · cases e
  · refine .inl ⟨w, σ, dx, dy, d, s, rx, ry, ?_, q⟩
    unfold dNeX at e
    split at e
    · exact absurd ⟨_, _, rfl, rfl⟩ hd
    · exact e
end
/-! ### defs and classes by their names -/
structure DefOk (P : Program) (w : World) (K : PySem.W.Frag) (mg : Str → Option Value) (base : Heap) (cl : Str → Option Addr) (x : Str) (k n : Nat) (sm : Bool) (g : Fm) : Prop where
  ex : ∃ f fd ps, mg x = some (.ref f) ∧ PySem.W.keepIn K (.ref f) = true ∧ Binds K fd ps [] ∧ FnOk P w K mg base (L2.CX P w) k f fd ps (spM cl n sm g)
structure MkOk (P : Program) (w : World) (K : PySem.W.Frag) (mg : Str → Option Value) (base : Heap) (cl : Str → Option Addr) (x : Str) (ks : List Str) (sp : Addr → Sp) : Prop where
  ex : ∃ C fI fd, cl x = some C ∧ mg x = some (.ref C) ∧ OexC K C ∧ PySem.W.findIn K (.ref C) "__init__" = some (some (.ref fI)) ∧ PySem.W.typeIn K (.ref fI) = some (.type "function") ∧ FnOk P w K mg base (L2.CX P w) 1 fI fd (("self" : Str) :: ks) (sp C) ∧ Binds K fd (("self" : Str) :: ks) [] ∧
    (∀ (s : Shared) (u : Value) (ws : List Value), ws.length = ks.length → BindsTo s fd ⟨[u], ks.zip ws⟩ ((("self" : Str) :: ks).zip (u :: ws))) ∧ (∀ vs H Q E, sp C vs H Q E → vs.length = (("self" : Str) :: ks).length)
section
variable {X : Cx} {c : FC} {W : WX} {e : Expr} {es : List Expr} {kws : List Keyword} {mr : M (List D)} {p pos apos : Pos} {x : Str} {k j n i : Nat} {g : Fm} {cl : Str → Option Addr}
theorem df_callD (D : DefOk X.prog X.w X.K X.mg X.base cl x k n false g) (hcl : c.cl = cl) (tk : Takes X W) (hr : Room j X.A) (hkj : k ≤ j) (hg : Gl X x)
    (ha : PA X (e :: es) (tAF c W mr)) (hdb : (x == ("__debug__" : Str)) = false := by decide) (he : starEach (e :: es) X.env = (false, eval e X.env) :: starEach es X.env := by rfl) (hpl : (backTo pos (starEach es X.env)).any (·.1) = false := by rfl) :
    PE X (.Call (.Name x p) (e :: es) [] pos) (tF c W (mCallF n g mr)) := by
  obtain ⟨f, fd, ps, h1, h2, h3, h4⟩ := D.ex
  exact df_call hcl tk h4 hr hkj hg h1 h2 h3 ha hdb he hpl
theorem df_callSD (D : DefOk X.prog X.w X.K X.mg X.base cl x k n true g) (hcl : c.cl = cl) (tk : Takes X W) (hr : Room j X.A) (hkj : k ≤ j) (hg : Gl X x)
    (hv : PE X e (tVar i)) (ha : PA X es (tAF c W mr)) (hs : starEach (e :: es) X.env = (false, eval e X.env) :: starEach es X.env := by rfl) (hdb : (x == ("__debug__" : Str)) = false := by decide) (hpl : (backTo pos (starEach es X.env)).any (·.1) = false := by rfl) :
    PE X (.Call (.Name x p) (e :: es) [] pos) (tF c W (mCallS i n g mr)) := by
  obtain ⟨f, fd, ps, h1, h2, h3, h4⟩ := D.ex
  exact df_callS hcl tk h4 hr hkj hg h1 h2 h3 hv ha hs hdb hpl
theorem no_pass {X : Cx} : Passes (L2.CX X.prog X.w) X (fun _ _ _ => False) := fun pins σ H s e s' I h => by
  obtain ⟨_, _, _, _, _, _, _, _, _, _, _, _, z⟩ := h
  exact z.elim
theorem df_mk1 {f1 : Str} (D : MkOk X.prog X.w X.K X.mg X.base cl x [f1] (fun C => spIni1 C f1)) (hcl : c.cl = cl) (hr : Room 2 X.A) (hg : Gl X x) (ha : PA X (e :: es) (tAF c W mr)) (hdb : (x == ("__debug__" : Str)) = false := by decide) (he : starEach (e :: es) X.env = (false, eval e X.env) :: starEach es X.env := by rfl) (hpl : (backTo pos (starEach es X.env)).any (·.1) = false := by rfl) :
    PE X (.Call (.Name x p) (e :: es) [] pos) (tF c W (mMkE x (mk1 f1) mr)) := by
  obtain ⟨C, fI, fd, h1, h2, h3, h4, h5, h6, h7, h8, h9⟩ := D.ex
  exact pe_imp (pe_mkE h3 h4 h5 h6 hr h7 no_pass hg h2 ha h9 hdb he hpl) fun _ _ _ q => mkE1_to (by rw [hcl]; exact h1) q
theorem df_mk1K {f1 : Str} (D : MkOk X.prog X.w X.K X.mg X.base cl x [f1] (fun C => spIni1 C f1)) (hcl : c.cl = cl) (hr : Room 2 X.A) (hg : Gl X x) (ha : PK X kws (tAF c W mr)) (hall : (backToKw pos (keywordEach kws X.env)).all (·.1.isSome) = true := by rfl) (hks : (backToKw pos (keywordEach kws X.env)).filterMap (·.1) = [f1] := by rfl)
    (hdb : (x == ("__debug__" : Str)) = false := by decide) (hpl : ((backTo pos (starEach [] X.env)).any (·.1) || (backToKw pos (keywordEach kws X.env)).any (·.1.isNone)) = false := by rfl) : PE X (.Call (.Name x p) [] kws pos) (tF c W (mMkE x (mk1 f1) mr)) := by
  obtain ⟨C, fI, fd, h1, h2, h3, h4, h5, h6, h7, h8, h9⟩ := D.ex
  exact pe_imp (pe_mkEK h3 h4 h5 h6 hr h8 no_pass hg h2 ha h9 rfl hall hks hdb hpl) fun _ _ _ q => mkE1_to (by rw [hcl]; exact h1) q
theorem df_mk2 {f1 f2 : Str} (D : MkOk X.prog X.w X.K X.mg X.base cl x [f1, f2] (fun C => spIni2 C f1 f2)) (hcl : c.cl = cl) (hr : Room 2 X.A) (hg : Gl X x) (ha : PA X (e :: es) (tAF c W mr)) (hdb : (x == ("__debug__" : Str)) = false := by decide) (he : starEach (e :: es) X.env = (false, eval e X.env) :: starEach es X.env := by rfl) (hpl : (backTo pos (starEach es X.env)).any (·.1) = false := by rfl) :
    PE X (.Call (.Name x p) (e :: es) [] pos) (tF c W (mMkE x (mk2 f1 f2) mr)) := by
  obtain ⟨C, fI, fd, h1, h2, h3, h4, h5, h6, h7, h8, h9⟩ := D.ex
  exact pe_imp (pe_mkE h3 h4 h5 h6 hr h7 no_pass hg h2 ha h9 hdb he hpl) fun _ _ _ q => mkE2_to (by rw [hcl]; exact h1) q
theorem df_mk2K {f1 f2 : Str} (D : MkOk X.prog X.w X.K X.mg X.base cl x [f1, f2] (fun C => spIni2 C f1 f2)) (hcl : c.cl = cl) (hr : Room 2 X.A) (hg : Gl X x) (ha : PK X kws (tAF c W mr)) (hall : (backToKw pos (keywordEach kws X.env)).all (·.1.isSome) = true := by rfl) (hks : (backToKw pos (keywordEach kws X.env)).filterMap (·.1) = [f1, f2] := by rfl)
    (hdb : (x == ("__debug__" : Str)) = false := by decide) (hpl : ((backTo pos (starEach [] X.env)).any (·.1) || (backToKw pos (keywordEach kws X.env)).any (·.1.isNone)) = false := by rfl) : PE X (.Call (.Name x p) [] kws pos) (tF c W (mMkE x (mk2 f1 f2) mr)) := by
  obtain ⟨C, fI, fd, h1, h2, h3, h4, h5, h6, h7, h8, h9⟩ := D.ex
  exact pe_imp (pe_mkEK h3 h4 h5 h6 hr h8 no_pass hg h2 ha h9 rfl hall hks hdb hpl) fun _ _ _ q => mkE2_to (by rw [hcl]; exact h1) q
theorem df_mk0 (D : MkOk X.prog X.w X.K X.mg X.base cl x [] spIni0) (hcl : c.cl = cl) (hr : Room 2 X.A) (hg : Gl X x) (hdb : (x == ("__debug__" : Str)) = false := by decide) : PE X (.Call (.Name x p) [] [] pos) (tF c W (mMkE x mk0 mNil)) := by
  obtain ⟨C, fI, fd, h1, h2, h3, h4, h5, h6, h7, h8, h9⟩ := D.ex
  exact pe_imp (pe_mkE0 h3 h4 h5 h6 hr h7 no_pass hg h2 rfl hdb) fun _ _ _ q => mkE0_to (by rw [hcl]; exact h1) q
theorem kf_nil : PK X [] (tAF c W mNil) := ⟨fun pos pins s σ H Q I ⟨w, sr, q⟩ => pk_nil.run pos pins s σ H Q I (Wnt.ok sr q [] (by simp [Reps]))⟩
theorem kf_cons {nm : Option Str} {kpos : Pos} {ma : M D} (ha : PE X e (tF c W ma)) (hr : PK X kws (tAF c W mr)) : PK X (⟨nm, e, kpos⟩ :: kws) (tAF c W (mCons ma mr)) := ⟨fun pos pins s σ H Q I h => (pk_cons (nm := nm) (kpos := kpos) ha hr).run pos pins s σ H Q I (by
  obtain ⟨w, sr, q⟩ := h
  exact ⟨w, sr, (Wnt.bind q).imp fun w1 H1 dx s1 q1 v1 r1 => ⟨w1, s1.sr, by
    rw [s1.sl]
    exact (Wnt.bind q1).imp fun w2 H2 l s2 q2 vs rs => Wnt.ok s2.sr q2 (v1 :: vs) (.cons (Rep.le s2.le r1) rs)⟩⟩)⟩
/-! the field, the class -/
theorem df_ef {K : PySem.W.Frag} {f : Str} {m : M D} {okc : Str → Bool} (hK : X.K = K) (hE : ∀ cn C, okc cn = true → c.cl cn = some C → XfC K C ∧ PySem.W.findIn K (.ref C) f = some none) (he : PE X e (tF c W m)) (hb : attributeBase e f X.env (eval e X.env) = eval e X.env := by rfl) :
    PE X (.Attribute e f pos) (tF c W (mEf okc f m)) := by
  subst hK
  exact pe_imp (pe_ef he hb) fun _ _ _ q => ef_to hE (fun _ _ _ h => h) q
theorem df_isE {K : PySem.W.Frag} {cE : Expr} {m : M D} {rel : Str → Option Bool} {cv : V} {u : Value} (hK : X.K = K) (hk : ClsV cv u) (hE : ∀ cn C b, rel cn = some b → c.cl cn = some C → ExcC K C ∧ PySem.W.kitOne K (.ref C) u = some b) (hg : Gl X "isinstance") (hm : X.mg "isinstance" = none) (ha : PE X e (tF c W m)) (hT : PE X cE (tC cv))
    (he : starEach [e, cE] X.env = (false, eval e X.env) :: starEach [cE] X.env := by rfl) (he2 : starEach [cE] X.env = (false, eval cE X.env) :: starEach [] X.env := by rfl) (hpl : (backTo pos (starEach [cE] X.env)).any (·.1) = false := by rfl) :
    PE X (.Call (.Name "isinstance" p) [e, cE] [] pos) (tF c W (mIsE rel m)) := by
  subst hK
  exact pe_imp (pe_callB call_isV hg hm (by decide +kernel) (pa_cons ha (pa_cons hT pa_nil he2) he) (by decide) (by decide) he hpl) fun _ _ _ q => isE_to hk hE (fun _ _ _ h => h) q
/-! the spring's words -/
theorem df_strmI {a b : Expr} (ha : PE X a (tVar i)) (hb : PE X b (tC (.int k))) (hs : PlainIx b) : PE X (.Subscript a b pos) (tF c W (mStrmI i k)) := pe_imp (pe_ix ix_list ha hb hs) fun _ _ _ q => strmI_to q
theorem dt_strmNe {a b d : Expr} (hu : X.A.units + 64 < cLine) (ha : PE X a (tVar i)) (hb : PE X b (tC (.int 0))) (hs : PlainIx b) (hd : PE X d (tLst tNil)) (hm : behindInMarks .NotEq d = false) {p2 : Pos} : PT X (.Compare (.Subscript a b p2) [.NotEq] [d] pos) (tT c W (mStrmNe i)) :=
  pt_imp (pt_cmpR (op_ne_data (c := c0) hu) (pe_ix ix_list ha hb hs) hd hm) fun _ _ _ q => strmNe_to q
end
end DL

set_option Elab.async false
set_option linter.all false
set_option maxRecDepth 100000
set_option maxHeartbeats 4000000
namespace DL
open PySem PySem.Spec PyProof.Rows L2 RZ EX

/-! ### a test that reads a name's own object as frozen -/
def mThaw (i : Nat) (n : M Bool) : M Bool := fun s z => noX (n (frzS i s) z)
section
variable {X : Cx} {c : FC} {W : WX} {n : M Bool} {e : Expr} {i j k : Nat} {pos : Pos} {m : M D}
theorem dt_thaw (i : Nat) (h : PT X e (tT c W n)) : PT X e (tT c W (mThaw i n)) := pt_imp h fun σ H Q ⟨w, s, q⟩ => by
  obtain ⟨F', s', l⟩ := s.frz_slot i
  refine ⟨_, s', ?_⟩
  show Wnt c W σ _ H _ (n (frzS i w.sl) w.z)
  unfold mThaw at q
  cases hn : n (frzS i w.sl) w.z with
  | ok b z =>
    rw [hn] at q
    intro H2 w2 st ez
    subst ez
    have g : Gr c w.F H w.F H2 w2.z := ⟨st.keep, st.all, Le.refl _, fun a u h => .inl h, fun sa la e => (st.sr.strm sa la e).1⟩
    exact (show Wnt c W σ w H _ (ER.ok b w2.z) from q) _ _ (s.step g) rfl
  | exc cn fs z =>
    rw [hn] at q
    exact q.elim
  | bad =>
    rw [hn] at q
    exact q.elim
theorem hu64_of {A : Around} (hr : Room k A) : A.units + 64 < cLine := by
  have := hr.un
  omega
theorem hu01_of {A : Around} (hr : Room k A) : A.units + 1 < cLine := by
  have := hr.un
  omega
def mNeg (m : M D) : M D := fun s z => (m s z).bind fun d z => match d with
  | .int i => .ok (.int (-i)) z
  | _ => .bad
theorem df_neg (h : PE X e (tV c W m)) : PE X (.UnaryOp .USub e pos) (tF c W (mNeg m)) := pe_imp (pe_un un_neg h) fun σ H Q ⟨w, s, q⟩ => ⟨w, s, (Wnt.bind q).imp fun w1 H1 d s1 q1 v r => by
  cases d with
  | int i => exact ⟨i, r.int, Wnt.ok s1.sr q1 _ (by simp [Rep])⟩
  | _ => exact q1.elim⟩
theorem df_mk00 {C : Addr} {x : Str} {p : Pos} (hq : PySem.W.excIn X.K C He.veBase "ValueError.__new__" = true) (kC : PySem.W.keepIn X.K (.ref C) = true) (hc : c.cl x = some C) (hg : Gl X x) (hm : X.mg x = some (.ref C)) (hdb : (x == ("__debug__" : Str)) = false := by decide) :
    PE X (.Call (.Name x p) [] [] pos) (tF c W (mMkE x mk0 mNil)) := pe_imp (pe_mkE00 hq F.excBase_ValueError kC hg hm hdb) fun _ _ _ q => mkE00_to hc q
/-- the rest of a body under a context that is chosen there -/
theorem pss_ex {sts : List Stmt} {cl : Str → Option Addr} {m : SM} (h : ∀ c : FC, c.cl = cl → PSs X sts (tS c W m)) : PSs X sts (fun D σ H => ∃ c : FC, c.cl = cl ∧ tS c W m D σ H) := ⟨fun pins s σ H D I ⟨c, hc, q⟩ => (h c hc).run pins s σ H D I q⟩
end
/-- [list(script), 0, 0, 11] -/
def spStart (K : PySem.W.Frag) : Sp := fun vs H Q _ => ∃ (a : Addr) (ns : List Int), vs = [.ref a] ∧ SqL K H a (ns.map V.int) ∧ ∀ p q, H p = none → upd H p (.lst (ns.map V.int)) q = none → Q (.ref q) (upd (upd H p (.lst (ns.map V.int))) q (.lst [.ref p, .int 0, .int 0, .int 11]))
/-- the law's start: the spring stands alone -/
theorem sr_law {cl : Str → Option Addr} {H0 : Hp} {sa la : Addr} {N : Nat} {σ : L2.St} {ns : List Int} (h1 : upd H0 la (.lst (ns.map V.int)) sa = none) (h2 : H0 la = none) (hσ : σ.length = N) (hs : σ[1]? = some (some (.ref sa))) :
    SR { cl := cl, H0 := H0, F0 := fun _ => none, st := some (sa, la), chg := [sa, la] } { F := fun _ => none, lk := [], sl := (List.replicate N Slot.none).set 1 .strm, z := ⟨ns, 0, 0, 11⟩ } σ (upd (upd H0 la (.lst (ns.map V.int))) sa (.lst [.ref la, .int 0, .int 0, .int 11])) where
  sub := fun a u h => by cases h
  keep := fun a o h _ => .inl (by
    have hla : a ≠ la := ne_of_none h h2
    have hsa : a ≠ sa := fun z => by
      rw [← z, upd_ne hla] at h1
      rw [show H0 a = some o from h] at h1
      cases h1
    rw [upd_ne hsa, upd_ne hla]; exact h)
  slots := fun i x h => by
    have h : ((List.replicate N Slot.none).set 1 .strm)[i]? = some x := h
    by_cases hi : 1 = i
    · subst hi
      by_cases hb : 1 < N
      · rw [List.getElem?_set_self (by simpa using hb)] at h
        cases h
        exact ⟨sa, la, rfl, hs⟩
      · rw [List.getElem?_eq_none (by simpa using hb)] at h; cases h
    · rw [List.getElem?_set_ne hi, List.getElem?_replicate] at h
      split at h <;> cases h
      trivial
  dist := fun i j a _ hi => by
    obtain ⟨d, hi⟩ := hi
    have hi : ((List.replicate N Slot.none).set 1 .strm)[i]? = some (.own d) := hi
    by_cases h1 : 1 = i
    · subst h1
      by_cases hb : 1 < N
      · rw [List.getElem?_set_self (by simpa using hb)] at hi; cases hi
      · rw [List.getElem?_eq_none (by simpa using hb)] at hi; cases hi
    · rw [List.getElem?_set_ne h1, List.getElem?_replicate] at hi
      split at hi <;> cases hi
  fmut := fun a m => rfl
  chgd := fun a m => by
    rcases List.mem_cons.mp m with z | z
    · exact ⟨_, by rw [z]; exact upd_same⟩
    · have z : a = la := by simpa using z
      rw [z]
      by_cases e : la = sa
      · exact ⟨_, by rw [e]; exact upd_same⟩
      · exact ⟨_, by rw [upd_ne e]; exact upd_same⟩
  strm := fun sa' la' e => by
    cases e
    refine ⟨⟨upd_same, ?_⟩, rfl⟩
    rw [upd_ne (fun e => by rw [e, upd_same] at h1; cases h1), upd_same]
  fz0 := fun a o _ _ => rfl
  len := by show ((List.replicate N Slot.none).set 1 .strm).length = _; rw [List.length_set, List.length_replicate, hσ]
  lkd := fun p hp => by cases hp
  lks := fun a u o h => by cases h
end DL

set_option Elab.async false
set_option linter.all false
set_option maxRecDepth 100000
set_option maxHeartbeats 4000000
namespace EX
open PySem PySem.Spec PySem.Calls PyProof.Rows L2 NdefX
section
variable {P : Program} {w : World} {K : PySem.W.Frag} {mg : Str → Option Value} {base : Heap} {CX : CXT} {k : Nat} {C cc cda f : Addr} {name qual text : Str} {params : Arguments} {scope : Scope} {dV kV doc pm ct oc : Value} {an od : Option Addr} {osl : Array (Option Value)}
  {self x y fl fl2 : Str} {ar : Arg} {j : Nat} {p0 p1 p2 p3 p4 p5 q1 q2 q3 q4 r1 r2 r3 r4 : Pos}
theorem ini2_ok (lk : K.lookup f = some ⟨oc, od, .func (PySem.W.ksFn name qual params [supSt text j p0 p1 p2 p3 p4 p5, setSt self x fl q1 q2 q3 q4, setSt self y fl2 r1 r2 r3 r4] scope dV kV doc pm an (.ref cda) ct cc), osl⟩) (hcd : PySem.W.codeIn K (.ref cda) qual = true)
    (S : NScope [self, x, y, "__class__"] [self, x, y] ["__class__"] scope) (T : SupC P K C cc cda f) (hm : mg "super" = none) (hp : (params.posonlyargs ++ params.args).head? = some ar) (hps : ar.arg = self)
    (hks : scope.names.lookup ("super" : Str) = some .globalImplicit) (hno : PySem.W.findIn K (.ref C) fl = some none) (hno2 : PySem.W.findIn K (.ref C) fl2 = some none) (hd5 : (y == ("__debug__" : Str)) = false) (hd6 : (y == ("__classdict__" : Str)) = false) (hd1 : (self == ("__debug__" : Str)) = false) (hd2 : (x == ("__debug__" : Str)) = false) (hd3 : (self == ("__classdict__" : Str)) = false) (hd4 : (x == ("__classdict__" : Str)) = false)
    {pl : Sem Bool} (he : ∀ L : Addr, eval (.Call (.Attribute (.Call (.Name "super" p0) [] [] p1) "__init__" p2) [.Constant (.str text) j p3] [] p4) (PySem.W.envX qual scope L f (.ref cda) [("__class__", cc)]) = (do
      let ov ← attributeBase (.Call (.Name "super" p0) [] [] p1) "__init__" (PySem.W.envX qual scope L f (.ref cda) [("__class__", cc)]) (eval (.Call (.Name "super" p0) [] [] p1) (PySem.W.envX qual scope L f (.ref cda) [("__class__", cc)]))
      standAt p2.atName
      let (g, first) ← holding [ov] (getMethod ov "__init__" pl)
      callWith p4 g first (backTo p4 (starEach [.Constant (.str text) j p3] (PySem.W.envX qual scope L f (.ref cda) [("__class__", cc)]))) [])) :
    FnOk P w K mg base CX (k + 1) f (PySem.W.ksFn name qual params [supSt text j p0 p1 p2 p3 p4 p5, setSt self x fl q1 q2 q3 q4, setSt self y fl2 r1 r2 r3 r4] scope dV kV doc pm an (.ref cda) ct cc) [self, x, y] (spIni2 C fl fl2) := by
  refine fn_ofS lk hcd S T hm hp (by rw [hps]; rfl) hks (fun vs H Q E h => ?_) he fun A outer s H vs Q E hsp => ?_
  · obtain ⟨a, u1, u2, rfl, _⟩ := h
    rfl
  · obtain ⟨a, u1, u2, rfl, ha, q⟩ := hsp
    refine ⟨a, rfl, ha, _, pss_cons (ps_ost (X := ncx CX P w K mg base [self, x, y, "__class__"] _ f A outer s H E) (pe_var (i := 0) rfl (.inl (S.par self (by simp))) hd1 hd3) (pe_var (i := 1) rfl (.inl (S.par x (by simp))) hd2 hd4)) (pss_one (ps_ost (X := ncx CX P w K mg base [self, x, y, "__class__"] _ f A outer s H E) (pe_var (i := 0) rfl (.inl (S.par self (by simp))) hd1 hd3) (pe_var (i := 2) rfl (.inl (S.par y (by simp))) hd5 hd6))), ?_⟩
    refine ⟨_, rfl, _, rfl, a, C, rfl, T.oex, hno, .inl ⟨ha, fun dx n ne => ?_⟩⟩
    refine ⟨_, rfl, _, rfl, a, C, rfl, T.oex, hno2, .inr ⟨dx, _, upd_same, by rw [upd_ne ne]; exact upd_same, by simp, q dx n ne⟩⟩
theorem ini0_ok (lk : K.lookup f = some ⟨oc, od, .func (PySem.W.ksFn name qual params [supSt text j p0 p1 p2 p3 p4 p5] scope dV kV doc pm an (.ref cda) ct cc), osl⟩) (hcd : PySem.W.codeIn K (.ref cda) qual = true)
    (S : NScope [self, "__class__"] [self] ["__class__"] scope) (T : SupC P K C cc cda f) (hm : mg "super" = none) (hp : (params.posonlyargs ++ params.args).head? = some ar) (hps : ar.arg = self)
    (hks : scope.names.lookup ("super" : Str) = some .globalImplicit) 
    {pl : Sem Bool} (he : ∀ L : Addr, eval (.Call (.Attribute (.Call (.Name "super" p0) [] [] p1) "__init__" p2) [.Constant (.str text) j p3] [] p4) (PySem.W.envX qual scope L f (.ref cda) [("__class__", cc)]) = (do
      let ov ← attributeBase (.Call (.Name "super" p0) [] [] p1) "__init__" (PySem.W.envX qual scope L f (.ref cda) [("__class__", cc)]) (eval (.Call (.Name "super" p0) [] [] p1) (PySem.W.envX qual scope L f (.ref cda) [("__class__", cc)]))
      standAt p2.atName
      let (g, first) ← holding [ov] (getMethod ov "__init__" pl)
      callWith p4 g first (backTo p4 (starEach [.Constant (.str text) j p3] (PySem.W.envX qual scope L f (.ref cda) [("__class__", cc)]))) [])) :
    FnOk P w K mg base CX (k + 1) f (PySem.W.ksFn name qual params [supSt text j p0 p1 p2 p3 p4 p5] scope dV kV doc pm an (.ref cda) ct cc) [self] (spIni0 C) := by
  refine fn_ofS lk hcd S T hm hp (by rw [hps]; rfl) hks (fun vs H Q E h => ?_) he fun A outer s H vs Q E hsp => ?_
  · obtain ⟨a, rfl, _⟩ := h
    rfl
  · obtain ⟨a, rfl, ha, q⟩ := hsp
    exact ⟨a, rfl, ha, _, pss_nil, q⟩
end
end EX

set_option Elab.async false
set_option linter.all false
set_option maxRecDepth 100000
set_option maxHeartbeats 0
namespace K92
open PySem PySem.Spec PyProof.Rows L2 XH EX DL RZ NdefX
/-! ### words of the mirrors -/
def clK (K : PySem.W.Frag) : PySem.Str → Option Addr := fun x => if x ∈ excs then some (He.ga K x) else if x = "WorldError" then some (He.ga K x) else none
def rel (y : PySem.Str) : PySem.Str → Option Bool := fun cn => if cn ∈ excs then some (decide (cn = y)) else none
def relW : PySem.Str → Option Bool := fun cn => if cn ∈ excs then some true else none
def relV : PySem.Str → Option Bool := fun cn => if cn ∈ excs then some true else if cn = "WorldError" then some true else none
def okl_thing : List PySem.Str := (["BadWorld", "BadPlan", "BadAnswers", "BadNumber", "BadTree", "BadMarks", "BadLetters", "BadReader", "BadText", "BadThing", "BadPlace", "BadFacts"] : List PySem.Str)
def ok_thing : PySem.Str → Bool := fun cn => decide (cn ∈ okl_thing)
def okl_index : List PySem.Str := (["BadKnown", "BadGroup", "BadRow", "BadWeight", "BadPut", "BadUnknown", "BadHolder", "BadIndex", "BadLinks", "BadTelling", "BadLine", "BadPeople", "BadPlaces", "BadNames", "BadPiece"] : List PySem.Str)
def ok_index : PySem.Str → Bool := fun cn => decide (cn ∈ okl_index)
def okl_name : List PySem.Str := (["NoQuestion", "BadHands", "NoHand", "Known", "NotKnown", "BadView", "BadAsk", "NoState", "NoLetter", "BadSum", "BadMachine", "TakenName", "BadCode", "BadClass", "Uneven", "NoClass", "BadPart", "BadBundle", "BadName", "NoName", "BadWindow", "NoPerson", "SamePerson", "BadArc", "BadAmounts"] : List PySem.Str)
def ok_name : PySem.Str → Bool := fun cn => decide (cn ∈ okl_name)
def okl_state : List PySem.Str := (["BadBox"] : List PySem.Str)
def ok_state : PySem.Str → Bool := fun cn => decide (cn ∈ okl_state)
def okl_sign : List PySem.Str := (["BadLink"] : List PySem.Str)
def ok_sign : PySem.Str → Bool := fun cn => decide (cn ∈ okl_sign)
def okl_prime : List PySem.Str := (["BadPrime"] : List PySem.Str)
def ok_prime : PySem.Str → Bool := fun cn => decide (cn ∈ okl_prime)
def okl_line : List PySem.Str := (["BadOrder"] : List PySem.Str)
def ok_line : PySem.Str → Bool := fun cn => decide (cn ∈ okl_line)
def okl_first : List PySem.Str := (["Crowded"] : List PySem.Str)
def ok_first : PySem.Str → Bool := fun cn => decide (cn ∈ okl_first)
def okl_last : List PySem.Str := (["Crowded"] : List PySem.Str)
def ok_last : PySem.Str → Bool := fun cn => decide (cn ∈ okl_last)
def m__law_draw : SM := (mSeq (mStrmSet 0 2 (mOp dAdd (mStrmI 0 2) (mC (.int 1))))
  (mSeq (mIfS (mAnd (mB (mOp dEq (mStrmI 0 1) (mC (.int 0)))) (mStrmNe 0)) (mSeq (mStrmPop 0 3)
  (mSeq (mStrmSet 0 3 (mOp dMod (mCall dInt (mCons (mOp dAdd (mOp dAdd (mOp dMul (mStrmI 0 3) (mC (.int 8191))) (mVar 3)) (mC (.int 3))) mNil)) (mC (.int 2147483647))))
  (mSeq (mStrmSet 0 1 (mIf (mB (mOp dGe (mVar 3) (mOp dPow (mC (.int 10)) (mC (.int 18))))) (mVar 3) (mC (.int 0))))
  mSkip))) mSkip)
  (mSeq (mIfS (mB (mOp dGt (mStrmI 0 1) (mC (.int 0)))) (mSeq (mAsg (tgN 4) (mOp dMod (mCall dInt (mCons (mStrmI 0 1) mNil)) (mVar 1)))
  (mSeq (mStrmSet 0 1 (mOp dFdiv (mStrmI 0 1) (mVar 1)))
  (mSeq (mRet (mVar 4))
  mSkip))) mSkip)
  (mSeq (mAsg (tgN 2) (mOp dMod (mCall dInt (mCons (mOp dPow (mOp dAdd (mOp dAdd (mStrmI 0 3) (mOp dMul (mC (.int 7919)) (mStrmI 0 2))) (mC (.int 104729))) (mC (.int 5))) mNil)) (mC (.int 2147483629))))
  (mSeq (mRet (mOp dMod (mOp dMod (mCall dInt (mCons (mOp dPow (mOp dAdd (mOp dAdd (mOp dMul (mVar 2) (mC (.int 48271))) (mOp dMul (mC (.int 30011)) (mStrmI 0 2))) (mC (.int 29))) (mC (.int 3))) mNil)) (mC (.int 1000000007))) (mVar 1)))
  mSkip)))))
def g__law_draw : Fm := fnM 5 true m__law_draw
def m__law_pick : SM := (mSeq (mRet (mOp dIx (mVar 1) (mCallS 0 1 g__law_draw (mCons (mCall dLen (mCons (mVar 1) mNil)) mNil))))
  mSkip)
def g__law_pick : Fm := fnM 2 true m__law_pick
def m__law_pairs : SM := (mSeq (mOwn 1 (mDisp .lst mNil))
  (mSeq (mExt 1 (mDisp .lst (mCons (mDisp .tup (mCons (mMkE "BadWorld" (mk1 "thing") (mCons (mVar 0) mNil)) (mCons (mMkE "BadWorld" (mk1 "thing") (mCons (mVar 0) mNil)) mNil))) (mCons (mDisp .tup (mCons (mMkE "BadKnown" (mk1 "index") (mCons (mVar 0) mNil)) (mCons (mMkE "BadKnown" (mk1 "index") (mCons (mVar 0) mNil)) mNil))) mNil))))
  (mSeq (mExt 1 (mDisp .lst (mCons (mDisp .tup (mCons (mMkE "NoQuestion" (mk1 "name") (mCons (mVar 0) mNil)) (mCons (mMkE "NoQuestion" (mk1 "name") (mCons (mVar 0) mNil)) mNil))) (mCons (mDisp .tup (mCons (mMkE "BadPlan" (mk1 "thing") (mCons (mVar 0) mNil)) (mCons (mMkE "BadPlan" (mk1 "thing") (mCons (mVar 0) mNil)) mNil))) mNil))))
  (mSeq (mExt 1 (mDisp .lst (mCons (mDisp .tup (mCons (mMkE "BadAnswers" (mk1 "thing") (mCons (mVar 0) mNil)) (mCons (mMkE "BadAnswers" (mk1 "thing") (mCons (mVar 0) mNil)) mNil))) (mCons (mDisp .tup (mCons (mMkE "BadHands" (mk1 "name") (mCons (mVar 0) mNil)) (mCons (mMkE "BadHands" (mk1 "name") (mCons (mVar 0) mNil)) mNil))) mNil))))
  (mSeq (mExt 1 (mDisp .lst (mCons (mDisp .tup (mCons (mMkE "BadGroup" (mk1 "index") (mCons (mVar 0) mNil)) (mCons (mMkE "BadGroup" (mk1 "index") (mCons (mVar 0) mNil)) mNil))) (mCons (mDisp .tup (mCons (mMkE "NoHand" (mk1 "name") (mCons (mVar 0) mNil)) (mCons (mMkE "NoHand" (mk1 "name") (mCons (mVar 0) mNil)) mNil))) mNil))))
  (mSeq (mExt 1 (mDisp .lst (mCons (mDisp .tup (mCons (mMkE "BadNumber" (mk1 "thing") (mCons (mVar 0) mNil)) (mCons (mMkE "BadNumber" (mk1 "thing") (mCons (mVar 0) mNil)) mNil))) (mCons (mDisp .tup (mCons (mMkE "Known" (mk1 "name") (mCons (mVar 0) mNil)) (mCons (mMkE "Known" (mk1 "name") (mCons (mVar 0) mNil)) mNil))) mNil))))
  (mSeq (mExt 1 (mDisp .lst (mCons (mDisp .tup (mCons (mMkE "NotKnown" (mk1 "name") (mCons (mVar 0) mNil)) (mCons (mMkE "NotKnown" (mk1 "name") (mCons (mVar 0) mNil)) mNil))) (mCons (mDisp .tup (mCons (mMkE "BadRow" (mk1 "index") (mCons (mVar 0) mNil)) (mCons (mMkE "BadRow" (mk1 "index") (mCons (mVar 0) mNil)) mNil))) mNil))))
  (mSeq (mExt 1 (mDisp .lst (mCons (mDisp .tup (mCons (mMkE "BadTree" (mk1 "thing") (mCons (mVar 0) mNil)) (mCons (mMkE "BadTree" (mk1 "thing") (mCons (mVar 0) mNil)) mNil))) (mCons (mDisp .tup (mCons (mMkE "BadWeight" (mk1 "index") (mCons (mVar 0) mNil)) (mCons (mMkE "BadWeight" (mk1 "index") (mCons (mVar 0) mNil)) mNil))) mNil))))
  (mSeq (mExt 1 (mDisp .lst (mCons (mDisp .tup (mCons (mMkE "BadView" (mk1 "name") (mCons (mVar 0) mNil)) (mCons (mMkE "BadView" (mk1 "name") (mCons (mVar 0) mNil)) mNil))) (mCons (mDisp .tup (mCons (mMkE "BadBox" (mk1 "state") (mCons (mVar 0) mNil)) (mCons (mMkE "BadBox" (mk1 "state") (mCons (mVar 0) mNil)) mNil))) mNil))))
  (mSeq (mExt 1 (mDisp .lst (mCons (mDisp .tup (mCons (mMkE "BadAsk" (mk1 "name") (mCons (mVar 0) mNil)) (mCons (mMkE "BadAsk" (mk1 "name") (mCons (mVar 0) mNil)) mNil))) (mCons (mDisp .tup (mCons (mMkE "NoState" (mk1 "name") (mCons (mVar 0) mNil)) (mCons (mMkE "NoState" (mk1 "name") (mCons (mVar 0) mNil)) mNil))) mNil))))
  (mSeq (mExt 1 (mDisp .lst (mCons (mDisp .tup (mCons (mMkE "NoLetter" (mk1 "name") (mCons (mVar 0) mNil)) (mCons (mMkE "NoLetter" (mk1 "name") (mCons (mVar 0) mNil)) mNil))) (mCons (mDisp .tup (mCons (mMkE "BadPut" (mk1 "index") (mCons (mVar 0) mNil)) (mCons (mMkE "BadPut" (mk1 "index") (mCons (mVar 0) mNil)) mNil))) mNil))))
  (mSeq (mExt 1 (mDisp .lst (mCons (mDisp .tup (mCons (mMkE "BadMarks" (mk1 "thing") (mCons (mVar 0) mNil)) (mCons (mMkE "BadMarks" (mk1 "thing") (mCons (mVar 0) mNil)) mNil))) (mCons (mDisp .tup (mCons (mMkE "BadLink" (mk1 "sign") (mCons (mVar 0) mNil)) (mCons (mMkE "BadLink" (mk1 "sign") (mCons (mVar 0) mNil)) mNil))) mNil))))
  (mSeq (mExt 1 (mDisp .lst (mCons (mDisp .tup (mCons (mMkE "BadUnknown" (mk1 "index") (mCons (mVar 0) mNil)) (mCons (mMkE "BadUnknown" (mk1 "index") (mCons (mVar 0) mNil)) mNil))) (mCons (mDisp .tup (mCons (mMkE "BadSum" (mk1 "name") (mCons (mVar 0) mNil)) (mCons (mMkE "BadSum" (mk1 "name") (mCons (mVar 0) mNil)) mNil))) mNil))))
  (mSeq (mExt 1 (mDisp .lst (mCons (mDisp .tup (mCons (mMkE "BadPrime" (mk1 "prime") (mCons (mVar 0) mNil)) (mCons (mMkE "BadPrime" (mk1 "prime") (mCons (mVar 0) mNil)) mNil))) (mCons (mDisp .tup (mCons (mMkE "BadHolder" (mk1 "index") (mCons (mVar 0) mNil)) (mCons (mMkE "BadHolder" (mk1 "index") (mCons (mVar 0) mNil)) mNil))) mNil))))
  (mSeq (mExt 1 (mDisp .lst (mCons (mDisp .tup (mCons (mMkE "BadLetters" (mk1 "thing") (mCons (mVar 0) mNil)) (mCons (mMkE "BadLetters" (mk1 "thing") (mCons (mVar 0) mNil)) mNil))) (mCons (mDisp .tup (mCons (mMkE "BadMachine" (mk1 "name") (mCons (mVar 0) mNil)) (mCons (mMkE "BadMachine" (mk1 "name") (mCons (mVar 0) mNil)) mNil))) mNil))))
  (mSeq (mExt 1 (mDisp .lst (mCons (mDisp .tup (mCons (mMkE "BadIndex" (mk1 "index") (mCons (mVar 0) mNil)) (mCons (mMkE "BadIndex" (mk1 "index") (mCons (mVar 0) mNil)) mNil))) (mCons (mDisp .tup (mCons (mMkE "TakenName" (mk1 "name") (mCons (mVar 0) mNil)) (mCons (mMkE "TakenName" (mk1 "name") (mCons (mVar 0) mNil)) mNil))) mNil))))
  (mSeq (mExt 1 (mDisp .lst (mCons (mDisp .tup (mCons (mMkE "BadCode" (mk1 "name") (mCons (mVar 0) mNil)) (mCons (mMkE "BadCode" (mk1 "name") (mCons (mVar 0) mNil)) mNil))) (mCons (mDisp .tup (mCons (mMkE "BadClass" (mk1 "name") (mCons (mVar 0) mNil)) (mCons (mMkE "BadClass" (mk1 "name") (mCons (mVar 0) mNil)) mNil))) mNil))))
  (mSeq (mExt 1 (mDisp .lst (mCons (mDisp .tup (mCons (mMkE "Uneven" (mk1 "name") (mCons (mVar 0) mNil)) (mCons (mMkE "Uneven" (mk1 "name") (mCons (mVar 0) mNil)) mNil))) (mCons (mDisp .tup (mCons (mMkE "BadReader" (mk1 "thing") (mCons (mVar 0) mNil)) (mCons (mMkE "BadReader" (mk1 "thing") (mCons (mVar 0) mNil)) mNil))) mNil))))
  (mSeq (mExt 1 (mDisp .lst (mCons (mDisp .tup (mCons (mMkE "NoClass" (mk1 "name") (mCons (mVar 0) mNil)) (mCons (mMkE "NoClass" (mk1 "name") (mCons (mVar 0) mNil)) mNil))) (mCons (mDisp .tup (mCons (mMkE "BadPart" (mk1 "name") (mCons (mVar 0) mNil)) (mCons (mMkE "BadPart" (mk1 "name") (mCons (mVar 0) mNil)) mNil))) mNil))))
  (mSeq (mExt 1 (mDisp .lst (mCons (mDisp .tup (mCons (mMkE "BadBundle" (mk1 "name") (mCons (mVar 0) mNil)) (mCons (mMkE "BadBundle" (mk1 "name") (mCons (mVar 0) mNil)) mNil))) (mCons (mDisp .tup (mCons (mMkE "BadLinks" (mk1 "index") (mCons (mVar 0) mNil)) (mCons (mMkE "BadLinks" (mk1 "index") (mCons (mVar 0) mNil)) mNil))) mNil))))
  (mSeq (mExt 1 (mDisp .lst (mCons (mDisp .tup (mCons (mMkE "BadTelling" (mk1 "index") (mCons (mVar 0) mNil)) (mCons (mMkE "BadTelling" (mk1 "index") (mCons (mVar 0) mNil)) mNil))) (mCons (mDisp .tup (mCons (mMkE "BadText" (mk1 "thing") (mCons (mVar 0) mNil)) (mCons (mMkE "BadText" (mk1 "thing") (mCons (mVar 0) mNil)) mNil))) mNil))))
  (mSeq (mExt 1 (mDisp .lst (mCons (mDisp .tup (mCons (mMkE "BadName" (mk1 "name") (mCons (mVar 0) mNil)) (mCons (mMkE "BadName" (mk1 "name") (mCons (mVar 0) mNil)) mNil))) (mCons (mDisp .tup (mCons (mMkE "NoName" (mk1 "name") (mCons (mVar 0) mNil)) (mCons (mMkE "NoName" (mk1 "name") (mCons (mVar 0) mNil)) mNil))) mNil))))
  (mSeq (mExt 1 (mDisp .lst (mCons (mDisp .tup (mCons (mMkE "BadThing" (mk1 "thing") (mCons (mVar 0) mNil)) (mCons (mMkE "BadThing" (mk1 "thing") (mCons (mVar 0) mNil)) mNil))) (mCons (mDisp .tup (mCons (mMkE "BadOrder" (mk1 "line") (mCons (mVar 0) mNil)) (mCons (mMkE "BadOrder" (mk1 "line") (mCons (mVar 0) mNil)) mNil))) mNil))))
  (mSeq (mExt 1 (mDisp .lst (mCons (mDisp .tup (mCons (mMkE "BadLine" (mk1 "index") (mCons (mVar 0) mNil)) (mCons (mMkE "BadLine" (mk1 "index") (mCons (mVar 0) mNil)) mNil))) (mCons (mDisp .tup (mCons (mMkE "BadWindow" (mk1 "name") (mCons (mVar 0) mNil)) (mCons (mMkE "BadWindow" (mk1 "name") (mCons (mVar 0) mNil)) mNil))) mNil))))
  (mSeq (mExt 1 (mDisp .lst (mCons (mDisp .tup (mCons (mMkE "BadPeople" (mk1 "index") (mCons (mVar 0) mNil)) (mCons (mMkE "BadPeople" (mk1 "index") (mCons (mVar 0) mNil)) mNil))) (mCons (mDisp .tup (mCons (mMkE "BadPlaces" (mk1 "index") (mCons (mVar 0) mNil)) (mCons (mMkE "BadPlaces" (mk1 "index") (mCons (mVar 0) mNil)) mNil))) mNil))))
  (mSeq (mExt 1 (mDisp .lst (mCons (mDisp .tup (mCons (mMkE "BadPlace" (mk1 "thing") (mCons (mVar 0) mNil)) (mCons (mMkE "BadPlace" (mk1 "thing") (mCons (mVar 0) mNil)) mNil))) (mCons (mDisp .tup (mCons (mMkE "BadFacts" (mk1 "thing") (mCons (mVar 0) mNil)) (mCons (mMkE "BadFacts" (mk1 "thing") (mCons (mVar 0) mNil)) mNil))) mNil))))
  (mSeq (mExt 1 (mDisp .lst (mCons (mDisp .tup (mCons (mMkE "NoPerson" (mk1 "name") (mCons (mVar 0) mNil)) (mCons (mMkE "NoPerson" (mk1 "name") (mCons (mVar 0) mNil)) mNil))) (mCons (mDisp .tup (mCons (mMkE "SamePerson" (mk1 "name") (mCons (mVar 0) mNil)) (mCons (mMkE "SamePerson" (mk1 "name") (mCons (mVar 0) mNil)) mNil))) mNil))))
  (mSeq (mExt 1 (mDisp .lst (mCons (mDisp .tup (mCons (mMkE "BadArc" (mk1 "name") (mCons (mVar 0) mNil)) (mCons (mMkE "BadArc" (mk1 "name") (mCons (mVar 0) mNil)) mNil))) (mCons (mDisp .tup (mCons (mMkE "BadNames" (mk1 "index") (mCons (mVar 0) mNil)) (mCons (mMkE "BadNames" (mk1 "index") (mCons (mVar 0) mNil)) mNil))) mNil))))
  (mSeq (mExt 1 (mDisp .lst (mCons (mDisp .tup (mCons (mMkE "BadAmounts" (mk1 "name") (mCons (mVar 0) mNil)) (mCons (mMkE "BadAmounts" (mk1 "name") (mCons (mVar 0) mNil)) mNil))) (mCons (mDisp .tup (mCons (mMkE "BadPiece" (mk1 "index") (mCons (mVar 0) mNil)) (mCons (mMkE "BadPiece" (mk1 "index") (mCons (mVar 0) mNil)) mNil))) mNil))))
  (mSeq (mFz 1 (mRet (mVar 1)))
  mSkip))))))))))))))))))))))))))))))
def g__law_pairs : Fm := fnM 2 false m__law_pairs
def m__law_held : SM := (mSeq (mOwn 1 (mDisp .lst mNil))
  (mSeq (mExt 1 (mDisp .lst (mCons (mEf ok_thing "thing" (mOp dIx (mVar 0) (mC (.int 0)))) (mCons (mEf ok_index "index" (mOp dIx (mVar 0) (mC (.int 1)))) (mCons (mEf ok_name "name" (mOp dIx (mVar 0) (mC (.int 2)))) (mCons (mEf ok_thing "thing" (mOp dIx (mVar 0) (mC (.int 3)))) mNil))))))
  (mSeq (mExt 1 (mDisp .lst (mCons (mEf ok_thing "thing" (mOp dIx (mVar 0) (mC (.int 4)))) (mCons (mEf ok_name "name" (mOp dIx (mVar 0) (mC (.int 5)))) (mCons (mEf ok_index "index" (mOp dIx (mVar 0) (mC (.int 6)))) (mCons (mEf ok_name "name" (mOp dIx (mVar 0) (mC (.int 7)))) mNil))))))
  (mSeq (mExt 1 (mDisp .lst (mCons (mEf ok_thing "thing" (mOp dIx (mVar 0) (mC (.int 8)))) (mCons (mEf ok_name "name" (mOp dIx (mVar 0) (mC (.int 9)))) (mCons (mEf ok_name "name" (mOp dIx (mVar 0) (mC (.int 10)))) (mCons (mEf ok_index "index" (mOp dIx (mVar 0) (mC (.int 11)))) mNil))))))
  (mSeq (mExt 1 (mDisp .lst (mCons (mEf ok_thing "thing" (mOp dIx (mVar 0) (mC (.int 12)))) (mCons (mEf ok_index "index" (mOp dIx (mVar 0) (mC (.int 13)))) (mCons (mEf ok_name "name" (mOp dIx (mVar 0) (mC (.int 14)))) (mCons (mEf ok_state "state" (mOp dIx (mVar 0) (mC (.int 15)))) mNil))))))
  (mSeq (mExt 1 (mDisp .lst (mCons (mEf ok_name "name" (mOp dIx (mVar 0) (mC (.int 16)))) (mCons (mEf ok_name "name" (mOp dIx (mVar 0) (mC (.int 17)))) (mCons (mEf ok_name "name" (mOp dIx (mVar 0) (mC (.int 18)))) (mCons (mEf ok_index "index" (mOp dIx (mVar 0) (mC (.int 19)))) mNil))))))
  (mSeq (mExt 1 (mDisp .lst (mCons (mEf ok_thing "thing" (mOp dIx (mVar 0) (mC (.int 20)))) (mCons (mEf ok_sign "sign" (mOp dIx (mVar 0) (mC (.int 21)))) (mCons (mEf ok_index "index" (mOp dIx (mVar 0) (mC (.int 22)))) (mCons (mEf ok_name "name" (mOp dIx (mVar 0) (mC (.int 23)))) mNil))))))
  (mSeq (mExt 1 (mDisp .lst (mCons (mEf ok_prime "prime" (mOp dIx (mVar 0) (mC (.int 24)))) (mCons (mEf ok_index "index" (mOp dIx (mVar 0) (mC (.int 25)))) (mCons (mEf ok_thing "thing" (mOp dIx (mVar 0) (mC (.int 26)))) (mCons (mEf ok_name "name" (mOp dIx (mVar 0) (mC (.int 27)))) mNil))))))
  (mSeq (mExt 1 (mDisp .lst (mCons (mEf ok_index "index" (mOp dIx (mVar 0) (mC (.int 28)))) (mCons (mEf ok_name "name" (mOp dIx (mVar 0) (mC (.int 29)))) (mCons (mEf ok_name "name" (mOp dIx (mVar 0) (mC (.int 30)))) (mCons (mEf ok_name "name" (mOp dIx (mVar 0) (mC (.int 31)))) mNil))))))
  (mSeq (mExt 1 (mDisp .lst (mCons (mEf ok_name "name" (mOp dIx (mVar 0) (mC (.int 32)))) (mCons (mEf ok_thing "thing" (mOp dIx (mVar 0) (mC (.int 33)))) (mCons (mEf ok_name "name" (mOp dIx (mVar 0) (mC (.int 34)))) (mCons (mEf ok_name "name" (mOp dIx (mVar 0) (mC (.int 35)))) mNil))))))
  (mSeq (mExt 1 (mDisp .lst (mCons (mEf ok_name "name" (mOp dIx (mVar 0) (mC (.int 36)))) (mCons (mEf ok_index "index" (mOp dIx (mVar 0) (mC (.int 37)))) (mCons (mEf ok_index "index" (mOp dIx (mVar 0) (mC (.int 38)))) (mCons (mEf ok_thing "thing" (mOp dIx (mVar 0) (mC (.int 39)))) mNil))))))
  (mSeq (mExt 1 (mDisp .lst (mCons (mEf ok_name "name" (mOp dIx (mVar 0) (mC (.int 40)))) (mCons (mEf ok_name "name" (mOp dIx (mVar 0) (mC (.int 41)))) (mCons (mEf ok_thing "thing" (mOp dIx (mVar 0) (mC (.int 42)))) (mCons (mEf ok_line "line" (mOp dIx (mVar 0) (mC (.int 43)))) mNil))))))
  (mSeq (mExt 1 (mDisp .lst (mCons (mEf ok_index "index" (mOp dIx (mVar 0) (mC (.int 44)))) (mCons (mEf ok_name "name" (mOp dIx (mVar 0) (mC (.int 45)))) (mCons (mEf ok_index "index" (mOp dIx (mVar 0) (mC (.int 46)))) (mCons (mEf ok_index "index" (mOp dIx (mVar 0) (mC (.int 47)))) mNil))))))
  (mSeq (mExt 1 (mDisp .lst (mCons (mEf ok_thing "thing" (mOp dIx (mVar 0) (mC (.int 48)))) (mCons (mEf ok_thing "thing" (mOp dIx (mVar 0) (mC (.int 49)))) (mCons (mEf ok_name "name" (mOp dIx (mVar 0) (mC (.int 50)))) (mCons (mEf ok_name "name" (mOp dIx (mVar 0) (mC (.int 51)))) mNil))))))
  (mSeq (mExt 1 (mDisp .lst (mCons (mEf ok_name "name" (mOp dIx (mVar 0) (mC (.int 52)))) (mCons (mEf ok_index "index" (mOp dIx (mVar 0) (mC (.int 53)))) (mCons (mEf ok_name "name" (mOp dIx (mVar 0) (mC (.int 54)))) (mCons (mEf ok_index "index" (mOp dIx (mVar 0) (mC (.int 55)))) mNil))))))
  (mSeq (mFz 1 (mRet (mVar 1)))
  mSkip))))))))))))))))
def g__law_held : Fm := fnM 2 false m__law_held
def m__law_classes : SM := (mSeq (mOwn 1 (mDisp .lst mNil))
  (mSeq (mExt 1 (mDisp .lst (mCons (mIsE (rel "BadWorld") (mVar 0)) (mCons (mIsE (rel "BadKnown") (mVar 0)) (mCons (mIsE (rel "NoQuestion") (mVar 0)) mNil)))))
  (mSeq (mExt 1 (mDisp .lst (mCons (mIsE (rel "BadPlan") (mVar 0)) (mCons (mIsE (rel "BadAnswers") (mVar 0)) (mCons (mIsE (rel "BadHands") (mVar 0)) mNil)))))
  (mSeq (mExt 1 (mDisp .lst (mCons (mIsE (rel "BadGroup") (mVar 0)) (mCons (mIsE (rel "NoHand") (mVar 0)) (mCons (mIsE (rel "BadNumber") (mVar 0)) mNil)))))
  (mSeq (mExt 1 (mDisp .lst (mCons (mIsE (rel "Known") (mVar 0)) (mCons (mIsE (rel "NotKnown") (mVar 0)) (mCons (mIsE (rel "BadRow") (mVar 0)) mNil)))))
  (mSeq (mExt 1 (mDisp .lst (mCons (mIsE (rel "BadTree") (mVar 0)) (mCons (mIsE (rel "BadWeight") (mVar 0)) (mCons (mIsE (rel "BadView") (mVar 0)) mNil)))))
  (mSeq (mExt 1 (mDisp .lst (mCons (mIsE (rel "BadBox") (mVar 0)) (mCons (mIsE (rel "BadAsk") (mVar 0)) (mCons (mIsE (rel "NoState") (mVar 0)) mNil)))))
  (mSeq (mExt 1 (mDisp .lst (mCons (mIsE (rel "NoLetter") (mVar 0)) (mCons (mIsE (rel "BadPut") (mVar 0)) (mCons (mIsE (rel "BadMarks") (mVar 0)) mNil)))))
  (mSeq (mExt 1 (mDisp .lst (mCons (mIsE (rel "BadLink") (mVar 0)) (mCons (mIsE (rel "BadUnknown") (mVar 0)) (mCons (mIsE (rel "BadSum") (mVar 0)) mNil)))))
  (mSeq (mExt 1 (mDisp .lst (mCons (mIsE (rel "BadPrime") (mVar 0)) (mCons (mIsE (rel "BadHolder") (mVar 0)) (mCons (mIsE (rel "BadLetters") (mVar 0)) mNil)))))
  (mSeq (mExt 1 (mDisp .lst (mCons (mIsE (rel "BadMachine") (mVar 0)) (mCons (mIsE (rel "BadIndex") (mVar 0)) (mCons (mIsE (rel "TakenName") (mVar 0)) mNil)))))
  (mSeq (mExt 1 (mDisp .lst (mCons (mIsE (rel "BadCode") (mVar 0)) (mCons (mIsE (rel "BadClass") (mVar 0)) (mCons (mIsE (rel "Uneven") (mVar 0)) mNil)))))
  (mSeq (mExt 1 (mDisp .lst (mCons (mIsE (rel "BadReader") (mVar 0)) (mCons (mIsE (rel "NoClass") (mVar 0)) (mCons (mIsE (rel "BadPart") (mVar 0)) mNil)))))
  (mSeq (mExt 1 (mDisp .lst (mCons (mIsE (rel "BadBundle") (mVar 0)) (mCons (mIsE (rel "BadLinks") (mVar 0)) (mCons (mIsE (rel "BadTelling") (mVar 0)) mNil)))))
  (mSeq (mExt 1 (mDisp .lst (mCons (mIsE (rel "BadText") (mVar 0)) (mCons (mIsE (rel "BadName") (mVar 0)) (mCons (mIsE (rel "NoName") (mVar 0)) mNil)))))
  (mSeq (mExt 1 (mDisp .lst (mCons (mIsE (rel "BadThing") (mVar 0)) (mCons (mIsE (rel "BadOrder") (mVar 0)) (mCons (mIsE (rel "BadLine") (mVar 0)) mNil)))))
  (mSeq (mExt 1 (mDisp .lst (mCons (mIsE (rel "BadWindow") (mVar 0)) (mCons (mIsE (rel "BadPeople") (mVar 0)) (mCons (mIsE (rel "BadPlaces") (mVar 0)) mNil)))))
  (mSeq (mExt 1 (mDisp .lst (mCons (mIsE (rel "BadPlace") (mVar 0)) (mCons (mIsE (rel "BadFacts") (mVar 0)) (mCons (mIsE (rel "NoPerson") (mVar 0)) mNil)))))
  (mSeq (mExt 1 (mDisp .lst (mCons (mIsE (rel "SamePerson") (mVar 0)) (mCons (mIsE (rel "BadArc") (mVar 0)) (mCons (mIsE (rel "BadNames") (mVar 0)) mNil)))))
  (mSeq (mExt 1 (mDisp .lst (mCons (mIsE (rel "BadAmounts") (mVar 0)) (mCons (mIsE (rel "BadPiece") (mVar 0)) (mCons (mIsE (rel "UnlikeQuestions") (mVar 0)) mNil)))))
  (mSeq (mExt 1 (mDisp .lst (mCons (mIsE (rel "UnlikeLetters") (mVar 0)) (mCons (mIsE (rel "NoRow") (mVar 0)) (mCons (mIsE (rel "Crowded") (mVar 0)) mNil)))))
  (mSeq (mFz 1 (mRet (mVar 1)))
  mSkip))))))))))))))))))))))
def g__law_classes : Fm := fnM 2 false m__law_classes
def m_law : SM := (mSeq (mFor (mRange1 (mC (.int 4))) (tgN 2) (mSeq (mAsg (tgN 3) (mCallS 1 1 g__law_pick (mCons (mDisp .lst (mCons (mC .non) (mCons (mC (.int 5)) (mCons (mNeg (mC (.int 1))) (mCons (mC (.str "a")) (mCons (mDisp .lst (mCons (mVar 2) mNil)) (mCons (mDisp .tup (mCons (mC (.int 1)) (mCons (mDisp .lst (mCons (mC (.int 2)) mNil)) mNil))) (mCons (mDic [((mC (.str "a")), (mC (.int 1)))]) (mCons (mC (.bl true)) (mCons (mOp dPow (mC (.int 10)) (mC (.int 14))) mNil)))))))))) mNil)))
  (mSeq (mFor (mRange1 (mC (.int 2))) (tgN 4) (mSeq (mOwn 5 (mLc [8] (mItems (mCallF 1 g__law_pairs (mCons (mVar 3) mNil))) (tgN 8) mYes (mOp dIx (mVar 8) (mVar 4))))
  (mSeq (mIfS (mThaw 5 (mB (mCall dAny (mCons (mLc [9] (mItems (mCallF 1 g__law_held (mCons (mVar 5) mNil))) (tgN 9) mYes (mOrV (mOp dNeX (mVar 9) (mVar 3)) (mOp dNeX (mIsi [.bool] (mVar 9)) (mIsi [.bool] (mVar 3))))) mNil)))) (mSeq (mRet (mC (.bl false)))
  mSkip) mSkip)
  (mSeq (mExt 5 (mDisp .lst (mCons (mMkE "UnlikeQuestions" mk0 mNil) (mCons (mMkE "UnlikeLetters" mk0 mNil) (mCons (mMkE "NoRow" mk0 mNil) mNil)))))
  (mSeq (mAsg (tgN 6) (mIf (mB (mOp dEq (mVar 4) (mC (.int 0)))) (mMkE "Crowded" (mk2 "first" "last") (mCons (mVar 3) (mCons (mC (.int 7)) mNil))) (mMkE "Crowded" (mk2 "first" "last") (mCons (mVar 3) (mCons (mC (.int 7)) mNil)))))
  (mSeq (mIfS (mOr (mB (mOp dNeX (mEf ok_first "first" (mVar 6)) (mVar 3))) (mB (mOp dNeX (mEf ok_last "last" (mVar 6)) (mC (.int 7))))) (mSeq (mRet (mC (.bl false)))
  mSkip) mSkip)
  (mSeq (mApp 5 (mVar 6))
  (mSeq (mFz 5 (mFor (mEnum (mVar 5)) (tgT [(tgN 7), (tgN 6)]) (mSeq (mIfS (mOr (mNot (mB (mIsE relW (mVar 6)))) (mNot (mB (mIsE relV (mVar 6))))) (mSeq (mRet (mC (.bl false)))
  mSkip) mSkip)
  (mSeq (mIfS (mB (mOp dNeX (mCallF 1 g__law_classes (mCons (mVar 6) mNil)) (mLc [10] (mRange1 (mC (.int 60))) (tgN 10) mYes (mOp dEq (mVar 10) (mVar 7))))) (mSeq (mRet (mC (.bl false)))
  mSkip) mSkip)
  mSkip))))
  mSkip))))))))
  mSkip)))
  (mSeq (mRet (mIsE relV (mMkE "WorldError" mk0 mNil)))
  mSkip))
/-! ### what holds of the written part -/
theorem mem_of_subset_okl_thing {x : PySem.Str} (h : x ∈ okl_thing) : x ∈ excs := by
  have : ∀ y ∈ okl_thing, y ∈ excs := by decide +kernel
  exact this x h
theorem mem_of_subset_okl_index {x : PySem.Str} (h : x ∈ okl_index) : x ∈ excs := by
  have : ∀ y ∈ okl_index, y ∈ excs := by decide +kernel
  exact this x h
theorem mem_of_subset_okl_name {x : PySem.Str} (h : x ∈ okl_name) : x ∈ excs := by
  have : ∀ y ∈ okl_name, y ∈ excs := by decide +kernel
  exact this x h
theorem mem_of_subset_okl_state {x : PySem.Str} (h : x ∈ okl_state) : x ∈ excs := by
  have : ∀ y ∈ okl_state, y ∈ excs := by decide +kernel
  exact this x h
theorem mem_of_subset_okl_sign {x : PySem.Str} (h : x ∈ okl_sign) : x ∈ excs := by
  have : ∀ y ∈ okl_sign, y ∈ excs := by decide +kernel
  exact this x h
theorem mem_of_subset_okl_prime {x : PySem.Str} (h : x ∈ okl_prime) : x ∈ excs := by
  have : ∀ y ∈ okl_prime, y ∈ excs := by decide +kernel
  exact this x h
theorem mem_of_subset_okl_line {x : PySem.Str} (h : x ∈ okl_line) : x ∈ excs := by
  have : ∀ y ∈ okl_line, y ∈ excs := by decide +kernel
  exact this x h
theorem mem_of_subset_okl_first {x : PySem.Str} (h : x ∈ okl_first) : x ∈ excs := by
  have : ∀ y ∈ okl_first, y ∈ excs := by decide +kernel
  exact this x h
theorem mem_of_subset_okl_last {x : PySem.Str} (h : x ∈ okl_last) : x ∈ excs := by
  have : ∀ y ∈ okl_last, y ∈ excs := by decide +kernel
  exact this x h
structure Fx (P : Program) (w : World) (K : PySem.W.Frag) (mg : PySem.Str → Option Value) (base : Heap) : Prop where
  g_len : mg "len" = none
  g_range : mg "range" = none
  g_enumerate : mg "enumerate" = none
  g_isinstance : mg "isinstance" = none
  g_any : mg "any" = none
  g_list : mg "list" = none
  g_int : mg "int" = none
  g_bool : mg "bool" = none
  g_super : mg "super" = none
  g_ValueError : mg "ValueError" = none
  gl__law_start : mg "_law_start" = some (.ref (He.ga K "_law_start"))
  gl__law_draw : mg "_law_draw" = some (.ref (He.ga K "_law_draw"))
  gl__law_pick : mg "_law_pick" = some (.ref (He.ga K "_law_pick"))
  gl__law_pairs : mg "_law_pairs" = some (.ref (He.ga K "_law_pairs"))
  gl__law_held : mg "_law_held" = some (.ref (He.ga K "_law_held"))
  gl__law_classes : mg "_law_classes" = some (.ref (He.ga K "_law_classes"))
  gl_law : mg "law" = some (.ref (He.ga K "law"))
  gl_WorldError : mg "WorldError" = some (.ref (He.ga K "WorldError"))
  gl_BadWorld : mg "BadWorld" = some (.ref (He.ga K "BadWorld"))
  gl_BadKnown : mg "BadKnown" = some (.ref (He.ga K "BadKnown"))
  gl_NoQuestion : mg "NoQuestion" = some (.ref (He.ga K "NoQuestion"))
  gl_BadPlan : mg "BadPlan" = some (.ref (He.ga K "BadPlan"))
  gl_BadAnswers : mg "BadAnswers" = some (.ref (He.ga K "BadAnswers"))
  gl_BadHands : mg "BadHands" = some (.ref (He.ga K "BadHands"))
  gl_BadGroup : mg "BadGroup" = some (.ref (He.ga K "BadGroup"))
  gl_NoHand : mg "NoHand" = some (.ref (He.ga K "NoHand"))
  gl_BadNumber : mg "BadNumber" = some (.ref (He.ga K "BadNumber"))
  gl_Known : mg "Known" = some (.ref (He.ga K "Known"))
  gl_NotKnown : mg "NotKnown" = some (.ref (He.ga K "NotKnown"))
  gl_BadRow : mg "BadRow" = some (.ref (He.ga K "BadRow"))
  gl_UnlikeQuestions : mg "UnlikeQuestions" = some (.ref (He.ga K "UnlikeQuestions"))
  gl_BadTree : mg "BadTree" = some (.ref (He.ga K "BadTree"))
  gl_BadWeight : mg "BadWeight" = some (.ref (He.ga K "BadWeight"))
  gl_BadView : mg "BadView" = some (.ref (He.ga K "BadView"))
  gl_BadBox : mg "BadBox" = some (.ref (He.ga K "BadBox"))
  gl_BadAsk : mg "BadAsk" = some (.ref (He.ga K "BadAsk"))
  gl_NoState : mg "NoState" = some (.ref (He.ga K "NoState"))
  gl_NoLetter : mg "NoLetter" = some (.ref (He.ga K "NoLetter"))
  gl_BadPut : mg "BadPut" = some (.ref (He.ga K "BadPut"))
  gl_BadMarks : mg "BadMarks" = some (.ref (He.ga K "BadMarks"))
  gl_BadLink : mg "BadLink" = some (.ref (He.ga K "BadLink"))
  gl_UnlikeLetters : mg "UnlikeLetters" = some (.ref (He.ga K "UnlikeLetters"))
  gl_BadUnknown : mg "BadUnknown" = some (.ref (He.ga K "BadUnknown"))
  gl_BadSum : mg "BadSum" = some (.ref (He.ga K "BadSum"))
  gl_BadPrime : mg "BadPrime" = some (.ref (He.ga K "BadPrime"))
  gl_BadHolder : mg "BadHolder" = some (.ref (He.ga K "BadHolder"))
  gl_BadLetters : mg "BadLetters" = some (.ref (He.ga K "BadLetters"))
  gl_BadMachine : mg "BadMachine" = some (.ref (He.ga K "BadMachine"))
  gl_BadIndex : mg "BadIndex" = some (.ref (He.ga K "BadIndex"))
  gl_TakenName : mg "TakenName" = some (.ref (He.ga K "TakenName"))
  gl_BadCode : mg "BadCode" = some (.ref (He.ga K "BadCode"))
  gl_BadClass : mg "BadClass" = some (.ref (He.ga K "BadClass"))
  gl_Uneven : mg "Uneven" = some (.ref (He.ga K "Uneven"))
  gl_BadReader : mg "BadReader" = some (.ref (He.ga K "BadReader"))
  gl_NoClass : mg "NoClass" = some (.ref (He.ga K "NoClass"))
  gl_BadPart : mg "BadPart" = some (.ref (He.ga K "BadPart"))
  gl_BadBundle : mg "BadBundle" = some (.ref (He.ga K "BadBundle"))
  gl_BadLinks : mg "BadLinks" = some (.ref (He.ga K "BadLinks"))
  gl_BadTelling : mg "BadTelling" = some (.ref (He.ga K "BadTelling"))
  gl_BadText : mg "BadText" = some (.ref (He.ga K "BadText"))
  gl_BadName : mg "BadName" = some (.ref (He.ga K "BadName"))
  gl_NoName : mg "NoName" = some (.ref (He.ga K "NoName"))
  gl_BadThing : mg "BadThing" = some (.ref (He.ga K "BadThing"))
  gl_BadOrder : mg "BadOrder" = some (.ref (He.ga K "BadOrder"))
  gl_BadLine : mg "BadLine" = some (.ref (He.ga K "BadLine"))
  gl_NoRow : mg "NoRow" = some (.ref (He.ga K "NoRow"))
  gl_BadWindow : mg "BadWindow" = some (.ref (He.ga K "BadWindow"))
  gl_Crowded : mg "Crowded" = some (.ref (He.ga K "Crowded"))
  gl_BadPeople : mg "BadPeople" = some (.ref (He.ga K "BadPeople"))
  gl_BadPlaces : mg "BadPlaces" = some (.ref (He.ga K "BadPlaces"))
  gl_BadPlace : mg "BadPlace" = some (.ref (He.ga K "BadPlace"))
  gl_BadFacts : mg "BadFacts" = some (.ref (He.ga K "BadFacts"))
  gl_NoPerson : mg "NoPerson" = some (.ref (He.ga K "NoPerson"))
  gl_SamePerson : mg "SamePerson" = some (.ref (He.ga K "SamePerson"))
  gl_BadArc : mg "BadArc" = some (.ref (He.ga K "BadArc"))
  gl_BadNames : mg "BadNames" = some (.ref (He.ga K "BadNames"))
  gl_BadAmounts : mg "BadAmounts" = some (.ref (He.ga K "BadAmounts"))
  gl_BadPiece : mg "BadPiece" = some (.ref (He.ga K "BadPiece"))
  fam : Fam K "WorldError" excs
  wEx : PySem.W.excIn K (He.ga K "WorldError") He.veBase "ValueError.__new__" = true
  wKp : PySem.W.keepIn K (.ref (He.ga K "WorldError")) = true
  mk_BadWorld : MkOk P w K mg base (clK K) "BadWorld" ["thing"] (fun C => spIni1 C "thing")
  mk_BadKnown : MkOk P w K mg base (clK K) "BadKnown" ["index"] (fun C => spIni1 C "index")
  mk_NoQuestion : MkOk P w K mg base (clK K) "NoQuestion" ["name"] (fun C => spIni1 C "name")
  mk_BadPlan : MkOk P w K mg base (clK K) "BadPlan" ["thing"] (fun C => spIni1 C "thing")
  mk_BadAnswers : MkOk P w K mg base (clK K) "BadAnswers" ["thing"] (fun C => spIni1 C "thing")
  mk_BadHands : MkOk P w K mg base (clK K) "BadHands" ["name"] (fun C => spIni1 C "name")
  mk_BadGroup : MkOk P w K mg base (clK K) "BadGroup" ["index"] (fun C => spIni1 C "index")
  mk_NoHand : MkOk P w K mg base (clK K) "NoHand" ["name"] (fun C => spIni1 C "name")
  mk_BadNumber : MkOk P w K mg base (clK K) "BadNumber" ["thing"] (fun C => spIni1 C "thing")
  mk_Known : MkOk P w K mg base (clK K) "Known" ["name"] (fun C => spIni1 C "name")
  mk_NotKnown : MkOk P w K mg base (clK K) "NotKnown" ["name"] (fun C => spIni1 C "name")
  mk_BadRow : MkOk P w K mg base (clK K) "BadRow" ["index"] (fun C => spIni1 C "index")
  mk_UnlikeQuestions : MkOk P w K mg base (clK K) "UnlikeQuestions" [] spIni0
  mk_BadTree : MkOk P w K mg base (clK K) "BadTree" ["thing"] (fun C => spIni1 C "thing")
  mk_BadWeight : MkOk P w K mg base (clK K) "BadWeight" ["index"] (fun C => spIni1 C "index")
  mk_BadView : MkOk P w K mg base (clK K) "BadView" ["name"] (fun C => spIni1 C "name")
  mk_BadBox : MkOk P w K mg base (clK K) "BadBox" ["state"] (fun C => spIni1 C "state")
  mk_BadAsk : MkOk P w K mg base (clK K) "BadAsk" ["name"] (fun C => spIni1 C "name")
  mk_NoState : MkOk P w K mg base (clK K) "NoState" ["name"] (fun C => spIni1 C "name")
  mk_NoLetter : MkOk P w K mg base (clK K) "NoLetter" ["name"] (fun C => spIni1 C "name")
  mk_BadPut : MkOk P w K mg base (clK K) "BadPut" ["index"] (fun C => spIni1 C "index")
  mk_BadMarks : MkOk P w K mg base (clK K) "BadMarks" ["thing"] (fun C => spIni1 C "thing")
  mk_BadLink : MkOk P w K mg base (clK K) "BadLink" ["sign"] (fun C => spIni1 C "sign")
  mk_UnlikeLetters : MkOk P w K mg base (clK K) "UnlikeLetters" [] spIni0
  mk_BadUnknown : MkOk P w K mg base (clK K) "BadUnknown" ["index"] (fun C => spIni1 C "index")
  mk_BadSum : MkOk P w K mg base (clK K) "BadSum" ["name"] (fun C => spIni1 C "name")
  mk_BadPrime : MkOk P w K mg base (clK K) "BadPrime" ["prime"] (fun C => spIni1 C "prime")
  mk_BadHolder : MkOk P w K mg base (clK K) "BadHolder" ["index"] (fun C => spIni1 C "index")
  mk_BadLetters : MkOk P w K mg base (clK K) "BadLetters" ["thing"] (fun C => spIni1 C "thing")
  mk_BadMachine : MkOk P w K mg base (clK K) "BadMachine" ["name"] (fun C => spIni1 C "name")
  mk_BadIndex : MkOk P w K mg base (clK K) "BadIndex" ["index"] (fun C => spIni1 C "index")
  mk_TakenName : MkOk P w K mg base (clK K) "TakenName" ["name"] (fun C => spIni1 C "name")
  mk_BadCode : MkOk P w K mg base (clK K) "BadCode" ["name"] (fun C => spIni1 C "name")
  mk_BadClass : MkOk P w K mg base (clK K) "BadClass" ["name"] (fun C => spIni1 C "name")
  mk_Uneven : MkOk P w K mg base (clK K) "Uneven" ["name"] (fun C => spIni1 C "name")
  mk_BadReader : MkOk P w K mg base (clK K) "BadReader" ["thing"] (fun C => spIni1 C "thing")
  mk_NoClass : MkOk P w K mg base (clK K) "NoClass" ["name"] (fun C => spIni1 C "name")
  mk_BadPart : MkOk P w K mg base (clK K) "BadPart" ["name"] (fun C => spIni1 C "name")
  mk_BadBundle : MkOk P w K mg base (clK K) "BadBundle" ["name"] (fun C => spIni1 C "name")
  mk_BadLinks : MkOk P w K mg base (clK K) "BadLinks" ["index"] (fun C => spIni1 C "index")
  mk_BadTelling : MkOk P w K mg base (clK K) "BadTelling" ["index"] (fun C => spIni1 C "index")
  mk_BadText : MkOk P w K mg base (clK K) "BadText" ["thing"] (fun C => spIni1 C "thing")
  mk_BadName : MkOk P w K mg base (clK K) "BadName" ["name"] (fun C => spIni1 C "name")
  mk_NoName : MkOk P w K mg base (clK K) "NoName" ["name"] (fun C => spIni1 C "name")
  mk_BadThing : MkOk P w K mg base (clK K) "BadThing" ["thing"] (fun C => spIni1 C "thing")
  mk_BadOrder : MkOk P w K mg base (clK K) "BadOrder" ["line"] (fun C => spIni1 C "line")
  mk_BadLine : MkOk P w K mg base (clK K) "BadLine" ["index"] (fun C => spIni1 C "index")
  mk_NoRow : MkOk P w K mg base (clK K) "NoRow" [] spIni0
  mk_BadWindow : MkOk P w K mg base (clK K) "BadWindow" ["name"] (fun C => spIni1 C "name")
  mk_Crowded : MkOk P w K mg base (clK K) "Crowded" ["first", "last"] (fun C => spIni2 C "first" "last")
  mk_BadPeople : MkOk P w K mg base (clK K) "BadPeople" ["index"] (fun C => spIni1 C "index")
  mk_BadPlaces : MkOk P w K mg base (clK K) "BadPlaces" ["index"] (fun C => spIni1 C "index")
  mk_BadPlace : MkOk P w K mg base (clK K) "BadPlace" ["thing"] (fun C => spIni1 C "thing")
  mk_BadFacts : MkOk P w K mg base (clK K) "BadFacts" ["thing"] (fun C => spIni1 C "thing")
  mk_NoPerson : MkOk P w K mg base (clK K) "NoPerson" ["name"] (fun C => spIni1 C "name")
  mk_SamePerson : MkOk P w K mg base (clK K) "SamePerson" ["name"] (fun C => spIni1 C "name")
  mk_BadArc : MkOk P w K mg base (clK K) "BadArc" ["name"] (fun C => spIni1 C "name")
  mk_BadNames : MkOk P w K mg base (clK K) "BadNames" ["index"] (fun C => spIni1 C "index")
  mk_BadAmounts : MkOk P w K mg base (clK K) "BadAmounts" ["name"] (fun C => spIni1 C "name")
  mk_BadPiece : MkOk P w K mg base (clK K) "BadPiece" ["index"] (fun C => spIni1 C "index")
  fd_thing : ∀ cn ∈ okl_thing, PySem.W.findIn K (.ref (He.ga K cn)) "thing" = some none
  fd_index : ∀ cn ∈ okl_index, PySem.W.findIn K (.ref (He.ga K cn)) "index" = some none
  fd_name : ∀ cn ∈ okl_name, PySem.W.findIn K (.ref (He.ga K cn)) "name" = some none
  fd_state : ∀ cn ∈ okl_state, PySem.W.findIn K (.ref (He.ga K cn)) "state" = some none
  fd_sign : ∀ cn ∈ okl_sign, PySem.W.findIn K (.ref (He.ga K cn)) "sign" = some none
  fd_prime : ∀ cn ∈ okl_prime, PySem.W.findIn K (.ref (He.ga K cn)) "prime" = some none
  fd_line : ∀ cn ∈ okl_line, PySem.W.findIn K (.ref (He.ga K cn)) "line" = some none
  fd_first : ∀ cn ∈ okl_first, PySem.W.findIn K (.ref (He.ga K cn)) "first" = some none
  fd_last : ∀ cn ∈ okl_last, PySem.W.findIn K (.ref (He.ga K cn)) "last" = some none
theorem clK_at {K : PySem.W.Frag} {cn : PySem.Str} {C : Addr} (h : clK K cn = some C) : C = He.ga K cn := by
  unfold clK at h
  split at h
  · exact (Option.some.inj h).symm
  · split at h
    · exact (Option.some.inj h).symm
    · cases h
section
variable {P : Program} {w : World} {K : PySem.W.Frag} {mg : PySem.Str → Option Value} {base : Heap} (fx : Fx P w K mg base) {cl : PySem.Str → Option Addr} (hcl : cl = clK K)
include fx hcl
theorem Fx.thing : ∀ cn C, ok_thing cn = true → cl cn = some C → XfC K C ∧ PySem.W.findIn K (.ref C) "thing" = some none := fun cn C h e => by
  have h := of_decide_eq_true h
  rw [hcl] at e
  obtain rfl := clK_at e
  exact ⟨(fx.fam.exc cn (mem_of_subset_okl_thing h)).1, fx.fd_thing cn h⟩
theorem Fx.index : ∀ cn C, ok_index cn = true → cl cn = some C → XfC K C ∧ PySem.W.findIn K (.ref C) "index" = some none := fun cn C h e => by
  have h := of_decide_eq_true h
  rw [hcl] at e
  obtain rfl := clK_at e
  exact ⟨(fx.fam.exc cn (mem_of_subset_okl_index h)).1, fx.fd_index cn h⟩
theorem Fx.name : ∀ cn C, ok_name cn = true → cl cn = some C → XfC K C ∧ PySem.W.findIn K (.ref C) "name" = some none := fun cn C h e => by
  have h := of_decide_eq_true h
  rw [hcl] at e
  obtain rfl := clK_at e
  exact ⟨(fx.fam.exc cn (mem_of_subset_okl_name h)).1, fx.fd_name cn h⟩
theorem Fx.state : ∀ cn C, ok_state cn = true → cl cn = some C → XfC K C ∧ PySem.W.findIn K (.ref C) "state" = some none := fun cn C h e => by
  have h := of_decide_eq_true h
  rw [hcl] at e
  obtain rfl := clK_at e
  exact ⟨(fx.fam.exc cn (mem_of_subset_okl_state h)).1, fx.fd_state cn h⟩
theorem Fx.sign : ∀ cn C, ok_sign cn = true → cl cn = some C → XfC K C ∧ PySem.W.findIn K (.ref C) "sign" = some none := fun cn C h e => by
  have h := of_decide_eq_true h
  rw [hcl] at e
  obtain rfl := clK_at e
  exact ⟨(fx.fam.exc cn (mem_of_subset_okl_sign h)).1, fx.fd_sign cn h⟩
theorem Fx.prime : ∀ cn C, ok_prime cn = true → cl cn = some C → XfC K C ∧ PySem.W.findIn K (.ref C) "prime" = some none := fun cn C h e => by
  have h := of_decide_eq_true h
  rw [hcl] at e
  obtain rfl := clK_at e
  exact ⟨(fx.fam.exc cn (mem_of_subset_okl_prime h)).1, fx.fd_prime cn h⟩
theorem Fx.line : ∀ cn C, ok_line cn = true → cl cn = some C → XfC K C ∧ PySem.W.findIn K (.ref C) "line" = some none := fun cn C h e => by
  have h := of_decide_eq_true h
  rw [hcl] at e
  obtain rfl := clK_at e
  exact ⟨(fx.fam.exc cn (mem_of_subset_okl_line h)).1, fx.fd_line cn h⟩
theorem Fx.first : ∀ cn C, ok_first cn = true → cl cn = some C → XfC K C ∧ PySem.W.findIn K (.ref C) "first" = some none := fun cn C h e => by
  have h := of_decide_eq_true h
  rw [hcl] at e
  obtain rfl := clK_at e
  exact ⟨(fx.fam.exc cn (mem_of_subset_okl_first h)).1, fx.fd_first cn h⟩
theorem Fx.last : ∀ cn C, ok_last cn = true → cl cn = some C → XfC K C ∧ PySem.W.findIn K (.ref C) "last" = some none := fun cn C h e => by
  have h := of_decide_eq_true h
  rw [hcl] at e
  obtain rfl := clK_at e
  exact ⟨(fx.fam.exc cn (mem_of_subset_okl_last h)).1, fx.fd_last cn h⟩
theorem Fx.wCl : cl "WorldError" = some (He.ga K "WorldError") := by
  rw [hcl]
  unfold clK
  rw [if_neg (by decide +kernel), if_pos rfl]
theorem Fx.rel (y : PySem.Str) (hy : y ∈ excs) : ∀ cn C b, K92.rel y cn = some b → cl cn = some C → ExcC K C ∧ PySem.W.kitOne K (.ref C) (.ref (He.ga K y)) = some b := fun cn C b h e => by
  rw [hcl] at e
  obtain rfl := clK_at e
  unfold K92.rel at h
  split at h
  · rename_i hc
    cases h
    exact ⟨(fx.fam.exc cn hc).2, fx.fam.kit hc hy⟩
  · cases h
theorem Fx.relW : ∀ cn C b, K92.relW cn = some b → cl cn = some C → ExcC K C ∧ PySem.W.kitOne K (.ref C) (.ref (He.ga K "WorldError")) = some b := fun cn C b h e => by
  rw [hcl] at e
  obtain rfl := clK_at e
  unfold K92.relW at h
  split at h
  · rename_i hc
    cases h
    exact ⟨(fx.fam.exc cn hc).2, fx.fam.kitW hc⟩
  · cases h
theorem Fx.relV : ∀ cn C b, K92.relV cn = some b → cl cn = some C → ExcC K C ∧ PySem.W.kitOne K (.ref C) (.type "ValueError") = some b := fun cn C b h e => by
  rw [hcl] at e
  obtain rfl := clK_at e
  unfold K92.relV at h
  split at h
  · rename_i hc
    cases h
    exact ⟨(fx.fam.exc cn hc).2, fx.fam.kitV hc⟩
  · split at h
    · rename_i hw
      cases h
      subst hw
      exact ⟨fx.fam.excW.2, fx.fam.kitWV⟩
    · cases h
end
theorem bt_len : bootBuiltins ("len" : PySem.Str) = some (.builtin "len") := by decide +kernel
theorem bt_any : bootBuiltins ("any" : PySem.Str) = some (.builtin "any") := by decide +kernel
theorem bt_int : bootBuiltins ("int" : PySem.Str) = some (.type "int") := by decide +kernel
theorem bt_list : bootBuiltins ("list" : PySem.Str) = some (.type "list") := by decide +kernel
theorem bt_bool : bootBuiltins ("bool" : PySem.Str) = some (.type "bool") := by decide +kernel

theorem S__law_draw : FnScope ["_law_stream", "_law_many", "_law_mixed", "_law_cell", "_law_digit"] ["_law_stream", "_law_many"] (defScope (top 64)) := ⟨rfl, rfl, rfl, by decide +kernel, rfl, by decide +kernel, by decide +kernel⟩
theorem ok__law_draw {P : Program} {w : World} {K : PySem.W.Frag} {mg : PySem.Str → Option Value} {base : Heap} (fx : Fx P w K mg base)  {fd : FuncData} (F : FunD K "_law_draw" "_law_draw" (defArgs (top 64)) (defBody (top 64)) (defScope (top 64)) [] [] (He.ga K "_law_draw") fd) : DefOk P w K mg base (clK K) "_law_draw" 1 1 true g__law_draw := by
  refine ⟨_, fd, ["_law_stream", "_law_many"], fx.gl__law_draw, F.kp, F.bindsN (fun _ _ _ _ _ _ us hl => match us, hl with | [_, _], _ => rfl), fn_dl F S__law_draw rfl fun cdv A outer s H E c W hr hcl tk => ?_⟩
  have nd := (S__law_draw).nd
  have hu := hu64_of hr
  have hu1 := hu01_of hr
  have hp : PassesOwn (model P w) (cxOf (L2.CX P w) P w K mg base ["_law_stream", "_law_many", "_law_mixed", "_law_cell", "_law_digit"] "_law_draw" (defScope (top 64)) (He.ga K "_law_draw") cdv A outer s H E).A (cxOf (L2.CX P w) P w K mg base ["_law_stream", "_law_many", "_law_mixed", "_law_cell", "_law_digit"] "_law_draw" (defScope (top 64)) (He.ga K "_law_draw") cdv A outer s H E).env (cxOf (L2.CX P w) P w K mg base ["_law_stream", "_law_many", "_law_mixed", "_law_cell", "_law_digit"] "_law_draw" (defScope (top 64)) (He.ga K "_law_draw") cdv A outer s H E).xe := passes_of rfl
  exact (ds_cons (ps_imp (ps_asg (df_op op_add_data (dv (df_strmI (pv 0) pe_int (fun _ _ => rfl))) (dv df_int)) (pg_sub (pv 0) pe_int set_list)) fun _ _ _ q => strmSet_to q)
  (ds_cons (ds_if (dt_pw (dw_and (dt_cmp (op_eq_data hu) (dv (df_strmI (pv 0) pe_int (fun _ _ => rfl))) (dv df_int) (nomark _)) (dw_and1 (dt_strmNe hu (pv 0) pe_int (fun _ _ => rfl) (pe_lst pa_nil) (nomark _))))) (ds_cons (ps_imp (ps_set (i := 3) nd rfl (by first | exact .inl rfl | exact .inr rfl) (pe_bm PySem.F.plainAttrs_list PySem.F.slot_list_pop PySem.F.type_list_pop mt_popAt (pe_ix ix_list (pv 0) pe_int (fun _ _ => rfl)) (pa_cons pe_int pa_nil))) fun _ _ _ q => strmPop_to q)
  (ds_cons (ps_imp (ps_asg (df_op op_mod_data (dv (df_callTy c_int rfl fx.g_int bt_int (dav_cons (dv (df_op op_add_data (dv (df_op op_add_data (dv (df_op op_mul_data (dv (df_strmI (pv 0) pe_int (fun _ _ => rfl))) (dv df_int))) (dv (df_var (pv 3))))) (dv df_int))) dav_nil))) (dv df_int)) (pg_sub (pv 0) pe_int set_list)) fun _ _ _ q => strmSet_to q)
  (ds_cons (ps_imp (ps_asg (df_if (dt_cmp op_ge_data (dv (df_var (pv 3))) (dv (df_op op_pow_data (dv df_int) (dv df_int))) (nomark _)) (df_var (pv 3)) df_int) (pg_sub (pv 0) pe_int set_list)) fun _ _ _ q => strmSet_to q)
  ds_nil))) ds_nil)
  (ds_cons (ds_if (dt_cmp op_gt_data (dv (df_strmI (pv 0) pe_int (fun _ _ => rfl))) (dv df_int) (nomark _)) (ds_cons (ds_set (ps_set (i := 4) nd rfl (by first | exact .inl rfl | exact .inr rfl) (df_op op_mod_data (dv (df_callTy c_int rfl fx.g_int bt_int (dav_cons (dv (df_strmI (pv 0) pe_int (fun _ _ => rfl))) dav_nil))) (dv (df_var (pv 1))))) fun _ _ _ q => q)
  (ds_cons (ps_imp (ps_asg (df_op op_fdiv_data (dv (df_strmI (pv 0) pe_int (fun _ _ => rfl))) (dv (df_var (pv 1)))) (pg_sub (pv 0) pe_int set_list)) fun _ _ _ q => strmSet_to q)
  (ds_cons (ds_ret (df_var (pv 4)))
  ds_nil))) ds_nil)
  (ds_cons (ds_set (ps_set (i := 2) nd rfl (by first | exact .inl rfl | exact .inr rfl) (df_op op_mod_data (dv (df_callTy c_int rfl fx.g_int bt_int (dav_cons (dv (df_op op_pow_data (dv (df_op op_add_data (dv (df_op op_add_data (dv (df_strmI (pv 0) pe_int (fun _ _ => rfl))) (dv (df_op op_mul_data (dv df_int) (dv (df_strmI (pv 0) pe_int (fun _ _ => rfl))))))) (dv df_int))) (dv df_int))) dav_nil))) (dv df_int))) fun _ _ _ q => q)
  (ds_cons (ds_ret (df_op op_mod_data (dv (df_op op_mod_data (dv (df_callTy c_int rfl fx.g_int bt_int (dav_cons (dv (df_op op_pow_data (dv (df_op op_add_data (dv (df_op op_add_data (dv (df_op op_mul_data (dv (df_var (pv 2))) (dv df_int))) (dv (df_op op_mul_data (dv df_int) (dv (df_strmI (pv 0) pe_int (fun _ _ => rfl))))))) (dv df_int))) (dv df_int))) dav_nil))) (dv df_int))) (dv (df_var (pv 1)))))
  ds_nil)))))
theorem S__law_pick : FnScope ["_law_stream", "_law_some"] ["_law_stream", "_law_some"] (defScope (top 65)) := ⟨rfl, rfl, rfl, by decide +kernel, rfl, by decide +kernel, by decide +kernel⟩
theorem ok__law_pick {P : Program} {w : World} {K : PySem.W.Frag} {mg : PySem.Str → Option Value} {base : Heap} (fx : Fx P w K mg base) (D__law_draw : DefOk P w K mg base (clK K) "_law_draw" 1 1 true g__law_draw) {fd : FuncData} (F : FunD K "_law_pick" "_law_pick" (defArgs (top 65)) (defBody (top 65)) (defScope (top 65)) [] [] (He.ga K "_law_pick") fd) : DefOk P w K mg base (clK K) "_law_pick" 2 1 true g__law_pick := by
  refine ⟨_, fd, ["_law_stream", "_law_some"], fx.gl__law_pick, F.kp, F.bindsN (fun _ _ _ _ _ _ us hl => match us, hl with | [_, _], _ => rfl), fn_dl F S__law_pick rfl fun cdv A outer s H E c W hr hcl tk => ?_⟩
  have nd := (S__law_pick).nd
  have hu := hu64_of hr
  have hu1 := hu01_of hr
  have hp : PassesOwn (model P w) (cxOf (L2.CX P w) P w K mg base ["_law_stream", "_law_some"] "_law_pick" (defScope (top 65)) (He.ga K "_law_pick") cdv A outer s H E).A (cxOf (L2.CX P w) P w K mg base ["_law_stream", "_law_some"] "_law_pick" (defScope (top 65)) (He.ga K "_law_pick") cdv A outer s H E).env (cxOf (L2.CX P w) P w K mg base ["_law_stream", "_law_some"] "_law_pick" (defScope (top 65)) (He.ga K "_law_pick") cdv A outer s H E).xe := passes_of rfl
  exact (ds_cons (ds_ret (df_ix (ix_data hu1) (dv (df_var (pv 1))) (dv (df_callSD D__law_draw hcl tk hr (by decide) rfl (pv 0) (daf_cons (df_callB c_len rfl fx.g_len bt_len (dav_cons (dv (df_var (pv 1))) dav_nil)) daf_nil))) (fun _ _ => rfl)))
  ds_nil)
theorem S__law_pairs : FnScope ["_law_x", "_law_found"] ["_law_x"] (defScope (top 66)) := ⟨rfl, rfl, rfl, by decide +kernel, rfl, by decide +kernel, by decide +kernel⟩
theorem ok__law_pairs {P : Program} {w : World} {K : PySem.W.Frag} {mg : PySem.Str → Option Value} {base : Heap} (fx : Fx P w K mg base)  {fd : FuncData} (F : FunD K "_law_pairs" "_law_pairs" (defArgs (top 66)) (defBody (top 66)) (defScope (top 66)) [] [] (He.ga K "_law_pairs") fd) : DefOk P w K mg base (clK K) "_law_pairs" 3 1 false g__law_pairs := by
  refine ⟨_, fd, ["_law_x"], fx.gl__law_pairs, F.kp, F.bindsN (fun _ _ _ _ _ _ us hl => match us, hl with | [_], _ => rfl), fn_dl F S__law_pairs rfl fun cdv A outer s H E c W hr hcl tk => ?_⟩
  have nd := (S__law_pairs).nd
  have hu := hu64_of hr
  have hu1 := hu01_of hr
  have hp : PassesOwn (model P w) (cxOf (L2.CX P w) P w K mg base ["_law_x", "_law_found"] "_law_pairs" (defScope (top 66)) (He.ga K "_law_pairs") cdv A outer s H E).A (cxOf (L2.CX P w) P w K mg base ["_law_x", "_law_found"] "_law_pairs" (defScope (top 66)) (He.ga K "_law_pairs") cdv A outer s H E).env (cxOf (L2.CX P w) P w K mg base ["_law_x", "_law_found"] "_law_pairs" (defScope (top 66)) (He.ga K "_law_pairs") cdv A outer s H E).xe := passes_of rfl
  exact (ds_cons (ds_own (ps_set (i := 1) nd rfl (by first | exact .inl rfl | exact .inr rfl) (dn_lst daf_nil)) fun _ _ _ q => q)
  (ds_cons (ds_ext (ps_expr (pe_bm PySem.F.plainAttrs_list PySem.F.slot_list_extend PySem.F.type_list_extend mt_extend (pv 1) (pa_cons (dn (dn_lst (daf_cons (dn (dn_tup (daf_cons (df_mk1 fx.mk_BadWorld hcl (hr.mono (by decide)) rfl (daf_cons (df_var (pv 0)) daf_nil)) (daf_cons (df_mk1K fx.mk_BadWorld hcl (hr.mono (by decide)) rfl (kf_cons (df_var (pv 0)) kf_nil)) daf_nil)))) (daf_cons (dn (dn_tup (daf_cons (df_mk1 fx.mk_BadKnown hcl (hr.mono (by decide)) rfl (daf_cons (df_var (pv 0)) daf_nil)) (daf_cons (df_mk1K fx.mk_BadKnown hcl (hr.mono (by decide)) rfl (kf_cons (df_var (pv 0)) kf_nil)) daf_nil)))) daf_nil)))) pa_nil))))
  (ds_cons (ds_ext (ps_expr (pe_bm PySem.F.plainAttrs_list PySem.F.slot_list_extend PySem.F.type_list_extend mt_extend (pv 1) (pa_cons (dn (dn_lst (daf_cons (dn (dn_tup (daf_cons (df_mk1 fx.mk_NoQuestion hcl (hr.mono (by decide)) rfl (daf_cons (df_var (pv 0)) daf_nil)) (daf_cons (df_mk1K fx.mk_NoQuestion hcl (hr.mono (by decide)) rfl (kf_cons (df_var (pv 0)) kf_nil)) daf_nil)))) (daf_cons (dn (dn_tup (daf_cons (df_mk1 fx.mk_BadPlan hcl (hr.mono (by decide)) rfl (daf_cons (df_var (pv 0)) daf_nil)) (daf_cons (df_mk1K fx.mk_BadPlan hcl (hr.mono (by decide)) rfl (kf_cons (df_var (pv 0)) kf_nil)) daf_nil)))) daf_nil)))) pa_nil))))
  (ds_cons (ds_ext (ps_expr (pe_bm PySem.F.plainAttrs_list PySem.F.slot_list_extend PySem.F.type_list_extend mt_extend (pv 1) (pa_cons (dn (dn_lst (daf_cons (dn (dn_tup (daf_cons (df_mk1 fx.mk_BadAnswers hcl (hr.mono (by decide)) rfl (daf_cons (df_var (pv 0)) daf_nil)) (daf_cons (df_mk1K fx.mk_BadAnswers hcl (hr.mono (by decide)) rfl (kf_cons (df_var (pv 0)) kf_nil)) daf_nil)))) (daf_cons (dn (dn_tup (daf_cons (df_mk1 fx.mk_BadHands hcl (hr.mono (by decide)) rfl (daf_cons (df_var (pv 0)) daf_nil)) (daf_cons (df_mk1K fx.mk_BadHands hcl (hr.mono (by decide)) rfl (kf_cons (df_var (pv 0)) kf_nil)) daf_nil)))) daf_nil)))) pa_nil))))
  (ds_cons (ds_ext (ps_expr (pe_bm PySem.F.plainAttrs_list PySem.F.slot_list_extend PySem.F.type_list_extend mt_extend (pv 1) (pa_cons (dn (dn_lst (daf_cons (dn (dn_tup (daf_cons (df_mk1 fx.mk_BadGroup hcl (hr.mono (by decide)) rfl (daf_cons (df_var (pv 0)) daf_nil)) (daf_cons (df_mk1K fx.mk_BadGroup hcl (hr.mono (by decide)) rfl (kf_cons (df_var (pv 0)) kf_nil)) daf_nil)))) (daf_cons (dn (dn_tup (daf_cons (df_mk1 fx.mk_NoHand hcl (hr.mono (by decide)) rfl (daf_cons (df_var (pv 0)) daf_nil)) (daf_cons (df_mk1K fx.mk_NoHand hcl (hr.mono (by decide)) rfl (kf_cons (df_var (pv 0)) kf_nil)) daf_nil)))) daf_nil)))) pa_nil))))
  (ds_cons (ds_ext (ps_expr (pe_bm PySem.F.plainAttrs_list PySem.F.slot_list_extend PySem.F.type_list_extend mt_extend (pv 1) (pa_cons (dn (dn_lst (daf_cons (dn (dn_tup (daf_cons (df_mk1 fx.mk_BadNumber hcl (hr.mono (by decide)) rfl (daf_cons (df_var (pv 0)) daf_nil)) (daf_cons (df_mk1K fx.mk_BadNumber hcl (hr.mono (by decide)) rfl (kf_cons (df_var (pv 0)) kf_nil)) daf_nil)))) (daf_cons (dn (dn_tup (daf_cons (df_mk1 fx.mk_Known hcl (hr.mono (by decide)) rfl (daf_cons (df_var (pv 0)) daf_nil)) (daf_cons (df_mk1K fx.mk_Known hcl (hr.mono (by decide)) rfl (kf_cons (df_var (pv 0)) kf_nil)) daf_nil)))) daf_nil)))) pa_nil))))
  (ds_cons (ds_ext (ps_expr (pe_bm PySem.F.plainAttrs_list PySem.F.slot_list_extend PySem.F.type_list_extend mt_extend (pv 1) (pa_cons (dn (dn_lst (daf_cons (dn (dn_tup (daf_cons (df_mk1 fx.mk_NotKnown hcl (hr.mono (by decide)) rfl (daf_cons (df_var (pv 0)) daf_nil)) (daf_cons (df_mk1K fx.mk_NotKnown hcl (hr.mono (by decide)) rfl (kf_cons (df_var (pv 0)) kf_nil)) daf_nil)))) (daf_cons (dn (dn_tup (daf_cons (df_mk1 fx.mk_BadRow hcl (hr.mono (by decide)) rfl (daf_cons (df_var (pv 0)) daf_nil)) (daf_cons (df_mk1K fx.mk_BadRow hcl (hr.mono (by decide)) rfl (kf_cons (df_var (pv 0)) kf_nil)) daf_nil)))) daf_nil)))) pa_nil))))
  (ds_cons (ds_ext (ps_expr (pe_bm PySem.F.plainAttrs_list PySem.F.slot_list_extend PySem.F.type_list_extend mt_extend (pv 1) (pa_cons (dn (dn_lst (daf_cons (dn (dn_tup (daf_cons (df_mk1 fx.mk_BadTree hcl (hr.mono (by decide)) rfl (daf_cons (df_var (pv 0)) daf_nil)) (daf_cons (df_mk1K fx.mk_BadTree hcl (hr.mono (by decide)) rfl (kf_cons (df_var (pv 0)) kf_nil)) daf_nil)))) (daf_cons (dn (dn_tup (daf_cons (df_mk1 fx.mk_BadWeight hcl (hr.mono (by decide)) rfl (daf_cons (df_var (pv 0)) daf_nil)) (daf_cons (df_mk1K fx.mk_BadWeight hcl (hr.mono (by decide)) rfl (kf_cons (df_var (pv 0)) kf_nil)) daf_nil)))) daf_nil)))) pa_nil))))
  (ds_cons (ds_ext (ps_expr (pe_bm PySem.F.plainAttrs_list PySem.F.slot_list_extend PySem.F.type_list_extend mt_extend (pv 1) (pa_cons (dn (dn_lst (daf_cons (dn (dn_tup (daf_cons (df_mk1 fx.mk_BadView hcl (hr.mono (by decide)) rfl (daf_cons (df_var (pv 0)) daf_nil)) (daf_cons (df_mk1K fx.mk_BadView hcl (hr.mono (by decide)) rfl (kf_cons (df_var (pv 0)) kf_nil)) daf_nil)))) (daf_cons (dn (dn_tup (daf_cons (df_mk1 fx.mk_BadBox hcl (hr.mono (by decide)) rfl (daf_cons (df_var (pv 0)) daf_nil)) (daf_cons (df_mk1K fx.mk_BadBox hcl (hr.mono (by decide)) rfl (kf_cons (df_var (pv 0)) kf_nil)) daf_nil)))) daf_nil)))) pa_nil))))
  (ds_cons (ds_ext (ps_expr (pe_bm PySem.F.plainAttrs_list PySem.F.slot_list_extend PySem.F.type_list_extend mt_extend (pv 1) (pa_cons (dn (dn_lst (daf_cons (dn (dn_tup (daf_cons (df_mk1 fx.mk_BadAsk hcl (hr.mono (by decide)) rfl (daf_cons (df_var (pv 0)) daf_nil)) (daf_cons (df_mk1K fx.mk_BadAsk hcl (hr.mono (by decide)) rfl (kf_cons (df_var (pv 0)) kf_nil)) daf_nil)))) (daf_cons (dn (dn_tup (daf_cons (df_mk1 fx.mk_NoState hcl (hr.mono (by decide)) rfl (daf_cons (df_var (pv 0)) daf_nil)) (daf_cons (df_mk1K fx.mk_NoState hcl (hr.mono (by decide)) rfl (kf_cons (df_var (pv 0)) kf_nil)) daf_nil)))) daf_nil)))) pa_nil))))
  (ds_cons (ds_ext (ps_expr (pe_bm PySem.F.plainAttrs_list PySem.F.slot_list_extend PySem.F.type_list_extend mt_extend (pv 1) (pa_cons (dn (dn_lst (daf_cons (dn (dn_tup (daf_cons (df_mk1 fx.mk_NoLetter hcl (hr.mono (by decide)) rfl (daf_cons (df_var (pv 0)) daf_nil)) (daf_cons (df_mk1K fx.mk_NoLetter hcl (hr.mono (by decide)) rfl (kf_cons (df_var (pv 0)) kf_nil)) daf_nil)))) (daf_cons (dn (dn_tup (daf_cons (df_mk1 fx.mk_BadPut hcl (hr.mono (by decide)) rfl (daf_cons (df_var (pv 0)) daf_nil)) (daf_cons (df_mk1K fx.mk_BadPut hcl (hr.mono (by decide)) rfl (kf_cons (df_var (pv 0)) kf_nil)) daf_nil)))) daf_nil)))) pa_nil))))
  (ds_cons (ds_ext (ps_expr (pe_bm PySem.F.plainAttrs_list PySem.F.slot_list_extend PySem.F.type_list_extend mt_extend (pv 1) (pa_cons (dn (dn_lst (daf_cons (dn (dn_tup (daf_cons (df_mk1 fx.mk_BadMarks hcl (hr.mono (by decide)) rfl (daf_cons (df_var (pv 0)) daf_nil)) (daf_cons (df_mk1K fx.mk_BadMarks hcl (hr.mono (by decide)) rfl (kf_cons (df_var (pv 0)) kf_nil)) daf_nil)))) (daf_cons (dn (dn_tup (daf_cons (df_mk1 fx.mk_BadLink hcl (hr.mono (by decide)) rfl (daf_cons (df_var (pv 0)) daf_nil)) (daf_cons (df_mk1K fx.mk_BadLink hcl (hr.mono (by decide)) rfl (kf_cons (df_var (pv 0)) kf_nil)) daf_nil)))) daf_nil)))) pa_nil))))
  (ds_cons (ds_ext (ps_expr (pe_bm PySem.F.plainAttrs_list PySem.F.slot_list_extend PySem.F.type_list_extend mt_extend (pv 1) (pa_cons (dn (dn_lst (daf_cons (dn (dn_tup (daf_cons (df_mk1 fx.mk_BadUnknown hcl (hr.mono (by decide)) rfl (daf_cons (df_var (pv 0)) daf_nil)) (daf_cons (df_mk1K fx.mk_BadUnknown hcl (hr.mono (by decide)) rfl (kf_cons (df_var (pv 0)) kf_nil)) daf_nil)))) (daf_cons (dn (dn_tup (daf_cons (df_mk1 fx.mk_BadSum hcl (hr.mono (by decide)) rfl (daf_cons (df_var (pv 0)) daf_nil)) (daf_cons (df_mk1K fx.mk_BadSum hcl (hr.mono (by decide)) rfl (kf_cons (df_var (pv 0)) kf_nil)) daf_nil)))) daf_nil)))) pa_nil))))
  (ds_cons (ds_ext (ps_expr (pe_bm PySem.F.plainAttrs_list PySem.F.slot_list_extend PySem.F.type_list_extend mt_extend (pv 1) (pa_cons (dn (dn_lst (daf_cons (dn (dn_tup (daf_cons (df_mk1 fx.mk_BadPrime hcl (hr.mono (by decide)) rfl (daf_cons (df_var (pv 0)) daf_nil)) (daf_cons (df_mk1K fx.mk_BadPrime hcl (hr.mono (by decide)) rfl (kf_cons (df_var (pv 0)) kf_nil)) daf_nil)))) (daf_cons (dn (dn_tup (daf_cons (df_mk1 fx.mk_BadHolder hcl (hr.mono (by decide)) rfl (daf_cons (df_var (pv 0)) daf_nil)) (daf_cons (df_mk1K fx.mk_BadHolder hcl (hr.mono (by decide)) rfl (kf_cons (df_var (pv 0)) kf_nil)) daf_nil)))) daf_nil)))) pa_nil))))
  (ds_cons (ds_ext (ps_expr (pe_bm PySem.F.plainAttrs_list PySem.F.slot_list_extend PySem.F.type_list_extend mt_extend (pv 1) (pa_cons (dn (dn_lst (daf_cons (dn (dn_tup (daf_cons (df_mk1 fx.mk_BadLetters hcl (hr.mono (by decide)) rfl (daf_cons (df_var (pv 0)) daf_nil)) (daf_cons (df_mk1K fx.mk_BadLetters hcl (hr.mono (by decide)) rfl (kf_cons (df_var (pv 0)) kf_nil)) daf_nil)))) (daf_cons (dn (dn_tup (daf_cons (df_mk1 fx.mk_BadMachine hcl (hr.mono (by decide)) rfl (daf_cons (df_var (pv 0)) daf_nil)) (daf_cons (df_mk1K fx.mk_BadMachine hcl (hr.mono (by decide)) rfl (kf_cons (df_var (pv 0)) kf_nil)) daf_nil)))) daf_nil)))) pa_nil))))
  (ds_cons (ds_ext (ps_expr (pe_bm PySem.F.plainAttrs_list PySem.F.slot_list_extend PySem.F.type_list_extend mt_extend (pv 1) (pa_cons (dn (dn_lst (daf_cons (dn (dn_tup (daf_cons (df_mk1 fx.mk_BadIndex hcl (hr.mono (by decide)) rfl (daf_cons (df_var (pv 0)) daf_nil)) (daf_cons (df_mk1K fx.mk_BadIndex hcl (hr.mono (by decide)) rfl (kf_cons (df_var (pv 0)) kf_nil)) daf_nil)))) (daf_cons (dn (dn_tup (daf_cons (df_mk1 fx.mk_TakenName hcl (hr.mono (by decide)) rfl (daf_cons (df_var (pv 0)) daf_nil)) (daf_cons (df_mk1K fx.mk_TakenName hcl (hr.mono (by decide)) rfl (kf_cons (df_var (pv 0)) kf_nil)) daf_nil)))) daf_nil)))) pa_nil))))
  (ds_cons (ds_ext (ps_expr (pe_bm PySem.F.plainAttrs_list PySem.F.slot_list_extend PySem.F.type_list_extend mt_extend (pv 1) (pa_cons (dn (dn_lst (daf_cons (dn (dn_tup (daf_cons (df_mk1 fx.mk_BadCode hcl (hr.mono (by decide)) rfl (daf_cons (df_var (pv 0)) daf_nil)) (daf_cons (df_mk1K fx.mk_BadCode hcl (hr.mono (by decide)) rfl (kf_cons (df_var (pv 0)) kf_nil)) daf_nil)))) (daf_cons (dn (dn_tup (daf_cons (df_mk1 fx.mk_BadClass hcl (hr.mono (by decide)) rfl (daf_cons (df_var (pv 0)) daf_nil)) (daf_cons (df_mk1K fx.mk_BadClass hcl (hr.mono (by decide)) rfl (kf_cons (df_var (pv 0)) kf_nil)) daf_nil)))) daf_nil)))) pa_nil))))
  (ds_cons (ds_ext (ps_expr (pe_bm PySem.F.plainAttrs_list PySem.F.slot_list_extend PySem.F.type_list_extend mt_extend (pv 1) (pa_cons (dn (dn_lst (daf_cons (dn (dn_tup (daf_cons (df_mk1 fx.mk_Uneven hcl (hr.mono (by decide)) rfl (daf_cons (df_var (pv 0)) daf_nil)) (daf_cons (df_mk1K fx.mk_Uneven hcl (hr.mono (by decide)) rfl (kf_cons (df_var (pv 0)) kf_nil)) daf_nil)))) (daf_cons (dn (dn_tup (daf_cons (df_mk1 fx.mk_BadReader hcl (hr.mono (by decide)) rfl (daf_cons (df_var (pv 0)) daf_nil)) (daf_cons (df_mk1K fx.mk_BadReader hcl (hr.mono (by decide)) rfl (kf_cons (df_var (pv 0)) kf_nil)) daf_nil)))) daf_nil)))) pa_nil))))
  (ds_cons (ds_ext (ps_expr (pe_bm PySem.F.plainAttrs_list PySem.F.slot_list_extend PySem.F.type_list_extend mt_extend (pv 1) (pa_cons (dn (dn_lst (daf_cons (dn (dn_tup (daf_cons (df_mk1 fx.mk_NoClass hcl (hr.mono (by decide)) rfl (daf_cons (df_var (pv 0)) daf_nil)) (daf_cons (df_mk1K fx.mk_NoClass hcl (hr.mono (by decide)) rfl (kf_cons (df_var (pv 0)) kf_nil)) daf_nil)))) (daf_cons (dn (dn_tup (daf_cons (df_mk1 fx.mk_BadPart hcl (hr.mono (by decide)) rfl (daf_cons (df_var (pv 0)) daf_nil)) (daf_cons (df_mk1K fx.mk_BadPart hcl (hr.mono (by decide)) rfl (kf_cons (df_var (pv 0)) kf_nil)) daf_nil)))) daf_nil)))) pa_nil))))
  (ds_cons (ds_ext (ps_expr (pe_bm PySem.F.plainAttrs_list PySem.F.slot_list_extend PySem.F.type_list_extend mt_extend (pv 1) (pa_cons (dn (dn_lst (daf_cons (dn (dn_tup (daf_cons (df_mk1 fx.mk_BadBundle hcl (hr.mono (by decide)) rfl (daf_cons (df_var (pv 0)) daf_nil)) (daf_cons (df_mk1K fx.mk_BadBundle hcl (hr.mono (by decide)) rfl (kf_cons (df_var (pv 0)) kf_nil)) daf_nil)))) (daf_cons (dn (dn_tup (daf_cons (df_mk1 fx.mk_BadLinks hcl (hr.mono (by decide)) rfl (daf_cons (df_var (pv 0)) daf_nil)) (daf_cons (df_mk1K fx.mk_BadLinks hcl (hr.mono (by decide)) rfl (kf_cons (df_var (pv 0)) kf_nil)) daf_nil)))) daf_nil)))) pa_nil))))
  (ds_cons (ds_ext (ps_expr (pe_bm PySem.F.plainAttrs_list PySem.F.slot_list_extend PySem.F.type_list_extend mt_extend (pv 1) (pa_cons (dn (dn_lst (daf_cons (dn (dn_tup (daf_cons (df_mk1 fx.mk_BadTelling hcl (hr.mono (by decide)) rfl (daf_cons (df_var (pv 0)) daf_nil)) (daf_cons (df_mk1K fx.mk_BadTelling hcl (hr.mono (by decide)) rfl (kf_cons (df_var (pv 0)) kf_nil)) daf_nil)))) (daf_cons (dn (dn_tup (daf_cons (df_mk1 fx.mk_BadText hcl (hr.mono (by decide)) rfl (daf_cons (df_var (pv 0)) daf_nil)) (daf_cons (df_mk1K fx.mk_BadText hcl (hr.mono (by decide)) rfl (kf_cons (df_var (pv 0)) kf_nil)) daf_nil)))) daf_nil)))) pa_nil))))
  (ds_cons (ds_ext (ps_expr (pe_bm PySem.F.plainAttrs_list PySem.F.slot_list_extend PySem.F.type_list_extend mt_extend (pv 1) (pa_cons (dn (dn_lst (daf_cons (dn (dn_tup (daf_cons (df_mk1 fx.mk_BadName hcl (hr.mono (by decide)) rfl (daf_cons (df_var (pv 0)) daf_nil)) (daf_cons (df_mk1K fx.mk_BadName hcl (hr.mono (by decide)) rfl (kf_cons (df_var (pv 0)) kf_nil)) daf_nil)))) (daf_cons (dn (dn_tup (daf_cons (df_mk1 fx.mk_NoName hcl (hr.mono (by decide)) rfl (daf_cons (df_var (pv 0)) daf_nil)) (daf_cons (df_mk1K fx.mk_NoName hcl (hr.mono (by decide)) rfl (kf_cons (df_var (pv 0)) kf_nil)) daf_nil)))) daf_nil)))) pa_nil))))
  (ds_cons (ds_ext (ps_expr (pe_bm PySem.F.plainAttrs_list PySem.F.slot_list_extend PySem.F.type_list_extend mt_extend (pv 1) (pa_cons (dn (dn_lst (daf_cons (dn (dn_tup (daf_cons (df_mk1 fx.mk_BadThing hcl (hr.mono (by decide)) rfl (daf_cons (df_var (pv 0)) daf_nil)) (daf_cons (df_mk1K fx.mk_BadThing hcl (hr.mono (by decide)) rfl (kf_cons (df_var (pv 0)) kf_nil)) daf_nil)))) (daf_cons (dn (dn_tup (daf_cons (df_mk1 fx.mk_BadOrder hcl (hr.mono (by decide)) rfl (daf_cons (df_var (pv 0)) daf_nil)) (daf_cons (df_mk1K fx.mk_BadOrder hcl (hr.mono (by decide)) rfl (kf_cons (df_var (pv 0)) kf_nil)) daf_nil)))) daf_nil)))) pa_nil))))
  (ds_cons (ds_ext (ps_expr (pe_bm PySem.F.plainAttrs_list PySem.F.slot_list_extend PySem.F.type_list_extend mt_extend (pv 1) (pa_cons (dn (dn_lst (daf_cons (dn (dn_tup (daf_cons (df_mk1 fx.mk_BadLine hcl (hr.mono (by decide)) rfl (daf_cons (df_var (pv 0)) daf_nil)) (daf_cons (df_mk1K fx.mk_BadLine hcl (hr.mono (by decide)) rfl (kf_cons (df_var (pv 0)) kf_nil)) daf_nil)))) (daf_cons (dn (dn_tup (daf_cons (df_mk1 fx.mk_BadWindow hcl (hr.mono (by decide)) rfl (daf_cons (df_var (pv 0)) daf_nil)) (daf_cons (df_mk1K fx.mk_BadWindow hcl (hr.mono (by decide)) rfl (kf_cons (df_var (pv 0)) kf_nil)) daf_nil)))) daf_nil)))) pa_nil))))
  (ds_cons (ds_ext (ps_expr (pe_bm PySem.F.plainAttrs_list PySem.F.slot_list_extend PySem.F.type_list_extend mt_extend (pv 1) (pa_cons (dn (dn_lst (daf_cons (dn (dn_tup (daf_cons (df_mk1 fx.mk_BadPeople hcl (hr.mono (by decide)) rfl (daf_cons (df_var (pv 0)) daf_nil)) (daf_cons (df_mk1K fx.mk_BadPeople hcl (hr.mono (by decide)) rfl (kf_cons (df_var (pv 0)) kf_nil)) daf_nil)))) (daf_cons (dn (dn_tup (daf_cons (df_mk1 fx.mk_BadPlaces hcl (hr.mono (by decide)) rfl (daf_cons (df_var (pv 0)) daf_nil)) (daf_cons (df_mk1K fx.mk_BadPlaces hcl (hr.mono (by decide)) rfl (kf_cons (df_var (pv 0)) kf_nil)) daf_nil)))) daf_nil)))) pa_nil))))
  (ds_cons (ds_ext (ps_expr (pe_bm PySem.F.plainAttrs_list PySem.F.slot_list_extend PySem.F.type_list_extend mt_extend (pv 1) (pa_cons (dn (dn_lst (daf_cons (dn (dn_tup (daf_cons (df_mk1 fx.mk_BadPlace hcl (hr.mono (by decide)) rfl (daf_cons (df_var (pv 0)) daf_nil)) (daf_cons (df_mk1K fx.mk_BadPlace hcl (hr.mono (by decide)) rfl (kf_cons (df_var (pv 0)) kf_nil)) daf_nil)))) (daf_cons (dn (dn_tup (daf_cons (df_mk1 fx.mk_BadFacts hcl (hr.mono (by decide)) rfl (daf_cons (df_var (pv 0)) daf_nil)) (daf_cons (df_mk1K fx.mk_BadFacts hcl (hr.mono (by decide)) rfl (kf_cons (df_var (pv 0)) kf_nil)) daf_nil)))) daf_nil)))) pa_nil))))
  (ds_cons (ds_ext (ps_expr (pe_bm PySem.F.plainAttrs_list PySem.F.slot_list_extend PySem.F.type_list_extend mt_extend (pv 1) (pa_cons (dn (dn_lst (daf_cons (dn (dn_tup (daf_cons (df_mk1 fx.mk_NoPerson hcl (hr.mono (by decide)) rfl (daf_cons (df_var (pv 0)) daf_nil)) (daf_cons (df_mk1K fx.mk_NoPerson hcl (hr.mono (by decide)) rfl (kf_cons (df_var (pv 0)) kf_nil)) daf_nil)))) (daf_cons (dn (dn_tup (daf_cons (df_mk1 fx.mk_SamePerson hcl (hr.mono (by decide)) rfl (daf_cons (df_var (pv 0)) daf_nil)) (daf_cons (df_mk1K fx.mk_SamePerson hcl (hr.mono (by decide)) rfl (kf_cons (df_var (pv 0)) kf_nil)) daf_nil)))) daf_nil)))) pa_nil))))
  (ds_cons (ds_ext (ps_expr (pe_bm PySem.F.plainAttrs_list PySem.F.slot_list_extend PySem.F.type_list_extend mt_extend (pv 1) (pa_cons (dn (dn_lst (daf_cons (dn (dn_tup (daf_cons (df_mk1 fx.mk_BadArc hcl (hr.mono (by decide)) rfl (daf_cons (df_var (pv 0)) daf_nil)) (daf_cons (df_mk1K fx.mk_BadArc hcl (hr.mono (by decide)) rfl (kf_cons (df_var (pv 0)) kf_nil)) daf_nil)))) (daf_cons (dn (dn_tup (daf_cons (df_mk1 fx.mk_BadNames hcl (hr.mono (by decide)) rfl (daf_cons (df_var (pv 0)) daf_nil)) (daf_cons (df_mk1K fx.mk_BadNames hcl (hr.mono (by decide)) rfl (kf_cons (df_var (pv 0)) kf_nil)) daf_nil)))) daf_nil)))) pa_nil))))
  (ds_cons (ds_ext (ps_expr (pe_bm PySem.F.plainAttrs_list PySem.F.slot_list_extend PySem.F.type_list_extend mt_extend (pv 1) (pa_cons (dn (dn_lst (daf_cons (dn (dn_tup (daf_cons (df_mk1 fx.mk_BadAmounts hcl (hr.mono (by decide)) rfl (daf_cons (df_var (pv 0)) daf_nil)) (daf_cons (df_mk1K fx.mk_BadAmounts hcl (hr.mono (by decide)) rfl (kf_cons (df_var (pv 0)) kf_nil)) daf_nil)))) (daf_cons (dn (dn_tup (daf_cons (df_mk1 fx.mk_BadPiece hcl (hr.mono (by decide)) rfl (daf_cons (df_var (pv 0)) daf_nil)) (daf_cons (df_mk1K fx.mk_BadPiece hcl (hr.mono (by decide)) rfl (kf_cons (df_var (pv 0)) kf_nil)) daf_nil)))) daf_nil)))) pa_nil))))
  (ds_cons (ds_fz (ds_ret (df_var (pv 1))))
  ds_nil))))))))))))))))))))))))))))))
theorem S__law_held : FnScope ["_law_errors", "_law_found"] ["_law_errors"] (defScope (top 67)) := ⟨rfl, rfl, rfl, by decide +kernel, rfl, by decide +kernel, by decide +kernel⟩
theorem ok__law_held {P : Program} {w : World} {K : PySem.W.Frag} {mg : PySem.Str → Option Value} {base : Heap} (fx : Fx P w K mg base)  {fd : FuncData} (F : FunD K "_law_held" "_law_held" (defArgs (top 67)) (defBody (top 67)) (defScope (top 67)) [] [] (He.ga K "_law_held") fd) : DefOk P w K mg base (clK K) "_law_held" 1 1 false g__law_held := by
  refine ⟨_, fd, ["_law_errors"], fx.gl__law_held, F.kp, F.bindsN (fun _ _ _ _ _ _ us hl => match us, hl with | [_], _ => rfl), fn_dl F S__law_held rfl fun cdv A outer s H E c W hr hcl tk => ?_⟩
  have nd := (S__law_held).nd
  have hu := hu64_of hr
  have hu1 := hu01_of hr
  have hp : PassesOwn (model P w) (cxOf (L2.CX P w) P w K mg base ["_law_errors", "_law_found"] "_law_held" (defScope (top 67)) (He.ga K "_law_held") cdv A outer s H E).A (cxOf (L2.CX P w) P w K mg base ["_law_errors", "_law_found"] "_law_held" (defScope (top 67)) (He.ga K "_law_held") cdv A outer s H E).env (cxOf (L2.CX P w) P w K mg base ["_law_errors", "_law_found"] "_law_held" (defScope (top 67)) (He.ga K "_law_held") cdv A outer s H E).xe := passes_of rfl
  exact (ds_cons (ds_own (ps_set (i := 1) nd rfl (by first | exact .inl rfl | exact .inr rfl) (dn_lst daf_nil)) fun _ _ _ q => q)
  (ds_cons (ds_ext (ps_expr (pe_bm PySem.F.plainAttrs_list PySem.F.slot_list_extend PySem.F.type_list_extend mt_extend (pv 1) (pa_cons (dn (dn_lst (daf_cons (df_ef rfl (fx.thing hcl) (df_ix (ix_data hu1) (dv (df_var (pv 0))) (dv df_int) (fun _ _ => rfl))) (daf_cons (df_ef rfl (fx.index hcl) (df_ix (ix_data hu1) (dv (df_var (pv 0))) (dv df_int) (fun _ _ => rfl))) (daf_cons (df_ef rfl (fx.name hcl) (df_ix (ix_data hu1) (dv (df_var (pv 0))) (dv df_int) (fun _ _ => rfl))) (daf_cons (df_ef rfl (fx.thing hcl) (df_ix (ix_data hu1) (dv (df_var (pv 0))) (dv df_int) (fun _ _ => rfl))) daf_nil)))))) pa_nil))))
  (ds_cons (ds_ext (ps_expr (pe_bm PySem.F.plainAttrs_list PySem.F.slot_list_extend PySem.F.type_list_extend mt_extend (pv 1) (pa_cons (dn (dn_lst (daf_cons (df_ef rfl (fx.thing hcl) (df_ix (ix_data hu1) (dv (df_var (pv 0))) (dv df_int) (fun _ _ => rfl))) (daf_cons (df_ef rfl (fx.name hcl) (df_ix (ix_data hu1) (dv (df_var (pv 0))) (dv df_int) (fun _ _ => rfl))) (daf_cons (df_ef rfl (fx.index hcl) (df_ix (ix_data hu1) (dv (df_var (pv 0))) (dv df_int) (fun _ _ => rfl))) (daf_cons (df_ef rfl (fx.name hcl) (df_ix (ix_data hu1) (dv (df_var (pv 0))) (dv df_int) (fun _ _ => rfl))) daf_nil)))))) pa_nil))))
  (ds_cons (ds_ext (ps_expr (pe_bm PySem.F.plainAttrs_list PySem.F.slot_list_extend PySem.F.type_list_extend mt_extend (pv 1) (pa_cons (dn (dn_lst (daf_cons (df_ef rfl (fx.thing hcl) (df_ix (ix_data hu1) (dv (df_var (pv 0))) (dv df_int) (fun _ _ => rfl))) (daf_cons (df_ef rfl (fx.name hcl) (df_ix (ix_data hu1) (dv (df_var (pv 0))) (dv df_int) (fun _ _ => rfl))) (daf_cons (df_ef rfl (fx.name hcl) (df_ix (ix_data hu1) (dv (df_var (pv 0))) (dv df_int) (fun _ _ => rfl))) (daf_cons (df_ef rfl (fx.index hcl) (df_ix (ix_data hu1) (dv (df_var (pv 0))) (dv df_int) (fun _ _ => rfl))) daf_nil)))))) pa_nil))))
  (ds_cons (ds_ext (ps_expr (pe_bm PySem.F.plainAttrs_list PySem.F.slot_list_extend PySem.F.type_list_extend mt_extend (pv 1) (pa_cons (dn (dn_lst (daf_cons (df_ef rfl (fx.thing hcl) (df_ix (ix_data hu1) (dv (df_var (pv 0))) (dv df_int) (fun _ _ => rfl))) (daf_cons (df_ef rfl (fx.index hcl) (df_ix (ix_data hu1) (dv (df_var (pv 0))) (dv df_int) (fun _ _ => rfl))) (daf_cons (df_ef rfl (fx.name hcl) (df_ix (ix_data hu1) (dv (df_var (pv 0))) (dv df_int) (fun _ _ => rfl))) (daf_cons (df_ef rfl (fx.state hcl) (df_ix (ix_data hu1) (dv (df_var (pv 0))) (dv df_int) (fun _ _ => rfl))) daf_nil)))))) pa_nil))))
  (ds_cons (ds_ext (ps_expr (pe_bm PySem.F.plainAttrs_list PySem.F.slot_list_extend PySem.F.type_list_extend mt_extend (pv 1) (pa_cons (dn (dn_lst (daf_cons (df_ef rfl (fx.name hcl) (df_ix (ix_data hu1) (dv (df_var (pv 0))) (dv df_int) (fun _ _ => rfl))) (daf_cons (df_ef rfl (fx.name hcl) (df_ix (ix_data hu1) (dv (df_var (pv 0))) (dv df_int) (fun _ _ => rfl))) (daf_cons (df_ef rfl (fx.name hcl) (df_ix (ix_data hu1) (dv (df_var (pv 0))) (dv df_int) (fun _ _ => rfl))) (daf_cons (df_ef rfl (fx.index hcl) (df_ix (ix_data hu1) (dv (df_var (pv 0))) (dv df_int) (fun _ _ => rfl))) daf_nil)))))) pa_nil))))
  (ds_cons (ds_ext (ps_expr (pe_bm PySem.F.plainAttrs_list PySem.F.slot_list_extend PySem.F.type_list_extend mt_extend (pv 1) (pa_cons (dn (dn_lst (daf_cons (df_ef rfl (fx.thing hcl) (df_ix (ix_data hu1) (dv (df_var (pv 0))) (dv df_int) (fun _ _ => rfl))) (daf_cons (df_ef rfl (fx.sign hcl) (df_ix (ix_data hu1) (dv (df_var (pv 0))) (dv df_int) (fun _ _ => rfl))) (daf_cons (df_ef rfl (fx.index hcl) (df_ix (ix_data hu1) (dv (df_var (pv 0))) (dv df_int) (fun _ _ => rfl))) (daf_cons (df_ef rfl (fx.name hcl) (df_ix (ix_data hu1) (dv (df_var (pv 0))) (dv df_int) (fun _ _ => rfl))) daf_nil)))))) pa_nil))))
  (ds_cons (ds_ext (ps_expr (pe_bm PySem.F.plainAttrs_list PySem.F.slot_list_extend PySem.F.type_list_extend mt_extend (pv 1) (pa_cons (dn (dn_lst (daf_cons (df_ef rfl (fx.prime hcl) (df_ix (ix_data hu1) (dv (df_var (pv 0))) (dv df_int) (fun _ _ => rfl))) (daf_cons (df_ef rfl (fx.index hcl) (df_ix (ix_data hu1) (dv (df_var (pv 0))) (dv df_int) (fun _ _ => rfl))) (daf_cons (df_ef rfl (fx.thing hcl) (df_ix (ix_data hu1) (dv (df_var (pv 0))) (dv df_int) (fun _ _ => rfl))) (daf_cons (df_ef rfl (fx.name hcl) (df_ix (ix_data hu1) (dv (df_var (pv 0))) (dv df_int) (fun _ _ => rfl))) daf_nil)))))) pa_nil))))
  (ds_cons (ds_ext (ps_expr (pe_bm PySem.F.plainAttrs_list PySem.F.slot_list_extend PySem.F.type_list_extend mt_extend (pv 1) (pa_cons (dn (dn_lst (daf_cons (df_ef rfl (fx.index hcl) (df_ix (ix_data hu1) (dv (df_var (pv 0))) (dv df_int) (fun _ _ => rfl))) (daf_cons (df_ef rfl (fx.name hcl) (df_ix (ix_data hu1) (dv (df_var (pv 0))) (dv df_int) (fun _ _ => rfl))) (daf_cons (df_ef rfl (fx.name hcl) (df_ix (ix_data hu1) (dv (df_var (pv 0))) (dv df_int) (fun _ _ => rfl))) (daf_cons (df_ef rfl (fx.name hcl) (df_ix (ix_data hu1) (dv (df_var (pv 0))) (dv df_int) (fun _ _ => rfl))) daf_nil)))))) pa_nil))))
  (ds_cons (ds_ext (ps_expr (pe_bm PySem.F.plainAttrs_list PySem.F.slot_list_extend PySem.F.type_list_extend mt_extend (pv 1) (pa_cons (dn (dn_lst (daf_cons (df_ef rfl (fx.name hcl) (df_ix (ix_data hu1) (dv (df_var (pv 0))) (dv df_int) (fun _ _ => rfl))) (daf_cons (df_ef rfl (fx.thing hcl) (df_ix (ix_data hu1) (dv (df_var (pv 0))) (dv df_int) (fun _ _ => rfl))) (daf_cons (df_ef rfl (fx.name hcl) (df_ix (ix_data hu1) (dv (df_var (pv 0))) (dv df_int) (fun _ _ => rfl))) (daf_cons (df_ef rfl (fx.name hcl) (df_ix (ix_data hu1) (dv (df_var (pv 0))) (dv df_int) (fun _ _ => rfl))) daf_nil)))))) pa_nil))))
  (ds_cons (ds_ext (ps_expr (pe_bm PySem.F.plainAttrs_list PySem.F.slot_list_extend PySem.F.type_list_extend mt_extend (pv 1) (pa_cons (dn (dn_lst (daf_cons (df_ef rfl (fx.name hcl) (df_ix (ix_data hu1) (dv (df_var (pv 0))) (dv df_int) (fun _ _ => rfl))) (daf_cons (df_ef rfl (fx.index hcl) (df_ix (ix_data hu1) (dv (df_var (pv 0))) (dv df_int) (fun _ _ => rfl))) (daf_cons (df_ef rfl (fx.index hcl) (df_ix (ix_data hu1) (dv (df_var (pv 0))) (dv df_int) (fun _ _ => rfl))) (daf_cons (df_ef rfl (fx.thing hcl) (df_ix (ix_data hu1) (dv (df_var (pv 0))) (dv df_int) (fun _ _ => rfl))) daf_nil)))))) pa_nil))))
  (ds_cons (ds_ext (ps_expr (pe_bm PySem.F.plainAttrs_list PySem.F.slot_list_extend PySem.F.type_list_extend mt_extend (pv 1) (pa_cons (dn (dn_lst (daf_cons (df_ef rfl (fx.name hcl) (df_ix (ix_data hu1) (dv (df_var (pv 0))) (dv df_int) (fun _ _ => rfl))) (daf_cons (df_ef rfl (fx.name hcl) (df_ix (ix_data hu1) (dv (df_var (pv 0))) (dv df_int) (fun _ _ => rfl))) (daf_cons (df_ef rfl (fx.thing hcl) (df_ix (ix_data hu1) (dv (df_var (pv 0))) (dv df_int) (fun _ _ => rfl))) (daf_cons (df_ef rfl (fx.line hcl) (df_ix (ix_data hu1) (dv (df_var (pv 0))) (dv df_int) (fun _ _ => rfl))) daf_nil)))))) pa_nil))))
  (ds_cons (ds_ext (ps_expr (pe_bm PySem.F.plainAttrs_list PySem.F.slot_list_extend PySem.F.type_list_extend mt_extend (pv 1) (pa_cons (dn (dn_lst (daf_cons (df_ef rfl (fx.index hcl) (df_ix (ix_data hu1) (dv (df_var (pv 0))) (dv df_int) (fun _ _ => rfl))) (daf_cons (df_ef rfl (fx.name hcl) (df_ix (ix_data hu1) (dv (df_var (pv 0))) (dv df_int) (fun _ _ => rfl))) (daf_cons (df_ef rfl (fx.index hcl) (df_ix (ix_data hu1) (dv (df_var (pv 0))) (dv df_int) (fun _ _ => rfl))) (daf_cons (df_ef rfl (fx.index hcl) (df_ix (ix_data hu1) (dv (df_var (pv 0))) (dv df_int) (fun _ _ => rfl))) daf_nil)))))) pa_nil))))
  (ds_cons (ds_ext (ps_expr (pe_bm PySem.F.plainAttrs_list PySem.F.slot_list_extend PySem.F.type_list_extend mt_extend (pv 1) (pa_cons (dn (dn_lst (daf_cons (df_ef rfl (fx.thing hcl) (df_ix (ix_data hu1) (dv (df_var (pv 0))) (dv df_int) (fun _ _ => rfl))) (daf_cons (df_ef rfl (fx.thing hcl) (df_ix (ix_data hu1) (dv (df_var (pv 0))) (dv df_int) (fun _ _ => rfl))) (daf_cons (df_ef rfl (fx.name hcl) (df_ix (ix_data hu1) (dv (df_var (pv 0))) (dv df_int) (fun _ _ => rfl))) (daf_cons (df_ef rfl (fx.name hcl) (df_ix (ix_data hu1) (dv (df_var (pv 0))) (dv df_int) (fun _ _ => rfl))) daf_nil)))))) pa_nil))))
  (ds_cons (ds_ext (ps_expr (pe_bm PySem.F.plainAttrs_list PySem.F.slot_list_extend PySem.F.type_list_extend mt_extend (pv 1) (pa_cons (dn (dn_lst (daf_cons (df_ef rfl (fx.name hcl) (df_ix (ix_data hu1) (dv (df_var (pv 0))) (dv df_int) (fun _ _ => rfl))) (daf_cons (df_ef rfl (fx.index hcl) (df_ix (ix_data hu1) (dv (df_var (pv 0))) (dv df_int) (fun _ _ => rfl))) (daf_cons (df_ef rfl (fx.name hcl) (df_ix (ix_data hu1) (dv (df_var (pv 0))) (dv df_int) (fun _ _ => rfl))) (daf_cons (df_ef rfl (fx.index hcl) (df_ix (ix_data hu1) (dv (df_var (pv 0))) (dv df_int) (fun _ _ => rfl))) daf_nil)))))) pa_nil))))
  (ds_cons (ds_fz (ds_ret (df_var (pv 1))))
  ds_nil))))))))))))))))
theorem S__law_classes : FnScope ["_law_e", "_law_found"] ["_law_e"] (defScope (top 68)) := ⟨rfl, rfl, rfl, by decide +kernel, rfl, by decide +kernel, by decide +kernel⟩
theorem ok__law_classes {P : Program} {w : World} {K : PySem.W.Frag} {mg : PySem.Str → Option Value} {base : Heap} (fx : Fx P w K mg base)  {fd : FuncData} (F : FunD K "_law_classes" "_law_classes" (defArgs (top 68)) (defBody (top 68)) (defScope (top 68)) [] [] (He.ga K "_law_classes") fd) : DefOk P w K mg base (clK K) "_law_classes" 1 1 false g__law_classes := by
  refine ⟨_, fd, ["_law_e"], fx.gl__law_classes, F.kp, F.bindsN (fun _ _ _ _ _ _ us hl => match us, hl with | [_], _ => rfl), fn_dl F S__law_classes rfl fun cdv A outer s H E c W hr hcl tk => ?_⟩
  have nd := (S__law_classes).nd
  have hu := hu64_of hr
  have hu1 := hu01_of hr
  have hp : PassesOwn (model P w) (cxOf (L2.CX P w) P w K mg base ["_law_e", "_law_found"] "_law_classes" (defScope (top 68)) (He.ga K "_law_classes") cdv A outer s H E).A (cxOf (L2.CX P w) P w K mg base ["_law_e", "_law_found"] "_law_classes" (defScope (top 68)) (He.ga K "_law_classes") cdv A outer s H E).env (cxOf (L2.CX P w) P w K mg base ["_law_e", "_law_found"] "_law_classes" (defScope (top 68)) (He.ga K "_law_classes") cdv A outer s H E).xe := passes_of rfl
  exact (ds_cons (ds_own (ps_set (i := 1) nd rfl (by first | exact .inl rfl | exact .inr rfl) (dn_lst daf_nil)) fun _ _ _ q => q)
  (ds_cons (ds_ext (ps_expr (pe_bm PySem.F.plainAttrs_list PySem.F.slot_list_extend PySem.F.type_list_extend mt_extend (pv 1) (pa_cons (dn (dn_lst (daf_cons (df_isE rfl (.own _) (fx.rel hcl "BadWorld" (by decide +kernel)) rfl fx.g_isinstance (df_var (pv 0)) (pe_glob rfl fx.gl_BadWorld rfl)) (daf_cons (df_isE rfl (.own _) (fx.rel hcl "BadKnown" (by decide +kernel)) rfl fx.g_isinstance (df_var (pv 0)) (pe_glob rfl fx.gl_BadKnown rfl)) (daf_cons (df_isE rfl (.own _) (fx.rel hcl "NoQuestion" (by decide +kernel)) rfl fx.g_isinstance (df_var (pv 0)) (pe_glob rfl fx.gl_NoQuestion rfl)) daf_nil))))) pa_nil))))
  (ds_cons (ds_ext (ps_expr (pe_bm PySem.F.plainAttrs_list PySem.F.slot_list_extend PySem.F.type_list_extend mt_extend (pv 1) (pa_cons (dn (dn_lst (daf_cons (df_isE rfl (.own _) (fx.rel hcl "BadPlan" (by decide +kernel)) rfl fx.g_isinstance (df_var (pv 0)) (pe_glob rfl fx.gl_BadPlan rfl)) (daf_cons (df_isE rfl (.own _) (fx.rel hcl "BadAnswers" (by decide +kernel)) rfl fx.g_isinstance (df_var (pv 0)) (pe_glob rfl fx.gl_BadAnswers rfl)) (daf_cons (df_isE rfl (.own _) (fx.rel hcl "BadHands" (by decide +kernel)) rfl fx.g_isinstance (df_var (pv 0)) (pe_glob rfl fx.gl_BadHands rfl)) daf_nil))))) pa_nil))))
  (ds_cons (ds_ext (ps_expr (pe_bm PySem.F.plainAttrs_list PySem.F.slot_list_extend PySem.F.type_list_extend mt_extend (pv 1) (pa_cons (dn (dn_lst (daf_cons (df_isE rfl (.own _) (fx.rel hcl "BadGroup" (by decide +kernel)) rfl fx.g_isinstance (df_var (pv 0)) (pe_glob rfl fx.gl_BadGroup rfl)) (daf_cons (df_isE rfl (.own _) (fx.rel hcl "NoHand" (by decide +kernel)) rfl fx.g_isinstance (df_var (pv 0)) (pe_glob rfl fx.gl_NoHand rfl)) (daf_cons (df_isE rfl (.own _) (fx.rel hcl "BadNumber" (by decide +kernel)) rfl fx.g_isinstance (df_var (pv 0)) (pe_glob rfl fx.gl_BadNumber rfl)) daf_nil))))) pa_nil))))
  (ds_cons (ds_ext (ps_expr (pe_bm PySem.F.plainAttrs_list PySem.F.slot_list_extend PySem.F.type_list_extend mt_extend (pv 1) (pa_cons (dn (dn_lst (daf_cons (df_isE rfl (.own _) (fx.rel hcl "Known" (by decide +kernel)) rfl fx.g_isinstance (df_var (pv 0)) (pe_glob rfl fx.gl_Known rfl)) (daf_cons (df_isE rfl (.own _) (fx.rel hcl "NotKnown" (by decide +kernel)) rfl fx.g_isinstance (df_var (pv 0)) (pe_glob rfl fx.gl_NotKnown rfl)) (daf_cons (df_isE rfl (.own _) (fx.rel hcl "BadRow" (by decide +kernel)) rfl fx.g_isinstance (df_var (pv 0)) (pe_glob rfl fx.gl_BadRow rfl)) daf_nil))))) pa_nil))))
  (ds_cons (ds_ext (ps_expr (pe_bm PySem.F.plainAttrs_list PySem.F.slot_list_extend PySem.F.type_list_extend mt_extend (pv 1) (pa_cons (dn (dn_lst (daf_cons (df_isE rfl (.own _) (fx.rel hcl "BadTree" (by decide +kernel)) rfl fx.g_isinstance (df_var (pv 0)) (pe_glob rfl fx.gl_BadTree rfl)) (daf_cons (df_isE rfl (.own _) (fx.rel hcl "BadWeight" (by decide +kernel)) rfl fx.g_isinstance (df_var (pv 0)) (pe_glob rfl fx.gl_BadWeight rfl)) (daf_cons (df_isE rfl (.own _) (fx.rel hcl "BadView" (by decide +kernel)) rfl fx.g_isinstance (df_var (pv 0)) (pe_glob rfl fx.gl_BadView rfl)) daf_nil))))) pa_nil))))
  (ds_cons (ds_ext (ps_expr (pe_bm PySem.F.plainAttrs_list PySem.F.slot_list_extend PySem.F.type_list_extend mt_extend (pv 1) (pa_cons (dn (dn_lst (daf_cons (df_isE rfl (.own _) (fx.rel hcl "BadBox" (by decide +kernel)) rfl fx.g_isinstance (df_var (pv 0)) (pe_glob rfl fx.gl_BadBox rfl)) (daf_cons (df_isE rfl (.own _) (fx.rel hcl "BadAsk" (by decide +kernel)) rfl fx.g_isinstance (df_var (pv 0)) (pe_glob rfl fx.gl_BadAsk rfl)) (daf_cons (df_isE rfl (.own _) (fx.rel hcl "NoState" (by decide +kernel)) rfl fx.g_isinstance (df_var (pv 0)) (pe_glob rfl fx.gl_NoState rfl)) daf_nil))))) pa_nil))))
  (ds_cons (ds_ext (ps_expr (pe_bm PySem.F.plainAttrs_list PySem.F.slot_list_extend PySem.F.type_list_extend mt_extend (pv 1) (pa_cons (dn (dn_lst (daf_cons (df_isE rfl (.own _) (fx.rel hcl "NoLetter" (by decide +kernel)) rfl fx.g_isinstance (df_var (pv 0)) (pe_glob rfl fx.gl_NoLetter rfl)) (daf_cons (df_isE rfl (.own _) (fx.rel hcl "BadPut" (by decide +kernel)) rfl fx.g_isinstance (df_var (pv 0)) (pe_glob rfl fx.gl_BadPut rfl)) (daf_cons (df_isE rfl (.own _) (fx.rel hcl "BadMarks" (by decide +kernel)) rfl fx.g_isinstance (df_var (pv 0)) (pe_glob rfl fx.gl_BadMarks rfl)) daf_nil))))) pa_nil))))
  (ds_cons (ds_ext (ps_expr (pe_bm PySem.F.plainAttrs_list PySem.F.slot_list_extend PySem.F.type_list_extend mt_extend (pv 1) (pa_cons (dn (dn_lst (daf_cons (df_isE rfl (.own _) (fx.rel hcl "BadLink" (by decide +kernel)) rfl fx.g_isinstance (df_var (pv 0)) (pe_glob rfl fx.gl_BadLink rfl)) (daf_cons (df_isE rfl (.own _) (fx.rel hcl "BadUnknown" (by decide +kernel)) rfl fx.g_isinstance (df_var (pv 0)) (pe_glob rfl fx.gl_BadUnknown rfl)) (daf_cons (df_isE rfl (.own _) (fx.rel hcl "BadSum" (by decide +kernel)) rfl fx.g_isinstance (df_var (pv 0)) (pe_glob rfl fx.gl_BadSum rfl)) daf_nil))))) pa_nil))))
  (ds_cons (ds_ext (ps_expr (pe_bm PySem.F.plainAttrs_list PySem.F.slot_list_extend PySem.F.type_list_extend mt_extend (pv 1) (pa_cons (dn (dn_lst (daf_cons (df_isE rfl (.own _) (fx.rel hcl "BadPrime" (by decide +kernel)) rfl fx.g_isinstance (df_var (pv 0)) (pe_glob rfl fx.gl_BadPrime rfl)) (daf_cons (df_isE rfl (.own _) (fx.rel hcl "BadHolder" (by decide +kernel)) rfl fx.g_isinstance (df_var (pv 0)) (pe_glob rfl fx.gl_BadHolder rfl)) (daf_cons (df_isE rfl (.own _) (fx.rel hcl "BadLetters" (by decide +kernel)) rfl fx.g_isinstance (df_var (pv 0)) (pe_glob rfl fx.gl_BadLetters rfl)) daf_nil))))) pa_nil))))
  (ds_cons (ds_ext (ps_expr (pe_bm PySem.F.plainAttrs_list PySem.F.slot_list_extend PySem.F.type_list_extend mt_extend (pv 1) (pa_cons (dn (dn_lst (daf_cons (df_isE rfl (.own _) (fx.rel hcl "BadMachine" (by decide +kernel)) rfl fx.g_isinstance (df_var (pv 0)) (pe_glob rfl fx.gl_BadMachine rfl)) (daf_cons (df_isE rfl (.own _) (fx.rel hcl "BadIndex" (by decide +kernel)) rfl fx.g_isinstance (df_var (pv 0)) (pe_glob rfl fx.gl_BadIndex rfl)) (daf_cons (df_isE rfl (.own _) (fx.rel hcl "TakenName" (by decide +kernel)) rfl fx.g_isinstance (df_var (pv 0)) (pe_glob rfl fx.gl_TakenName rfl)) daf_nil))))) pa_nil))))
  (ds_cons (ds_ext (ps_expr (pe_bm PySem.F.plainAttrs_list PySem.F.slot_list_extend PySem.F.type_list_extend mt_extend (pv 1) (pa_cons (dn (dn_lst (daf_cons (df_isE rfl (.own _) (fx.rel hcl "BadCode" (by decide +kernel)) rfl fx.g_isinstance (df_var (pv 0)) (pe_glob rfl fx.gl_BadCode rfl)) (daf_cons (df_isE rfl (.own _) (fx.rel hcl "BadClass" (by decide +kernel)) rfl fx.g_isinstance (df_var (pv 0)) (pe_glob rfl fx.gl_BadClass rfl)) (daf_cons (df_isE rfl (.own _) (fx.rel hcl "Uneven" (by decide +kernel)) rfl fx.g_isinstance (df_var (pv 0)) (pe_glob rfl fx.gl_Uneven rfl)) daf_nil))))) pa_nil))))
  (ds_cons (ds_ext (ps_expr (pe_bm PySem.F.plainAttrs_list PySem.F.slot_list_extend PySem.F.type_list_extend mt_extend (pv 1) (pa_cons (dn (dn_lst (daf_cons (df_isE rfl (.own _) (fx.rel hcl "BadReader" (by decide +kernel)) rfl fx.g_isinstance (df_var (pv 0)) (pe_glob rfl fx.gl_BadReader rfl)) (daf_cons (df_isE rfl (.own _) (fx.rel hcl "NoClass" (by decide +kernel)) rfl fx.g_isinstance (df_var (pv 0)) (pe_glob rfl fx.gl_NoClass rfl)) (daf_cons (df_isE rfl (.own _) (fx.rel hcl "BadPart" (by decide +kernel)) rfl fx.g_isinstance (df_var (pv 0)) (pe_glob rfl fx.gl_BadPart rfl)) daf_nil))))) pa_nil))))
  (ds_cons (ds_ext (ps_expr (pe_bm PySem.F.plainAttrs_list PySem.F.slot_list_extend PySem.F.type_list_extend mt_extend (pv 1) (pa_cons (dn (dn_lst (daf_cons (df_isE rfl (.own _) (fx.rel hcl "BadBundle" (by decide +kernel)) rfl fx.g_isinstance (df_var (pv 0)) (pe_glob rfl fx.gl_BadBundle rfl)) (daf_cons (df_isE rfl (.own _) (fx.rel hcl "BadLinks" (by decide +kernel)) rfl fx.g_isinstance (df_var (pv 0)) (pe_glob rfl fx.gl_BadLinks rfl)) (daf_cons (df_isE rfl (.own _) (fx.rel hcl "BadTelling" (by decide +kernel)) rfl fx.g_isinstance (df_var (pv 0)) (pe_glob rfl fx.gl_BadTelling rfl)) daf_nil))))) pa_nil))))
  (ds_cons (ds_ext (ps_expr (pe_bm PySem.F.plainAttrs_list PySem.F.slot_list_extend PySem.F.type_list_extend mt_extend (pv 1) (pa_cons (dn (dn_lst (daf_cons (df_isE rfl (.own _) (fx.rel hcl "BadText" (by decide +kernel)) rfl fx.g_isinstance (df_var (pv 0)) (pe_glob rfl fx.gl_BadText rfl)) (daf_cons (df_isE rfl (.own _) (fx.rel hcl "BadName" (by decide +kernel)) rfl fx.g_isinstance (df_var (pv 0)) (pe_glob rfl fx.gl_BadName rfl)) (daf_cons (df_isE rfl (.own _) (fx.rel hcl "NoName" (by decide +kernel)) rfl fx.g_isinstance (df_var (pv 0)) (pe_glob rfl fx.gl_NoName rfl)) daf_nil))))) pa_nil))))
  (ds_cons (ds_ext (ps_expr (pe_bm PySem.F.plainAttrs_list PySem.F.slot_list_extend PySem.F.type_list_extend mt_extend (pv 1) (pa_cons (dn (dn_lst (daf_cons (df_isE rfl (.own _) (fx.rel hcl "BadThing" (by decide +kernel)) rfl fx.g_isinstance (df_var (pv 0)) (pe_glob rfl fx.gl_BadThing rfl)) (daf_cons (df_isE rfl (.own _) (fx.rel hcl "BadOrder" (by decide +kernel)) rfl fx.g_isinstance (df_var (pv 0)) (pe_glob rfl fx.gl_BadOrder rfl)) (daf_cons (df_isE rfl (.own _) (fx.rel hcl "BadLine" (by decide +kernel)) rfl fx.g_isinstance (df_var (pv 0)) (pe_glob rfl fx.gl_BadLine rfl)) daf_nil))))) pa_nil))))
  (ds_cons (ds_ext (ps_expr (pe_bm PySem.F.plainAttrs_list PySem.F.slot_list_extend PySem.F.type_list_extend mt_extend (pv 1) (pa_cons (dn (dn_lst (daf_cons (df_isE rfl (.own _) (fx.rel hcl "BadWindow" (by decide +kernel)) rfl fx.g_isinstance (df_var (pv 0)) (pe_glob rfl fx.gl_BadWindow rfl)) (daf_cons (df_isE rfl (.own _) (fx.rel hcl "BadPeople" (by decide +kernel)) rfl fx.g_isinstance (df_var (pv 0)) (pe_glob rfl fx.gl_BadPeople rfl)) (daf_cons (df_isE rfl (.own _) (fx.rel hcl "BadPlaces" (by decide +kernel)) rfl fx.g_isinstance (df_var (pv 0)) (pe_glob rfl fx.gl_BadPlaces rfl)) daf_nil))))) pa_nil))))
  (ds_cons (ds_ext (ps_expr (pe_bm PySem.F.plainAttrs_list PySem.F.slot_list_extend PySem.F.type_list_extend mt_extend (pv 1) (pa_cons (dn (dn_lst (daf_cons (df_isE rfl (.own _) (fx.rel hcl "BadPlace" (by decide +kernel)) rfl fx.g_isinstance (df_var (pv 0)) (pe_glob rfl fx.gl_BadPlace rfl)) (daf_cons (df_isE rfl (.own _) (fx.rel hcl "BadFacts" (by decide +kernel)) rfl fx.g_isinstance (df_var (pv 0)) (pe_glob rfl fx.gl_BadFacts rfl)) (daf_cons (df_isE rfl (.own _) (fx.rel hcl "NoPerson" (by decide +kernel)) rfl fx.g_isinstance (df_var (pv 0)) (pe_glob rfl fx.gl_NoPerson rfl)) daf_nil))))) pa_nil))))
  (ds_cons (ds_ext (ps_expr (pe_bm PySem.F.plainAttrs_list PySem.F.slot_list_extend PySem.F.type_list_extend mt_extend (pv 1) (pa_cons (dn (dn_lst (daf_cons (df_isE rfl (.own _) (fx.rel hcl "SamePerson" (by decide +kernel)) rfl fx.g_isinstance (df_var (pv 0)) (pe_glob rfl fx.gl_SamePerson rfl)) (daf_cons (df_isE rfl (.own _) (fx.rel hcl "BadArc" (by decide +kernel)) rfl fx.g_isinstance (df_var (pv 0)) (pe_glob rfl fx.gl_BadArc rfl)) (daf_cons (df_isE rfl (.own _) (fx.rel hcl "BadNames" (by decide +kernel)) rfl fx.g_isinstance (df_var (pv 0)) (pe_glob rfl fx.gl_BadNames rfl)) daf_nil))))) pa_nil))))
  (ds_cons (ds_ext (ps_expr (pe_bm PySem.F.plainAttrs_list PySem.F.slot_list_extend PySem.F.type_list_extend mt_extend (pv 1) (pa_cons (dn (dn_lst (daf_cons (df_isE rfl (.own _) (fx.rel hcl "BadAmounts" (by decide +kernel)) rfl fx.g_isinstance (df_var (pv 0)) (pe_glob rfl fx.gl_BadAmounts rfl)) (daf_cons (df_isE rfl (.own _) (fx.rel hcl "BadPiece" (by decide +kernel)) rfl fx.g_isinstance (df_var (pv 0)) (pe_glob rfl fx.gl_BadPiece rfl)) (daf_cons (df_isE rfl (.own _) (fx.rel hcl "UnlikeQuestions" (by decide +kernel)) rfl fx.g_isinstance (df_var (pv 0)) (pe_glob rfl fx.gl_UnlikeQuestions rfl)) daf_nil))))) pa_nil))))
  (ds_cons (ds_ext (ps_expr (pe_bm PySem.F.plainAttrs_list PySem.F.slot_list_extend PySem.F.type_list_extend mt_extend (pv 1) (pa_cons (dn (dn_lst (daf_cons (df_isE rfl (.own _) (fx.rel hcl "UnlikeLetters" (by decide +kernel)) rfl fx.g_isinstance (df_var (pv 0)) (pe_glob rfl fx.gl_UnlikeLetters rfl)) (daf_cons (df_isE rfl (.own _) (fx.rel hcl "NoRow" (by decide +kernel)) rfl fx.g_isinstance (df_var (pv 0)) (pe_glob rfl fx.gl_NoRow rfl)) (daf_cons (df_isE rfl (.own _) (fx.rel hcl "Crowded" (by decide +kernel)) rfl fx.g_isinstance (df_var (pv 0)) (pe_glob rfl fx.gl_Crowded rfl)) daf_nil))))) pa_nil))))
  (ds_cons (ds_fz (ds_ret (df_var (pv 1))))
  ds_nil))))))))))))))))))))))
end K92

set_option Elab.async false
set_option linter.all false
set_option maxRecDepth 100000
set_option maxHeartbeats 4000000
namespace K92
open PySem PySem.Spec L2 DL
def mE : SM := (mFz 5 (mFor (mEnum (mVar 5)) (tgT [(tgN 7), (tgN 6)]) (mSeq (mIfS (mOr (mNot (mB (mIsE relW (mVar 6)))) (mNot (mB (mIsE relV (mVar 6))))) (mSeq (mRet (mC (.bl false))) mSkip) mSkip) (mSeq (mIfS (mB (mOp dNeX (mCallF 1 g__law_classes (mCons (mVar 6) mNil)) (mLc [10] (mRange1 (mC (.int 60))) (tgN 10) mYes (mOp dEq (mVar 10) (mVar 7))))) (mSeq (mRet (mC (.bl false))) mSkip) mSkip) mSkip))))
def mHd : SM := (mSeq (mOwn 5 (mLc [8] (mItems (mCallF 1 g__law_pairs (mCons (mVar 3) mNil))) (tgN 8) mYes (mOp dIx (mVar 8) (mVar 4))))
  (mSeq (mIfS (mThaw 5 (mB (mCall dAny (mCons (mLc [9] (mItems (mCallF 1 g__law_held (mCons (mVar 5) mNil))) (tgN 9) mYes (mOrV (mOp dNeX (mVar 9) (mVar 3)) (mOp dNeX (mIsi [.bool] (mVar 9)) (mIsi [.bool] (mVar 3))))) mNil)))) (mSeq (mRet (mC (.bl false))) mSkip) mSkip)
  (mSeq (mExt 5 (mDisp .lst (mCons (mMkE "UnlikeQuestions" mk0 mNil) (mCons (mMkE "UnlikeLetters" mk0 mNil) (mCons (mMkE "NoRow" mk0 mNil) mNil)))))
  (mSeq (mAsg (tgN 6) (mIf (mB (mOp dEq (mVar 4) (mC (.int 0)))) (mMkE "Crowded" (mk2 "first" "last") (mCons (mVar 3) (mCons (mC (.int 7)) mNil))) (mMkE "Crowded" (mk2 "first" "last") (mCons (mVar 3) (mCons (mC (.int 7)) mNil)))))
  (mSeq (mIfS (mOr (mB (mOp dNeX (mEf ok_first "first" (mVar 6)) (mVar 3))) (mB (mOp dNeX (mEf ok_last "last" (mVar 6)) (mC (.int 7))))) (mSeq (mRet (mC (.bl false))) mSkip) mSkip)
  (mSeq (mApp 5 (mVar 6))
  mSkip))))))
def mHalf : SM := (mSeq (mOwn 5 (mLc [8] (mItems (mCallF 1 g__law_pairs (mCons (mVar 3) mNil))) (tgN 8) mYes (mOp dIx (mVar 8) (mVar 4))))
  (mSeq (mIfS (mThaw 5 (mB (mCall dAny (mCons (mLc [9] (mItems (mCallF 1 g__law_held (mCons (mVar 5) mNil))) (tgN 9) mYes (mOrV (mOp dNeX (mVar 9) (mVar 3)) (mOp dNeX (mIsi [.bool] (mVar 9)) (mIsi [.bool] (mVar 3))))) mNil)))) (mSeq (mRet (mC (.bl false))) mSkip) mSkip)
  (mSeq (mExt 5 (mDisp .lst (mCons (mMkE "UnlikeQuestions" mk0 mNil) (mCons (mMkE "UnlikeLetters" mk0 mNil) (mCons (mMkE "NoRow" mk0 mNil) mNil)))))
  (mSeq (mAsg (tgN 6) (mIf (mB (mOp dEq (mVar 4) (mC (.int 0)))) (mMkE "Crowded" (mk2 "first" "last") (mCons (mVar 3) (mCons (mC (.int 7)) mNil))) (mMkE "Crowded" (mk2 "first" "last") (mCons (mVar 3) (mCons (mC (.int 7)) mNil)))))
  (mSeq (mIfS (mOr (mB (mOp dNeX (mEf ok_first "first" (mVar 6)) (mVar 3))) (mB (mOp dNeX (mEf ok_last "last" (mVar 6)) (mC (.int 7))))) (mSeq (mRet (mC (.bl false))) mSkip) mSkip)
  (mSeq (mApp 5 (mVar 6))
  (mSeq mE
  mSkip)))))))
def mPk : SM := (mAsg (tgN 3) (mCallS 1 1 g__law_pick (mCons (mDisp .lst (mCons (mC .non) (mCons (mC (.int 5)) (mCons (mNeg (mC (.int 1))) (mCons (mC (.str "a")) (mCons (mDisp .lst (mCons (mVar 2) mNil)) (mCons (mDisp .tup (mCons (mC (.int 1)) (mCons (mDisp .lst (mCons (mC (.int 2)) mNil)) mNil))) (mCons (mDic [((mC (.str "a")), (mC (.int 1)))]) (mCons (mC (.bl true)) (mCons (mOp dPow (mC (.int 10)) (mC (.int 14))) mNil)))))))))) mNil)))
def mTwo : SM := (mFor (mRange1 (mC (.int 2))) (tgN 4) mHalf)
def mTurn : SM := (mSeq mPk (mSeq mTwo mSkip))
def mEnd : SM := (mRet (mIsE relV (mMkE "WorldError" mk0 mNil)))
theorem m_law_is : m_law = mSeq (mFor (mRange1 (mC (.int 4))) (tgN 2) mTurn) (mSeq mEnd mSkip) := rfl
theorem seq_assoc (a b d : SM) : mSeq (mSeq a b) d = mSeq a (mSeq b d) := by
  funext s z
  unfold mSeq
  cases a s z <;> rfl
theorem seq_skip (a : SM) : mSeq mSkip a = a := rfl
theorem seq_nx {a b : SM} {s s1 : Sl} {z z1 : Z} (h : a s z = .nx s1 z1) : mSeq a b s z = b s1 z1 := by
  unfold mSeq
  rw [h]
theorem half_is : mHalf = mSeq mHd (mSeq mE mSkip) := by
  unfold mHalf mHd
  simp only [seq_assoc, seq_skip]
def fst1 : D → D
  | .tup (d :: _) => d
  | d => d
def lst1 : ER D → List D
  | .ok (.lst l) _ => l.map fst1
  | _ => []
def crowd (x : D) : D := .err "Crowded" [("last", .int 7), ("first", x)]
def errs (x : D) : List D := lst1 (g__law_pairs [x] ⟨[], 0, 0, 11⟩) ++ [.err "UnlikeQuestions" [], .err "UnlikeLetters" [], .err "NoRow" [], crowd x]
theorem loopE (x : D) (z : Z) (a0 a2 a3 a4 a6 a7 a8 a9 a10 : Slot) : mE [a0, .strm, a2, a3, a4, .own (.lst (errs x)), a6, a7, a8, a9, a10] z = .nx [a0, .strm, a2, a3, a4, .sh (.lst (errs x)), .sh (crowd x), .sh (.int 59), a8, a9, a10] z := by kernel_rfl
def things (t : Int) : List D := [.non, .int 5, .int (-1), .str "a", .lst [.int t], .tup [.int 1, .lst [.int 2]], .dic [(.inr "a", .int 1)], .bl true, .int (10 ^ 14)]
def HdOk (x : D) (h : Int) : Prop := ∀ (z : Z) (a0 a2 a5 a6 a7 a8 a9 a10 : Slot), mHd [a0, .strm, a2, .sh x, .sh (.int h), a5, a6, a7, a8, a9, a10] z = .nx [a0, .strm, a2, .sh x, .sh (.int h), .own (.lst (errs x)), .sh (crowd x), a7, a8, a9, a10] z
theorem hd_0_0 : HdOk .non 0 := fun z a0 a2 a5 a6 a7 a8 a9 a10 => by kernel_rfl
theorem hd_0_1 : HdOk .non 1 := fun z a0 a2 a5 a6 a7 a8 a9 a10 => by kernel_rfl
theorem hd_1_0 : HdOk (.int 5) 0 := fun z a0 a2 a5 a6 a7 a8 a9 a10 => by kernel_rfl
theorem hd_1_1 : HdOk (.int 5) 1 := fun z a0 a2 a5 a6 a7 a8 a9 a10 => by kernel_rfl
theorem hd_2_0 : HdOk (.int (-1)) 0 := fun z a0 a2 a5 a6 a7 a8 a9 a10 => by kernel_rfl
theorem hd_2_1 : HdOk (.int (-1)) 1 := fun z a0 a2 a5 a6 a7 a8 a9 a10 => by kernel_rfl
theorem hd_3_0 : HdOk (.str "a") 0 := fun z a0 a2 a5 a6 a7 a8 a9 a10 => by kernel_rfl
theorem hd_3_1 : HdOk (.str "a") 1 := fun z a0 a2 a5 a6 a7 a8 a9 a10 => by kernel_rfl
theorem hd_4_0 : HdOk (.lst [.int 0]) 0 := fun z a0 a2 a5 a6 a7 a8 a9 a10 => by kernel_rfl
theorem hd_4_1 : HdOk (.lst [.int 0]) 1 := fun z a0 a2 a5 a6 a7 a8 a9 a10 => by kernel_rfl
theorem hd_5_0 : HdOk (.lst [.int 1]) 0 := fun z a0 a2 a5 a6 a7 a8 a9 a10 => by kernel_rfl
theorem hd_5_1 : HdOk (.lst [.int 1]) 1 := fun z a0 a2 a5 a6 a7 a8 a9 a10 => by kernel_rfl
theorem hd_6_0 : HdOk (.lst [.int 2]) 0 := fun z a0 a2 a5 a6 a7 a8 a9 a10 => by kernel_rfl
theorem hd_6_1 : HdOk (.lst [.int 2]) 1 := fun z a0 a2 a5 a6 a7 a8 a9 a10 => by kernel_rfl
theorem hd_7_0 : HdOk (.lst [.int 3]) 0 := fun z a0 a2 a5 a6 a7 a8 a9 a10 => by kernel_rfl
theorem hd_7_1 : HdOk (.lst [.int 3]) 1 := fun z a0 a2 a5 a6 a7 a8 a9 a10 => by kernel_rfl
theorem hd_8_0 : HdOk (.tup [.int 1, .lst [.int 2]]) 0 := fun z a0 a2 a5 a6 a7 a8 a9 a10 => by kernel_rfl
theorem hd_8_1 : HdOk (.tup [.int 1, .lst [.int 2]]) 1 := fun z a0 a2 a5 a6 a7 a8 a9 a10 => by kernel_rfl
theorem hd_9_0 : HdOk (.dic [(.inr "a", .int 1)]) 0 := fun z a0 a2 a5 a6 a7 a8 a9 a10 => by kernel_rfl
theorem hd_9_1 : HdOk (.dic [(.inr "a", .int 1)]) 1 := fun z a0 a2 a5 a6 a7 a8 a9 a10 => by kernel_rfl
theorem hd_10_0 : HdOk (.bl true) 0 := fun z a0 a2 a5 a6 a7 a8 a9 a10 => by kernel_rfl
theorem hd_10_1 : HdOk (.bl true) 1 := fun z a0 a2 a5 a6 a7 a8 a9 a10 => by kernel_rfl
theorem hd_11_0 : HdOk (.int (10 ^ 14)) 0 := fun z a0 a2 a5 a6 a7 a8 a9 a10 => by kernel_rfl
theorem hd_11_1 : HdOk (.int (10 ^ 14)) 1 := fun z a0 a2 a5 a6 a7 a8 a9 a10 => by kernel_rfl
theorem half_ok {x : D} {h : Int} (k : HdOk x h) (z : Z) (a0 a2 a5 a6 a7 a8 a9 a10 : Slot) : mHalf [a0, .strm, a2, .sh x, .sh (.int h), a5, a6, a7, a8, a9, a10] z = .nx [a0, .strm, a2, .sh x, .sh (.int h), .sh (.lst (errs x)), .sh (crowd x), .sh (.int 59), a8, a9, a10] z := by
  rw [half_is, seq_nx (k z a0 a2 a5 a6 a7 a8 a9 a10), seq_nx (loopE x z a0 a2 _ _ _ _ _ _ _)]
  rfl
theorem two_ok {x : D} (k0 : HdOk x 0) (k1 : HdOk x 1) (z : Z) (a0 a2 a4 a5 a6 a7 a8 a9 a10 : Slot) : mTwo [a0, .strm, a2, .sh x, a4, a5, a6, a7, a8, a9, a10] z = .nx [a0, .strm, a2, .sh x, .sh (.int 1), .sh (.lst (errs x)), .sh (crowd x), .sh (.int 59), a8, a9, a10] z := by
  have e : mTwo [a0, .strm, a2, .sh x, a4, a5, a6, a7, a8, a9, a10] z = mForG (tgN 4) mHalf [.int 0, .int 1] [a0, .strm, a2, .sh x, a4, a5, a6, a7, a8, a9, a10] z := rfl
  have e0 : tgN 4 (.int 0) [a0, .strm, a2, .sh x, a4, a5, a6, a7, a8, a9, a10] = some [a0, .strm, a2, .sh x, .sh (.int 0), a5, a6, a7, a8, a9, a10] := rfl
  have e1 : tgN 4 (.int 1) [a0, .strm, a2, .sh x, .sh (.int 0), .sh (.lst (errs x)), .sh (crowd x), .sh (.int 59), a8, a9, a10] = some [a0, .strm, a2, .sh x, .sh (.int 1), .sh (.lst (errs x)), .sh (crowd x), .sh (.int 59), a8, a9, a10] := rfl
  rw [e]
  simp only [mForG, e0, e1, half_ok k0, half_ok k1]
theorem all_ok : ∀ t : Int, t = 0 ∨ t = 1 ∨ t = 2 ∨ t = 3 → ∀ i : Nat, i < 9 → ∃ x, (things t)[i]? = some x ∧ HdOk x 0 ∧ HdOk x 1 := by
  intro t ht i hi
  match i, hi with
  | 0, _ => exact ⟨_, rfl, hd_0_0, hd_0_1⟩
  | 1, _ => exact ⟨_, rfl, hd_1_0, hd_1_1⟩
  | 2, _ => exact ⟨_, rfl, hd_2_0, hd_2_1⟩
  | 3, _ => exact ⟨_, rfl, hd_3_0, hd_3_1⟩
  | 4, _ =>
    rcases ht with rfl | rfl | rfl | rfl
    · exact ⟨_, rfl, hd_4_0, hd_4_1⟩
    · exact ⟨_, rfl, hd_5_0, hd_5_1⟩
    · exact ⟨_, rfl, hd_6_0, hd_6_1⟩
    · exact ⟨_, rfl, hd_7_0, hd_7_1⟩
  | 5, _ => exact ⟨_, rfl, hd_8_0, hd_8_1⟩
  | 6, _ => exact ⟨_, rfl, hd_9_0, hd_9_1⟩
  | 7, _ => exact ⟨_, rfl, hd_10_0, hd_10_1⟩
  | 8, _ => exact ⟨_, rfl, hd_11_0, hd_11_1⟩
  | n + 9, h => exact absurd h (by omega)
end K92


set_option Elab.async false
set_option linter.all false
set_option maxRecDepth 100000
set_option maxHeartbeats 4000000
namespace K92
open PySem PySem.Spec L2 DL
structure Zok (z : Z) (B : Int) : Prop where
  m0 : 0 ≤ z.mix
  m1 : z.mix < 2147483647
  c0 : 0 ≤ z.count
  c1 : z.count ≤ B
  r0 : 0 ≤ z.rest
theorem pow_lim (a : Int) (h0 : 0 ≤ a) (h1 : a < 2 ^ 60) : a.natAbs < 2 ^ 60 := by omega
theorem dPow5 {a : Int} (h : a.natAbs < 2 ^ 60) : dPow (.int a) (.int 5) = some (.int (a ^ 5)) := by
  simp only [dPow]
  rw [if_pos ⟨by decide, by decide, h⟩]
  rfl
theorem dPow3 {a : Int} (h : a.natAbs < 2 ^ 60) : dPow (.int a) (.int 3) = some (.int (a ^ 3)) := by
  simp only [dPow]
  rw [if_pos ⟨by decide, by decide, h⟩]
  rfl
theorem dMod_pos {a b : Int} (h : 0 < b) : dMod (.int a) (.int b) = some (.int (a % b)) := by
  simp only [dMod]
  rw [if_pos h]
theorem dMulL {a b : Int} (h : smallI a = true) : dMul (.int a) (.int b) = some (.int (a * b)) := by
  simp only [dMul]
  rw [h, Bool.true_or, if_pos rfl]
theorem dMulR {a b : Int} (h : smallI b = true) : dMul (.int a) (.int b) = some (.int (a * b)) := by
  simp only [dMul]
  rw [h, Bool.or_true, if_pos rfl]
theorem dFdiv_pos {a b : Int} (h : 0 < b) (h1 : b < 1073741824) : dFdiv (.int a) (.int b) = some (.int (a / b)) := by
  simp only [dFdiv]
  rw [if_pos ⟨h, h1⟩]
def mD1 : SM := (mStrmSet 0 2 (mOp dAdd (mStrmI 0 2) (mC (.int 1))))
def mD2c : M Bool := (mAnd (mB (mOp dEq (mStrmI 0 1) (mC (.int 0)))) (mStrmNe 0))
def mD2 : SM := (mSeq (mStrmPop 0 3)
  (mSeq (mStrmSet 0 3 (mOp dMod (mCall dInt (mCons (mOp dAdd (mOp dAdd (mOp dMul (mStrmI 0 3) (mC (.int 8191))) (mVar 3)) (mC (.int 3))) mNil)) (mC (.int 2147483647))))
  (mSeq (mStrmSet 0 1 (mIf (mB (mOp dGe (mVar 3) (mOp dPow (mC (.int 10)) (mC (.int 18))))) (mVar 3) (mC (.int 0))))
  mSkip)))
def mD3 : SM := (mIfS (mB (mOp dGt (mStrmI 0 1) (mC (.int 0)))) (mSeq (mAsg (tgN 4) (mOp dMod (mCall dInt (mCons (mStrmI 0 1) mNil)) (mVar 1))) (mSeq (mStrmSet 0 1 (mOp dFdiv (mStrmI 0 1) (mVar 1))) (mSeq (mRet (mVar 4)) mSkip))) mSkip)
def mD4 : SM := (mSeq (mAsg (tgN 2) (mOp dMod (mCall dInt (mCons (mOp dPow (mOp dAdd (mOp dAdd (mStrmI 0 3) (mOp dMul (mC (.int 7919)) (mStrmI 0 2))) (mC (.int 104729))) (mC (.int 5))) mNil)) (mC (.int 2147483629))))
  (mSeq (mRet (mOp dMod (mOp dMod (mCall dInt (mCons (mOp dPow (mOp dAdd (mOp dAdd (mOp dMul (mVar 2) (mC (.int 48271))) (mOp dMul (mC (.int 30011)) (mStrmI 0 2))) (mC (.int 29))) (mC (.int 3))) mNil)) (mC (.int 1000000007))) (mVar 1)))
  mSkip))
theorem draw_is : m__law_draw = mSeq mD1 (mSeq (mIfS mD2c mD2 mSkip) (mSeq mD3 mD4)) := rfl
theorem draw_tail {cells : List Int} {count mix n B : Int} (h0 : 0 < n) (h1 : n < 1073741824) (hB : B < 2 ^ 40) (m0 : 0 ≤ mix) (m1 : mix < 2147483647) (c0 : 0 ≤ count) (c1 : count ≤ B + 1) (a b : Slot) :
    ∃ k z', mD4 [.strm, .sh (.int n), .none, a, b] ⟨cells, 0, count, mix⟩ = .rt (.int k) [.strm, .sh (.int n), .sh (.int ((mix + 7919 * count + 104729) ^ 5 % 2147483629)), a, b] z' ∧ 0 ≤ k ∧ k < n ∧ Zok z' (B + 1) := by
  have p1 : (mix + 7919 * count + 104729).natAbs < 2 ^ 60 := pow_lim _ (by omega) (by omega)
  generalize hm : (mix + 7919 * count + 104729) ^ 5 % 2147483629 = mh
  have e0 : 0 ≤ mh := by rw [← hm]; exact Int.emod_nonneg _ (by decide)
  have e1 : mh < 2147483629 := by rw [← hm]; exact Int.emod_lt_of_pos _ (by decide)
  have p2 : (mh * 48271 + 30011 * count + 29).natAbs < 2 ^ 60 := pow_lim _ (by omega) (by omega)
  have s1 : smallI 7919 = true := by decide
  have s2 : smallI 48271 = true := by decide
  have s3 : smallI 30011 = true := by decide
  refine ⟨((mh * 48271 + 30011 * count + 29) ^ 3 % 1000000007) % n, ⟨cells, 0, count, mix⟩, ?_, Int.emod_nonneg _ (by omega), Int.emod_lt_of_pos _ h0, ⟨m0, m1, c0, c1, by simp⟩⟩
  have k1 := dMulL (b := count) s1
  have k2 := dMulR (a := mh) s2
  have k3 := dMulL (b := count) s3
  have k4 := dPow5 p1
  have k5 := dPow3 p2
  have k6 := dMod_pos (a := (mix + 7919 * count + 104729) ^ 5) (b := 2147483629) (by decide)
  have k7 := dMod_pos (a := (mh * 48271 + 30011 * count + 29) ^ 3) (b := 1000000007) (by decide)
  have k8 := dMod_pos (a := (mh * 48271 + 30011 * count + 29) ^ 3 % 1000000007) (b := n) h0
  rw [hm] at k6
  unfold mD4
  simp only [mSeq, mAsg, mOp, mCall, mCons, mNil, mStrmI, mC, mVar, mRet, mSkip, toFR, ER.bind, mOpt, Z.get, List.getElem?_cons_zero, Option.map_some, dAdd, dInt, tgN, List.set, List.getElem?_cons_succ, k1, k2, k3, k4, k5, k6, k7, k8]
theorem dseq_nx {a b : SM} {s s1 : Sl} {z z1 : Z} (h : a s z = .nx s1 z1) : mSeq a b s z = b s1 z1 := by
  unfold mSeq
  rw [h]
theorem draw_two (cells : List Int) (rest count mix n : Int) (r0 : 0 ≤ rest) (m0 : 0 ≤ mix) (m1 : mix < 2147483647) : ∃ cells' rest' mix' a, (mIfS mD2c mD2 mSkip) [.strm, .sh (.int n), .none, .none, .none] ⟨cells, rest, count, mix⟩ = .nx [.strm, .sh (.int n), .none, a, .none] ⟨cells', rest', count, mix'⟩ ∧ 0 ≤ rest' ∧ 0 ≤ mix' ∧ mix' < 2147483647 := by
  by_cases hr : rest = 0
  · subst hr
    cases cells with
    | nil => exact ⟨[], 0, mix, .none, rfl, by omega, m0, m1⟩
    | cons x r =>
      have p : (10 : Int).natAbs < 2 ^ 60 := by decide
      have k1 : dMul (.int mix) (.int 8191) = some (.int (mix * 8191)) := dMulR (by decide)
      have k2 := dMod_pos (a := mix * 8191 + x + 3) (b := 2147483647) (by decide)
      have k3 : dPow (.int 10) (.int 18) = some (.int 1000000000000000000) := by kernel_rfl
      have e1 : 0 ≤ (mix * 8191 + x + 3) % 2147483647 := Int.emod_nonneg _ (by decide)
      have e2 : (mix * 8191 + x + 3) % 2147483647 < 2147483647 := Int.emod_lt_of_pos _ (by decide)
      have hc : mD2c [.strm, .sh (.int n), .none, .none, .none] ⟨x :: r, 0, count, mix⟩ = .ok true ⟨x :: r, 0, count, mix⟩ := rfl
      by_cases hx : 1000000000000000000 ≤ x
      · refine ⟨r, x, (mix * 8191 + x + 3) % 2147483647, .sh (.int x), ?_, by omega, e1, e2⟩
        unfold mIfS
        rw [hc]
        simp only [if_true, mD2, mSeq, mStrmPop, mStrmSet, mOp, mCall, mCons, mNil, mStrmI, mC, mVar, mSkip, mIf, mB, toFR, ER.bind, mOpt, Z.get, Z.put, asB, List.getElem?_cons_zero, List.getElem?_cons_succ, Option.map_some, dAdd, dInt, dGe, List.set, k1, k2, k3, hx, decide_true]
      · refine ⟨r, 0, (mix * 8191 + x + 3) % 2147483647, .sh (.int x), ?_, by omega, e1, e2⟩
        unfold mIfS
        rw [hc]
        simp only [if_true, mD2, mSeq, mStrmPop, mStrmSet, mOp, mCall, mCons, mNil, mStrmI, mC, mVar, mSkip, mIf, mB, toFR, ER.bind, mOpt, Z.get, Z.put, asB, List.getElem?_cons_zero, List.getElem?_cons_succ, Option.map_some, dAdd, dInt, dGe, List.set, k1, k2, k3, hx, decide_false, Bool.false_eq_true, if_false]
  · have hc : mD2c [.strm, .sh (.int n), .none, .none, .none] ⟨cells, rest, count, mix⟩ = .ok false ⟨cells, rest, count, mix⟩ := by
      have : (rest == 0) = false := by simpa using hr
      simp [mD2c, mAnd, mB, mOp, mStrmI, mC, ER.bind, mOpt, Z.get, asB, dEq, eqN, hr]
    refine ⟨cells, rest, mix, .none, ?_, r0, m0, m1⟩
    unfold mIfS
    rw [hc]
    rfl
/-- a draw -/
theorem draw_ok (z : Z) (n B : Int) (hz : Zok z B) (hB : B < 2 ^ 40) (h0 : 0 < n) (h1 : n < 1073741824) : ∃ k z', g__law_draw [.int n] z = .ok (.int k) z' ∧ 0 ≤ k ∧ k < n ∧ Zok z' (B + 1) := by
  obtain ⟨cells, rest, count, mix⟩ := z
  obtain ⟨m0, m1, c0, c1, r0⟩ := hz
  dsimp only at m0 m1 c0 c1 r0
  have e : startSl 5 true [.int n] = [.strm, .sh (.int n), .none, .none, .none] := rfl
  have a1 : mD1 [.strm, .sh (.int n), .none, .none, .none] ⟨cells, rest, count, mix⟩ = .nx [.strm, .sh (.int n), .none, .none, .none] ⟨cells, rest, count + 1, mix⟩ := rfl
  obtain ⟨cells', rest', mix', a, e2, r0', m0', m1'⟩ := draw_two cells rest (count + 1) mix n r0 m0 m1
  unfold g__law_draw fnM
  rw [e, draw_is, dseq_nx a1, dseq_nx e2]
  by_cases hr : 0 < rest'
  · have k1 := dMod_pos (a := rest') (b := n) h0
    have k2 := dFdiv_pos (a := rest') h0 h1
    refine ⟨rest' % n, ⟨cells', rest' / n, count + 1, mix'⟩, ?_, Int.emod_nonneg _ (by omega), Int.emod_lt_of_pos _ h0, ⟨m0', m1', by show 0 ≤ count + 1; omega, by show count + 1 ≤ B + 1; omega, Int.ediv_nonneg r0' (by omega)⟩⟩
    have : mSeq mD3 mD4 [.strm, .sh (.int n), .none, a, .none] ⟨cells', rest', count + 1, mix'⟩ = .rt (.int (rest' % n)) [.strm, .sh (.int n), .none, a, .sh (.int (rest' % n))] ⟨cells', rest' / n, count + 1, mix'⟩ := by
      simp only [mD3, mSeq, mIfS, mStrmSet, mAsg, mRet, mOp, mCall, mCons, mNil, mStrmI, mC, mVar, mSkip, mB, toFR, ER.bind, mOpt, Z.get, Z.put, asB, tgN, List.getElem?_cons_zero, List.getElem?_cons_succ, Option.map_some, dGt, dInt, List.set, k1, k2, hr, decide_true, if_true]
    rw [this]
  · have hr0 : rest' = 0 := by omega
    subst hr0
    obtain ⟨k, z', e1, e2, e3, e4⟩ := draw_tail (cells := cells') (count := count + 1) (mix := mix') (B := B) h0 h1 hB m0' m1' (by omega) (by omega) a Slot.none
    have : mSeq mD3 mD4 [.strm, .sh (.int n), .none, a, .none] ⟨cells', 0, count + 1, mix'⟩ = mD4 [.strm, .sh (.int n), .none, a, .none] ⟨cells', 0, count + 1, mix'⟩ := dseq_nx rfl
    refine ⟨k, z', ?_, e2, e3, e4⟩
    rw [this, e1]
theorem pick_ok (z : Z) (ds : List D) (B : Int) (hz : Zok z B) (hB : B < 2 ^ 40) (h0 : 0 < ds.length) (h1 : ds.length < 1000) : ∃ (k : Nat) (d : D) (z' : Z), k < ds.length ∧ ds[k]? = some d ∧ g__law_pick [.lst ds] z = .ok d z' ∧ Zok z' (B + 1) := by
  obtain ⟨k, z', e, k0, k1, hz'⟩ := draw_ok z (ds.length : Int) B hz hB (by omega) (by omega)
  have hk : k.toNat < ds.length := by omega
  refine ⟨k.toNat, ds[k.toNat], z', hk, List.getElem?_eq_getElem hk, ?_, hz'⟩
  have e1 : startSl 2 true [.lst ds] = [.strm, .sh (.lst ds)] := rfl
  have ix : dIx (.lst ds) (.int k) = some ds[k.toNat] := by
    have hi : ixN ds.length k = some k.toNat := by
      unfold ixN
      rw [if_pos k0, if_pos k1]
    show atI ds k = _
    unfold L2.atI
    rw [hi]
    exact List.getElem?_eq_getElem hk
  unfold g__law_pick fnM
  rw [e1]
  simp only [m__law_pick, mSeq, mRet, mOp, mVar, mCallS, mCall, mCons, mNil, mOpt, dLen, toFR, ER.bind, List.getElem?_cons_zero, List.getElem?_cons_succ, List.length_cons, List.length_nil, if_true, runF, e, ix]
theorem turn_ok {z : Z} {B t : Int} (ht : t = 0 ∨ t = 1 ∨ t = 2 ∨ t = 3) (hz : Zok z B) (hB : B < 2 ^ 40) (a0 a3 a4 a5 a6 a7 a8 a9 a10 : Slot) : ∃ b3 b4 b5 b6 b7 z', mTurn [a0, .strm, .sh (.int t), a3, a4, a5, a6, a7, a8, a9, a10] z = .nx [a0, .strm, .sh (.int t), b3, b4, b5, b6, b7, a8, a9, a10] z' ∧ Zok z' (B + 1) := by
  obtain ⟨i, d, z', hi, e1, e2, e3⟩ := pick_ok z (things t) B hz hB (show 0 < 9 by decide) (show 9 < 1000 by decide)
  obtain ⟨x, ex, k0, k1⟩ := all_ok t ht i hi
  rw [e1, Option.some.injEq] at ex
  subst ex
  have e : mPk [a0, .strm, .sh (.int t), a3, a4, a5, a6, a7, a8, a9, a10] z = .nx [a0, .strm, .sh (.int t), .sh d, a4, a5, a6, a7, a8, a9, a10] z' := by
    have q : ∀ r : ER D, g__law_pick [.lst (things t)] z = r → mPk [a0, .strm, .sh (.int t), a3, a4, a5, a6, a7, a8, a9, a10] z = toFR [a0, .strm, .sh (.int t), a3, a4, a5, a6, a7, a8, a9, a10] r (fun d z => .nx [a0, .strm, .sh (.int t), .sh d, a4, a5, a6, a7, a8, a9, a10] z) := fun r hr => by
      subst hr
      kernel_rfl
    rw [q _ e2]
    rfl
  refine ⟨.sh d, .sh (.int 1), .sh (.lst (errs d)), .sh (crowd d), .sh (.int 59), z', ?_, e3⟩
  unfold mTurn
  rw [seq_nx e, seq_nx (two_ok k0 k1 z' a0 _ a4 a5 a6 a7 a8 a9 a10)]
  rfl
theorem law_true (ns : List Int) : ∃ s z, m_law (.none :: .strm :: List.replicate 9 .none) ⟨ns, 0, 0, 11⟩ = .rt (.bl true) s z := by
  have z0 : Zok ⟨ns, 0, 0, 11⟩ 0 := ⟨show (0 : Int) ≤ 11 by decide, show (11 : Int) < 2147483647 by decide, show (0 : Int) ≤ 0 by decide, show (0 : Int) ≤ 0 by decide, show (0 : Int) ≤ 0 by decide⟩
  obtain ⟨b3, b4, b5, b6, b7, z1, e1, k1⟩ := turn_ok (t := 0) (by omega) z0 (by decide) .none .none .none .none .none .none .none .none .none
  obtain ⟨c3, c4, c5, c6, c7, z2, e2, k2⟩ := turn_ok (t := 1) (by omega) k1 (by decide) .none b3 b4 b5 b6 b7 .none .none .none
  obtain ⟨d3, d4, d5, d6, d7, z3, e3, k3⟩ := turn_ok (t := 2) (by omega) k2 (by decide) .none c3 c4 c5 c6 c7 .none .none .none
  obtain ⟨f3, f4, f5, f6, f7, z4, e4, k4⟩ := turn_ok (t := 3) (by omega) k3 (by decide) .none d3 d4 d5 d6 d7 .none .none .none
  refine ⟨[.none, .strm, .sh (.int 3), f3, f4, f5, f6, f7, .none, .none, .none], z4, ?_⟩
  rw [m_law_is]
  have e : mFor (mRange1 (mC (.int 4))) (tgN 2) mTurn (.none :: .strm :: List.replicate 9 .none) ⟨ns, 0, 0, 11⟩ = mForG (tgN 2) mTurn [.int 0, .int 1, .int 2, .int 3] [.none, .strm, .none, .none, .none, .none, .none, .none, .none, .none, .none] ⟨ns, 0, 0, 11⟩ := rfl
  have t0 : ∀ (t : Int) (x2 x3 x4 x5 x6 x7 : Slot), tgN 2 (.int t) [.none, .strm, x2, x3, x4, x5, x6, x7, .none, .none, .none] = some [.none, .strm, .sh (.int t), x3, x4, x5, x6, x7, .none, .none, .none] := fun _ _ _ _ _ _ _ => rfl
  refine (seq_nx (s1 := [.none, .strm, .sh (.int 3), f3, f4, f5, f6, f7, .none, .none, .none]) (z1 := z4) ?_).trans ?_
  · rw [e]
    simp only [mForG, t0, e1, e2, e3, e4]
  · kernel_rfl
end K92

set_option Elab.async false
set_option linter.all false
set_option maxRecDepth 100000
set_option maxHeartbeats 4000000
namespace K92
open PySem PySem.Spec PyProof.Rows L2 XH EX DL NdefX
section
variable {P : Program} {w : World} {K : PySem.W.Frag} {mg : PySem.Str → Option Value} {base : Heap}
theorem mk_of {d : IniD} {x : PySem.Str} {ks : List PySem.Str} {sp : Addr → Sp} (X : XCls P K d) (hx : d.cls = x) (hc : clK K x = some (He.ga K x)) (hg : mg x = some (.ref (He.ga K x))) (htop : (P.main.scope.names.lookup ("super" : PySem.Str)).isSome = false)
    (hI : ∀ (oc kV doc pm ct : Value) (od an : Option Addr) (osl : Array (Option Value)) (cc cda : Addr), K.lookup (iAd K x) = some ⟨oc, od, .func (PySem.W.ksFn "__init__" d.qual d.params d.body d.scope .none kV doc pm an (.ref cda) ct cc), osl⟩ → PySem.W.codeIn K (.ref cda) d.qual = true → SupC P K (He.ga K x) cc cda (iAd K x) →
      FnOk P w K mg base (L2.CX P w) 1 (iAd K x) (PySem.W.ksFn "__init__" d.qual d.params d.body d.scope .none kV doc pm an (.ref cda) ct cc) (("self" : PySem.Str) :: ks) (sp (He.ga K x)))
    (hB : ∀ (kV doc pm ct : Value) (an : Option Addr) (cda cc : Addr) (us : List Value), us.length = (("self" : PySem.Str) :: ks).length → bindArgs (PySem.W.ksFn "__init__" d.qual d.params d.body d.scope .none kV doc pm an (.ref cda) ct cc) ⟨us, []⟩ = pure ((("self" : PySem.Str) :: ks).zip us))
    (hT : ∀ (kV doc pm ct : Value) (an : Option Addr) (cda cc : Addr) (u : Value) (ws : List Value), ws.length = ks.length → bindArgs (PySem.W.ksFn "__init__" d.qual d.params d.body d.scope .none kV doc pm an (.ref cda) ct cc) ⟨[u], ks.zip ws⟩ = pure ((("self" : PySem.Str) :: ks).zip (u :: ws)))
    (hl : ∀ C vs H Q E, sp C vs H Q E → vs.length = (("self" : PySem.Str) :: ks).length) : MkOk P w K mg base (clK K) x ks sp := by
  subst hx
  obtain ⟨oc, kV, doc, pm, ct, od, an, osl, cc, cda, lk, hcd, hS⟩ := X.fn
  exact ⟨He.ga K d.cls, iAd K d.cls, _, hc, hg, X.oex, X.ini, X.typ, hI oc kV doc pm ct od an osl cc cda lk hcd (hS htop), .all (hB kV doc pm ct an cda cc), fun s u ws hw => .of_eq (hT kV doc pm ct an cda cc u ws hw), hl _⟩
theorem clK_in {x : PySem.Str} (h : x ∈ excs) : clK K x = some (He.ga K x) := by
  unfold clK
  rw [if_pos h]
theorem len_sp0 : ∀ C vs H Q E, spIni0 C vs H Q E → vs.length = [("self" : PySem.Str)].length := fun C vs H Q E ⟨a, e, _⟩ => by rw [e]; rfl
theorem len_sp1 {f : PySem.Str} : ∀ C vs H Q E, spIni1 C f vs H Q E → vs.length = [("self" : PySem.Str), f].length := fun C vs H Q E ⟨a, y, e, _⟩ => by rw [e]; rfl
theorem len_sp2 {f f2 : PySem.Str} : ∀ C vs H Q E, spIni2 C f f2 vs H Q E → vs.length = [("self" : PySem.Str), f, f2].length := fun C vs H Q E ⟨a, y, z, e, _⟩ => by rw [e]; rfl
theorem S_BadWorld : NScope ["self", "thing", "__class__"] ["self", "thing"] ["__class__"] x_BadWorld.scope := nscope_by (by decide +kernel)
theorem mo_BadWorld (X : XCls P K x_BadWorld) (hg : mg "BadWorld" = some (.ref (He.ga K "BadWorld"))) (hs : mg "super" = none) (htop : (P.main.scope.names.lookup ("super" : PySem.Str)).isSome = false) : MkOk P w K mg base (clK K) "BadWorld" ["thing"] (fun C => spIni1 C "thing") :=
  mk_of X rfl (clK_in (by decide +kernel)) hg htop (fun oc kV doc pm ct od an osl cc cda lk hcd T => ini1_ok (k := 0) lk hcd S_BadWorld T hs rfl rfl rfl (X.fld "thing" (by decide)) (by decide) (by decide) (by decide) (by decide) (fun L => rfl)) (fun _ _ _ _ _ _ _ us hl => match us, hl with | [_, _], _ => rfl) (fun _ _ _ _ _ _ _ u ws hl => match ws, hl with | [_], _ => rfl) len_sp1
theorem S_BadKnown : NScope ["self", "index", "__class__"] ["self", "index"] ["__class__"] x_BadKnown.scope := nscope_by (by decide +kernel)
theorem mo_BadKnown (X : XCls P K x_BadKnown) (hg : mg "BadKnown" = some (.ref (He.ga K "BadKnown"))) (hs : mg "super" = none) (htop : (P.main.scope.names.lookup ("super" : PySem.Str)).isSome = false) : MkOk P w K mg base (clK K) "BadKnown" ["index"] (fun C => spIni1 C "index") :=
  mk_of X rfl (clK_in (by decide +kernel)) hg htop (fun oc kV doc pm ct od an osl cc cda lk hcd T => ini1_ok (k := 0) lk hcd S_BadKnown T hs rfl rfl rfl (X.fld "index" (by decide)) (by decide) (by decide) (by decide) (by decide) (fun L => rfl)) (fun _ _ _ _ _ _ _ us hl => match us, hl with | [_, _], _ => rfl) (fun _ _ _ _ _ _ _ u ws hl => match ws, hl with | [_], _ => rfl) len_sp1
theorem S_NoQuestion : NScope ["self", "name", "__class__"] ["self", "name"] ["__class__"] x_NoQuestion.scope := nscope_by (by decide +kernel)
theorem mo_NoQuestion (X : XCls P K x_NoQuestion) (hg : mg "NoQuestion" = some (.ref (He.ga K "NoQuestion"))) (hs : mg "super" = none) (htop : (P.main.scope.names.lookup ("super" : PySem.Str)).isSome = false) : MkOk P w K mg base (clK K) "NoQuestion" ["name"] (fun C => spIni1 C "name") :=
  mk_of X rfl (clK_in (by decide +kernel)) hg htop (fun oc kV doc pm ct od an osl cc cda lk hcd T => ini1_ok (k := 0) lk hcd S_NoQuestion T hs rfl rfl rfl (X.fld "name" (by decide)) (by decide) (by decide) (by decide) (by decide) (fun L => rfl)) (fun _ _ _ _ _ _ _ us hl => match us, hl with | [_, _], _ => rfl) (fun _ _ _ _ _ _ _ u ws hl => match ws, hl with | [_], _ => rfl) len_sp1
theorem S_BadPlan : NScope ["self", "thing", "__class__"] ["self", "thing"] ["__class__"] x_BadPlan.scope := nscope_by (by decide +kernel)
theorem mo_BadPlan (X : XCls P K x_BadPlan) (hg : mg "BadPlan" = some (.ref (He.ga K "BadPlan"))) (hs : mg "super" = none) (htop : (P.main.scope.names.lookup ("super" : PySem.Str)).isSome = false) : MkOk P w K mg base (clK K) "BadPlan" ["thing"] (fun C => spIni1 C "thing") :=
  mk_of X rfl (clK_in (by decide +kernel)) hg htop (fun oc kV doc pm ct od an osl cc cda lk hcd T => ini1_ok (k := 0) lk hcd S_BadPlan T hs rfl rfl rfl (X.fld "thing" (by decide)) (by decide) (by decide) (by decide) (by decide) (fun L => rfl)) (fun _ _ _ _ _ _ _ us hl => match us, hl with | [_, _], _ => rfl) (fun _ _ _ _ _ _ _ u ws hl => match ws, hl with | [_], _ => rfl) len_sp1
theorem S_BadAnswers : NScope ["self", "thing", "__class__"] ["self", "thing"] ["__class__"] x_BadAnswers.scope := nscope_by (by decide +kernel)
theorem mo_BadAnswers (X : XCls P K x_BadAnswers) (hg : mg "BadAnswers" = some (.ref (He.ga K "BadAnswers"))) (hs : mg "super" = none) (htop : (P.main.scope.names.lookup ("super" : PySem.Str)).isSome = false) : MkOk P w K mg base (clK K) "BadAnswers" ["thing"] (fun C => spIni1 C "thing") :=
  mk_of X rfl (clK_in (by decide +kernel)) hg htop (fun oc kV doc pm ct od an osl cc cda lk hcd T => ini1_ok (k := 0) lk hcd S_BadAnswers T hs rfl rfl rfl (X.fld "thing" (by decide)) (by decide) (by decide) (by decide) (by decide) (fun L => rfl)) (fun _ _ _ _ _ _ _ us hl => match us, hl with | [_, _], _ => rfl) (fun _ _ _ _ _ _ _ u ws hl => match ws, hl with | [_], _ => rfl) len_sp1
theorem S_BadHands : NScope ["self", "name", "__class__"] ["self", "name"] ["__class__"] x_BadHands.scope := nscope_by (by decide +kernel)
theorem mo_BadHands (X : XCls P K x_BadHands) (hg : mg "BadHands" = some (.ref (He.ga K "BadHands"))) (hs : mg "super" = none) (htop : (P.main.scope.names.lookup ("super" : PySem.Str)).isSome = false) : MkOk P w K mg base (clK K) "BadHands" ["name"] (fun C => spIni1 C "name") :=
  mk_of X rfl (clK_in (by decide +kernel)) hg htop (fun oc kV doc pm ct od an osl cc cda lk hcd T => ini1_ok (k := 0) lk hcd S_BadHands T hs rfl rfl rfl (X.fld "name" (by decide)) (by decide) (by decide) (by decide) (by decide) (fun L => rfl)) (fun _ _ _ _ _ _ _ us hl => match us, hl with | [_, _], _ => rfl) (fun _ _ _ _ _ _ _ u ws hl => match ws, hl with | [_], _ => rfl) len_sp1
theorem S_BadGroup : NScope ["self", "index", "__class__"] ["self", "index"] ["__class__"] x_BadGroup.scope := nscope_by (by decide +kernel)
theorem mo_BadGroup (X : XCls P K x_BadGroup) (hg : mg "BadGroup" = some (.ref (He.ga K "BadGroup"))) (hs : mg "super" = none) (htop : (P.main.scope.names.lookup ("super" : PySem.Str)).isSome = false) : MkOk P w K mg base (clK K) "BadGroup" ["index"] (fun C => spIni1 C "index") :=
  mk_of X rfl (clK_in (by decide +kernel)) hg htop (fun oc kV doc pm ct od an osl cc cda lk hcd T => ini1_ok (k := 0) lk hcd S_BadGroup T hs rfl rfl rfl (X.fld "index" (by decide)) (by decide) (by decide) (by decide) (by decide) (fun L => rfl)) (fun _ _ _ _ _ _ _ us hl => match us, hl with | [_, _], _ => rfl) (fun _ _ _ _ _ _ _ u ws hl => match ws, hl with | [_], _ => rfl) len_sp1
theorem S_NoHand : NScope ["self", "name", "__class__"] ["self", "name"] ["__class__"] x_NoHand.scope := nscope_by (by decide +kernel)
theorem mo_NoHand (X : XCls P K x_NoHand) (hg : mg "NoHand" = some (.ref (He.ga K "NoHand"))) (hs : mg "super" = none) (htop : (P.main.scope.names.lookup ("super" : PySem.Str)).isSome = false) : MkOk P w K mg base (clK K) "NoHand" ["name"] (fun C => spIni1 C "name") :=
  mk_of X rfl (clK_in (by decide +kernel)) hg htop (fun oc kV doc pm ct od an osl cc cda lk hcd T => ini1_ok (k := 0) lk hcd S_NoHand T hs rfl rfl rfl (X.fld "name" (by decide)) (by decide) (by decide) (by decide) (by decide) (fun L => rfl)) (fun _ _ _ _ _ _ _ us hl => match us, hl with | [_, _], _ => rfl) (fun _ _ _ _ _ _ _ u ws hl => match ws, hl with | [_], _ => rfl) len_sp1
theorem S_BadNumber : NScope ["self", "thing", "__class__"] ["self", "thing"] ["__class__"] x_BadNumber.scope := nscope_by (by decide +kernel)
theorem mo_BadNumber (X : XCls P K x_BadNumber) (hg : mg "BadNumber" = some (.ref (He.ga K "BadNumber"))) (hs : mg "super" = none) (htop : (P.main.scope.names.lookup ("super" : PySem.Str)).isSome = false) : MkOk P w K mg base (clK K) "BadNumber" ["thing"] (fun C => spIni1 C "thing") :=
  mk_of X rfl (clK_in (by decide +kernel)) hg htop (fun oc kV doc pm ct od an osl cc cda lk hcd T => ini1_ok (k := 0) lk hcd S_BadNumber T hs rfl rfl rfl (X.fld "thing" (by decide)) (by decide) (by decide) (by decide) (by decide) (fun L => rfl)) (fun _ _ _ _ _ _ _ us hl => match us, hl with | [_, _], _ => rfl) (fun _ _ _ _ _ _ _ u ws hl => match ws, hl with | [_], _ => rfl) len_sp1
theorem S_Known : NScope ["self", "name", "__class__"] ["self", "name"] ["__class__"] x_Known.scope := nscope_by (by decide +kernel)
theorem mo_Known (X : XCls P K x_Known) (hg : mg "Known" = some (.ref (He.ga K "Known"))) (hs : mg "super" = none) (htop : (P.main.scope.names.lookup ("super" : PySem.Str)).isSome = false) : MkOk P w K mg base (clK K) "Known" ["name"] (fun C => spIni1 C "name") :=
  mk_of X rfl (clK_in (by decide +kernel)) hg htop (fun oc kV doc pm ct od an osl cc cda lk hcd T => ini1_ok (k := 0) lk hcd S_Known T hs rfl rfl rfl (X.fld "name" (by decide)) (by decide) (by decide) (by decide) (by decide) (fun L => rfl)) (fun _ _ _ _ _ _ _ us hl => match us, hl with | [_, _], _ => rfl) (fun _ _ _ _ _ _ _ u ws hl => match ws, hl with | [_], _ => rfl) len_sp1
theorem S_NotKnown : NScope ["self", "name", "__class__"] ["self", "name"] ["__class__"] x_NotKnown.scope := nscope_by (by decide +kernel)
theorem mo_NotKnown (X : XCls P K x_NotKnown) (hg : mg "NotKnown" = some (.ref (He.ga K "NotKnown"))) (hs : mg "super" = none) (htop : (P.main.scope.names.lookup ("super" : PySem.Str)).isSome = false) : MkOk P w K mg base (clK K) "NotKnown" ["name"] (fun C => spIni1 C "name") :=
  mk_of X rfl (clK_in (by decide +kernel)) hg htop (fun oc kV doc pm ct od an osl cc cda lk hcd T => ini1_ok (k := 0) lk hcd S_NotKnown T hs rfl rfl rfl (X.fld "name" (by decide)) (by decide) (by decide) (by decide) (by decide) (fun L => rfl)) (fun _ _ _ _ _ _ _ us hl => match us, hl with | [_, _], _ => rfl) (fun _ _ _ _ _ _ _ u ws hl => match ws, hl with | [_], _ => rfl) len_sp1
theorem S_BadRow : NScope ["self", "index", "__class__"] ["self", "index"] ["__class__"] x_BadRow.scope := nscope_by (by decide +kernel)
theorem mo_BadRow (X : XCls P K x_BadRow) (hg : mg "BadRow" = some (.ref (He.ga K "BadRow"))) (hs : mg "super" = none) (htop : (P.main.scope.names.lookup ("super" : PySem.Str)).isSome = false) : MkOk P w K mg base (clK K) "BadRow" ["index"] (fun C => spIni1 C "index") :=
  mk_of X rfl (clK_in (by decide +kernel)) hg htop (fun oc kV doc pm ct od an osl cc cda lk hcd T => ini1_ok (k := 0) lk hcd S_BadRow T hs rfl rfl rfl (X.fld "index" (by decide)) (by decide) (by decide) (by decide) (by decide) (fun L => rfl)) (fun _ _ _ _ _ _ _ us hl => match us, hl with | [_, _], _ => rfl) (fun _ _ _ _ _ _ _ u ws hl => match ws, hl with | [_], _ => rfl) len_sp1
theorem S_UnlikeQuestions : NScope ["self", "__class__"] ["self"] ["__class__"] x_UnlikeQuestions.scope := nscope_by (by decide +kernel)
theorem mo_UnlikeQuestions (X : XCls P K x_UnlikeQuestions) (hg : mg "UnlikeQuestions" = some (.ref (He.ga K "UnlikeQuestions"))) (hs : mg "super" = none) (htop : (P.main.scope.names.lookup ("super" : PySem.Str)).isSome = false) : MkOk P w K mg base (clK K) "UnlikeQuestions" [] spIni0 :=
  mk_of X rfl (clK_in (by decide +kernel)) hg htop (fun oc kV doc pm ct od an osl cc cda lk hcd T => ini0_ok (k := 0) lk hcd S_UnlikeQuestions T hs rfl rfl rfl (fun L => rfl)) (fun _ _ _ _ _ _ _ us hl => match us, hl with | [_], _ => rfl) (fun _ _ _ _ _ _ _ u ws hl => match ws, hl with | [], _ => rfl) len_sp0
theorem S_BadTree : NScope ["self", "thing", "__class__"] ["self", "thing"] ["__class__"] x_BadTree.scope := nscope_by (by decide +kernel)
theorem mo_BadTree (X : XCls P K x_BadTree) (hg : mg "BadTree" = some (.ref (He.ga K "BadTree"))) (hs : mg "super" = none) (htop : (P.main.scope.names.lookup ("super" : PySem.Str)).isSome = false) : MkOk P w K mg base (clK K) "BadTree" ["thing"] (fun C => spIni1 C "thing") :=
  mk_of X rfl (clK_in (by decide +kernel)) hg htop (fun oc kV doc pm ct od an osl cc cda lk hcd T => ini1_ok (k := 0) lk hcd S_BadTree T hs rfl rfl rfl (X.fld "thing" (by decide)) (by decide) (by decide) (by decide) (by decide) (fun L => rfl)) (fun _ _ _ _ _ _ _ us hl => match us, hl with | [_, _], _ => rfl) (fun _ _ _ _ _ _ _ u ws hl => match ws, hl with | [_], _ => rfl) len_sp1
theorem S_BadWeight : NScope ["self", "index", "__class__"] ["self", "index"] ["__class__"] x_BadWeight.scope := nscope_by (by decide +kernel)
theorem mo_BadWeight (X : XCls P K x_BadWeight) (hg : mg "BadWeight" = some (.ref (He.ga K "BadWeight"))) (hs : mg "super" = none) (htop : (P.main.scope.names.lookup ("super" : PySem.Str)).isSome = false) : MkOk P w K mg base (clK K) "BadWeight" ["index"] (fun C => spIni1 C "index") :=
  mk_of X rfl (clK_in (by decide +kernel)) hg htop (fun oc kV doc pm ct od an osl cc cda lk hcd T => ini1_ok (k := 0) lk hcd S_BadWeight T hs rfl rfl rfl (X.fld "index" (by decide)) (by decide) (by decide) (by decide) (by decide) (fun L => rfl)) (fun _ _ _ _ _ _ _ us hl => match us, hl with | [_, _], _ => rfl) (fun _ _ _ _ _ _ _ u ws hl => match ws, hl with | [_], _ => rfl) len_sp1
theorem S_BadView : NScope ["self", "name", "__class__"] ["self", "name"] ["__class__"] x_BadView.scope := nscope_by (by decide +kernel)
theorem mo_BadView (X : XCls P K x_BadView) (hg : mg "BadView" = some (.ref (He.ga K "BadView"))) (hs : mg "super" = none) (htop : (P.main.scope.names.lookup ("super" : PySem.Str)).isSome = false) : MkOk P w K mg base (clK K) "BadView" ["name"] (fun C => spIni1 C "name") :=
  mk_of X rfl (clK_in (by decide +kernel)) hg htop (fun oc kV doc pm ct od an osl cc cda lk hcd T => ini1_ok (k := 0) lk hcd S_BadView T hs rfl rfl rfl (X.fld "name" (by decide)) (by decide) (by decide) (by decide) (by decide) (fun L => rfl)) (fun _ _ _ _ _ _ _ us hl => match us, hl with | [_, _], _ => rfl) (fun _ _ _ _ _ _ _ u ws hl => match ws, hl with | [_], _ => rfl) len_sp1
theorem S_BadBox : NScope ["self", "state", "__class__"] ["self", "state"] ["__class__"] x_BadBox.scope := nscope_by (by decide +kernel)
theorem mo_BadBox (X : XCls P K x_BadBox) (hg : mg "BadBox" = some (.ref (He.ga K "BadBox"))) (hs : mg "super" = none) (htop : (P.main.scope.names.lookup ("super" : PySem.Str)).isSome = false) : MkOk P w K mg base (clK K) "BadBox" ["state"] (fun C => spIni1 C "state") :=
  mk_of X rfl (clK_in (by decide +kernel)) hg htop (fun oc kV doc pm ct od an osl cc cda lk hcd T => ini1_ok (k := 0) lk hcd S_BadBox T hs rfl rfl rfl (X.fld "state" (by decide)) (by decide) (by decide) (by decide) (by decide) (fun L => rfl)) (fun _ _ _ _ _ _ _ us hl => match us, hl with | [_, _], _ => rfl) (fun _ _ _ _ _ _ _ u ws hl => match ws, hl with | [_], _ => rfl) len_sp1
theorem S_BadAsk : NScope ["self", "name", "__class__"] ["self", "name"] ["__class__"] x_BadAsk.scope := nscope_by (by decide +kernel)
theorem mo_BadAsk (X : XCls P K x_BadAsk) (hg : mg "BadAsk" = some (.ref (He.ga K "BadAsk"))) (hs : mg "super" = none) (htop : (P.main.scope.names.lookup ("super" : PySem.Str)).isSome = false) : MkOk P w K mg base (clK K) "BadAsk" ["name"] (fun C => spIni1 C "name") :=
  mk_of X rfl (clK_in (by decide +kernel)) hg htop (fun oc kV doc pm ct od an osl cc cda lk hcd T => ini1_ok (k := 0) lk hcd S_BadAsk T hs rfl rfl rfl (X.fld "name" (by decide)) (by decide) (by decide) (by decide) (by decide) (fun L => rfl)) (fun _ _ _ _ _ _ _ us hl => match us, hl with | [_, _], _ => rfl) (fun _ _ _ _ _ _ _ u ws hl => match ws, hl with | [_], _ => rfl) len_sp1
theorem S_NoState : NScope ["self", "name", "__class__"] ["self", "name"] ["__class__"] x_NoState.scope := nscope_by (by decide +kernel)
theorem mo_NoState (X : XCls P K x_NoState) (hg : mg "NoState" = some (.ref (He.ga K "NoState"))) (hs : mg "super" = none) (htop : (P.main.scope.names.lookup ("super" : PySem.Str)).isSome = false) : MkOk P w K mg base (clK K) "NoState" ["name"] (fun C => spIni1 C "name") :=
  mk_of X rfl (clK_in (by decide +kernel)) hg htop (fun oc kV doc pm ct od an osl cc cda lk hcd T => ini1_ok (k := 0) lk hcd S_NoState T hs rfl rfl rfl (X.fld "name" (by decide)) (by decide) (by decide) (by decide) (by decide) (fun L => rfl)) (fun _ _ _ _ _ _ _ us hl => match us, hl with | [_, _], _ => rfl) (fun _ _ _ _ _ _ _ u ws hl => match ws, hl with | [_], _ => rfl) len_sp1
theorem S_NoLetter : NScope ["self", "name", "__class__"] ["self", "name"] ["__class__"] x_NoLetter.scope := nscope_by (by decide +kernel)
theorem mo_NoLetter (X : XCls P K x_NoLetter) (hg : mg "NoLetter" = some (.ref (He.ga K "NoLetter"))) (hs : mg "super" = none) (htop : (P.main.scope.names.lookup ("super" : PySem.Str)).isSome = false) : MkOk P w K mg base (clK K) "NoLetter" ["name"] (fun C => spIni1 C "name") :=
  mk_of X rfl (clK_in (by decide +kernel)) hg htop (fun oc kV doc pm ct od an osl cc cda lk hcd T => ini1_ok (k := 0) lk hcd S_NoLetter T hs rfl rfl rfl (X.fld "name" (by decide)) (by decide) (by decide) (by decide) (by decide) (fun L => rfl)) (fun _ _ _ _ _ _ _ us hl => match us, hl with | [_, _], _ => rfl) (fun _ _ _ _ _ _ _ u ws hl => match ws, hl with | [_], _ => rfl) len_sp1
theorem S_BadPut : NScope ["self", "index", "__class__"] ["self", "index"] ["__class__"] x_BadPut.scope := nscope_by (by decide +kernel)
theorem mo_BadPut (X : XCls P K x_BadPut) (hg : mg "BadPut" = some (.ref (He.ga K "BadPut"))) (hs : mg "super" = none) (htop : (P.main.scope.names.lookup ("super" : PySem.Str)).isSome = false) : MkOk P w K mg base (clK K) "BadPut" ["index"] (fun C => spIni1 C "index") :=
  mk_of X rfl (clK_in (by decide +kernel)) hg htop (fun oc kV doc pm ct od an osl cc cda lk hcd T => ini1_ok (k := 0) lk hcd S_BadPut T hs rfl rfl rfl (X.fld "index" (by decide)) (by decide) (by decide) (by decide) (by decide) (fun L => rfl)) (fun _ _ _ _ _ _ _ us hl => match us, hl with | [_, _], _ => rfl) (fun _ _ _ _ _ _ _ u ws hl => match ws, hl with | [_], _ => rfl) len_sp1
theorem S_BadMarks : NScope ["self", "thing", "__class__"] ["self", "thing"] ["__class__"] x_BadMarks.scope := nscope_by (by decide +kernel)
theorem mo_BadMarks (X : XCls P K x_BadMarks) (hg : mg "BadMarks" = some (.ref (He.ga K "BadMarks"))) (hs : mg "super" = none) (htop : (P.main.scope.names.lookup ("super" : PySem.Str)).isSome = false) : MkOk P w K mg base (clK K) "BadMarks" ["thing"] (fun C => spIni1 C "thing") :=
  mk_of X rfl (clK_in (by decide +kernel)) hg htop (fun oc kV doc pm ct od an osl cc cda lk hcd T => ini1_ok (k := 0) lk hcd S_BadMarks T hs rfl rfl rfl (X.fld "thing" (by decide)) (by decide) (by decide) (by decide) (by decide) (fun L => rfl)) (fun _ _ _ _ _ _ _ us hl => match us, hl with | [_, _], _ => rfl) (fun _ _ _ _ _ _ _ u ws hl => match ws, hl with | [_], _ => rfl) len_sp1
theorem S_BadLink : NScope ["self", "sign", "__class__"] ["self", "sign"] ["__class__"] x_BadLink.scope := nscope_by (by decide +kernel)
theorem mo_BadLink (X : XCls P K x_BadLink) (hg : mg "BadLink" = some (.ref (He.ga K "BadLink"))) (hs : mg "super" = none) (htop : (P.main.scope.names.lookup ("super" : PySem.Str)).isSome = false) : MkOk P w K mg base (clK K) "BadLink" ["sign"] (fun C => spIni1 C "sign") :=
  mk_of X rfl (clK_in (by decide +kernel)) hg htop (fun oc kV doc pm ct od an osl cc cda lk hcd T => ini1_ok (k := 0) lk hcd S_BadLink T hs rfl rfl rfl (X.fld "sign" (by decide)) (by decide) (by decide) (by decide) (by decide) (fun L => rfl)) (fun _ _ _ _ _ _ _ us hl => match us, hl with | [_, _], _ => rfl) (fun _ _ _ _ _ _ _ u ws hl => match ws, hl with | [_], _ => rfl) len_sp1
theorem S_UnlikeLetters : NScope ["self", "__class__"] ["self"] ["__class__"] x_UnlikeLetters.scope := nscope_by (by decide +kernel)
theorem mo_UnlikeLetters (X : XCls P K x_UnlikeLetters) (hg : mg "UnlikeLetters" = some (.ref (He.ga K "UnlikeLetters"))) (hs : mg "super" = none) (htop : (P.main.scope.names.lookup ("super" : PySem.Str)).isSome = false) : MkOk P w K mg base (clK K) "UnlikeLetters" [] spIni0 :=
  mk_of X rfl (clK_in (by decide +kernel)) hg htop (fun oc kV doc pm ct od an osl cc cda lk hcd T => ini0_ok (k := 0) lk hcd S_UnlikeLetters T hs rfl rfl rfl (fun L => rfl)) (fun _ _ _ _ _ _ _ us hl => match us, hl with | [_], _ => rfl) (fun _ _ _ _ _ _ _ u ws hl => match ws, hl with | [], _ => rfl) len_sp0
theorem S_BadUnknown : NScope ["self", "index", "__class__"] ["self", "index"] ["__class__"] x_BadUnknown.scope := nscope_by (by decide +kernel)
theorem mo_BadUnknown (X : XCls P K x_BadUnknown) (hg : mg "BadUnknown" = some (.ref (He.ga K "BadUnknown"))) (hs : mg "super" = none) (htop : (P.main.scope.names.lookup ("super" : PySem.Str)).isSome = false) : MkOk P w K mg base (clK K) "BadUnknown" ["index"] (fun C => spIni1 C "index") :=
  mk_of X rfl (clK_in (by decide +kernel)) hg htop (fun oc kV doc pm ct od an osl cc cda lk hcd T => ini1_ok (k := 0) lk hcd S_BadUnknown T hs rfl rfl rfl (X.fld "index" (by decide)) (by decide) (by decide) (by decide) (by decide) (fun L => rfl)) (fun _ _ _ _ _ _ _ us hl => match us, hl with | [_, _], _ => rfl) (fun _ _ _ _ _ _ _ u ws hl => match ws, hl with | [_], _ => rfl) len_sp1
theorem S_BadSum : NScope ["self", "name", "__class__"] ["self", "name"] ["__class__"] x_BadSum.scope := nscope_by (by decide +kernel)
theorem mo_BadSum (X : XCls P K x_BadSum) (hg : mg "BadSum" = some (.ref (He.ga K "BadSum"))) (hs : mg "super" = none) (htop : (P.main.scope.names.lookup ("super" : PySem.Str)).isSome = false) : MkOk P w K mg base (clK K) "BadSum" ["name"] (fun C => spIni1 C "name") :=
  mk_of X rfl (clK_in (by decide +kernel)) hg htop (fun oc kV doc pm ct od an osl cc cda lk hcd T => ini1_ok (k := 0) lk hcd S_BadSum T hs rfl rfl rfl (X.fld "name" (by decide)) (by decide) (by decide) (by decide) (by decide) (fun L => rfl)) (fun _ _ _ _ _ _ _ us hl => match us, hl with | [_, _], _ => rfl) (fun _ _ _ _ _ _ _ u ws hl => match ws, hl with | [_], _ => rfl) len_sp1
theorem S_BadPrime : NScope ["self", "prime", "__class__"] ["self", "prime"] ["__class__"] x_BadPrime.scope := nscope_by (by decide +kernel)
theorem mo_BadPrime (X : XCls P K x_BadPrime) (hg : mg "BadPrime" = some (.ref (He.ga K "BadPrime"))) (hs : mg "super" = none) (htop : (P.main.scope.names.lookup ("super" : PySem.Str)).isSome = false) : MkOk P w K mg base (clK K) "BadPrime" ["prime"] (fun C => spIni1 C "prime") :=
  mk_of X rfl (clK_in (by decide +kernel)) hg htop (fun oc kV doc pm ct od an osl cc cda lk hcd T => ini1_ok (k := 0) lk hcd S_BadPrime T hs rfl rfl rfl (X.fld "prime" (by decide)) (by decide) (by decide) (by decide) (by decide) (fun L => rfl)) (fun _ _ _ _ _ _ _ us hl => match us, hl with | [_, _], _ => rfl) (fun _ _ _ _ _ _ _ u ws hl => match ws, hl with | [_], _ => rfl) len_sp1
theorem S_BadHolder : NScope ["self", "index", "__class__"] ["self", "index"] ["__class__"] x_BadHolder.scope := nscope_by (by decide +kernel)
theorem mo_BadHolder (X : XCls P K x_BadHolder) (hg : mg "BadHolder" = some (.ref (He.ga K "BadHolder"))) (hs : mg "super" = none) (htop : (P.main.scope.names.lookup ("super" : PySem.Str)).isSome = false) : MkOk P w K mg base (clK K) "BadHolder" ["index"] (fun C => spIni1 C "index") :=
  mk_of X rfl (clK_in (by decide +kernel)) hg htop (fun oc kV doc pm ct od an osl cc cda lk hcd T => ini1_ok (k := 0) lk hcd S_BadHolder T hs rfl rfl rfl (X.fld "index" (by decide)) (by decide) (by decide) (by decide) (by decide) (fun L => rfl)) (fun _ _ _ _ _ _ _ us hl => match us, hl with | [_, _], _ => rfl) (fun _ _ _ _ _ _ _ u ws hl => match ws, hl with | [_], _ => rfl) len_sp1
theorem S_BadLetters : NScope ["self", "thing", "__class__"] ["self", "thing"] ["__class__"] x_BadLetters.scope := nscope_by (by decide +kernel)
theorem mo_BadLetters (X : XCls P K x_BadLetters) (hg : mg "BadLetters" = some (.ref (He.ga K "BadLetters"))) (hs : mg "super" = none) (htop : (P.main.scope.names.lookup ("super" : PySem.Str)).isSome = false) : MkOk P w K mg base (clK K) "BadLetters" ["thing"] (fun C => spIni1 C "thing") :=
  mk_of X rfl (clK_in (by decide +kernel)) hg htop (fun oc kV doc pm ct od an osl cc cda lk hcd T => ini1_ok (k := 0) lk hcd S_BadLetters T hs rfl rfl rfl (X.fld "thing" (by decide)) (by decide) (by decide) (by decide) (by decide) (fun L => rfl)) (fun _ _ _ _ _ _ _ us hl => match us, hl with | [_, _], _ => rfl) (fun _ _ _ _ _ _ _ u ws hl => match ws, hl with | [_], _ => rfl) len_sp1
theorem S_BadMachine : NScope ["self", "name", "__class__"] ["self", "name"] ["__class__"] x_BadMachine.scope := nscope_by (by decide +kernel)
theorem mo_BadMachine (X : XCls P K x_BadMachine) (hg : mg "BadMachine" = some (.ref (He.ga K "BadMachine"))) (hs : mg "super" = none) (htop : (P.main.scope.names.lookup ("super" : PySem.Str)).isSome = false) : MkOk P w K mg base (clK K) "BadMachine" ["name"] (fun C => spIni1 C "name") :=
  mk_of X rfl (clK_in (by decide +kernel)) hg htop (fun oc kV doc pm ct od an osl cc cda lk hcd T => ini1_ok (k := 0) lk hcd S_BadMachine T hs rfl rfl rfl (X.fld "name" (by decide)) (by decide) (by decide) (by decide) (by decide) (fun L => rfl)) (fun _ _ _ _ _ _ _ us hl => match us, hl with | [_, _], _ => rfl) (fun _ _ _ _ _ _ _ u ws hl => match ws, hl with | [_], _ => rfl) len_sp1
theorem S_BadIndex : NScope ["self", "index", "__class__"] ["self", "index"] ["__class__"] x_BadIndex.scope := nscope_by (by decide +kernel)
theorem mo_BadIndex (X : XCls P K x_BadIndex) (hg : mg "BadIndex" = some (.ref (He.ga K "BadIndex"))) (hs : mg "super" = none) (htop : (P.main.scope.names.lookup ("super" : PySem.Str)).isSome = false) : MkOk P w K mg base (clK K) "BadIndex" ["index"] (fun C => spIni1 C "index") :=
  mk_of X rfl (clK_in (by decide +kernel)) hg htop (fun oc kV doc pm ct od an osl cc cda lk hcd T => ini1_ok (k := 0) lk hcd S_BadIndex T hs rfl rfl rfl (X.fld "index" (by decide)) (by decide) (by decide) (by decide) (by decide) (fun L => rfl)) (fun _ _ _ _ _ _ _ us hl => match us, hl with | [_, _], _ => rfl) (fun _ _ _ _ _ _ _ u ws hl => match ws, hl with | [_], _ => rfl) len_sp1
theorem S_TakenName : NScope ["self", "name", "__class__"] ["self", "name"] ["__class__"] x_TakenName.scope := nscope_by (by decide +kernel)
theorem mo_TakenName (X : XCls P K x_TakenName) (hg : mg "TakenName" = some (.ref (He.ga K "TakenName"))) (hs : mg "super" = none) (htop : (P.main.scope.names.lookup ("super" : PySem.Str)).isSome = false) : MkOk P w K mg base (clK K) "TakenName" ["name"] (fun C => spIni1 C "name") :=
  mk_of X rfl (clK_in (by decide +kernel)) hg htop (fun oc kV doc pm ct od an osl cc cda lk hcd T => ini1_ok (k := 0) lk hcd S_TakenName T hs rfl rfl rfl (X.fld "name" (by decide)) (by decide) (by decide) (by decide) (by decide) (fun L => rfl)) (fun _ _ _ _ _ _ _ us hl => match us, hl with | [_, _], _ => rfl) (fun _ _ _ _ _ _ _ u ws hl => match ws, hl with | [_], _ => rfl) len_sp1
theorem S_BadCode : NScope ["self", "name", "__class__"] ["self", "name"] ["__class__"] x_BadCode.scope := nscope_by (by decide +kernel)
theorem mo_BadCode (X : XCls P K x_BadCode) (hg : mg "BadCode" = some (.ref (He.ga K "BadCode"))) (hs : mg "super" = none) (htop : (P.main.scope.names.lookup ("super" : PySem.Str)).isSome = false) : MkOk P w K mg base (clK K) "BadCode" ["name"] (fun C => spIni1 C "name") :=
  mk_of X rfl (clK_in (by decide +kernel)) hg htop (fun oc kV doc pm ct od an osl cc cda lk hcd T => ini1_ok (k := 0) lk hcd S_BadCode T hs rfl rfl rfl (X.fld "name" (by decide)) (by decide) (by decide) (by decide) (by decide) (fun L => rfl)) (fun _ _ _ _ _ _ _ us hl => match us, hl with | [_, _], _ => rfl) (fun _ _ _ _ _ _ _ u ws hl => match ws, hl with | [_], _ => rfl) len_sp1
theorem S_BadClass : NScope ["self", "name", "__class__"] ["self", "name"] ["__class__"] x_BadClass.scope := nscope_by (by decide +kernel)
theorem mo_BadClass (X : XCls P K x_BadClass) (hg : mg "BadClass" = some (.ref (He.ga K "BadClass"))) (hs : mg "super" = none) (htop : (P.main.scope.names.lookup ("super" : PySem.Str)).isSome = false) : MkOk P w K mg base (clK K) "BadClass" ["name"] (fun C => spIni1 C "name") :=
  mk_of X rfl (clK_in (by decide +kernel)) hg htop (fun oc kV doc pm ct od an osl cc cda lk hcd T => ini1_ok (k := 0) lk hcd S_BadClass T hs rfl rfl rfl (X.fld "name" (by decide)) (by decide) (by decide) (by decide) (by decide) (fun L => rfl)) (fun _ _ _ _ _ _ _ us hl => match us, hl with | [_, _], _ => rfl) (fun _ _ _ _ _ _ _ u ws hl => match ws, hl with | [_], _ => rfl) len_sp1
theorem S_Uneven : NScope ["self", "name", "__class__"] ["self", "name"] ["__class__"] x_Uneven.scope := nscope_by (by decide +kernel)
theorem mo_Uneven (X : XCls P K x_Uneven) (hg : mg "Uneven" = some (.ref (He.ga K "Uneven"))) (hs : mg "super" = none) (htop : (P.main.scope.names.lookup ("super" : PySem.Str)).isSome = false) : MkOk P w K mg base (clK K) "Uneven" ["name"] (fun C => spIni1 C "name") :=
  mk_of X rfl (clK_in (by decide +kernel)) hg htop (fun oc kV doc pm ct od an osl cc cda lk hcd T => ini1_ok (k := 0) lk hcd S_Uneven T hs rfl rfl rfl (X.fld "name" (by decide)) (by decide) (by decide) (by decide) (by decide) (fun L => rfl)) (fun _ _ _ _ _ _ _ us hl => match us, hl with | [_, _], _ => rfl) (fun _ _ _ _ _ _ _ u ws hl => match ws, hl with | [_], _ => rfl) len_sp1
theorem S_BadReader : NScope ["self", "thing", "__class__"] ["self", "thing"] ["__class__"] x_BadReader.scope := nscope_by (by decide +kernel)
theorem mo_BadReader (X : XCls P K x_BadReader) (hg : mg "BadReader" = some (.ref (He.ga K "BadReader"))) (hs : mg "super" = none) (htop : (P.main.scope.names.lookup ("super" : PySem.Str)).isSome = false) : MkOk P w K mg base (clK K) "BadReader" ["thing"] (fun C => spIni1 C "thing") :=
  mk_of X rfl (clK_in (by decide +kernel)) hg htop (fun oc kV doc pm ct od an osl cc cda lk hcd T => ini1_ok (k := 0) lk hcd S_BadReader T hs rfl rfl rfl (X.fld "thing" (by decide)) (by decide) (by decide) (by decide) (by decide) (fun L => rfl)) (fun _ _ _ _ _ _ _ us hl => match us, hl with | [_, _], _ => rfl) (fun _ _ _ _ _ _ _ u ws hl => match ws, hl with | [_], _ => rfl) len_sp1
theorem S_NoClass : NScope ["self", "name", "__class__"] ["self", "name"] ["__class__"] x_NoClass.scope := nscope_by (by decide +kernel)
theorem mo_NoClass (X : XCls P K x_NoClass) (hg : mg "NoClass" = some (.ref (He.ga K "NoClass"))) (hs : mg "super" = none) (htop : (P.main.scope.names.lookup ("super" : PySem.Str)).isSome = false) : MkOk P w K mg base (clK K) "NoClass" ["name"] (fun C => spIni1 C "name") :=
  mk_of X rfl (clK_in (by decide +kernel)) hg htop (fun oc kV doc pm ct od an osl cc cda lk hcd T => ini1_ok (k := 0) lk hcd S_NoClass T hs rfl rfl rfl (X.fld "name" (by decide)) (by decide) (by decide) (by decide) (by decide) (fun L => rfl)) (fun _ _ _ _ _ _ _ us hl => match us, hl with | [_, _], _ => rfl) (fun _ _ _ _ _ _ _ u ws hl => match ws, hl with | [_], _ => rfl) len_sp1
theorem S_BadPart : NScope ["self", "name", "__class__"] ["self", "name"] ["__class__"] x_BadPart.scope := nscope_by (by decide +kernel)
theorem mo_BadPart (X : XCls P K x_BadPart) (hg : mg "BadPart" = some (.ref (He.ga K "BadPart"))) (hs : mg "super" = none) (htop : (P.main.scope.names.lookup ("super" : PySem.Str)).isSome = false) : MkOk P w K mg base (clK K) "BadPart" ["name"] (fun C => spIni1 C "name") :=
  mk_of X rfl (clK_in (by decide +kernel)) hg htop (fun oc kV doc pm ct od an osl cc cda lk hcd T => ini1_ok (k := 0) lk hcd S_BadPart T hs rfl rfl rfl (X.fld "name" (by decide)) (by decide) (by decide) (by decide) (by decide) (fun L => rfl)) (fun _ _ _ _ _ _ _ us hl => match us, hl with | [_, _], _ => rfl) (fun _ _ _ _ _ _ _ u ws hl => match ws, hl with | [_], _ => rfl) len_sp1
theorem S_BadBundle : NScope ["self", "name", "__class__"] ["self", "name"] ["__class__"] x_BadBundle.scope := nscope_by (by decide +kernel)
theorem mo_BadBundle (X : XCls P K x_BadBundle) (hg : mg "BadBundle" = some (.ref (He.ga K "BadBundle"))) (hs : mg "super" = none) (htop : (P.main.scope.names.lookup ("super" : PySem.Str)).isSome = false) : MkOk P w K mg base (clK K) "BadBundle" ["name"] (fun C => spIni1 C "name") :=
  mk_of X rfl (clK_in (by decide +kernel)) hg htop (fun oc kV doc pm ct od an osl cc cda lk hcd T => ini1_ok (k := 0) lk hcd S_BadBundle T hs rfl rfl rfl (X.fld "name" (by decide)) (by decide) (by decide) (by decide) (by decide) (fun L => rfl)) (fun _ _ _ _ _ _ _ us hl => match us, hl with | [_, _], _ => rfl) (fun _ _ _ _ _ _ _ u ws hl => match ws, hl with | [_], _ => rfl) len_sp1
theorem S_BadLinks : NScope ["self", "index", "__class__"] ["self", "index"] ["__class__"] x_BadLinks.scope := nscope_by (by decide +kernel)
theorem mo_BadLinks (X : XCls P K x_BadLinks) (hg : mg "BadLinks" = some (.ref (He.ga K "BadLinks"))) (hs : mg "super" = none) (htop : (P.main.scope.names.lookup ("super" : PySem.Str)).isSome = false) : MkOk P w K mg base (clK K) "BadLinks" ["index"] (fun C => spIni1 C "index") :=
  mk_of X rfl (clK_in (by decide +kernel)) hg htop (fun oc kV doc pm ct od an osl cc cda lk hcd T => ini1_ok (k := 0) lk hcd S_BadLinks T hs rfl rfl rfl (X.fld "index" (by decide)) (by decide) (by decide) (by decide) (by decide) (fun L => rfl)) (fun _ _ _ _ _ _ _ us hl => match us, hl with | [_, _], _ => rfl) (fun _ _ _ _ _ _ _ u ws hl => match ws, hl with | [_], _ => rfl) len_sp1
theorem S_BadTelling : NScope ["self", "index", "__class__"] ["self", "index"] ["__class__"] x_BadTelling.scope := nscope_by (by decide +kernel)
theorem mo_BadTelling (X : XCls P K x_BadTelling) (hg : mg "BadTelling" = some (.ref (He.ga K "BadTelling"))) (hs : mg "super" = none) (htop : (P.main.scope.names.lookup ("super" : PySem.Str)).isSome = false) : MkOk P w K mg base (clK K) "BadTelling" ["index"] (fun C => spIni1 C "index") :=
  mk_of X rfl (clK_in (by decide +kernel)) hg htop (fun oc kV doc pm ct od an osl cc cda lk hcd T => ini1_ok (k := 0) lk hcd S_BadTelling T hs rfl rfl rfl (X.fld "index" (by decide)) (by decide) (by decide) (by decide) (by decide) (fun L => rfl)) (fun _ _ _ _ _ _ _ us hl => match us, hl with | [_, _], _ => rfl) (fun _ _ _ _ _ _ _ u ws hl => match ws, hl with | [_], _ => rfl) len_sp1
theorem S_BadText : NScope ["self", "thing", "__class__"] ["self", "thing"] ["__class__"] x_BadText.scope := nscope_by (by decide +kernel)
theorem mo_BadText (X : XCls P K x_BadText) (hg : mg "BadText" = some (.ref (He.ga K "BadText"))) (hs : mg "super" = none) (htop : (P.main.scope.names.lookup ("super" : PySem.Str)).isSome = false) : MkOk P w K mg base (clK K) "BadText" ["thing"] (fun C => spIni1 C "thing") :=
  mk_of X rfl (clK_in (by decide +kernel)) hg htop (fun oc kV doc pm ct od an osl cc cda lk hcd T => ini1_ok (k := 0) lk hcd S_BadText T hs rfl rfl rfl (X.fld "thing" (by decide)) (by decide) (by decide) (by decide) (by decide) (fun L => rfl)) (fun _ _ _ _ _ _ _ us hl => match us, hl with | [_, _], _ => rfl) (fun _ _ _ _ _ _ _ u ws hl => match ws, hl with | [_], _ => rfl) len_sp1
theorem S_BadName : NScope ["self", "name", "__class__"] ["self", "name"] ["__class__"] x_BadName.scope := nscope_by (by decide +kernel)
theorem mo_BadName (X : XCls P K x_BadName) (hg : mg "BadName" = some (.ref (He.ga K "BadName"))) (hs : mg "super" = none) (htop : (P.main.scope.names.lookup ("super" : PySem.Str)).isSome = false) : MkOk P w K mg base (clK K) "BadName" ["name"] (fun C => spIni1 C "name") :=
  mk_of X rfl (clK_in (by decide +kernel)) hg htop (fun oc kV doc pm ct od an osl cc cda lk hcd T => ini1_ok (k := 0) lk hcd S_BadName T hs rfl rfl rfl (X.fld "name" (by decide)) (by decide) (by decide) (by decide) (by decide) (fun L => rfl)) (fun _ _ _ _ _ _ _ us hl => match us, hl with | [_, _], _ => rfl) (fun _ _ _ _ _ _ _ u ws hl => match ws, hl with | [_], _ => rfl) len_sp1
theorem S_NoName : NScope ["self", "name", "__class__"] ["self", "name"] ["__class__"] x_NoName.scope := nscope_by (by decide +kernel)
theorem mo_NoName (X : XCls P K x_NoName) (hg : mg "NoName" = some (.ref (He.ga K "NoName"))) (hs : mg "super" = none) (htop : (P.main.scope.names.lookup ("super" : PySem.Str)).isSome = false) : MkOk P w K mg base (clK K) "NoName" ["name"] (fun C => spIni1 C "name") :=
  mk_of X rfl (clK_in (by decide +kernel)) hg htop (fun oc kV doc pm ct od an osl cc cda lk hcd T => ini1_ok (k := 0) lk hcd S_NoName T hs rfl rfl rfl (X.fld "name" (by decide)) (by decide) (by decide) (by decide) (by decide) (fun L => rfl)) (fun _ _ _ _ _ _ _ us hl => match us, hl with | [_, _], _ => rfl) (fun _ _ _ _ _ _ _ u ws hl => match ws, hl with | [_], _ => rfl) len_sp1
theorem S_BadThing : NScope ["self", "thing", "__class__"] ["self", "thing"] ["__class__"] x_BadThing.scope := nscope_by (by decide +kernel)
theorem mo_BadThing (X : XCls P K x_BadThing) (hg : mg "BadThing" = some (.ref (He.ga K "BadThing"))) (hs : mg "super" = none) (htop : (P.main.scope.names.lookup ("super" : PySem.Str)).isSome = false) : MkOk P w K mg base (clK K) "BadThing" ["thing"] (fun C => spIni1 C "thing") :=
  mk_of X rfl (clK_in (by decide +kernel)) hg htop (fun oc kV doc pm ct od an osl cc cda lk hcd T => ini1_ok (k := 0) lk hcd S_BadThing T hs rfl rfl rfl (X.fld "thing" (by decide)) (by decide) (by decide) (by decide) (by decide) (fun L => rfl)) (fun _ _ _ _ _ _ _ us hl => match us, hl with | [_, _], _ => rfl) (fun _ _ _ _ _ _ _ u ws hl => match ws, hl with | [_], _ => rfl) len_sp1
theorem S_BadOrder : NScope ["self", "line", "__class__"] ["self", "line"] ["__class__"] x_BadOrder.scope := nscope_by (by decide +kernel)
theorem mo_BadOrder (X : XCls P K x_BadOrder) (hg : mg "BadOrder" = some (.ref (He.ga K "BadOrder"))) (hs : mg "super" = none) (htop : (P.main.scope.names.lookup ("super" : PySem.Str)).isSome = false) : MkOk P w K mg base (clK K) "BadOrder" ["line"] (fun C => spIni1 C "line") :=
  mk_of X rfl (clK_in (by decide +kernel)) hg htop (fun oc kV doc pm ct od an osl cc cda lk hcd T => ini1_ok (k := 0) lk hcd S_BadOrder T hs rfl rfl rfl (X.fld "line" (by decide)) (by decide) (by decide) (by decide) (by decide) (fun L => rfl)) (fun _ _ _ _ _ _ _ us hl => match us, hl with | [_, _], _ => rfl) (fun _ _ _ _ _ _ _ u ws hl => match ws, hl with | [_], _ => rfl) len_sp1
theorem S_BadLine : NScope ["self", "index", "__class__"] ["self", "index"] ["__class__"] x_BadLine.scope := nscope_by (by decide +kernel)
theorem mo_BadLine (X : XCls P K x_BadLine) (hg : mg "BadLine" = some (.ref (He.ga K "BadLine"))) (hs : mg "super" = none) (htop : (P.main.scope.names.lookup ("super" : PySem.Str)).isSome = false) : MkOk P w K mg base (clK K) "BadLine" ["index"] (fun C => spIni1 C "index") :=
  mk_of X rfl (clK_in (by decide +kernel)) hg htop (fun oc kV doc pm ct od an osl cc cda lk hcd T => ini1_ok (k := 0) lk hcd S_BadLine T hs rfl rfl rfl (X.fld "index" (by decide)) (by decide) (by decide) (by decide) (by decide) (fun L => rfl)) (fun _ _ _ _ _ _ _ us hl => match us, hl with | [_, _], _ => rfl) (fun _ _ _ _ _ _ _ u ws hl => match ws, hl with | [_], _ => rfl) len_sp1
theorem S_NoRow : NScope ["self", "__class__"] ["self"] ["__class__"] x_NoRow.scope := nscope_by (by decide +kernel)
theorem mo_NoRow (X : XCls P K x_NoRow) (hg : mg "NoRow" = some (.ref (He.ga K "NoRow"))) (hs : mg "super" = none) (htop : (P.main.scope.names.lookup ("super" : PySem.Str)).isSome = false) : MkOk P w K mg base (clK K) "NoRow" [] spIni0 :=
  mk_of X rfl (clK_in (by decide +kernel)) hg htop (fun oc kV doc pm ct od an osl cc cda lk hcd T => ini0_ok (k := 0) lk hcd S_NoRow T hs rfl rfl rfl (fun L => rfl)) (fun _ _ _ _ _ _ _ us hl => match us, hl with | [_], _ => rfl) (fun _ _ _ _ _ _ _ u ws hl => match ws, hl with | [], _ => rfl) len_sp0
theorem S_BadWindow : NScope ["self", "name", "__class__"] ["self", "name"] ["__class__"] x_BadWindow.scope := nscope_by (by decide +kernel)
theorem mo_BadWindow (X : XCls P K x_BadWindow) (hg : mg "BadWindow" = some (.ref (He.ga K "BadWindow"))) (hs : mg "super" = none) (htop : (P.main.scope.names.lookup ("super" : PySem.Str)).isSome = false) : MkOk P w K mg base (clK K) "BadWindow" ["name"] (fun C => spIni1 C "name") :=
  mk_of X rfl (clK_in (by decide +kernel)) hg htop (fun oc kV doc pm ct od an osl cc cda lk hcd T => ini1_ok (k := 0) lk hcd S_BadWindow T hs rfl rfl rfl (X.fld "name" (by decide)) (by decide) (by decide) (by decide) (by decide) (fun L => rfl)) (fun _ _ _ _ _ _ _ us hl => match us, hl with | [_, _], _ => rfl) (fun _ _ _ _ _ _ _ u ws hl => match ws, hl with | [_], _ => rfl) len_sp1
theorem S_Crowded : NScope ["self", "first", "last", "__class__"] ["self", "first", "last"] ["__class__"] x_Crowded.scope := nscope_by (by decide +kernel)
theorem mo_Crowded (X : XCls P K x_Crowded) (hg : mg "Crowded" = some (.ref (He.ga K "Crowded"))) (hs : mg "super" = none) (htop : (P.main.scope.names.lookup ("super" : PySem.Str)).isSome = false) : MkOk P w K mg base (clK K) "Crowded" ["first", "last"] (fun C => spIni2 C "first" "last") :=
  mk_of X rfl (clK_in (by decide +kernel)) hg htop (fun oc kV doc pm ct od an osl cc cda lk hcd T => ini2_ok (k := 0) lk hcd S_Crowded T hs rfl rfl rfl (X.fld "first" (by decide)) (X.fld "last" (by decide)) (by decide) (by decide) (by decide) (by decide) (by decide) (by decide) (fun L => rfl)) (fun _ _ _ _ _ _ _ us hl => match us, hl with | [_, _, _], _ => rfl) (fun _ _ _ _ _ _ _ u ws hl => match ws, hl with | [_, _], _ => rfl) len_sp2
theorem S_BadPeople : NScope ["self", "index", "__class__"] ["self", "index"] ["__class__"] x_BadPeople.scope := nscope_by (by decide +kernel)
theorem mo_BadPeople (X : XCls P K x_BadPeople) (hg : mg "BadPeople" = some (.ref (He.ga K "BadPeople"))) (hs : mg "super" = none) (htop : (P.main.scope.names.lookup ("super" : PySem.Str)).isSome = false) : MkOk P w K mg base (clK K) "BadPeople" ["index"] (fun C => spIni1 C "index") :=
  mk_of X rfl (clK_in (by decide +kernel)) hg htop (fun oc kV doc pm ct od an osl cc cda lk hcd T => ini1_ok (k := 0) lk hcd S_BadPeople T hs rfl rfl rfl (X.fld "index" (by decide)) (by decide) (by decide) (by decide) (by decide) (fun L => rfl)) (fun _ _ _ _ _ _ _ us hl => match us, hl with | [_, _], _ => rfl) (fun _ _ _ _ _ _ _ u ws hl => match ws, hl with | [_], _ => rfl) len_sp1
theorem S_BadPlaces : NScope ["self", "index", "__class__"] ["self", "index"] ["__class__"] x_BadPlaces.scope := nscope_by (by decide +kernel)
theorem mo_BadPlaces (X : XCls P K x_BadPlaces) (hg : mg "BadPlaces" = some (.ref (He.ga K "BadPlaces"))) (hs : mg "super" = none) (htop : (P.main.scope.names.lookup ("super" : PySem.Str)).isSome = false) : MkOk P w K mg base (clK K) "BadPlaces" ["index"] (fun C => spIni1 C "index") :=
  mk_of X rfl (clK_in (by decide +kernel)) hg htop (fun oc kV doc pm ct od an osl cc cda lk hcd T => ini1_ok (k := 0) lk hcd S_BadPlaces T hs rfl rfl rfl (X.fld "index" (by decide)) (by decide) (by decide) (by decide) (by decide) (fun L => rfl)) (fun _ _ _ _ _ _ _ us hl => match us, hl with | [_, _], _ => rfl) (fun _ _ _ _ _ _ _ u ws hl => match ws, hl with | [_], _ => rfl) len_sp1
theorem S_BadPlace : NScope ["self", "thing", "__class__"] ["self", "thing"] ["__class__"] x_BadPlace.scope := nscope_by (by decide +kernel)
theorem mo_BadPlace (X : XCls P K x_BadPlace) (hg : mg "BadPlace" = some (.ref (He.ga K "BadPlace"))) (hs : mg "super" = none) (htop : (P.main.scope.names.lookup ("super" : PySem.Str)).isSome = false) : MkOk P w K mg base (clK K) "BadPlace" ["thing"] (fun C => spIni1 C "thing") :=
  mk_of X rfl (clK_in (by decide +kernel)) hg htop (fun oc kV doc pm ct od an osl cc cda lk hcd T => ini1_ok (k := 0) lk hcd S_BadPlace T hs rfl rfl rfl (X.fld "thing" (by decide)) (by decide) (by decide) (by decide) (by decide) (fun L => rfl)) (fun _ _ _ _ _ _ _ us hl => match us, hl with | [_, _], _ => rfl) (fun _ _ _ _ _ _ _ u ws hl => match ws, hl with | [_], _ => rfl) len_sp1
theorem S_BadFacts : NScope ["self", "thing", "__class__"] ["self", "thing"] ["__class__"] x_BadFacts.scope := nscope_by (by decide +kernel)
theorem mo_BadFacts (X : XCls P K x_BadFacts) (hg : mg "BadFacts" = some (.ref (He.ga K "BadFacts"))) (hs : mg "super" = none) (htop : (P.main.scope.names.lookup ("super" : PySem.Str)).isSome = false) : MkOk P w K mg base (clK K) "BadFacts" ["thing"] (fun C => spIni1 C "thing") :=
  mk_of X rfl (clK_in (by decide +kernel)) hg htop (fun oc kV doc pm ct od an osl cc cda lk hcd T => ini1_ok (k := 0) lk hcd S_BadFacts T hs rfl rfl rfl (X.fld "thing" (by decide)) (by decide) (by decide) (by decide) (by decide) (fun L => rfl)) (fun _ _ _ _ _ _ _ us hl => match us, hl with | [_, _], _ => rfl) (fun _ _ _ _ _ _ _ u ws hl => match ws, hl with | [_], _ => rfl) len_sp1
theorem S_NoPerson : NScope ["self", "name", "__class__"] ["self", "name"] ["__class__"] x_NoPerson.scope := nscope_by (by decide +kernel)
theorem mo_NoPerson (X : XCls P K x_NoPerson) (hg : mg "NoPerson" = some (.ref (He.ga K "NoPerson"))) (hs : mg "super" = none) (htop : (P.main.scope.names.lookup ("super" : PySem.Str)).isSome = false) : MkOk P w K mg base (clK K) "NoPerson" ["name"] (fun C => spIni1 C "name") :=
  mk_of X rfl (clK_in (by decide +kernel)) hg htop (fun oc kV doc pm ct od an osl cc cda lk hcd T => ini1_ok (k := 0) lk hcd S_NoPerson T hs rfl rfl rfl (X.fld "name" (by decide)) (by decide) (by decide) (by decide) (by decide) (fun L => rfl)) (fun _ _ _ _ _ _ _ us hl => match us, hl with | [_, _], _ => rfl) (fun _ _ _ _ _ _ _ u ws hl => match ws, hl with | [_], _ => rfl) len_sp1
theorem S_SamePerson : NScope ["self", "name", "__class__"] ["self", "name"] ["__class__"] x_SamePerson.scope := nscope_by (by decide +kernel)
theorem mo_SamePerson (X : XCls P K x_SamePerson) (hg : mg "SamePerson" = some (.ref (He.ga K "SamePerson"))) (hs : mg "super" = none) (htop : (P.main.scope.names.lookup ("super" : PySem.Str)).isSome = false) : MkOk P w K mg base (clK K) "SamePerson" ["name"] (fun C => spIni1 C "name") :=
  mk_of X rfl (clK_in (by decide +kernel)) hg htop (fun oc kV doc pm ct od an osl cc cda lk hcd T => ini1_ok (k := 0) lk hcd S_SamePerson T hs rfl rfl rfl (X.fld "name" (by decide)) (by decide) (by decide) (by decide) (by decide) (fun L => rfl)) (fun _ _ _ _ _ _ _ us hl => match us, hl with | [_, _], _ => rfl) (fun _ _ _ _ _ _ _ u ws hl => match ws, hl with | [_], _ => rfl) len_sp1
theorem S_BadArc : NScope ["self", "name", "__class__"] ["self", "name"] ["__class__"] x_BadArc.scope := nscope_by (by decide +kernel)
theorem mo_BadArc (X : XCls P K x_BadArc) (hg : mg "BadArc" = some (.ref (He.ga K "BadArc"))) (hs : mg "super" = none) (htop : (P.main.scope.names.lookup ("super" : PySem.Str)).isSome = false) : MkOk P w K mg base (clK K) "BadArc" ["name"] (fun C => spIni1 C "name") :=
  mk_of X rfl (clK_in (by decide +kernel)) hg htop (fun oc kV doc pm ct od an osl cc cda lk hcd T => ini1_ok (k := 0) lk hcd S_BadArc T hs rfl rfl rfl (X.fld "name" (by decide)) (by decide) (by decide) (by decide) (by decide) (fun L => rfl)) (fun _ _ _ _ _ _ _ us hl => match us, hl with | [_, _], _ => rfl) (fun _ _ _ _ _ _ _ u ws hl => match ws, hl with | [_], _ => rfl) len_sp1
theorem S_BadNames : NScope ["self", "index", "__class__"] ["self", "index"] ["__class__"] x_BadNames.scope := nscope_by (by decide +kernel)
theorem mo_BadNames (X : XCls P K x_BadNames) (hg : mg "BadNames" = some (.ref (He.ga K "BadNames"))) (hs : mg "super" = none) (htop : (P.main.scope.names.lookup ("super" : PySem.Str)).isSome = false) : MkOk P w K mg base (clK K) "BadNames" ["index"] (fun C => spIni1 C "index") :=
  mk_of X rfl (clK_in (by decide +kernel)) hg htop (fun oc kV doc pm ct od an osl cc cda lk hcd T => ini1_ok (k := 0) lk hcd S_BadNames T hs rfl rfl rfl (X.fld "index" (by decide)) (by decide) (by decide) (by decide) (by decide) (fun L => rfl)) (fun _ _ _ _ _ _ _ us hl => match us, hl with | [_, _], _ => rfl) (fun _ _ _ _ _ _ _ u ws hl => match ws, hl with | [_], _ => rfl) len_sp1
theorem S_BadAmounts : NScope ["self", "name", "__class__"] ["self", "name"] ["__class__"] x_BadAmounts.scope := nscope_by (by decide +kernel)
theorem mo_BadAmounts (X : XCls P K x_BadAmounts) (hg : mg "BadAmounts" = some (.ref (He.ga K "BadAmounts"))) (hs : mg "super" = none) (htop : (P.main.scope.names.lookup ("super" : PySem.Str)).isSome = false) : MkOk P w K mg base (clK K) "BadAmounts" ["name"] (fun C => spIni1 C "name") :=
  mk_of X rfl (clK_in (by decide +kernel)) hg htop (fun oc kV doc pm ct od an osl cc cda lk hcd T => ini1_ok (k := 0) lk hcd S_BadAmounts T hs rfl rfl rfl (X.fld "name" (by decide)) (by decide) (by decide) (by decide) (by decide) (fun L => rfl)) (fun _ _ _ _ _ _ _ us hl => match us, hl with | [_, _], _ => rfl) (fun _ _ _ _ _ _ _ u ws hl => match ws, hl with | [_], _ => rfl) len_sp1
theorem S_BadPiece : NScope ["self", "index", "__class__"] ["self", "index"] ["__class__"] x_BadPiece.scope := nscope_by (by decide +kernel)
theorem mo_BadPiece (X : XCls P K x_BadPiece) (hg : mg "BadPiece" = some (.ref (He.ga K "BadPiece"))) (hs : mg "super" = none) (htop : (P.main.scope.names.lookup ("super" : PySem.Str)).isSome = false) : MkOk P w K mg base (clK K) "BadPiece" ["index"] (fun C => spIni1 C "index") :=
  mk_of X rfl (clK_in (by decide +kernel)) hg htop (fun oc kV doc pm ct od an osl cc cda lk hcd T => ini1_ok (k := 0) lk hcd S_BadPiece T hs rfl rfl rfl (X.fld "index" (by decide)) (by decide) (by decide) (by decide) (by decide) (fun L => rfl)) (fun _ _ _ _ _ _ _ us hl => match us, hl with | [_, _], _ => rfl) (fun _ _ _ _ _ _ _ u ws hl => match ws, hl with | [_], _ => rfl) len_sp1
end

theorem fx_of {w : World} {K : PySem.W.Frag} {mg : PySem.Str → Option Value} {base : Heap} {h : Heap} (X : K.In h) (G : h.Ns mainGlobals mg) (c : SaysI R.prog fa fn ini ex K) : Fx R.prog w K mg base := by
  have htop : (R.prog.main.scope.names.lookup ("super" : PySem.Str)).isSome = false := by decide +kernel
  have hs : mg "super" = none := He.free_ok X G (c.d.fact 76 (f := .free "super") rfl)
  obtain ⟨e1, e2⟩ := ba c.ex
  obtain ⟨e3, e4⟩ := ba e2
  exact {
    gl__law_start := He.glo_ok X G (c.d.fact 0 (f := .glo "_law_start") rfl)
    gl__law_draw := He.glo_ok X G (c.d.fact 1 (f := .glo "_law_draw") rfl)
    gl__law_pick := He.glo_ok X G (c.d.fact 2 (f := .glo "_law_pick") rfl)
    gl__law_pairs := He.glo_ok X G (c.d.fact 3 (f := .glo "_law_pairs") rfl)
    gl__law_held := He.glo_ok X G (c.d.fact 4 (f := .glo "_law_held") rfl)
    gl__law_classes := He.glo_ok X G (c.d.fact 5 (f := .glo "_law_classes") rfl)
    gl_law := He.glo_ok X G (c.d.fact 6 (f := .glo "law") rfl)
    gl_WorldError := He.glo_ok X G (c.d.fact 7 (f := .glo "WorldError") rfl)
    gl_BadWorld := He.glo_ok X G (c.d.fact 8 (f := .glo "BadWorld") rfl)
    gl_BadKnown := He.glo_ok X G (c.d.fact 9 (f := .glo "BadKnown") rfl)
    gl_NoQuestion := He.glo_ok X G (c.d.fact 10 (f := .glo "NoQuestion") rfl)
    gl_BadPlan := He.glo_ok X G (c.d.fact 11 (f := .glo "BadPlan") rfl)
    gl_BadAnswers := He.glo_ok X G (c.d.fact 12 (f := .glo "BadAnswers") rfl)
    gl_BadHands := He.glo_ok X G (c.d.fact 13 (f := .glo "BadHands") rfl)
    gl_BadGroup := He.glo_ok X G (c.d.fact 14 (f := .glo "BadGroup") rfl)
    gl_NoHand := He.glo_ok X G (c.d.fact 15 (f := .glo "NoHand") rfl)
    gl_BadNumber := He.glo_ok X G (c.d.fact 16 (f := .glo "BadNumber") rfl)
    gl_Known := He.glo_ok X G (c.d.fact 17 (f := .glo "Known") rfl)
    gl_NotKnown := He.glo_ok X G (c.d.fact 18 (f := .glo "NotKnown") rfl)
    gl_BadRow := He.glo_ok X G (c.d.fact 19 (f := .glo "BadRow") rfl)
    gl_UnlikeQuestions := He.glo_ok X G (c.d.fact 20 (f := .glo "UnlikeQuestions") rfl)
    gl_BadTree := He.glo_ok X G (c.d.fact 21 (f := .glo "BadTree") rfl)
    gl_BadWeight := He.glo_ok X G (c.d.fact 22 (f := .glo "BadWeight") rfl)
    gl_BadView := He.glo_ok X G (c.d.fact 23 (f := .glo "BadView") rfl)
    gl_BadBox := He.glo_ok X G (c.d.fact 24 (f := .glo "BadBox") rfl)
    gl_BadAsk := He.glo_ok X G (c.d.fact 25 (f := .glo "BadAsk") rfl)
    gl_NoState := He.glo_ok X G (c.d.fact 26 (f := .glo "NoState") rfl)
    gl_NoLetter := He.glo_ok X G (c.d.fact 27 (f := .glo "NoLetter") rfl)
    gl_BadPut := He.glo_ok X G (c.d.fact 28 (f := .glo "BadPut") rfl)
    gl_BadMarks := He.glo_ok X G (c.d.fact 29 (f := .glo "BadMarks") rfl)
    gl_BadLink := He.glo_ok X G (c.d.fact 30 (f := .glo "BadLink") rfl)
    gl_UnlikeLetters := He.glo_ok X G (c.d.fact 31 (f := .glo "UnlikeLetters") rfl)
    gl_BadUnknown := He.glo_ok X G (c.d.fact 32 (f := .glo "BadUnknown") rfl)
    gl_BadSum := He.glo_ok X G (c.d.fact 33 (f := .glo "BadSum") rfl)
    gl_BadPrime := He.glo_ok X G (c.d.fact 34 (f := .glo "BadPrime") rfl)
    gl_BadHolder := He.glo_ok X G (c.d.fact 35 (f := .glo "BadHolder") rfl)
    gl_BadLetters := He.glo_ok X G (c.d.fact 36 (f := .glo "BadLetters") rfl)
    gl_BadMachine := He.glo_ok X G (c.d.fact 37 (f := .glo "BadMachine") rfl)
    gl_BadIndex := He.glo_ok X G (c.d.fact 38 (f := .glo "BadIndex") rfl)
    gl_TakenName := He.glo_ok X G (c.d.fact 39 (f := .glo "TakenName") rfl)
    gl_BadCode := He.glo_ok X G (c.d.fact 40 (f := .glo "BadCode") rfl)
    gl_BadClass := He.glo_ok X G (c.d.fact 41 (f := .glo "BadClass") rfl)
    gl_Uneven := He.glo_ok X G (c.d.fact 42 (f := .glo "Uneven") rfl)
    gl_BadReader := He.glo_ok X G (c.d.fact 43 (f := .glo "BadReader") rfl)
    gl_NoClass := He.glo_ok X G (c.d.fact 44 (f := .glo "NoClass") rfl)
    gl_BadPart := He.glo_ok X G (c.d.fact 45 (f := .glo "BadPart") rfl)
    gl_BadBundle := He.glo_ok X G (c.d.fact 46 (f := .glo "BadBundle") rfl)
    gl_BadLinks := He.glo_ok X G (c.d.fact 47 (f := .glo "BadLinks") rfl)
    gl_BadTelling := He.glo_ok X G (c.d.fact 48 (f := .glo "BadTelling") rfl)
    gl_BadText := He.glo_ok X G (c.d.fact 49 (f := .glo "BadText") rfl)
    gl_BadName := He.glo_ok X G (c.d.fact 50 (f := .glo "BadName") rfl)
    gl_NoName := He.glo_ok X G (c.d.fact 51 (f := .glo "NoName") rfl)
    gl_BadThing := He.glo_ok X G (c.d.fact 52 (f := .glo "BadThing") rfl)
    gl_BadOrder := He.glo_ok X G (c.d.fact 53 (f := .glo "BadOrder") rfl)
    gl_BadLine := He.glo_ok X G (c.d.fact 54 (f := .glo "BadLine") rfl)
    gl_NoRow := He.glo_ok X G (c.d.fact 55 (f := .glo "NoRow") rfl)
    gl_BadWindow := He.glo_ok X G (c.d.fact 56 (f := .glo "BadWindow") rfl)
    gl_Crowded := He.glo_ok X G (c.d.fact 57 (f := .glo "Crowded") rfl)
    gl_BadPeople := He.glo_ok X G (c.d.fact 58 (f := .glo "BadPeople") rfl)
    gl_BadPlaces := He.glo_ok X G (c.d.fact 59 (f := .glo "BadPlaces") rfl)
    gl_BadPlace := He.glo_ok X G (c.d.fact 60 (f := .glo "BadPlace") rfl)
    gl_BadFacts := He.glo_ok X G (c.d.fact 61 (f := .glo "BadFacts") rfl)
    gl_NoPerson := He.glo_ok X G (c.d.fact 62 (f := .glo "NoPerson") rfl)
    gl_SamePerson := He.glo_ok X G (c.d.fact 63 (f := .glo "SamePerson") rfl)
    gl_BadArc := He.glo_ok X G (c.d.fact 64 (f := .glo "BadArc") rfl)
    gl_BadNames := He.glo_ok X G (c.d.fact 65 (f := .glo "BadNames") rfl)
    gl_BadAmounts := He.glo_ok X G (c.d.fact 66 (f := .glo "BadAmounts") rfl)
    gl_BadPiece := He.glo_ok X G (c.d.fact 67 (f := .glo "BadPiece") rfl)
    g_len := He.free_ok X G (c.d.fact 68 (f := .free "len") rfl)
    g_range := He.free_ok X G (c.d.fact 69 (f := .free "range") rfl)
    g_enumerate := He.free_ok X G (c.d.fact 70 (f := .free "enumerate") rfl)
    g_isinstance := He.free_ok X G (c.d.fact 71 (f := .free "isinstance") rfl)
    g_any := He.free_ok X G (c.d.fact 72 (f := .free "any") rfl)
    g_list := He.free_ok X G (c.d.fact 73 (f := .free "list") rfl)
    g_int := He.free_ok X G (c.d.fact 74 (f := .free "int") rfl)
    g_bool := He.free_ok X G (c.d.fact 75 (f := .free "bool") rfl)
    g_super := He.free_ok X G (c.d.fact 76 (f := .free "super") rfl)
    g_ValueError := He.free_ok X G (c.d.fact 77 (f := .free "ValueError") rfl)
    fam := famB_ok e1
    wEx := e3
    wKp := e4
    mk_BadWorld := mo_BadWorld (c.x x_BadWorld (List.mem_of_getElem? (i := 0) rfl)) (He.glo_ok X G (c.d.fact 8 (f := .glo "BadWorld") rfl)) hs htop
    mk_BadKnown := mo_BadKnown (c.x x_BadKnown (List.mem_of_getElem? (i := 1) rfl)) (He.glo_ok X G (c.d.fact 9 (f := .glo "BadKnown") rfl)) hs htop
    mk_NoQuestion := mo_NoQuestion (c.x x_NoQuestion (List.mem_of_getElem? (i := 2) rfl)) (He.glo_ok X G (c.d.fact 10 (f := .glo "NoQuestion") rfl)) hs htop
    mk_BadPlan := mo_BadPlan (c.x x_BadPlan (List.mem_of_getElem? (i := 3) rfl)) (He.glo_ok X G (c.d.fact 11 (f := .glo "BadPlan") rfl)) hs htop
    mk_BadAnswers := mo_BadAnswers (c.x x_BadAnswers (List.mem_of_getElem? (i := 4) rfl)) (He.glo_ok X G (c.d.fact 12 (f := .glo "BadAnswers") rfl)) hs htop
    mk_BadHands := mo_BadHands (c.x x_BadHands (List.mem_of_getElem? (i := 5) rfl)) (He.glo_ok X G (c.d.fact 13 (f := .glo "BadHands") rfl)) hs htop
    mk_BadGroup := mo_BadGroup (c.x x_BadGroup (List.mem_of_getElem? (i := 6) rfl)) (He.glo_ok X G (c.d.fact 14 (f := .glo "BadGroup") rfl)) hs htop
    mk_NoHand := mo_NoHand (c.x x_NoHand (List.mem_of_getElem? (i := 7) rfl)) (He.glo_ok X G (c.d.fact 15 (f := .glo "NoHand") rfl)) hs htop
    mk_BadNumber := mo_BadNumber (c.x x_BadNumber (List.mem_of_getElem? (i := 8) rfl)) (He.glo_ok X G (c.d.fact 16 (f := .glo "BadNumber") rfl)) hs htop
    mk_Known := mo_Known (c.x x_Known (List.mem_of_getElem? (i := 9) rfl)) (He.glo_ok X G (c.d.fact 17 (f := .glo "Known") rfl)) hs htop
    mk_NotKnown := mo_NotKnown (c.x x_NotKnown (List.mem_of_getElem? (i := 10) rfl)) (He.glo_ok X G (c.d.fact 18 (f := .glo "NotKnown") rfl)) hs htop
    mk_BadRow := mo_BadRow (c.x x_BadRow (List.mem_of_getElem? (i := 11) rfl)) (He.glo_ok X G (c.d.fact 19 (f := .glo "BadRow") rfl)) hs htop
    mk_UnlikeQuestions := mo_UnlikeQuestions (c.x x_UnlikeQuestions (List.mem_of_getElem? (i := 12) rfl)) (He.glo_ok X G (c.d.fact 20 (f := .glo "UnlikeQuestions") rfl)) hs htop
    mk_BadTree := mo_BadTree (c.x x_BadTree (List.mem_of_getElem? (i := 13) rfl)) (He.glo_ok X G (c.d.fact 21 (f := .glo "BadTree") rfl)) hs htop
    mk_BadWeight := mo_BadWeight (c.x x_BadWeight (List.mem_of_getElem? (i := 14) rfl)) (He.glo_ok X G (c.d.fact 22 (f := .glo "BadWeight") rfl)) hs htop
    mk_BadView := mo_BadView (c.x x_BadView (List.mem_of_getElem? (i := 15) rfl)) (He.glo_ok X G (c.d.fact 23 (f := .glo "BadView") rfl)) hs htop
    mk_BadBox := mo_BadBox (c.x x_BadBox (List.mem_of_getElem? (i := 16) rfl)) (He.glo_ok X G (c.d.fact 24 (f := .glo "BadBox") rfl)) hs htop
    mk_BadAsk := mo_BadAsk (c.x x_BadAsk (List.mem_of_getElem? (i := 17) rfl)) (He.glo_ok X G (c.d.fact 25 (f := .glo "BadAsk") rfl)) hs htop
    mk_NoState := mo_NoState (c.x x_NoState (List.mem_of_getElem? (i := 18) rfl)) (He.glo_ok X G (c.d.fact 26 (f := .glo "NoState") rfl)) hs htop
    mk_NoLetter := mo_NoLetter (c.x x_NoLetter (List.mem_of_getElem? (i := 19) rfl)) (He.glo_ok X G (c.d.fact 27 (f := .glo "NoLetter") rfl)) hs htop
    mk_BadPut := mo_BadPut (c.x x_BadPut (List.mem_of_getElem? (i := 20) rfl)) (He.glo_ok X G (c.d.fact 28 (f := .glo "BadPut") rfl)) hs htop
    mk_BadMarks := mo_BadMarks (c.x x_BadMarks (List.mem_of_getElem? (i := 21) rfl)) (He.glo_ok X G (c.d.fact 29 (f := .glo "BadMarks") rfl)) hs htop
    mk_BadLink := mo_BadLink (c.x x_BadLink (List.mem_of_getElem? (i := 22) rfl)) (He.glo_ok X G (c.d.fact 30 (f := .glo "BadLink") rfl)) hs htop
    mk_UnlikeLetters := mo_UnlikeLetters (c.x x_UnlikeLetters (List.mem_of_getElem? (i := 23) rfl)) (He.glo_ok X G (c.d.fact 31 (f := .glo "UnlikeLetters") rfl)) hs htop
    mk_BadUnknown := mo_BadUnknown (c.x x_BadUnknown (List.mem_of_getElem? (i := 24) rfl)) (He.glo_ok X G (c.d.fact 32 (f := .glo "BadUnknown") rfl)) hs htop
    mk_BadSum := mo_BadSum (c.x x_BadSum (List.mem_of_getElem? (i := 25) rfl)) (He.glo_ok X G (c.d.fact 33 (f := .glo "BadSum") rfl)) hs htop
    mk_BadPrime := mo_BadPrime (c.x x_BadPrime (List.mem_of_getElem? (i := 26) rfl)) (He.glo_ok X G (c.d.fact 34 (f := .glo "BadPrime") rfl)) hs htop
    mk_BadHolder := mo_BadHolder (c.x x_BadHolder (List.mem_of_getElem? (i := 27) rfl)) (He.glo_ok X G (c.d.fact 35 (f := .glo "BadHolder") rfl)) hs htop
    mk_BadLetters := mo_BadLetters (c.x x_BadLetters (List.mem_of_getElem? (i := 28) rfl)) (He.glo_ok X G (c.d.fact 36 (f := .glo "BadLetters") rfl)) hs htop
    mk_BadMachine := mo_BadMachine (c.x x_BadMachine (List.mem_of_getElem? (i := 29) rfl)) (He.glo_ok X G (c.d.fact 37 (f := .glo "BadMachine") rfl)) hs htop
    mk_BadIndex := mo_BadIndex (c.x x_BadIndex (List.mem_of_getElem? (i := 30) rfl)) (He.glo_ok X G (c.d.fact 38 (f := .glo "BadIndex") rfl)) hs htop
    mk_TakenName := mo_TakenName (c.x x_TakenName (List.mem_of_getElem? (i := 31) rfl)) (He.glo_ok X G (c.d.fact 39 (f := .glo "TakenName") rfl)) hs htop
    mk_BadCode := mo_BadCode (c.x x_BadCode (List.mem_of_getElem? (i := 32) rfl)) (He.glo_ok X G (c.d.fact 40 (f := .glo "BadCode") rfl)) hs htop
    mk_BadClass := mo_BadClass (c.x x_BadClass (List.mem_of_getElem? (i := 33) rfl)) (He.glo_ok X G (c.d.fact 41 (f := .glo "BadClass") rfl)) hs htop
    mk_Uneven := mo_Uneven (c.x x_Uneven (List.mem_of_getElem? (i := 34) rfl)) (He.glo_ok X G (c.d.fact 42 (f := .glo "Uneven") rfl)) hs htop
    mk_BadReader := mo_BadReader (c.x x_BadReader (List.mem_of_getElem? (i := 35) rfl)) (He.glo_ok X G (c.d.fact 43 (f := .glo "BadReader") rfl)) hs htop
    mk_NoClass := mo_NoClass (c.x x_NoClass (List.mem_of_getElem? (i := 36) rfl)) (He.glo_ok X G (c.d.fact 44 (f := .glo "NoClass") rfl)) hs htop
    mk_BadPart := mo_BadPart (c.x x_BadPart (List.mem_of_getElem? (i := 37) rfl)) (He.glo_ok X G (c.d.fact 45 (f := .glo "BadPart") rfl)) hs htop
    mk_BadBundle := mo_BadBundle (c.x x_BadBundle (List.mem_of_getElem? (i := 38) rfl)) (He.glo_ok X G (c.d.fact 46 (f := .glo "BadBundle") rfl)) hs htop
    mk_BadLinks := mo_BadLinks (c.x x_BadLinks (List.mem_of_getElem? (i := 39) rfl)) (He.glo_ok X G (c.d.fact 47 (f := .glo "BadLinks") rfl)) hs htop
    mk_BadTelling := mo_BadTelling (c.x x_BadTelling (List.mem_of_getElem? (i := 40) rfl)) (He.glo_ok X G (c.d.fact 48 (f := .glo "BadTelling") rfl)) hs htop
    mk_BadText := mo_BadText (c.x x_BadText (List.mem_of_getElem? (i := 41) rfl)) (He.glo_ok X G (c.d.fact 49 (f := .glo "BadText") rfl)) hs htop
    mk_BadName := mo_BadName (c.x x_BadName (List.mem_of_getElem? (i := 42) rfl)) (He.glo_ok X G (c.d.fact 50 (f := .glo "BadName") rfl)) hs htop
    mk_NoName := mo_NoName (c.x x_NoName (List.mem_of_getElem? (i := 43) rfl)) (He.glo_ok X G (c.d.fact 51 (f := .glo "NoName") rfl)) hs htop
    mk_BadThing := mo_BadThing (c.x x_BadThing (List.mem_of_getElem? (i := 44) rfl)) (He.glo_ok X G (c.d.fact 52 (f := .glo "BadThing") rfl)) hs htop
    mk_BadOrder := mo_BadOrder (c.x x_BadOrder (List.mem_of_getElem? (i := 45) rfl)) (He.glo_ok X G (c.d.fact 53 (f := .glo "BadOrder") rfl)) hs htop
    mk_BadLine := mo_BadLine (c.x x_BadLine (List.mem_of_getElem? (i := 46) rfl)) (He.glo_ok X G (c.d.fact 54 (f := .glo "BadLine") rfl)) hs htop
    mk_NoRow := mo_NoRow (c.x x_NoRow (List.mem_of_getElem? (i := 47) rfl)) (He.glo_ok X G (c.d.fact 55 (f := .glo "NoRow") rfl)) hs htop
    mk_BadWindow := mo_BadWindow (c.x x_BadWindow (List.mem_of_getElem? (i := 48) rfl)) (He.glo_ok X G (c.d.fact 56 (f := .glo "BadWindow") rfl)) hs htop
    mk_Crowded := mo_Crowded (c.x x_Crowded (List.mem_of_getElem? (i := 49) rfl)) (He.glo_ok X G (c.d.fact 57 (f := .glo "Crowded") rfl)) hs htop
    mk_BadPeople := mo_BadPeople (c.x x_BadPeople (List.mem_of_getElem? (i := 50) rfl)) (He.glo_ok X G (c.d.fact 58 (f := .glo "BadPeople") rfl)) hs htop
    mk_BadPlaces := mo_BadPlaces (c.x x_BadPlaces (List.mem_of_getElem? (i := 51) rfl)) (He.glo_ok X G (c.d.fact 59 (f := .glo "BadPlaces") rfl)) hs htop
    mk_BadPlace := mo_BadPlace (c.x x_BadPlace (List.mem_of_getElem? (i := 52) rfl)) (He.glo_ok X G (c.d.fact 60 (f := .glo "BadPlace") rfl)) hs htop
    mk_BadFacts := mo_BadFacts (c.x x_BadFacts (List.mem_of_getElem? (i := 53) rfl)) (He.glo_ok X G (c.d.fact 61 (f := .glo "BadFacts") rfl)) hs htop
    mk_NoPerson := mo_NoPerson (c.x x_NoPerson (List.mem_of_getElem? (i := 54) rfl)) (He.glo_ok X G (c.d.fact 62 (f := .glo "NoPerson") rfl)) hs htop
    mk_SamePerson := mo_SamePerson (c.x x_SamePerson (List.mem_of_getElem? (i := 55) rfl)) (He.glo_ok X G (c.d.fact 63 (f := .glo "SamePerson") rfl)) hs htop
    mk_BadArc := mo_BadArc (c.x x_BadArc (List.mem_of_getElem? (i := 56) rfl)) (He.glo_ok X G (c.d.fact 64 (f := .glo "BadArc") rfl)) hs htop
    mk_BadNames := mo_BadNames (c.x x_BadNames (List.mem_of_getElem? (i := 57) rfl)) (He.glo_ok X G (c.d.fact 65 (f := .glo "BadNames") rfl)) hs htop
    mk_BadAmounts := mo_BadAmounts (c.x x_BadAmounts (List.mem_of_getElem? (i := 58) rfl)) (He.glo_ok X G (c.d.fact 66 (f := .glo "BadAmounts") rfl)) hs htop
    mk_BadPiece := mo_BadPiece (c.x x_BadPiece (List.mem_of_getElem? (i := 59) rfl)) (He.glo_ok X G (c.d.fact 67 (f := .glo "BadPiece") rfl)) hs htop
    fd_thing := fun cn hc => by
      simp only [okl_thing, List.mem_cons, List.not_mem_nil, or_false] at hc
      rcases hc with rfl | rfl | rfl | rfl | rfl | rfl | rfl | rfl | rfl | rfl | rfl | rfl
      · exact (c.x x_BadWorld (List.mem_of_getElem? (i := 0) rfl)).fld "thing" (by decide)
      · exact (c.x x_BadPlan (List.mem_of_getElem? (i := 3) rfl)).fld "thing" (by decide)
      · exact (c.x x_BadAnswers (List.mem_of_getElem? (i := 4) rfl)).fld "thing" (by decide)
      · exact (c.x x_BadNumber (List.mem_of_getElem? (i := 8) rfl)).fld "thing" (by decide)
      · exact (c.x x_BadTree (List.mem_of_getElem? (i := 13) rfl)).fld "thing" (by decide)
      · exact (c.x x_BadMarks (List.mem_of_getElem? (i := 21) rfl)).fld "thing" (by decide)
      · exact (c.x x_BadLetters (List.mem_of_getElem? (i := 28) rfl)).fld "thing" (by decide)
      · exact (c.x x_BadReader (List.mem_of_getElem? (i := 35) rfl)).fld "thing" (by decide)
      · exact (c.x x_BadText (List.mem_of_getElem? (i := 41) rfl)).fld "thing" (by decide)
      · exact (c.x x_BadThing (List.mem_of_getElem? (i := 44) rfl)).fld "thing" (by decide)
      · exact (c.x x_BadPlace (List.mem_of_getElem? (i := 52) rfl)).fld "thing" (by decide)
      · exact (c.x x_BadFacts (List.mem_of_getElem? (i := 53) rfl)).fld "thing" (by decide)
    fd_index := fun cn hc => by
      simp only [okl_index, List.mem_cons, List.not_mem_nil, or_false] at hc
      rcases hc with rfl | rfl | rfl | rfl | rfl | rfl | rfl | rfl | rfl | rfl | rfl | rfl | rfl | rfl | rfl
      · exact (c.x x_BadKnown (List.mem_of_getElem? (i := 1) rfl)).fld "index" (by decide)
      · exact (c.x x_BadGroup (List.mem_of_getElem? (i := 6) rfl)).fld "index" (by decide)
      · exact (c.x x_BadRow (List.mem_of_getElem? (i := 11) rfl)).fld "index" (by decide)
      · exact (c.x x_BadWeight (List.mem_of_getElem? (i := 14) rfl)).fld "index" (by decide)
      · exact (c.x x_BadPut (List.mem_of_getElem? (i := 20) rfl)).fld "index" (by decide)
      · exact (c.x x_BadUnknown (List.mem_of_getElem? (i := 24) rfl)).fld "index" (by decide)
      · exact (c.x x_BadHolder (List.mem_of_getElem? (i := 27) rfl)).fld "index" (by decide)
      · exact (c.x x_BadIndex (List.mem_of_getElem? (i := 30) rfl)).fld "index" (by decide)
      · exact (c.x x_BadLinks (List.mem_of_getElem? (i := 39) rfl)).fld "index" (by decide)
      · exact (c.x x_BadTelling (List.mem_of_getElem? (i := 40) rfl)).fld "index" (by decide)
      · exact (c.x x_BadLine (List.mem_of_getElem? (i := 46) rfl)).fld "index" (by decide)
      · exact (c.x x_BadPeople (List.mem_of_getElem? (i := 50) rfl)).fld "index" (by decide)
      · exact (c.x x_BadPlaces (List.mem_of_getElem? (i := 51) rfl)).fld "index" (by decide)
      · exact (c.x x_BadNames (List.mem_of_getElem? (i := 57) rfl)).fld "index" (by decide)
      · exact (c.x x_BadPiece (List.mem_of_getElem? (i := 59) rfl)).fld "index" (by decide)
    fd_name := fun cn hc => by
      simp only [okl_name, List.mem_cons, List.not_mem_nil, or_false] at hc
      rcases hc with rfl | rfl | rfl | rfl | rfl | rfl | rfl | rfl | rfl | rfl | rfl | rfl | rfl | rfl | rfl | rfl | rfl | rfl | rfl | rfl | rfl | rfl | rfl | rfl | rfl
      · exact (c.x x_NoQuestion (List.mem_of_getElem? (i := 2) rfl)).fld "name" (by decide)
      · exact (c.x x_BadHands (List.mem_of_getElem? (i := 5) rfl)).fld "name" (by decide)
      · exact (c.x x_NoHand (List.mem_of_getElem? (i := 7) rfl)).fld "name" (by decide)
      · exact (c.x x_Known (List.mem_of_getElem? (i := 9) rfl)).fld "name" (by decide)
      · exact (c.x x_NotKnown (List.mem_of_getElem? (i := 10) rfl)).fld "name" (by decide)
      · exact (c.x x_BadView (List.mem_of_getElem? (i := 15) rfl)).fld "name" (by decide)
      · exact (c.x x_BadAsk (List.mem_of_getElem? (i := 17) rfl)).fld "name" (by decide)
      · exact (c.x x_NoState (List.mem_of_getElem? (i := 18) rfl)).fld "name" (by decide)
      · exact (c.x x_NoLetter (List.mem_of_getElem? (i := 19) rfl)).fld "name" (by decide)
      · exact (c.x x_BadSum (List.mem_of_getElem? (i := 25) rfl)).fld "name" (by decide)
      · exact (c.x x_BadMachine (List.mem_of_getElem? (i := 29) rfl)).fld "name" (by decide)
      · exact (c.x x_TakenName (List.mem_of_getElem? (i := 31) rfl)).fld "name" (by decide)
      · exact (c.x x_BadCode (List.mem_of_getElem? (i := 32) rfl)).fld "name" (by decide)
      · exact (c.x x_BadClass (List.mem_of_getElem? (i := 33) rfl)).fld "name" (by decide)
      · exact (c.x x_Uneven (List.mem_of_getElem? (i := 34) rfl)).fld "name" (by decide)
      · exact (c.x x_NoClass (List.mem_of_getElem? (i := 36) rfl)).fld "name" (by decide)
      · exact (c.x x_BadPart (List.mem_of_getElem? (i := 37) rfl)).fld "name" (by decide)
      · exact (c.x x_BadBundle (List.mem_of_getElem? (i := 38) rfl)).fld "name" (by decide)
      · exact (c.x x_BadName (List.mem_of_getElem? (i := 42) rfl)).fld "name" (by decide)
      · exact (c.x x_NoName (List.mem_of_getElem? (i := 43) rfl)).fld "name" (by decide)
      · exact (c.x x_BadWindow (List.mem_of_getElem? (i := 48) rfl)).fld "name" (by decide)
      · exact (c.x x_NoPerson (List.mem_of_getElem? (i := 54) rfl)).fld "name" (by decide)
      · exact (c.x x_SamePerson (List.mem_of_getElem? (i := 55) rfl)).fld "name" (by decide)
      · exact (c.x x_BadArc (List.mem_of_getElem? (i := 56) rfl)).fld "name" (by decide)
      · exact (c.x x_BadAmounts (List.mem_of_getElem? (i := 58) rfl)).fld "name" (by decide)
    fd_state := fun cn hc => by
      simp only [okl_state, List.mem_cons, List.not_mem_nil, or_false] at hc
      subst hc
      exact (c.x x_BadBox (List.mem_of_getElem? (i := 16) rfl)).fld "state" (by decide)
    fd_sign := fun cn hc => by
      simp only [okl_sign, List.mem_cons, List.not_mem_nil, or_false] at hc
      subst hc
      exact (c.x x_BadLink (List.mem_of_getElem? (i := 22) rfl)).fld "sign" (by decide)
    fd_prime := fun cn hc => by
      simp only [okl_prime, List.mem_cons, List.not_mem_nil, or_false] at hc
      subst hc
      exact (c.x x_BadPrime (List.mem_of_getElem? (i := 26) rfl)).fld "prime" (by decide)
    fd_line := fun cn hc => by
      simp only [okl_line, List.mem_cons, List.not_mem_nil, or_false] at hc
      subst hc
      exact (c.x x_BadOrder (List.mem_of_getElem? (i := 45) rfl)).fld "line" (by decide)
    fd_first := fun cn hc => by
      simp only [okl_first, List.mem_cons, List.not_mem_nil, or_false] at hc
      subst hc
      exact (c.x x_Crowded (List.mem_of_getElem? (i := 49) rfl)).fld "first" (by decide)
    fd_last := fun cn hc => by
      simp only [okl_last, List.mem_cons, List.not_mem_nil, or_false] at hc
      subst hc
      exact (c.x x_Crowded (List.mem_of_getElem? (i := 49) rfl)).fld "last" (by decide)
  }
end K92

set_option Elab.async false
set_option linter.all false
set_option maxRecDepth 100000
set_option maxHeartbeats 0
namespace K92
open PySem PySem.Spec PyProof.Rows L2 XH EX DL RZ NdefX
theorem S__law_start : FnScope ["_law_script"] ["_law_script"] (defScope (top 63)) := ⟨rfl, rfl, rfl, by decide +kernel, rfl, by decide +kernel, by decide +kernel⟩
section
variable {P : Program} {w : World} {K : PySem.W.Frag} {mg : PySem.Str → Option Value} {base : Heap}
theorem ok__law_start (fx : Fx P w K mg base) {fd : FuncData} (F : FunD K "_law_start" "_law_start" (defArgs (top 63)) (defBody (top 63)) (defScope (top 63)) [] [] (He.ga K "_law_start") fd) : FnOk P w K mg base (L2.CX P w) 1 (He.ga K "_law_start") fd ["_law_script"] (spStart K) := by
  refine F.ok S__law_start (fun vs H Q E h => ?_) fun cdv A outer s H vs Q E hr h => ⟨_, pss_one (ps_ret (pe_lst (pa_cons (pe_callTy call_list_of rfl fx.g_list bt_list (pa_cons (pv 0) pa_nil)) (pa_cons pe_int (pa_cons pe_int (pa_cons pe_int pa_nil)))))), ?_⟩
  · obtain ⟨a, ns, rfl, _⟩ := h
    rfl
  · obtain ⟨a, ns, rfl, hS, q⟩ := h
    exact ⟨_, rfl, a, _, rfl, .inl hS, fun l hl => ⟨show 4 ≤ sizeLine by decide, fun p hp => q l p hl hp⟩⟩
def spLaw (K : PySem.W.Frag) : Sp := fun vs H Q _ => ∃ (a : Addr) (ns : List Int), vs = [.ref a] ∧ SqL K H a (ns.map V.int) ∧ ∀ H', Q (.bl true) H'
theorem S_law : FnScope ["_law_script", "_law_stream", "_law_turn", "_law_x", "_law_half", "_law_errors", "_law_e", "_law_n", "_law_pair", "_law_one", "_law_k"] ["_law_script"] (defScope (top 69)) := ⟨rfl, rfl, rfl, by decide +kernel, rfl, by decide +kernel, by decide +kernel⟩
theorem law_rest (fx : Fx P w K mg base) (D__law_pick : DefOk P w K mg base (clK K) "_law_pick" 2 1 true g__law_pick) (D__law_pairs : DefOk P w K mg base (clK K) "_law_pairs" 3 1 false g__law_pairs) (D__law_held : DefOk P w K mg base (clK K) "_law_held" 1 1 false g__law_held) (D__law_classes : DefOk P w K mg base (clK K) "_law_classes" 1 1 false g__law_classes) (cdv : Value) (A : Around) (outer : List Env) (s : Shared) (H : Hp) (E : XK) (hr : Room 3 (A.deeper (envOfC "law" (defScope (top 69)) s.heap.objs.size (He.ga K "law") cdv))) (c : FC) (hcl : c.cl = clK K) (W : WX) (tk : Takes (cxOf (L2.CX P w) P w K mg base ["_law_script", "_law_stream", "_law_turn", "_law_x", "_law_half", "_law_errors", "_law_e", "_law_n", "_law_pair", "_law_one", "_law_k"] "law" (defScope (top 69)) (He.ga K "law") cdv A outer s H E) W) :
    PSs (cxOf (L2.CX P w) P w K mg base ["_law_script", "_law_stream", "_law_turn", "_law_x", "_law_half", "_law_errors", "_law_e", "_law_n", "_law_pair", "_law_one", "_law_k"] "law" (defScope (top 69)) (He.ga K "law") cdv A outer s H E) ((defBody (top 69)).drop 1) (tS c W m_law) := by
  have nd := (S_law).nd
  have hu := hu64_of hr
  have hu1 := hu01_of hr
  have hp : PassesOwn (model P w) (cxOf (L2.CX P w) P w K mg base ["_law_script", "_law_stream", "_law_turn", "_law_x", "_law_half", "_law_errors", "_law_e", "_law_n", "_law_pair", "_law_one", "_law_k"] "law" (defScope (top 69)) (He.ga K "law") cdv A outer s H E).A (cxOf (L2.CX P w) P w K mg base ["_law_script", "_law_stream", "_law_turn", "_law_x", "_law_half", "_law_errors", "_law_e", "_law_n", "_law_pair", "_law_one", "_law_k"] "law" (defScope (top 69)) (He.ga K "law") cdv A outer s H E).env (cxOf (L2.CX P w) P w K mg base ["_law_script", "_law_stream", "_law_turn", "_law_x", "_law_half", "_law_errors", "_law_e", "_law_n", "_law_pair", "_law_one", "_law_k"] "law" (defScope (top 69)) (He.ga K "law") cdv A outer s H E).xe := passes_of rfl
  exact (ds_cons (ds_for (ps_for hp rfl (di_range1 rfl fx.g_range (dv df_int)) (dg_name (vs := [2]) (by decide) (pg_name (i := 2) nd rfl (by first | exact .inl rfl | exact .inr rfl))) (ds_cons (ds_set (ps_set (i := 3) nd rfl (by first | exact .inl rfl | exact .inr rfl) (df_callSD D__law_pick hcl tk hr (by decide) rfl (pv 1) (daf_cons (dn (dn_lst (daf_cons df_non (daf_cons df_int (daf_cons (df_neg (dv df_int)) (daf_cons df_str (daf_cons (dn (dn_lst (daf_cons (df_var (pv 2)) daf_nil))) (daf_cons (dn (dn_tup (daf_cons df_int (daf_cons (dn (dn_lst (daf_cons df_int daf_nil))) daf_nil)))) (daf_cons (dn_dic (.cons df_str df_int .nil) rfl rfl (by simp) (by decide)) (daf_cons df_bl (daf_cons (df_op op_pow_data (dv df_int) (dv df_int)) daf_nil))))))))))) daf_nil))) fun _ _ _ q => q)
  (ds_cons (ds_for (ps_for hp rfl (di_range1 rfl fx.g_range (dv df_int)) (dg_name (vs := [4]) (by decide) (pg_name (i := 4) nd rfl (by first | exact .inl rfl | exact .inr rfl))) (ds_cons (ds_own (ps_setLc (i := 5) (own := [("_law_pair", 8)]) rfl nd rfl rfl (sw_true rfl rfl rfl rfl) (di_any (df_callD D__law_pairs hcl tk hr (by decide) rfl (daf_cons (df_var (pv 3)) daf_nil))) (blkOk_by (by kernel_rfl)) (fun _ _ _ _ _ => (dg_name (vs := [8]) (by decide) (pg_name (i := 8) nd rfl (by first | exact .inl rfl | exact .inr rfl)))) (fun _ _ _ _ _ => dts_nil) (fun _ _ _ _ _ => (df_ix (ix_data hu1) (dv (df_var (pv 8))) (dv (df_var (pv 4))) (fun _ _ => rfl)))) fun _ _ _ q => lc_to q)
  (ds_cons (ds_if (dt_thaw 5 (dt_val (dv (df_callB (c_any rfl) rfl fx.g_any bt_any (dav_cons (dv (dn (dn_lc (own := [("_law_one", 9)]) rfl nd (di_any (df_callD D__law_held hcl tk hr (by decide) rfl (daf_cons (df_var (pv 5)) daf_nil))) (blkOk_by (by kernel_rfl)) (fun _ _ _ _ _ => (dg_name (vs := [9]) (by decide) (pg_name (i := 9) nd rfl (by first | exact .inl rfl | exact .inr rfl)))) (fun _ _ _ _ _ => dts_nil) (fun _ _ _ _ _ => (df_or (dv (df_cmp (op_neX_data hu) (dv (df_var (pv 9))) (dv (df_var (pv 3))) (nomark _))) (df_one (df_cmp (op_neX_data hu) (dv (df_isi (t := .bool) rfl fx.g_isinstance (dv (df_var (pv 9))) (pe_bltn rfl fx.g_bool bt_bool rfl))) (dv (df_isi (t := .bool) rfl fx.g_isinstance (dv (df_var (pv 3))) (pe_bltn rfl fx.g_bool bt_bool rfl))) (nomark _)))))))) dav_nil))))) (ds_cons (ds_ret df_bl)
  ds_nil) ds_nil)
  (ds_cons (ds_ext (ps_expr (pe_bm PySem.F.plainAttrs_list PySem.F.slot_list_extend PySem.F.type_list_extend mt_extend (pv 5) (pa_cons (dn (dn_lst (daf_cons (df_mk0 fx.mk_UnlikeQuestions hcl (hr.mono (by decide)) rfl) (daf_cons (df_mk0 fx.mk_UnlikeLetters hcl (hr.mono (by decide)) rfl) (daf_cons (df_mk0 fx.mk_NoRow hcl (hr.mono (by decide)) rfl) daf_nil))))) pa_nil))))
  (ds_cons (ds_set (ps_set (i := 6) nd rfl (by first | exact .inl rfl | exact .inr rfl) (df_if (dt_cmp (op_eq_data hu) (dv (df_var (pv 4))) (dv df_int) (nomark _)) (df_mk2K fx.mk_Crowded hcl (hr.mono (by decide)) rfl (kf_cons (df_var (pv 3)) (kf_cons df_int kf_nil))) (df_mk2 fx.mk_Crowded hcl (hr.mono (by decide)) rfl (daf_cons (df_var (pv 3)) (daf_cons df_int daf_nil))))) fun _ _ _ q => q)
  (ds_cons (ds_if (dt_pw (dw_or (dt_cmp (op_neX_data hu) (dv (df_ef rfl (fx.first hcl) (df_var (pv 6)))) (dv (df_var (pv 3))) (nomark _)) (dw_or1 (dt_cmp (op_neX_data hu) (dv (df_ef rfl (fx.last hcl) (df_var (pv 6)))) (dv df_int) (nomark _))))) (ds_cons (ds_ret df_bl)
  ds_nil) ds_nil)
  (ds_cons (ds_app (ps_expr (pe_bm PySem.F.plainAttrs_list PySem.F.slot_list_append PySem.F.type_list_append mt_append (pv 5) (pa_cons (df_var (pv 6)) pa_nil))))
  (ds_cons (ds_fz (ds_for (ps_for hp rfl (di_enum rfl fx.g_enumerate (df_var (pv 5))) (dg_tup (n := 2) rfl rfl (dgs_cons (dg_name (vs := [7, 6]) (by decide) (pg_name (i := 7) nd rfl (by first | exact .inl rfl | exact .inr rfl))) (dgs_cons (dg_name (vs := [7, 6]) (by decide) (pg_name (i := 6) nd rfl (by first | exact .inl rfl | exact .inr rfl))) dgs_nil))) (ds_cons (ds_if (dt_pw (dw_or (dt_not (dt_val (dv (df_isE rfl (.own _) (fx.relW hcl) rfl fx.g_isinstance (df_var (pv 6)) (pe_glob rfl fx.gl_WorldError rfl))))) (dw_or1 (dt_not (dt_val (dv (df_isE rfl (.ty "ValueError") (fx.relV hcl) rfl fx.g_isinstance (df_var (pv 6)) (pe_bltn rfl fx.g_ValueError boot_ValueError rfl)))))))) (ds_cons (ds_ret df_bl)
  ds_nil) ds_nil)
  (ds_cons (ds_if (dt_cmp (op_neX_data hu) (dv (df_callD D__law_classes hcl tk hr (by decide) rfl (daf_cons (df_var (pv 6)) daf_nil))) (dv (dn (dn_lc (own := [("_law_k", 10)]) rfl nd (di_range1 rfl fx.g_range (dv df_int)) (blkOk_by (by kernel_rfl)) (fun _ _ _ _ _ => (dg_name (vs := [10]) (by decide) (pg_name (i := 10) nd rfl (by first | exact .inl rfl | exact .inr rfl)))) (fun _ _ _ _ _ => dts_nil) (fun _ _ _ _ _ => (df_cmp (op_eq_data hu) (dv (df_var (pv 10))) (dv (df_var (pv 7))) (nomark _)))))) (nomark _)) (ds_cons (ds_ret df_bl)
  ds_nil) ds_nil)
  ds_nil))) (fun _ _ _ _ q => q) (fun _ _ _ q => q)))
  ds_nil)))))))) (fun _ _ _ _ q => q) (fun _ _ _ q => q))
  ds_nil))) (fun _ _ _ _ q => q) (fun _ _ _ q => q))
  (ds_cons (ds_ret (df_isE rfl (.ty "ValueError") (fx.relV hcl) rfl fx.g_isinstance (df_mk00 fx.wEx fx.wKp (fx.wCl hcl) rfl fx.gl_WorldError) (pe_bltn rfl fx.g_ValueError boot_ValueError rfl)))
  ds_nil))
theorem ok_law (fx : Fx P w K mg base) (D__law_pick : DefOk P w K mg base (clK K) "_law_pick" 2 1 true g__law_pick) (D__law_pairs : DefOk P w K mg base (clK K) "_law_pairs" 3 1 false g__law_pairs) (D__law_held : DefOk P w K mg base (clK K) "_law_held" 1 1 false g__law_held) (D__law_classes : DefOk P w K mg base (clK K) "_law_classes" 1 1 false g__law_classes) {fd fd0 : FuncData} (F0 : FunD K "_law_start" "_law_start" (defArgs (top 63)) (defBody (top 63)) (defScope (top 63)) [] [] (He.ga K "_law_start") fd0) (F : FunD K "law" "law" (defArgs (top 69)) (defBody (top 69)) (defScope (top 69)) [] [] (He.ga K "law") fd) : FnOk P w K mg base (L2.CX P w) 4 (He.ga K "law") fd ["_law_script"] (spLaw K) := by
  have b0 : Binds K fd0 ["_law_script"] [] := F0.bindsN fun _ _ _ _ _ _ us hl => match us, hl with | [_], _ => rfl
  refine F.ok S_law (fun vs H Q E h => ?_) fun cdv A outer s H vs Q E hr h => ⟨_, pss_cons (ps_set (i := 1) S_law.nd rfl (.inl rfl) (pe_callS (E := fun _ _ _ _ => False) (ok__law_start fx F0) (hr.mono (by decide)) rfl fx.gl__law_start F0.kp b0 (fun σ pins H1 s1 e1 s2 I1 h1 => no_pass pins σ H1 s1 e1 s2 I1 h1) (pa_cons (pv 0) pa_nil))) (pss_ex (cl := clK K) fun c hc => law_rest fx D__law_pick D__law_pairs D__law_held D__law_classes cdv A outer s H E hr c hc _ (takes_of (E := E) rfl rfl rfl rfl)), ?_⟩
  · obtain ⟨a, ns, rfl, _⟩ := h
    rfl
  · obtain ⟨a, ns, rfl, hS, q⟩ := h
    refine ⟨_, rfl, a, ns, rfl, hS, fun p p2 hp hp2 => ?_⟩
    obtain ⟨s1, z1, e⟩ := law_true ns
    refine ⟨_, rfl, _, sr_law hp2 hp rfl rfl, ?_⟩
    show WntS _ _ _ _ (m_law (.none :: .strm :: List.replicate 9 .none) ⟨ns, 0, 0, 11⟩)
    rw [e]
    intro σ' H' w' v _ _ _ _ r
    cases r
    exact q H'
end
end K92

set_option Elab.async false
set_option linter.all false
set_option maxRecDepth 100000
set_option maxHeartbeats 0
namespace K92
open PySem PySem.Spec PyProof.Rows L2 XH
def obL (g : Addr → Option Obj) : AlI := obsI R.prog fa fn ini ex (He.frG g asL)
abbrev hk : PySem.W.Hook where
  α := AlI
  obs := fun s => obL s.heap.get?
  val := fun _ => valI fn ini
  says := fun _ h => ∃ K : PySem.W.Frag, K.In h ∧ SaysI R.prog fa fn ini ex K
  of := fun _ _ e => ⟨_, He.frG_in, saysI_of e⟩
  keeps := fun _ _ _ ⟨K, hK, c⟩ k => ⟨K, PySem.W.Frag.In.keeps hK k, c⟩
def ob (s : PySem.W.SharedT) : AlI := obL (HandSHeadRun.getT s)
theorem ob_eq (s : PySem.W.SharedT) : ob s = hk.obs s.abs := by
  have e : HandSHeadRun.getT s = s.abs.heap.get? := funext fun a => HandSHeadRun.getT_eq s a
  exact congrArg obL e
end K92

set_option Elab.async false
set_option linter.all false
set_option maxRecDepth 100000
set_option maxHeartbeats 0
namespace K92
open PySem PySem.Spec PyProof.Rows L2 XH
theorem two {α β γ δ : Type} {e : Option α} {f : α → β × γ} {k : α → δ} {b : β} {c : γ} {d : δ} (h1 : e.map f = some (b, c)) (h3 : e.map k = some d) : e.map (fun s => ((f s).1, (f s).2, k s)) = some (b, c, d) := by
  cases e with
  | none => cases h1
  | some s =>
    have h1 : f s = (b, c) := Option.some.inj h1
    have h3 : some (k s) = some d := h3
    cases h3
    show some ((f s).1, (f s).2, k s) = _
    rw [h1]
theorem map_get {α β : Type} {e : Option α} {f : α → β} {b : β} (h : e.map f = some b) : ∀ s, e = some s → f s = b := fun s hs => by
  subst hs
  exact Option.some.inj h
theorem ob_is {s : PySem.W.SharedT} (h3 : He.obsD fa fn (kOf s) = He.valD fn) (h4 : (iniA.all fun d => iniB R.prog (kOf s) d) = true) (h6 : (iniC.all fun d => iniB R.prog (kOf s) d) = true) (h7 : (ex (kOf s), ini.map fun d => iniW (kOf s) d.cls) = (true, ini.map IniD.val)) : ob s = valI fn ini := by
  have h9 : (ini.all fun d => iniB R.prog (kOf s) d) = true := by
    rw [ini_is, List.all_append, h4, h6]
    rfl
  have h8 : ex (kOf s) = true := congrArg Prod.fst h7
  have ha : (ini.map fun d => iniW (kOf s) d.cls) = ini.map IniD.val := congrArg Prod.snd h7
  show (He.obsD fa fn (kOf s), (ini.all fun d => iniB R.prog (kOf s) d) && ex (kOf s), ini.map fun d => iniW (kOf s) d.cls) = _
  rw [h3, h9, h8, ha]
  rfl
theorem run_ob {e : Option PySem.W.SharedT} (h3 : e.map (fun s => He.obsD fa fn (kOf s)) = some (He.valD fn)) (h4 : e.map (fun s => iniA.all fun d => iniB R.prog (kOf s) d) = some true) (h6 : e.map (fun s => iniC.all fun d => iniB R.prog (kOf s) d) = some true) (h7 : e.map (fun s => (ex (kOf s), ini.map fun d => iniW (kOf s) d.cls)) = some (true, ini.map IniD.val)) : e.map ob = some (valI fn ini) := by
  cases e with
  | none => cases h3
  | some s => exact congrArg some (ob_is (map_get h3 s rfl) (map_get h4 s rfl) (map_get h6 s rfl) (map_get h7 s rfl))
theorem run (w : World) : HandSHeadRun.RunEq R qv hk ob 60000 loose w := fun os => two (run1 w os) (run_ob (run2 w os) (run3 w os) (run4 w os) (run5 w os))
end K92

namespace K92
open PySem PySem.Spec PyProof.Rows L2 XH EX DL
theorem facts {w : World} {K : PySem.W.Frag} {h : Heap} {mg : PySem.Str → Option Value} {f : Addr} (X : K.In h) (G : h.Ns mainGlobals mg) (hfa : mg ("law" : PySem.Str) = some (.ref f)) (c : SaysI R.prog fa fn ini ex K) :
    ∃ fd : FuncData, (∀ (s : Shared) (v : Value), BindsTo s fd ⟨[v], []⟩ [("_law_script", v)]) ∧ ∀ base : Heap, K.In base → base.Ns mainGlobals mg → FnOk R.prog w K mg base (L2.CX R.prog w) 4 f fd ["_law_script"] (spLaw K) := by
  obtain ⟨fd0, F0⟩ := c.d.def_ 0 (d := d__law_start) rfl
  obtain ⟨fd1, F1⟩ := c.d.def_ 1 (d := d__law_draw) rfl
  obtain ⟨fd2, F2⟩ := c.d.def_ 2 (d := d__law_pick) rfl
  obtain ⟨fd3, F3⟩ := c.d.def_ 3 (d := d__law_pairs) rfl
  obtain ⟨fd4, F4⟩ := c.d.def_ 4 (d := d__law_held) rfl
  obtain ⟨fd5, F5⟩ := c.d.def_ 5 (d := d__law_classes) rfl
  obtain ⟨fd6, F6⟩ := c.d.def_ 6 (d := d_law) rfl
  have e := hfa.symm.trans (He.glo_ok X G (c.d.fact 6 (f := .glo "law") rfl))
  cases e
  have b := FunD.bindsA (ps := ["_law_script"]) F6 fun _ _ _ _ _ _ us hl => match us, hl with | [_], _ => rfl
  refine ⟨fd6, fun s v => b s [v] rfl, fun base _ _ => ?_⟩
  have fx : Fx R.prog w K mg base := fx_of X G c
  have D1 := ok__law_draw fx F1
  exact ok_law fx (ok__law_pick fx D1 F2) (ok__law_pairs fx F3) (ok__law_held fx F4) (ok__law_classes fx F5) F0 F6
end K92
open PySem PySem.W PySem.Calls PyProof.Rows
theorem PySem.Challenge.cw_twoworlds_k92_errors_made_holds : PySem.Challenge.rw_twoworlds_k92_errors_made.Holds := by
  w_on; o_law
  refine HandSHeadRun.head_any (r := OpenLaw.row PySem.Challenge.rw_twoworlds_k92_errors_made) (q := K92.qv) (H := K92.hk) (ob := K92.ob) (M := 60000) (loose := K92.loose) (d := HandSHeadRun.topDef (OpenLaw.row PySem.Challenge.rw_twoworlds_k92_errors_made).prog 69) (kwd := []) K92.ob_eq
    (by kernel_rfl) (fun s => by kernel_rfl) K92.run (by kernel_rfl) (by kernel_rfl) (by kernel_rfl) (by rfl) (by first | assumption | decide +kernel) (by decide +kernel) ⟨rfl, rfl, rfl, rfl, rfl, by decide +kernel⟩ ?hw ?hc
  case hw => w_witness2
  case hc =>
    refine Att.attach_call (n := 63) rfl (by kernel_rfl) fun w s₀ s₁ mg mb fa o pm cd doc a vs ns G Y ho hd hcd hmg0 hobj hints hlen hg => ?_
    obtain ⟨K, KX, c⟩ := Y
    have hmg : mg ("law" : PySem.Str) = some (.ref fa) := by
      have en : (HandSHeadRun.topDef (OpenLaw.row PySem.Challenge.rw_twoworlds_k92_errors_made).prog 69).name = ("law" : PySem.Str) := by kernel_rfl
      exact en ▸ hmg0
    obtain ⟨fd, hb, hF⟩ := K92.facts (w := w) KX G.T.g hmg c
    exact L2.law_call (CX := L2.CX K92.R.prog w) KX G.T.g G.T.b G.T.builtins G.T.nolimit hg hobj hints (Nat.le_trans hlen (by decide)) ⟨rfl, by decide, by decide⟩ hF hb (fun H _ hS => ⟨a, ns, rfl, hS, fun _ => rfl⟩) fun H e s' ⟨_, _, _, _, _, _, _, _, _, _, _, _, z⟩ => z

