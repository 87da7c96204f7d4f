import PyProof.Rows.All
import Wide.All
import OpenK.AllK
import Wide.FinOn
import HandS.ForMost
import HandS.Exc
import HandS.HeadHook1
import HandS.HeadHook2
import KE.KSuper
import KE.KStateDown
import Lean
import HandS.Words
import HandS.Defaults
import HandS.Head0
import HandS.Head1
import HandS.Head2
import HandS.HeadEnd
import HandS.TryOnly
import HandS.TryMany
import HandS.ExcInit
import HandS.WordsExc
import HandS.SetKeys
import HandS.IsInst
import HandS.Style
import HandS.Flow
import HandS.DictComp
import HandS.Wide
import HandS.Conv
import HandS.Deep
import HandS.TupAny
import HandS.ListEq
import HandS.DictEq
import HandS.DeepEq
import PyProof.NeData
import PyProof.NeKinds
import HandS.TupMul
import PyProof.StrOps2
import HandS.Zip
import HandS.CallSlots
import HandS.ExcOwn
import KE.KExcSuper
import HandS.Nested
import HandS.ExcField
import HandS.MakeKwOnly
import HandS.ExcIs
import HandS.ExcValue
import HandS.Text
import HandS.More
import HandS.Strs
import HandS.Iter
import PyProof.StrBlock2
import KE.IntTextLaws
import HandS.ExcBuiltin
import PySem.Challenge.RW_twoworlds_k88_texts_refused
set_option Elab.async false
set_option linter.all false
set_option maxRecDepth 100000
set_option maxHeartbeats 4000000
namespace XH
open PySem PySem.Spec PySem.Calls PyProof.Rows L2
structure IniD where
  cls : Str
  qual : Str
  params : Arguments
  body : List Stmt
  scope : Scope
  fields : List Str
abbrev IniW : Type := Option (Str × Str × Arguments × FuncBody × Scope × Addr × List Str × Addr)
def cAd (K : PySem.W.Frag) (x : Str) : Addr := He.ga K x
def iAd (K : PySem.W.Frag) (x : Str) : Addr := He.ma K (He.ga K x) "__init__"
def iniW (K : PySem.W.Frag) (x : Str) : IniW := match K.lookup (iAd K x) with
  | some ⟨_, _, .func fd, _⟩ => some (fd.name, fd.qualname, fd.params, fd.body, fd.scope, fd.globals, fd.closure.map (·.1), fd.builtins)
  | _ => none
def IniD.val (d : IniD) : IniW := some ("__init__", d.qual, d.params, .stmts d.body, d.scope, mainGlobals, ["__class__"], builtinsNs)
/-- the class's own object -/
def oexB (K : PySem.W.Frag) (C : Addr) : Bool := (match K.lookup C with
  | some ⟨.type "type", _, .cls cd, sl⟩ => (match cd.mro, sl.toList with
    | .ref C' :: bm, [_, _, _, _, some (.builtin n), _] => C' == C && (n == "ValueError.__new__" && (!cd.hasDel && (cd.hasDict && PySem.HandSPX.refsVE bm)))
    | _, _ => false)
  | _ => false) && (decide (PySem.W.findIn K (.ref C) "__setattr__" = some (some (.builtin "object.__setattr__"))) && (decide (PySem.W.subIn K (.ref C) (.type "BaseException") = some true) && (decide (PySem.W.typeIn K (.ref C) = some (.type "type")) && PySem.W.keepIn K (.ref C))))
/-- its __init__, the cell of __class__, the code object -/
def iniB (P : Program) (K : PySem.W.Frag) (d : IniD) : Bool := (match K.lookup (iAd K d.cls) with
  | some ⟨_, _, .func fd, _⟩ => (match fd.closure, fd.code, fd.defaults with
    | [(_, cc)], .ref cda, .none => PySem.W.codeIn K (.ref cda) d.qual && ((match K.lookup cc with
      | some ⟨_, _, .cell (some (.ref D)), _⟩ => D == cAd K d.cls
      | _ => false) && (match K.lookup cda with
      | some ⟨_, _, .fields vs, _⟩ => (match (vs[2]? : Option Value) with
        | some (Value.str file _) => ((P.main.file : Str) == file)
        | _ => false)
      | _ => false))
    | _, _, _ => false)
  | _ => false) && (oexB K (cAd K d.cls) && (((PySem.W.clsIn K (cAd K d.cls)).isSome) && (decide (PySem.W.mroIn K (cAd K d.cls) (.ref (cAd K d.cls)) = some true) && (decide (PySem.W.subIn K (.ref (cAd K d.cls)) (.type "ValueError") = some true) &&
    (decide (PySem.W.ks_superIn K (cAd K d.cls) (cAd K d.cls) "__init__" = some (some (.builtin "ValueError.__init__"))) && (decide (PySem.W.nsIn K cStatics "thirdparty.any" = some none) && (decide (PySem.W.findIn K (.ref (cAd K d.cls)) "__init__" = some (some (.ref (iAd K d.cls)))) &&
    (decide (PySem.W.typeIn K (.ref (iAd K d.cls)) = some (.type "function")) && (d.fields.all fun f => decide (PySem.W.findIn K (.ref (cAd K d.cls)) f = some none))))))))))
abbrev AlI : Type := He.AlD × (Bool × List IniW)
def excB (K : PySem.W.Frag) (D : Addr) : Bool := decide (PySem.W.findIn K (.ref D) "__getattribute__" = some (some (.builtin "BaseException.__getattribute__"))) && (decide (PySem.W.findIn K (.ref D) "__getattr__" = some none) && (decide (PySem.W.subIn K (.ref D) (.type "BaseException") = some true) &&
  (PySem.W.hasDictIn K D && (decide (PySem.W.findIn K (.ref D) "__class__" = some (some (.builtin "object.__class__"))) && (decide (PySem.W.specialIn K (.builtin "object.__class__") "__get__" = some (some (.builtin "getset_descriptor.__get__"))) && (decide (PySem.W.takesIn K (.builtin "object.__class__") = some true) && decide (PySem.W.mroIn K D (.type "object") = some true)))))))
/-- x derives from the class at W, W from ValueError; the class itself is a plain type -/
def mroB (K : PySem.W.Frag) (W C : Addr) : Bool := decide ((PySem.W.clsIn K C).map (·.mro) = some (Value.ref C :: Value.ref W :: He.veBase)) && decide (PySem.W.typeIn K (.ref C) = some (.type "type"))
def incB : List Addr → Bool
  | a :: b :: r => decide (a < b) && incB (b :: r)
  | _ => true
/-- the own exception classes: W the first, then those of names -/
def famB (K : PySem.W.Frag) (w : Str) (names : List Str) : Bool := incB (cAd K w :: names.map (cAd K)) && (names.all fun x => mroB K (cAd K w) (cAd K x) && excB K (cAd K x)) && (decide ((PySem.W.clsIn K (cAd K w)).map (·.mro) = some (Value.ref (cAd K w) :: He.veBase)) && (decide (PySem.W.typeIn K (.ref (cAd K w)) = some (.type "type")) && excB K (cAd K w)))
end XH

set_option Elab.async false
set_option linter.all false
set_option maxRecDepth 100000
set_option maxHeartbeats 0
namespace K88
open PySem PySem.Spec PyProof.Rows L2 XH
abbrev R : PySem.W.OpenRow := PySem.W.OpenLaw.row PySem.Challenge.rw_twoworlds_k88_texts_refused
def top (i : Nat) : Stmt := PySem.Challenge.pw_twoworlds_k88_texts_refused.main.body.getD i (.Pass ⟨0, 0, 0, 0⟩)
def mth (i j : Nat) : Stmt := match top i with
  | .ClassDef _ _ _ body _ _ _ _ _ _ _ => body.getD j (.Pass ⟨0, 0, 0, 0⟩)
  | _ => .Pass ⟨0, 0, 0, 0⟩
def d__law_draw : He.DefD := ⟨("_law_draw", none), "_law_draw", "_law_draw", defArgs (top 52), defBody (top 52), defScope (top 52), [], []⟩
def d__law_pick : He.DefD := ⟨("_law_pick", none), "_law_pick", "_law_pick", defArgs (top 53), defBody (top 53), defScope (top 53), [], []⟩
def d__law_name : He.DefD := ⟨("_law_name", none), "_law_name", "_law_name", defArgs (top 56), defBody (top 56), defScope (top 56), [], []⟩
def d__law_names : He.DefD := ⟨("_law_names", none), "_law_names", "_law_names", defArgs (top 57), defBody (top 57), defScope (top 57), [], []⟩
def d__law_mixed : He.DefD := ⟨("_law_mixed", none), "_law_mixed", "_law_mixed", defArgs (top 54), defBody (top 54), defScope (top 54), [], []⟩
def d__law_d_hands : He.DefD := ⟨("_law_d_hands", none), "_law_d_hands", "_law_d_hands", defArgs (top 45), defBody (top 45), defScope (top 45), [], []⟩
def d__law_d_table_lines : He.DefD := ⟨("_law_d_table_lines", none), "_law_d_table_lines", "_law_d_table_lines", defArgs (top 47), defBody (top 47), defScope (top 47), [], []⟩
def d__law_d_hands_lines : He.DefD := ⟨("_law_d_hands_lines", none), "_law_d_hands_lines", "_law_d_hands_lines", defArgs (top 48), defBody (top 48), defScope (top 48), [], []⟩
def d__law_d_links_lines : He.DefD := ⟨("_law_d_links_lines", none), "_law_d_links_lines", "_law_d_links_lines", defArgs (top 49), defBody (top 49), defScope (top 49), [], []⟩
def d__law_bent_line : He.DefD := ⟨("_law_bent_line", none), "_law_bent_line", "_law_bent_line", defArgs (top 66), defBody (top 66), defScope (top 66), [], []⟩
def d__law_bent : He.DefD := ⟨("_law_bent", none), "_law_bent", "_law_bent", defArgs (top 67), defBody (top 67), defScope (top 67), [], []⟩
def d__law_d_text : He.DefD := ⟨("_law_d_text", none), "_law_d_text", "_law_d_text", defArgs (top 50), defBody (top 50), defScope (top 50), [], []⟩
def d__law_is_name_word : He.DefD := ⟨("_law_is_name_word", none), "_law_is_name_word", "_law_is_name_word", defArgs (top 58), defBody (top 58), defScope (top 58), [], []⟩
def d__law_are_names : He.DefD := ⟨("_law_are_names", none), "_law_are_names", "_law_are_names", defArgs (top 60), defBody (top 60), defScope (top 60), [], []⟩
def d__law_is_number_word : He.DefD := ⟨("_law_is_number_word", none), "_law_is_number_word", "_law_is_number_word", defArgs (top 59), defBody (top 59), defScope (top 59), [], []⟩
def d__law_is_table : He.DefD := ⟨("_law_is_table", none), "_law_is_table", "_law_is_table", defArgs (top 61), defBody (top 61), defScope (top 61), [], []⟩
def d__law_are_hands : He.DefD := ⟨("_law_are_hands", none), "_law_are_hands", "_law_are_hands", defArgs (top 62), defBody (top 62), defScope (top 62), [], []⟩
def d__law_are_links : He.DefD := ⟨("_law_are_links", none), "_law_are_links", "_law_are_links", defArgs (top 63), defBody (top 63), defScope (top 63), [], []⟩
def d__law_is_text : He.DefD := ⟨("_law_is_text", none), "_law_is_text", "_law_is_text", defArgs (top 64), defBody (top 64), defScope (top 64), [], []⟩
def d_Table_questions : He.DefD := ⟨("Table", some "questions"), "questions", "Table.questions", defArgs (mth 27 4), defBody (mth 27 4), defScope (mth 27 4), [], []⟩
def d_Table_rows : He.DefD := ⟨("Table", some "rows"), "rows", "Table.rows", defArgs (mth 27 5), defBody (mth 27 5), defScope (mth 27 5), [], []⟩
def d_joined : He.DefD := ⟨("joined", none), "joined", "joined", defArgs (top 31), defBody (top 31), defScope (top 31), [], []⟩
def d_write_table : He.DefD := ⟨("write_table", none), "write_table", "write_table", defArgs (top 34), defBody (top 34), defScope (top 34), [], []⟩
def d_words_of : He.DefD := ⟨("words_of", none), "words_of", "words_of", defArgs (top 32), defBody (top 32), defScope (top 32), [], []⟩
def d_is_name : He.DefD := ⟨("is_name", none), "is_name", "is_name", defArgs (top 17), defBody (top 17), defScope (top 17), [], []⟩
def d_names_of : He.DefD := ⟨("names_of", none), "names_of", "names_of", defArgs (top 24), defBody (top 24), defScope (top 24), [], []⟩
def d_is_list : He.DefD := ⟨("is_list", none), "is_list", "is_list", defArgs (top 16), defBody (top 16), defScope (top 16), [], []⟩
def d_is_integer : He.DefD := ⟨("is_integer", none), "is_integer", "is_integer", defArgs (top 15), defBody (top 15), defScope (top 15), [], []⟩
def d_is_row : He.DefD := ⟨("is_row", none), "is_row", "is_row", defArgs (top 23), defBody (top 23), defScope (top 23), [], []⟩
def d_Table_init : He.DefD := ⟨("Table", some "__init__"), "__init__", "Table.__init__", defArgs (mth 27 0), defBody (mth 27 0), defScope (mth 27 0), [], []⟩
def d_is_name_list : He.DefD := ⟨("is_name_list", none), "is_name_list", "is_name_list", defArgs (top 36), defBody (top 36), defScope (top 36), [], []⟩
def d_is_number_word : He.DefD := ⟨("is_number_word", none), "is_number_word", "is_number_word", defArgs (top 33), defBody (top 33), defScope (top 33), [], []⟩
def d_read_table : He.DefD := ⟨("read_table", none), "read_table", "read_table", defArgs (top 35), defBody (top 35), defScope (top 35), [], []⟩
def d_plain_hands : He.DefD := ⟨("plain_hands", none), "plain_hands", "plain_hands", defArgs (top 37), defBody (top 37), defScope (top 37), [], []⟩
def d_write_hands : He.DefD := ⟨("write_hands", none), "write_hands", "write_hands", defArgs (top 38), defBody (top 38), defScope (top 38), [], []⟩
def d_plain_links : He.DefD := ⟨("plain_links", none), "plain_links", "plain_links", defArgs (top 40), defBody (top 40), defScope (top 40), [], []⟩
def d_write_links : He.DefD := ⟨("write_links", none), "write_links", "write_links", defArgs (top 41), defBody (top 41), defScope (top 41), [], []⟩
def d_read_hands : He.DefD := ⟨("read_hands", none), "read_hands", "read_hands", defArgs (top 39), defBody (top 39), defScope (top 39), [], []⟩
def d_read_links : He.DefD := ⟨("read_links", none), "read_links", "read_links", defArgs (top 42), defBody (top 42), defScope (top 42), [], []⟩
def d__law_tried : He.DefD := ⟨("_law_tried", none), "_law_tried", "_law_tried", defArgs (top 65), defBody (top 65), defScope (top 65), [], []⟩
def d__law_same : He.DefD := ⟨("_law_same", none), "_law_same", "_law_same", defArgs (top 55), defBody (top 55), defScope (top 55), [], []⟩
def d__law_d_rows : He.DefD := ⟨("_law_d_rows", none), "_law_d_rows", "_law_d_rows", defArgs (top 44), defBody (top 44), defScope (top 44), [], []⟩
def d__law_d_links : He.DefD := ⟨("_law_d_links", none), "_law_d_links", "_law_d_links", defArgs (top 46), defBody (top 46), defScope (top 46), [], []⟩
def d__law_start : He.DefD := ⟨("_law_start", none), "_law_start", "_law_start", defArgs (top 51), defBody (top 51), defScope (top 51), [], []⟩
def d_law : He.DefD := ⟨("law", none), "law", "law", defArgs (top 68), defBody (top 68), defScope (top 68), [], []⟩
def fn : List He.DefD := [d__law_draw, d__law_pick, d__law_name, d__law_names, d__law_mixed, d__law_d_hands, d__law_d_table_lines, d__law_d_hands_lines, d__law_d_links_lines, d__law_bent_line, d__law_bent, d__law_d_text, d__law_is_name_word, d__law_are_names, d__law_is_number_word, d__law_is_table, d__law_are_hands, d__law_are_links, d__law_is_text, d_Table_questions, d_Table_rows, d_joined, d_write_table, d_words_of, d_is_name, d_names_of, d_is_list, d_is_integer, d_is_row, d_Table_init, d_is_name_list, d_is_number_word, d_read_table, d_plain_hands, d_write_hands, d_plain_links, d_write_links, d_read_hands, d_read_links, d__law_tried, d__law_same, d__law_d_rows, d__law_d_links, d__law_start, d_law]
def fa : List He.Fa := [.glo "_law_draw", .glo "_law_pick", .glo "_law_name", .glo "_law_names", .glo "_law_mixed", .glo "_law_d_hands", .glo "_law_d_table_lines", .glo "_law_d_hands_lines", .glo "_law_d_links_lines", .glo "_law_bent_line", .glo "_law_bent", .glo "_law_d_text", .glo "_law_is_name_word", .glo "_law_are_names", .glo "_law_is_number_word", .glo "_law_is_table", .glo "_law_are_hands", .glo "_law_are_links", .glo "_law_is_text", .glo "joined", .glo "write_table", .glo "words_of", .glo "is_name", .glo "names_of", .glo "is_list", .glo "is_integer", .glo "is_row", .glo "is_name_list", .glo "is_number_word", .glo "read_table", .glo "plain_hands", .glo "write_hands", .glo "plain_links", .glo "write_links", .glo "read_hands", .glo "read_links", .glo "_law_tried", .glo "_law_same", .glo "_law_d_rows", .glo "_law_d_links", .glo "_law_start", .glo "law", .glo "Table", .glo "BadHands", .glo "BadRow", .glo "BadLinks", .glo "BadText", .glo "WorldError", .free "ValueError", .free "all", .free "bool", .free "dict", .free "enumerate", .free "int", .free "isinstance", .free "len", .free "list", .free "range", .free "set", .free "str", .free "super", .free "tuple", .free "zip", .str "FIGURES" "0123456789", .int "MOST_FIGURES" 15, .str "NAME_SIGNS" "abcdefghijklmnopqrstuvwxyz0123456789.", .cls "Table", .mkr "Table", .meth "Table" "questions", .meth "Table" "rows", .noat "Table" "own_names", .noat "Table" "own_rows"]
def x_BadHands : IniD := ⟨"BadHands", "BadHands.__init__", defArgs (mth 8 0), defBody (mth 8 0), defScope (mth 8 0), ["name"]⟩
def x_BadRow : IniD := ⟨"BadRow", "BadRow.__init__", defArgs (mth 9 0), defBody (mth 9 0), defScope (mth 9 0), ["index"]⟩
def x_BadLinks : IniD := ⟨"BadLinks", "BadLinks.__init__", defArgs (mth 11 0), defBody (mth 11 0), defScope (mth 11 0), ["index"]⟩
def x_BadText : IniD := ⟨"BadText", "BadText.__init__", defArgs (mth 12 0), defBody (mth 12 0), defScope (mth 12 0), ["thing"]⟩
def ini : List IniD := [x_BadHands, x_BadRow, x_BadLinks, x_BadText]
def excs : List PySem.Str := (["BadHands", "BadRow", "BadLinks", "BadText"] : List PySem.Str)
def known : List PySem.Str := (["BadHands", "BadRow", "BadLinks", "BadText", "Table", "_law_is_table", "_law_are_hands", "_law_are_links"] : List PySem.Str)
def ex (K : PySem.W.Frag) : Bool := famB K "WorldError" excs
end K88

set_option Elab.async false
set_option linter.all false
set_option maxRecDepth 100000
set_option maxHeartbeats 0
namespace K88
open PySem PySem.Spec PyProof.Rows L2 XH
def asL : List Addr := ([3, 2, 0, 4, 6, 158, 157, 179, 178, 221, 220, 242, 241, 435, 434, 31, 30, 556, 555, 563, 562, 578, 577, 583, 582, 568, 567, 517, 516, 527, 526, 532, 531, 537, 536, 632, 631, 639, 638, 542] : List Addr) ++ ([541, 588, 587, 598, 597, 593, 592, 603, 602, 608, 607, 613, 612, 618, 617, 344, 343, 349, 348, 444, 443, 459, 458, 449, 448, 263, 262, 294, 293, 258, 257, 251, 250, 289, 288, 316, 315, 469, 468, 454] : List Addr) ++ ([453, 464, 463, 474, 473, 479, 478, 493, 492, 498, 497, 486, 485, 505, 504, 625, 624, 573, 572, 510, 509, 522, 521, 549, 548, 644, 643, 155, 154, 143, 176, 175, 164, 218, 217, 206, 239, 238, 227] : List Addr)
def kOf (s : PySem.W.SharedT) : PySem.W.Frag := He.frG (HandSHeadRun.getT s) asL
def loose : List PySem.Str := (["_wall", "__name__", "WorldError", "BadWorld", "BadKnown", "NoQuestion", "BadPlan", "BadAnswers", "BadHands", "BadRow", "UnlikeQuestions", "BadLinks", "BadText", "NAME_SIGNS", "is_integer", "is_list", "is_name", "checked_file", "check_question", "checked_both", "is_row", "names_of", "answers_to", "is_plan_key", "Table", "FIGURES", "MOST_FIGURES", "joined", "words_of", "is_number_word"] : List PySem.Str) ++ (["write_table", "read_table", "is_name_list", "plain_hands", "write_hands", "read_hands", "plain_links", "write_links", "read_links", "_law_d_rows", "_law_d_hands", "_law_d_links", "_law_d_table_lines", "_law_d_hands_lines", "_law_d_links_lines", "_law_d_text", "_law_start", "_law_draw", "_law_pick", "_law_mixed", "_law_same", "_law_name", "_law_names", "_law_is_name_word", "_law_is_number_word", "_law_are_names", "_law_is_table", "_law_are_hands", "_law_are_links", "_law_is_text"] : List PySem.Str) ++ (["_law_tried", "_law_bent_line", "_law_bent"] : List PySem.Str)
abbrev qv : Program := PySem.W.view R.prog [68]
end K88

set_option Elab.async false
set_option linter.all false
set_option maxRecDepth 100000
set_option maxHeartbeats 0
namespace K88
open PySem PySem.Spec PyProof.Rows L2 XH
open PySem.W HandSHeadRun in
theorem run1 (w : World) (os : OsState) : (endF (stepQ (denQ tabQ) R.prog w) 60000 R.prog w os).map (fun s => (looksF R.prog (boot_heap w.params) s.abs, seenQ qv loose (importedModules R.prog.main.body) (fun s => xlAt qv [] s && recOk R.toRowW.records s) s.abs)) = some (true, openGood qv loose) := by kernel_rfl
end K88

set_option Elab.async false
set_option linter.all false
set_option maxRecDepth 100000
set_option maxHeartbeats 0
namespace K88
open PySem PySem.Spec PyProof.Rows L2 XH
open PySem.W HandSHeadRun in
theorem run2 (w : World) (os : OsState) : (endF (stepQ (denQ tabQ) R.prog w) 60000 R.prog w os).map (fun s => He.obsD fa fn (kOf s)) = some (He.valD fn) := by kernel_rfl
end K88

set_option Elab.async false
set_option linter.all false
set_option maxRecDepth 100000
set_option maxHeartbeats 0
namespace K88
open PySem PySem.Spec PyProof.Rows L2 XH
open PySem.W HandSHeadRun in
theorem run3 (w : World) (os : OsState) : (endF (stepQ (denQ tabQ) R.prog w) 60000 R.prog w os).map (fun s => ((ini.all fun d => iniB R.prog (kOf s) d) && ex (kOf s), ini.map fun d => iniW (kOf s) d.cls)) = some (true, ini.map IniD.val) := by kernel_rfl
end K88

set_option Elab.async false
set_option linter.all false
set_option maxRecDepth 100000
set_option maxHeartbeats 2000000
namespace DL
open PySem PySem.Spec PyProof.Rows L2

/-! ### data -/
inductive D where
  | non
  | bl (b : Bool)
  | int (i : Int)
  | str (x : Str)
  | lst (xs : List D)
  | tup (xs : List D)
  | dic (kvs : List (Key × D))
  | ins (c : Str) (fs : List (Str × D))
  | fn (n : Str)
  | err (c : Str) (fs : List (Str × D))
  deriving Inhabited

/-- the spring of draws -/
structure Z where
  cells : List Int
  rest : Int
  count : Int
  mix : Int

/-- what a slot of a frame holds -/
inductive Slot where
  | none
  | sh (d : D)
  | own (d : D)
  | strm
  | slf (c : Str) (fs : List (Str × D))
  | xcp (c : Str) (fs : List (Str × D))
  deriving Inhabited

inductive ER (α : Type) where
  | ok (a : α) (z : Z)
  | exc (c : Str) (fs : List (Str × D)) (z : Z)
  | bad

def ER.bind {α β : Type} : ER α → (α → Z → ER β) → ER β
  | .ok a z, f => f a z
  | .exc c fs z, _ => .exc c fs z
  | .bad, _ => .bad

abbrev Sl := List Slot
abbrev M (α : Type) := Sl → Z → ER α

/-! ### data in a heap -/
section
variable (cl : Str → Option Addr) (F : Hp)
mutual
def Rep : D → V → Prop
  | .non, v => v = .non
  | .bl b, v => v = .bl b
  | .int i, v => v = .int i
  | .str x, v => v = .str x
  | .fn n, v => ∃ a, cl n = some a ∧ v = .ref a
  | .lst ds, v => ∃ a xs, v = .ref a ∧ F a = some (.lst xs) ∧ Reps ds xs
  | .tup ds, v => ∃ a xs, v = .ref a ∧ F a = some (.tup xs) ∧ Reps ds xs
  | .dic kvs, v => ∃ a xs, v = .ref a ∧ F a = some (.dK xs) ∧ RepK kvs xs
  | .ins c fs, v => ∃ a dx C gs, v = .ref a ∧ cl c = some C ∧ F a = some (.ins C dx gs) ∧ F dx = some (.own a) ∧ RepF fs gs
  | .err c fs, v => ∃ a C dO, v = .ref a ∧ cl c = some C ∧ F a = some (exo a C dO) ∧ (∀ dx, dO = some dx → ∃ gs, F dx = some (exd dx gs) ∧ RepF fs gs) ∧ (dO = none → fs = [])
def Reps : List D → List V → Prop
  | [], xs => xs = []
  | d :: ds, xs => ∃ y ys, xs = y :: ys ∧ Rep d y ∧ Reps ds ys
def RepK : List (Key × D) → List (Key × V) → Prop
  | [], xs => xs = []
  | (k, d) :: ds, xs => ∃ y ys, xs = (k, y) :: ys ∧ Rep d y ∧ RepK ds ys
def RepF : List (Str × D) → List (Str × V) → Prop
  | [], xs => xs = []
  | (k, d) :: ds, xs => ∃ y ys, xs = (k, y) :: ys ∧ Rep d y ∧ RepF ds ys
end
end

/-- one more frozen heap holds what the first holds -/
def Le (F F' : Hp) : Prop := ∀ a o, F a = some o → F' a = some o
theorem Le.refl (F : Hp) : Le F F := fun _ _ h => h
theorem Le.trans {F G K : Hp} (a : Le F G) (b : Le G K) : Le F K := fun x o h => b x o (a x o h)

section
variable {cl : Str → Option Addr} {F F' : Hp} (h : Le F F')
include h
mutual
theorem Rep.le : ∀ {d : D} {v : V}, Rep cl F d v → Rep cl F' d v
  | .non, _, e => by simpa [Rep] using e
  | .bl _, _, e => by simpa [Rep] using e
  | .int _, _, e => by simpa [Rep] using e
  | .str _, _, e => by simpa [Rep] using e
  | .fn _, _, e => by simpa [Rep] using e
  | .lst ds, _, e => by
    simp only [Rep] at e ⊢
    obtain ⟨a, xs, e1, e2, e3⟩ := e
    exact ⟨a, xs, e1, h _ _ e2, Reps.le e3⟩
  | .tup ds, _, e => by
    simp only [Rep] at e ⊢
    obtain ⟨a, xs, e1, e2, e3⟩ := e
    exact ⟨a, xs, e1, h _ _ e2, Reps.le e3⟩
  | .dic ds, _, e => by
    simp only [Rep] at e ⊢
    obtain ⟨a, xs, e1, e2, e3⟩ := e
    exact ⟨a, xs, e1, h _ _ e2, RepK.le e3⟩
  | .ins c fs, _, e => by
    simp only [Rep] at e ⊢
    obtain ⟨a, dx, C, gs, e1, e2, e3, e4, e5⟩ := e
    exact ⟨a, dx, C, gs, e1, e2, h _ _ e3, h _ _ e4, RepF.le e5⟩
  | .err c fs, _, e => by
    simp only [Rep] at e ⊢
    obtain ⟨a, C, dO, e1, e2, e3, e4⟩ := e
    refine ⟨a, C, dO, e1, e2, h _ _ e3, fun dx z => ?_, e4.2⟩
    obtain ⟨gs, f1, f2⟩ := e4.1 dx z
    exact ⟨gs, h _ _ f1, RepF.le f2⟩
theorem Reps.le : ∀ {ds : List D} {xs : List V}, Reps cl F ds xs → Reps cl F' ds xs
  | [], _, e => by simpa [Reps] using e
  | _ :: _, _, e => by
    simp only [Reps] at e ⊢
    obtain ⟨y, ys, e1, e2, e3⟩ := e
    exact ⟨y, ys, e1, Rep.le e2, Reps.le e3⟩
theorem RepK.le : ∀ {ds : List (Key × D)} {xs : List (Key × V)}, RepK cl F ds xs → RepK cl F' ds xs
  | [], _, e => by simpa [RepK] using e
  | (_, _) :: _, _, e => by
    simp only [RepK] at e ⊢
    obtain ⟨y, ys, e1, e2, e3⟩ := e
    exact ⟨y, ys, e1, Rep.le e2, RepK.le e3⟩
theorem RepF.le : ∀ {ds : List (Str × D)} {xs : List (Str × V)}, RepF cl F ds xs → RepF cl F' ds xs
  | [], _, e => by simpa [RepF] using e
  | (_, _) :: _, _, e => by
    simp only [RepF] at e ⊢
    obtain ⟨y, ys, e1, e2, e3⟩ := e
    exact ⟨y, ys, e1, Rep.le e2, RepF.le e3⟩
end
end
end DL

set_option Elab.async false
set_option linter.all false
set_option maxRecDepth 100000
set_option maxHeartbeats 2000000
namespace DL
open PySem PySem.Spec L2

/-! ### a body's state -/
/-- what is fixed while a def's body runs: class names, the heap at entry, the spring's two objects, what may change of what stood before -/
structure FC where
  cl : Str → Option Addr
  H0 : Hp
  F0 : Hp
  st : Option (Addr × Addr)
  chg : List Addr
  xc : Option (Addr × Value × Option Addr) := none
  dx : Option Addr := none
/-- an exception's dict: none if it has no field -/
def XD (cl : Str → Option Addr) (F : Hp) (fs : List (Str × D)) : Option Addr → Prop
  | none => fs = []
  | some dd => ∃ gs, F dd = some (.xd gs) ∧ RepF cl F fs gs
theorem XD.le {cl : Str → Option Addr} {F F' : Hp} {fs : List (Str × D)} {d : Option Addr} (l : Le F F') (h : XD cl F fs d) : XD cl F' fs d := by
  cases d with
  | none => exact h
  | some dd =>
    obtain ⟨gs, e, r⟩ := h
    exact ⟨gs, l _ _ e, RepF.le l r⟩
structure Wd where
  F : Hp
  lk : List (Addr × Obj)
  sl : Sl
  z : Z
def StrmR (H : Hp) (sa la : Addr) (z : Z) : Prop :=
  H sa = some (.lst [.ref la, .int z.rest, .int z.count, .int z.mix]) ∧ H la = some (.lst (z.cells.map V.int))
def OwnR (cl : Str → Option Addr) (F H : Hp) (a : Addr) : D → Prop
  | .lst ds => ∃ xs, H a = some (.lst xs) ∧ Reps cl F ds xs
  | .dic kvs => ∃ xs, H a = some (.dK xs) ∧ RepK cl F kvs xs
  | _ => False
def isD (u : HO) : Prop := ∃ kvs, u = .dK kvs
/-- what stands: just so, or (a dict) under the lock of a loop -/
def Std (H : Hp) (a : Addr) (u : HO) : Prop := H a = some u ∨ (isD u ∧ ∃ o, H a = some (.frz o u))
theorem Std.rd {H : Hp} {a : Addr} {u : HO} (h : Std H a u) : Rd H a u := by
  rcases h with h | ⟨_, o, h⟩
  · exact .inl h
  · exact .inr ⟨o, h⟩
theorem Std.lst {H : Hp} {a : Addr} {xs : List V} (h : Std H a (.lst xs)) : H a = some (.lst xs) := by
  rcases h with h | ⟨⟨_, e⟩, _⟩
  · exact h
  · cases e
theorem Std.tup {H : Hp} {a : Addr} {xs : List V} (h : Std H a (.tup xs)) : H a = some (.tup xs) := by
  rcases h with h | ⟨⟨_, e⟩, _⟩
  · exact h
  · cases e
theorem Std.ins {H : Hp} {a C dx : Addr} {fs : List (Str × V)} (h : Std H a (.ins C dx fs)) : H a = some (.ins C dx fs) := by
  rcases h with h | ⟨⟨_, e⟩, _⟩
  · exact h
  · cases e
/-- data that can be read now: its outermost object may be one that changes later -/
def RepT (c : FC) (F H : Hp) : D → V → Prop
  | .lst ds, v => ∃ a xs, v = .ref a ∧ H a = some (.lst xs) ∧ a ∉ c.chg ∧ Reps c.cl F ds xs
  | .tup ds, v => ∃ a xs, v = .ref a ∧ (H a = some (.tup xs) ∧ F a = some (.tup xs)) ∧ a ∉ c.chg ∧ Reps c.cl F ds xs
  | .dic kvs, v => ∃ a xs, v = .ref a ∧ Rd H a (.dK xs) ∧ a ∉ c.chg ∧ RepK c.cl F kvs xs
  | d, v => Rep c.cl F d v
def SlotR (c : FC) (w : Wd) (σ : St) (H : Hp) (i : Nat) : Slot → Prop
  | .none => True
  | .sh d => ∃ v, σ[i]? = some (some v) ∧ Rep c.cl w.F d v
  | .own d => ∃ a, σ[i]? = some (some (.ref a)) ∧ OwnR c.cl w.F H a d ∧ w.F a = none ∧ c.H0 a = none ∧ a ∉ c.chg
  | .strm => ∃ sa la, c.st = some (sa, la) ∧ σ[i]? = some (some (.ref sa))
  | .slf cn fs => ∃ a dx C gs, σ[i]? = some (some (.ref a)) ∧ c.cl cn = some C ∧ c.chg = [a] ∧ H a = some (.ins C dx gs) ∧ H dx = some (.own a) ∧ RepF c.cl w.F fs gs ∧ w.F dx = none ∧ gs.length < 900 ∧ c.dx = some dx
  | .xcp cn fs => ∃ a C dd, σ[i]? = some (some (.ref a)) ∧ c.xc = some (a, .ref C, dd) ∧ c.cl cn = some C ∧ XD c.cl w.F fs dd
def OwnS (sl : Sl) (i : Nat) : Prop := ∃ d, sl[i]? = some (.own d)
structure SR (c : FC) (w : Wd) (σ : St) (H : Hp) : Prop where
  sub : ∀ a u, w.F a = some u → Std H a u
  keep : ∀ a o, c.H0 a = some o → a ∉ c.chg → (H a = some o) ∨ (∃ ob, (a, ob) ∈ w.lk ∧ H a = some (.frz ob o))
  slots : ∀ i s, w.sl[i]? = some s → SlotR c w σ H i s
  dist : ∀ i j a, i ≠ j → OwnS w.sl i → OwnS w.sl j → σ[i]? = some (some (.ref a)) → σ[j]? = some (some (.ref a)) → False
  fmut : ∀ a, a ∈ c.chg → w.F a = none
  chgd : ∀ a, a ∈ c.chg → ∃ o, H a = some o
  strm : ∀ sa la, c.st = some (sa, la) → StrmR H sa la w.z ∧ c.chg = [sa, la]
  fz0 : ∀ a o, c.H0 a = some o → c.F0 a = none → w.F a = none
  len : w.sl.length = σ.length
  lkd : ∀ p ∈ w.lk, ∃ u, w.F p.1 = some u ∧ isD u ∧ H p.1 = some (.frz p.2 u)
  lks : ∀ a u o, w.F a = some u → isD u → H a = some (.frz o u) → (a, o) ∈ w.lk
def KeepH (c : FC) (H H' : Hp) : Prop := ∀ a o, H a = some o → a ∉ c.chg → H' a = some o
structure Step (c : FC) (σ : St) (w : Wd) (H : Hp) (w' : Wd) (H' : Hp) : Prop where
  sr : SR c w' σ H'
  le : Le w.F w'.F
  keep : KeepH c H H'
  lk : w'.lk = w.lk
  sl : w'.sl = w.sl
  fz : ∀ a o, H a = some o → w.F a = none → w'.F a = none
  all : c.st = none → ∀ a o, H a = some o → H' a = some o
theorem Step.refl {c : FC} {σ : St} {w : Wd} {H : Hp} (s : SR c w σ H) : Step c σ w H w H := ⟨s, Le.refl _, fun _ _ h _ => h, rfl, rfl, fun _ _ _ h => h, fun _ _ _ h => h⟩
theorem Step.trans {c : FC} {σ : St} {w w1 w2 : Wd} {H H1 H2 : Hp} (a : Step c σ w H w1 H1) (b : Step c σ w1 H1 w2 H2) : Step c σ w H w2 H2 :=
  ⟨b.sr, a.le.trans b.le, fun x o h n => b.keep x o (a.keep x o h n) n, b.lk.trans a.lk, b.sl.trans a.sl, fun x o h n => by
    by_cases m : x ∈ c.chg
    · exact b.sr.fmut x m
    · exact b.fz x o (a.keep x o h m) (a.fz x o h n), fun e x o h => b.all e x o (a.all e x o h)⟩
theorem rd_keep {c : FC} {H H' : Hp} {a : Addr} {u : HO} (k : KeepH c H H') (n : a ∉ c.chg) (h : Rd H a u) : Rd H' a u := by
  rcases h with h | ⟨o, h⟩
  · exact .inl (k _ _ h n)
  · exact .inr ⟨o, k _ _ h n⟩
theorem std_keep {c : FC} {H H' : Hp} {a : Addr} {u : HO} (k : KeepH c H H') (n : a ∉ c.chg) (h : Std H a u) : Std H' a u := by
  rcases h with h | ⟨d, o, h⟩
  · exact .inl (k _ _ h n)
  · exact .inr ⟨d, o, k _ _ h n⟩
theorem RepT.keep {c : FC} {F F' H H' : Hp} {d : D} {v : V} (l : Le F F') (k : KeepH c H H') (h : RepT c F H d v) : RepT c F' H' d v := by
  cases d with
  | lst ds =>
    simp only [RepT] at h ⊢
    obtain ⟨a, xs, e, r, n, q⟩ := h
    exact ⟨a, xs, e, k _ _ r n, n, Reps.le l q⟩
  | tup ds =>
    simp only [RepT] at h ⊢
    obtain ⟨a, xs, e, r, n, q⟩ := h
    exact ⟨a, xs, e, ⟨k _ _ r.1 n, l _ _ r.2⟩, n, Reps.le l q⟩
  | dic ds =>
    simp only [RepT] at h ⊢
    obtain ⟨a, xs, e, r, n, q⟩ := h
    exact ⟨a, xs, e, rd_keep k n r, n, RepK.le l q⟩
  | _ => exact Rep.le l h
theorem SR.nomut {c : FC} {w : Wd} {σ : St} {H : Hp} (s : SR c w σ H) {a : Addr} {u : HO} (h : w.F a = some u) : a ∉ c.chg := fun m => by
  rw [s.fmut a m] at h
  cases h
theorem SR.view {c : FC} {w : Wd} {σ : St} {H : Hp} (s : SR c w σ H) {d : D} {v : V} (h : Rep c.cl w.F d v) : RepT c w.F H d v := by
  cases d with
  | lst ds =>
    simp only [RepT]
    simp only [Rep] at h
    obtain ⟨a, xs, e, r, q⟩ := h
    exact ⟨a, xs, e, (s.sub _ _ r).lst, s.nomut r, q⟩
  | tup ds =>
    simp only [RepT]
    simp only [Rep] at h
    obtain ⟨a, xs, e, r, q⟩ := h
    exact ⟨a, xs, e, ⟨(s.sub _ _ r).tup, r⟩, s.nomut r, q⟩
  | dic ds =>
    simp only [RepT]
    simp only [Rep] at h
    obtain ⟨a, xs, e, r, q⟩ := h
    exact ⟨a, xs, e, (s.sub _ _ r).rd, s.nomut r, q⟩
  | _ => exact h

/-! ### readings over data -/
def ErrW (c : FC) (W : WX) (σ : St) (w : Wd) (H : Hp) (cn : Str) (fs : List (Str × D)) (z' : Z) : Prop :=
  ∀ C dd H' w', c.cl cn = some C → Step c σ w H w' H' → w'.z = z' → XD c.cl w'.F fs dd → W (.ref C) dd σ H'
theorem ErrW.step {c : FC} {W : WX} {σ : St} {w w1 : Wd} {H H1 : Hp} {cn : Str} {fs : List (Str × D)} {z' : Z} (st : Step c σ w H w1 H1) (h : ErrW c W σ w H cn fs z') : ErrW c W σ w1 H1 cn fs z' :=
  fun C dd H' w' h1 h2 h3 h4 => h C dd H' w' h1 (st.trans h2) h3 h4
/-- what is wanted behind a computation of data -/
def Wnt {α : Type} (c : FC) (W : WX) (σ : St) (w : Wd) (H : Hp) (R : Wd → Hp → α → Prop) : ER α → Prop
  | .ok a z' => ∀ H' w', Step c σ w H w' H' → w'.z = z' → R w' H' a
  | .exc cn fs z' => ErrW c W σ w H cn fs z'
  | .bad => False
def tF (c : FC) (W : WX) (m : M D) : TE := fun σ H Q => ∃ w, SR c w σ H ∧ Wnt c W σ w H (fun w' H' d => ∀ v, Rep c.cl w'.F d v → Q v H') (m w.sl w.z)
def tV (c : FC) (W : WX) (m : M D) : TE := fun σ H Q => ∃ w, SR c w σ H ∧ Wnt c W σ w H (fun w' H' d => ∀ v, RepT c w'.F H' d v → Q v H') (m w.sl w.z)
def tT (c : FC) (W : WX) (m : M Bool) : TT := fun σ H Q => ∃ w, SR c w σ H ∧ Wnt c W σ w H (fun w' H' d => Q d H') (m w.sl w.z)
def RepTs (c : FC) (F H : Hp) : List D → List V → Prop
  | [], xs => xs = []
  | d :: ds, xs => ∃ y ys, xs = y :: ys ∧ RepT c F H d y ∧ RepTs c F H ds ys
theorem RepTs.keep {c : FC} {F F' H H' : Hp} (l : Le F F') (k : KeepH c H H') : ∀ {ds : List D} {xs : List V}, RepTs c F H ds xs → RepTs c F' H' ds xs
  | [], _, h => h
  | _ :: _, _, ⟨y, ys, e, a, b⟩ => ⟨y, ys, e, RepT.keep l k a, RepTs.keep l k b⟩
def tAF (c : FC) (W : WX) (m : M (List D)) : TA := fun σ H Q => ∃ w, SR c w σ H ∧ Wnt c W σ w H (fun w' H' ds => ∀ vs, Reps c.cl w'.F ds vs → Q vs H') (m w.sl w.z)
def tAV (c : FC) (W : WX) (m : M (List D)) : TA := fun σ H Q => ∃ w, SR c w σ H ∧ Wnt c W σ w H (fun w' H' ds => ∀ vs, RepTs c w'.F H' ds vs → Q vs H') (m w.sl w.z)
theorem Wnt.step {α : Type} {c : FC} {W : WX} {σ : St} {w w1 : Wd} {H H1 : Hp} {R : Wd → Hp → α → Prop} {e : ER α} (st : Step c σ w H w1 H1) (h : Wnt c W σ w H R e) : Wnt c W σ w1 H1 R e := by
  cases e with
  | ok a z => exact fun H' w' s e => h H' w' (st.trans s) e
  | exc cn fs z => exact ErrW.step st h
  | bad => exact h
theorem Wnt.imp {α : Type} {c : FC} {W : WX} {σ : St} {w : Wd} {H : Hp} {R R' : Wd → Hp → α → Prop} {e : ER α} (h : Wnt c W σ w H R e) (q : ∀ w' H' a, Step c σ w H w' H' → R w' H' a → R' w' H' a) : Wnt c W σ w H R' e := by
  cases e with
  | ok a z => exact fun H' w' s e => q _ _ _ s (h H' w' s e)
  | exc cn fs z => exact h
  | bad => exact h
/-- one computation behind another -/
theorem Wnt.bind {α β : Type} {c : FC} {W : WX} {σ : St} {w : Wd} {H : Hp} {R : Wd → Hp → β → Prop} {e : ER α} {f : α → Z → ER β} (h : Wnt c W σ w H R (e.bind f)) :
    Wnt c W σ w H (fun w' H' a => Wnt c W σ w' H' R (f a w'.z)) e := by
  cases e with
  | ok a z =>
    intro H' w' s e
    subst e
    exact Wnt.step s h
  | exc cn fs z => exact h
  | bad => exact h
theorem pe_imp {X : Cx} {e : Expr} {t t' : TE} (h : PE X e t) (q : ∀ σ H Q, t' σ H Q → t σ H Q) : PE X e t' := ⟨fun pins s σ H Q I hw => h.run pins s σ H Q I (q _ _ _ hw)⟩
theorem pt_imp {X : Cx} {e : Expr} {t t' : TT} (h : PT X e t) (q : ∀ σ H Q, t' σ H Q → t σ H Q) : PT X e t' := ⟨fun pins s σ H Q I hw => h.run pins s σ H Q I (q _ _ _ hw)⟩
theorem pa_imp {X : Cx} {e : List Expr} {t t' : TA} (h : PA X e t) (q : ∀ σ H Q, t' σ H Q → t σ H Q) : PA X e t' := ⟨fun pos pins s σ H Q I hw => h.run pos pins s σ H Q I (q _ _ _ hw)⟩
theorem ps_imp {X : Cx} {e : Stmt} {t t' : TS} (h : PS X e t) (q : ∀ D σ H, t' D σ H → t D σ H) : PS X e t' := ⟨fun pins s σ H D I hw => h.run pins s σ H D I (q _ _ _ hw)⟩
theorem pss_imp {X : Cx} {e : List Stmt} {t t' : TS} (h : PSs X e t) (q : ∀ D σ H, t' D σ H → t D σ H) : PSs X e t' := ⟨fun pins s σ H D I hw => h.run pins s σ H D I (q _ _ _ hw)⟩
section
variable {X : Cx} {c : FC} {W : WX} {e : Expr} {m : M D} {pos : Pos}
theorem dv (h : PE X e (tF c W m)) : PE X e (tV c W m) := pe_imp h fun σ H Q ⟨w, s, q⟩ => ⟨w, s, q.imp fun w' H' a st k v r => k v (st.sr.view r)⟩
/-! ### names, constants -/
def mC (d : D) : M D := fun _ z => .ok d z
/-- a frozen name -/
def mVar (i : Nat) : M D := fun s z => match s[i]? with
  | some (.sh d) => .ok d z
  | _ => .bad
/-- a name, looked at -/
def mView (i : Nat) : M D := fun s z => match s[i]? with
  | some (.sh d) => .ok d z
  | some (.own d) => .ok d z
  | _ => .bad
theorem SR.var {w : Wd} {σ : St} {H : Hp} (s : SR c w σ H) {i : Nat} {d : D} (h : w.sl[i]? = some (.sh d)) : ∃ v, σ[i]? = some (some v) ∧ Rep c.cl w.F d v := s.slots i _ h
theorem SR.own {w : Wd} {σ : St} {H : Hp} (s : SR c w σ H) {i : Nat} {d : D} (h : w.sl[i]? = some (.own d)) : ∃ v, σ[i]? = some (some v) ∧ RepT c w.F H d v := by
  obtain ⟨a, e, o, f, h0, m⟩ := s.slots i _ h
  refine ⟨_, e, ?_⟩
  cases d with
  | lst ds =>
    obtain ⟨xs, h1, h2⟩ := o
    exact ⟨a, xs, rfl, h1, m, h2⟩
  | dic ds =>
    obtain ⟨xs, h1, h2⟩ := o
    exact ⟨a, xs, rfl, .inl h1, m, h2⟩
  | _ => exact False.elim o
theorem df_var {i : Nat} {x : Str} (h : PE X (.Name x pos) (tVar i)) : PE X (.Name x pos) (tF c W (mVar i)) := pe_imp h fun σ H Q ⟨w, s, q⟩ => by
  cases e : w.sl[i]? with
  | none => rw [mVar, e] at q; exact False.elim q
  | some sl =>
    cases sl with
    | sh d =>
      rw [mVar, e] at q
      obtain ⟨v, e1, r⟩ := s.var e
      exact ⟨v, e1, q H w (Step.refl s) rfl v r⟩
    | _ => rw [mVar, e] at q; exact False.elim q
theorem dv_var {i : Nat} {x : Str} (h : PE X (.Name x pos) (tVar i)) : PE X (.Name x pos) (tV c W (mView i)) := pe_imp h fun σ H Q ⟨w, s, q⟩ => by
  cases e : w.sl[i]? with
  | none => rw [mView, e] at q; exact False.elim q
  | some sl =>
    cases sl with
    | sh d =>
      rw [mView, e] at q
      obtain ⟨v, e1, r⟩ := s.var e
      exact ⟨v, e1, q H w (Step.refl s) rfl v (s.view r)⟩
    | own d =>
      rw [mView, e] at q
      obtain ⟨v, e1, r⟩ := s.own e
      exact ⟨v, e1, q H w (Step.refl s) rfl v r⟩
    | _ => rw [mView, e] at q; exact False.elim q
theorem df_c {v : V} {d : D} (h : PE X e (tC v)) (r : ∀ F, Rep c.cl F d v) : PE X e (tF c W (mC d)) := pe_imp h fun σ H Q ⟨w, s, q⟩ => q H w (Step.refl s) rfl v (r _)
theorem df_int {i j} : PE X (.Constant (.int i) j pos) (tF c W (mC (.int i))) := df_c pe_int fun _ => by simp [Rep]
theorem df_bl {b j} : PE X (.Constant (.bool b) j pos) (tF c W (mC (.bl b))) := df_c pe_bl fun _ => by simp [Rep]
theorem df_non {j} : PE X (.Constant .none j pos) (tF c W (mC .non)) := df_c pe_non fun _ => by simp [Rep]
theorem df_str {x j} : PE X (.Constant (.str x) j pos) (tF c W (mC (.str x))) := df_c pe_str fun _ => by simp [Rep]
end
end DL

set_option Elab.async false
set_option linter.all false
set_option maxRecDepth 100000
set_option maxHeartbeats 2000000
namespace DL
open PySem PySem.Spec L2

/-! ### the heaps grow -/
structure Gr (c : FC) (F H F' H' : Hp) (z' : Z) : Prop where
  keep : KeepH c H H'
  all : c.st = none → ∀ a o, H a = some o → H' a = some o
  le : Le F F'
  new : ∀ a u, F' a = some u → F a = some u ∨ (H a = none ∧ H' a = some u)
  strm : ∀ sa la, c.st = some (sa, la) → StrmR H' sa la z'
theorem rd_some {H : Hp} {a : Addr} {u : HO} (h : Rd H a u) : ∃ o, H a = some o := by
  rcases h with h | ⟨o, h⟩
  · exact ⟨_, h⟩
  · exact ⟨_, h⟩
theorem OwnR.le {cl : Str → Option Addr} {F F' H H' : Hp} {a : Addr} {d : D} (l : Le F F') (k : ∀ o, H a = some o → H' a = some o) (h : OwnR cl F H a d) : OwnR cl F' H' a d := by
  cases d with
  | lst ds =>
    obtain ⟨xs, h1, h2⟩ := h
    exact ⟨xs, k _ h1, Reps.le l h2⟩
  | dic ds =>
    obtain ⟨xs, h1, h2⟩ := h
    exact ⟨xs, k _ h1, RepK.le l h2⟩
  | _ => exact h
theorem OwnR.some {cl : Str → Option Addr} {F H : Hp} {a : Addr} {d : D} (h : OwnR cl F H a d) : ∃ o, H a = some o := by
  cases d with
  | lst ds => obtain ⟨xs, h1, _⟩ := h; exact ⟨_, h1⟩
  | dic ds => obtain ⟨xs, h1, _⟩ := h; exact ⟨_, h1⟩
  | _ => exact False.elim h
theorem SR.fnone {c : FC} {w : Wd} {σ : L2.St} {H : Hp} (s : SR c w σ H) {a : Addr} (h : H a = none) : w.F a = none := by
  cases e : w.F a with
  | none => rfl
  | some u =>
    obtain ⟨o, q⟩ := rd_some (s.sub _ _ e).rd
    rw [h] at q
    cases q
theorem SR.grow {c : FC} {w : Wd} {σ : L2.St} {H F' H' : Hp} {z' : Z} (s : SR c w σ H) (g : Gr c w.F H F' H' z') : SR c { w with F := F', z := z' } σ H' where
  sub := fun a u h => by
    rcases g.new a u h with q | ⟨_, q⟩
    · exact std_keep g.keep (s.nomut q) (s.sub _ _ q)
    · exact .inl q
  keep := fun a o h n => by
    rcases s.keep a o h n with q | ⟨ob, l, q⟩
    · exact .inl (g.keep _ _ q n)
    · exact .inr ⟨ob, l, g.keep _ _ q n⟩
  slots := fun i sl h => by
    have q := s.slots i sl h
    cases sl with
    | none => trivial
    | sh d =>
      obtain ⟨v, e, r⟩ := q
      exact ⟨v, e, Rep.le g.le r⟩
    | own d =>
      obtain ⟨a, e, o, f, h0, m⟩ := q
      refine ⟨a, e, OwnR.le g.le (fun o h => g.keep _ _ h m) o, ?_, h0, m⟩
      show F' a = none
      cases e2 : F' a with
      | none => rfl
      | some u =>
        rcases g.new a u e2 with q | ⟨q, _⟩
        · rw [f] at q; cases q
        · obtain ⟨o', q'⟩ := o.some
          rw [q] at q'; cases q'
    | strm => exact q
    | slf cn fs =>
      obtain ⟨a, dx, C, gs, e, e1, e2, e3, e4, e5, e6, e7⟩ := q
      have st : c.st = none := by
        cases e : c.st with
        | none => rfl
        | some p =>
          have z := (s.strm p.1 p.2 e).2
          rw [e2] at z
          cases z
      refine ⟨a, dx, C, gs, e, e1, e2, g.all st _ _ e3, g.all st _ _ e4, RepF.le g.le e5, ?_, e7⟩
      show F' dx = none
      cases q2 : F' dx with
      | none => rfl
      | some u =>
        rcases g.new dx u q2 with q | ⟨q, _⟩
        · rw [e6] at q; cases q
        · rw [e4] at q; cases q
    | xcp cn fs =>
      obtain ⟨a, C, dd, e1, e2, e3, e4⟩ := q
      exact ⟨a, C, dd, e1, e2, e3, e4.le g.le⟩
  dist := s.dist
  fmut := fun a m => by
    show F' a = none
    cases e : F' a with
    | none => rfl
    | some u =>
      rcases g.new a u e with q | ⟨q, _⟩
      · rw [s.fmut a m] at q; cases q
      · obtain ⟨o, h⟩ := s.chgd a m
        rw [h] at q
        cases q
  chgd := fun a m => by
    cases e2 : c.st with
    | some p =>
      have h3 := (s.strm p.1 p.2 e2).2
      obtain ⟨h1, h2⟩ := g.strm p.1 p.2 e2
      rw [h3] at m
      rcases List.mem_cons.mp m with z | z
      · exact ⟨_, by rw [z]; exact h1⟩
      · exact ⟨_, by rw [List.mem_singleton.mp z]; exact h2⟩
    | none =>
      obtain ⟨o, h⟩ := s.chgd a m
      exact ⟨o, g.all e2 _ _ h⟩
  strm := fun sa la h => ⟨g.strm sa la h, (s.strm sa la h).2⟩
  fz0 := fun a o h n => by
    show F' a = none
    cases e : F' a with
    | none => rfl
    | some u =>
      rcases g.new a u e with q | ⟨q, _⟩
      · rw [s.fz0 a o h n] at q; cases q
      · by_cases m : a ∈ c.chg
        · obtain ⟨o', q'⟩ := s.chgd a m
          rw [q] at q'; cases q'
        · rcases s.keep a o h m with q' | ⟨ob, _, q'⟩
          · rw [q] at q'; cases q'
          · rw [q] at q'; cases q'
  len := s.len
  lkd := fun p hp => by
    obtain ⟨u, e1, e2, e3⟩ := s.lkd p hp
    exact ⟨u, g.le _ _ e1, e2, g.keep _ _ e3 (s.nomut e1)⟩
  lks := fun a u o h d e => by
    rcases g.new a u h with q | ⟨_, q⟩
    · obtain ⟨o', q'⟩ := rd_some (s.sub _ _ q).rd
      have q2 := g.keep _ _ q' (s.nomut q)
      rw [e] at q2
      cases q2
      exact s.lks a u o q d q'
    · rw [e] at q
      obtain ⟨kvs, rfl⟩ := d
      cases q
theorem SR.step {c : FC} {w : Wd} {σ : L2.St} {H F' H' : Hp} {z' : Z} (s : SR c w σ H) (g : Gr c w.F H F' H' z') : Step c σ w H { w with F := F', z := z' } H' := ⟨s.grow g, g.le, g.keep, rfl, rfl, fun a o h n => by
  show F' a = none
  cases e : F' a with
  | none => rfl
  | some u =>
    rcases g.new a u e with q | ⟨q, _⟩
    · (rw [n] at q; cases q)
    · (rw [q] at h; cases h), g.all⟩

/-- a new object, frozen at once -/
theorem SR.gr_new {c : FC} {w : Wd} {σ : L2.St} {H : Hp} (s : SR c w σ H) {p : Addr} (o : HO) (hp : H p = none) : Gr c w.F H (upd w.F p o) (upd H p o) w.z where
  keep := fun a u h _ => by rw [upd_ne (ne_of_none h hp)]; exact h
  all := fun _ a u h => by rw [upd_ne (ne_of_none h hp)]; exact h
  le := fun a u h => by rw [upd_ne (ne_of_none h (s.fnone hp))]; exact h
  new := fun a u h => by
    by_cases e : a = p
    · subst e
      rw [upd_same] at h
      exact .inr ⟨hp, by rw [upd_same]; exact h⟩
    · rw [upd_ne e] at h
      exact .inl h
  strm := fun sa la h => by
    obtain ⟨⟨h1, h2⟩, _⟩ := s.strm sa la h
    exact ⟨by rw [upd_ne (ne_of_none h1 hp)]; exact h1, by rw [upd_ne (ne_of_none h2 hp)]; exact h2⟩
theorem SR.fresh {c : FC} {w : Wd} {σ : L2.St} {H : Hp} (s : SR c w σ H) {p : Addr} (o : HO) (hp : H p = none) : Step c σ w H { w with F := upd w.F p o } (upd H p o) := s.step (s.gr_new o hp)
/-- a new object, tracked only -/
theorem SR.gr_track {c : FC} {w : Wd} {σ : L2.St} {H : Hp} (s : SR c w σ H) {p : Addr} (o : HO) (hp : H p = none) : Gr c w.F H w.F (upd H p o) w.z where
  keep := fun a u h _ => by rw [upd_ne (ne_of_none h hp)]; exact h
  all := fun _ a u h => by rw [upd_ne (ne_of_none h hp)]; exact h
  le := Le.refl _
  new := fun a u h => .inl h
  strm := fun sa la h => by
    obtain ⟨⟨h1, h2⟩, _⟩ := s.strm sa la h
    exact ⟨by rw [upd_ne (ne_of_none h1 hp)]; exact h1, by rw [upd_ne (ne_of_none h2 hp)]; exact h2⟩
theorem SR.track {c : FC} {w : Wd} {σ : L2.St} {H : Hp} (s : SR c w σ H) {p : Addr} (o : HO) (hp : H p = none) : Step c σ w H w (upd H p o) := s.step (s.gr_track o hp)

/-! ### a piece of data that an operation hands back -/
/-- what new object is a piece of data, its parts being frozen -/
def NewR (cl : Str → Option Addr) (F : Hp) : D → HO → Prop
  | .lst ds, o => ∃ xs, o = .lst xs ∧ Reps cl F ds xs
  | .tup ds, o => ∃ xs, o = .tup xs ∧ Reps cl F ds xs
  | .dic kvs, o => ∃ xs, o = .dK xs ∧ RepK cl F kvs xs
  | _, _ => False
theorem NewR.le {cl : Str → Option Addr} {F F' : Hp} {d : D} {o : HO} (l : Le F F') (h : NewR cl F d o) : NewR cl F' d o := by
  cases d <;> first
    | (obtain ⟨xs, e, r⟩ := h; exact ⟨xs, e, by first | exact Reps.le l r | exact RepK.le l r⟩)
    | exact h.elim
theorem NewR.rep {cl : Str → Option Addr} {F : Hp} {d : D} {o : HO} {p : Addr} (hp : F p = none) (h : NewR cl F d o) : Rep cl (upd F p o) d (.ref p) := by
  have l : Le F (upd F p o) := fun a u e => by rw [upd_ne (ne_of_none e hp)]; exact e
  cases d with
  | lst ds =>
    obtain ⟨xs, rfl, r⟩ := h
    exact ⟨p, xs, rfl, upd_same, Reps.le l r⟩
  | tup ds =>
    obtain ⟨xs, rfl, r⟩ := h
    exact ⟨p, xs, rfl, upd_same, Reps.le l r⟩
  | dic ds =>
    obtain ⟨xs, rfl, r⟩ := h
    exact ⟨p, xs, rfl, upd_same, RepK.le l r⟩
  | _ => exact False.elim h
/-- what is wanted of a piece of data that an operation hands back -/
def Wt (c : FC) (σ : L2.St) (w : Wd) (H : Hp) (d : D) (Q : VK) : Prop := ∀ v H' w', Step c σ w H w' H' → w'.z = w.z → Rep c.cl w'.F d v → Q v H'
theorem Wt.val {c : FC} {σ : L2.St} {w : Wd} {H : Hp} {d : D} {Q : VK} (h : Wt c σ w H d Q) (s : SR c w σ H) {v : V} (r : Rep c.cl w.F d v) : Q v H := h v H w (Step.refl s) rfl r
theorem Wt.new {c : FC} {σ : L2.St} {w : Wd} {H : Hp} {d : D} {Q : VK} (h : Wt c σ w H d Q) (s : SR c w σ H) {o : HO} (n : NewR c.cl w.F d o) : ∀ p, H p = none → Q (.ref p) (upd H p o) := fun p hp =>
  h _ _ _ (s.fresh o hp) rfl (n.rep (s.fnone hp))
theorem Wt.int {c : FC} {σ : L2.St} {w : Wd} {H : Hp} {i : Int} {Q : VK} (h : Wt c σ w H (.int i) Q) (s : SR c w σ H) : Q (.int i) H := h.val s (by simp [Rep])
theorem Wt.bl {c : FC} {σ : L2.St} {w : Wd} {H : Hp} {i : Bool} {Q : VK} (h : Wt c σ w H (.bl i) Q) (s : SR c w σ H) : Q (.bl i) H := h.val s (by simp [Rep])
theorem Wt.str {c : FC} {σ : L2.St} {w : Wd} {H : Hp} {i : Str} {Q : VK} (h : Wt c σ w H (.str i) Q) (s : SR c w σ H) : Q (.str i) H := h.val s (by simp [Rep])
theorem Wt.non {c : FC} {σ : L2.St} {w : Wd} {H : Hp} {Q : VK} (h : Wt c σ w H .non Q) (s : SR c w σ H) : Q .non H := h.val s (by simp [Rep])

/-! ### operations on two pieces of data -/
def R2D (c : FC) (g : D → D → Option D) : R2 := fun x y H Q => ∃ w σ dx dy d, SR c w σ H ∧ RepT c w.F H dx x ∧ RepT c w.F H dy y ∧ g dx dy = some d ∧ Wt c σ w H d Q
def mOp (g : D → D → Option D) (a b : M D) : M D := fun s z => (a s z).bind fun x z1 => (b s z1).bind fun y z2 => match g x y with
  | some d => .ok d z2
  | none => .bad
theorem wnt_op {c : FC} {W : WX} {σ : L2.St} {w : Wd} {H : Hp} {Q : VK} {e : Option D} (s : SR c w σ H) (h : Wnt c W σ w H (fun w' H' d => ∀ v, Rep c.cl w'.F d v → Q v H') (match e with | some d => .ok d w.z | none => .bad)) :
    ∃ d, e = some d ∧ Wt c σ w H d Q := by
  cases e with
  | none => exact False.elim h
  | some d => exact ⟨d, rfl, fun v H' w' st e r => h H' w' st e v r⟩
section
variable {X : Cx} {c : FC} {W : WX} {a b : Expr} {ma mb : M D} {pos : Pos} {g : D → D → Option D}
theorem op_to {σ : L2.St} {H : Hp} {Q : VK} (q : tF c W (mOp g ma mb) σ H Q) : tOp (R2D c g) (tV c W ma) (tV c W mb) σ H Q := by
  obtain ⟨w, s, q⟩ := q
  refine ⟨w, s, (Wnt.bind q).imp fun w1 H1 dx s1 q1 v1 r1 => ?_⟩
  have e1 : w1.sl = w.sl := s1.sl
  refine ⟨w1, s1.sr, ?_⟩
  rw [e1]
  refine (Wnt.bind q1).imp fun w2 H2 dy s2 q2 v2 r2 => ?_
  obtain ⟨d, e, q3⟩ := wnt_op s2.sr q2
  exact ⟨w2, σ, dx, dy, d, s2.sr, RepT.keep s2.le s2.keep r1, r2, e, q3⟩
theorem df_op {op : Operator} (ho : OpR X (binaryOp op) (R2D c g)) (ha : PE X a (tV c W ma)) (hb : PE X b (tV c W mb)) : PE X (.BinOp a op b pos) (tF c W (mOp g ma mb)) :=
  pe_imp (pe_op ho ha hb) fun _ _ _ q => op_to q
theorem df_cmp {op : CmpOp} (ho : OpR X (compareOp op) (R2D c g)) (ha : PE X a (tV c W ma)) (hb : PE X b (tV c W mb)) (hm : behindInMarks op b = false) : PE X (.Compare a [op] [b] pos) (tF c W (mOp g ma mb)) :=
  pe_imp (pe_cmpR ho ha hb hm) fun _ _ _ q => op_to q
theorem df_ix (ho : IxR X (R2D c g)) (ha : PE X a (tV c W ma)) (hb : PE X b (tV c W mb)) (hs : PlainIx b) : PE X (.Subscript a b pos) (tF c W (mOp g ma mb)) :=
  pe_imp (pe_ix ho ha hb hs) fun _ _ _ q => op_to q
end
theorem opR_imp {X : Cx} {f : Value → Value → Sem Value} {r r' : R2} (h : OpR X f r) (q : ∀ x y H Q, r' x y H Q → r x y H Q) : OpR X f r' := fun pins s σ H x y v u Q I rx ry hw => h pins s σ H x y v u Q I rx ry (q _ _ _ _ hw)
theorem ixR_imp {X : Cx} {r r' : R2} (h : IxR X r) (q : ∀ x y H Q, r' x y H Q → r x y H Q) : IxR X r' := fun value slice pins s σ H x y v u Q I rx ry hw hs => h value slice pins s σ H x y v u Q I rx ry (q _ _ _ _ hw) hs
end DL

set_option Elab.async false
set_option linter.all false
set_option maxRecDepth 100000
set_option maxHeartbeats 2000000
namespace DL
open PySem PySem.Spec L2

/-! ### lists of data and lists of values -/
theorem Reps.length {cl : Str → Option Addr} {F : Hp} : ∀ {ds : List D} {xs : List V}, Reps cl F ds xs → xs.length = ds.length
  | [], xs, h => by
    simp only [Reps] at h
    subst h
    rfl
  | d :: ds, xs, h => by
    simp only [Reps] at h
    obtain ⟨y, ys, rfl, _, h⟩ := h
    simp [Reps.length h]
theorem Reps.get {cl : Str → Option Addr} {F : Hp} : ∀ {ds : List D} {xs : List V} {i : Nat} {d : D}, Reps cl F ds xs → ds[i]? = some d → ∃ v, xs[i]? = some v ∧ Rep cl F d v
  | [], xs, i, d, h, e => by simp at e
  | d' :: ds, xs, 0, d, h, e => by
    simp only [Reps] at h
    obtain ⟨y, ys, rfl, r, h⟩ := h
    simp only [List.getElem?_cons_zero, Option.some.injEq] at e
    subst e
    exact ⟨y, by simp, r⟩
  | d' :: ds, xs, i + 1, d, h, e => by
    simp only [Reps] at h
    obtain ⟨y, ys, rfl, r, h⟩ := h
    obtain ⟨v, e1, r1⟩ := Reps.get h (i := i) (d := d) (by simpa using e)
    exact ⟨v, by simpa using e1, r1⟩
theorem Reps.append {cl : Str → Option Addr} {F : Hp} : ∀ {ds es : List D} {xs ys : List V}, Reps cl F ds xs → Reps cl F es ys → Reps cl F (ds ++ es) (xs ++ ys)
  | [], es, xs, ys, h, h' => by
    simp only [Reps] at h
    subst h
    simpa using h'
  | d :: ds, es, xs, ys, h, h' => by
    simp only [Reps] at h
    obtain ⟨y, zs, rfl, r, h⟩ := h
    simp only [List.cons_append, Reps]
    exact ⟨y, zs ++ ys, rfl, r, Reps.append h h'⟩
theorem Reps.drop {cl : Str → Option Addr} {F : Hp} : ∀ {ds : List D} {xs : List V} (n : Nat), Reps cl F ds xs → Reps cl F (ds.drop n) (xs.drop n)
  | _, _, 0, h => by simpa using h
  | [], xs, n + 1, h => by
    simp only [Reps] at h
    subst h
    simp [Reps]
  | d :: ds, xs, n + 1, h => by
    simp only [Reps] at h
    obtain ⟨y, ys, rfl, r, h⟩ := h
    simpa using Reps.drop n h
theorem Reps.take {cl : Str → Option Addr} {F : Hp} : ∀ {ds : List D} {xs : List V} (n : Nat), Reps cl F ds xs → Reps cl F (ds.take n) (xs.take n)
  | _, _, 0, h => by simp [Reps]
  | [], xs, n + 1, h => by
    simp only [Reps] at h
    subst h
    simp [Reps]
  | d :: ds, xs, n + 1, h => by
    simp only [Reps] at h
    obtain ⟨y, ys, rfl, r, h⟩ := h
    simp only [List.take_succ_cons, Reps]
    exact ⟨y, _, rfl, r, Reps.take n h⟩
theorem Reps.nil {cl : Str → Option Addr} {F : Hp} : Reps cl F [] [] := by simp [Reps]
theorem Reps.cons {cl : Str → Option Addr} {F : Hp} {d : D} {v : V} {ds : List D} {xs : List V} (a : Rep cl F d v) (b : Reps cl F ds xs) : Reps cl F (d :: ds) (v :: xs) := by
  simp only [Reps]
  exact ⟨v, xs, rfl, a, b⟩
theorem Reps.snoc {cl : Str → Option Addr} {F : Hp} {d : D} {v : V} {ds : List D} {xs : List V} (b : Reps cl F ds xs) (a : Rep cl F d v) : Reps cl F (ds ++ [d]) (xs ++ [v]) := b.append (.cons a .nil)
theorem Reps.atI {cl : Str → Option Addr} {F : Hp} {ds : List D} {xs : List V} {i : Int} {d : D} (h : Reps cl F ds xs) (e : atI ds i = some d) : ∃ v, L2.atI xs i = some v ∧ Rep cl F d v := by
  unfold L2.atI at e ⊢
  rw [h.length]
  cases q : ixN ds.length i with
  | none => rw [q] at e; cases e
  | some j =>
    rw [q] at e
    exact Reps.get h e
def getK {κ α : Type} [DecidableEq κ] (kvs : List (κ × α)) (k : κ) : Option α := (kvs.find? fun kv => decide (kv.1 = k)).map (·.2)
def setK {κ α : Type} [DecidableEq κ] (kvs : List (κ × α)) (k : κ) (d : α) : List (κ × α) := if (kvs.any fun kv => decide (kv.1 = k)) = true then kvs.map fun kv => if kv.1 = k then (kv.1, d) else kv else kvs ++ [(k, d)]
theorem RepK.length {cl : Str → Option Addr} {F : Hp} : ∀ {ds : List (Key × D)} {xs : List (Key × V)}, RepK cl F ds xs → xs.length = ds.length
  | [], xs, h => by
    simp only [RepK] at h
    subst h
    rfl
  | (k, d) :: ds, xs, h => by
    simp only [RepK] at h
    obtain ⟨y, ys, rfl, _, h⟩ := h
    simp [RepK.length h]
theorem RepK.get {cl : Str → Option Addr} {F : Hp} {k : Key} {d : D} : ∀ {ds : List (Key × D)} {xs : List (Key × V)}, RepK cl F ds xs → getK ds k = some d → ∃ v, valV xs k = some v ∧ Rep cl F d v
  | [], xs, h, e => by simp [getK] at e
  | (j, e) :: ds, xs, h, g => by
    simp only [RepK] at h
    obtain ⟨y, ys, rfl, r, h⟩ := h
    by_cases c : j = k
    · rw [valV_pos c]
      simp [getK, List.find?_cons, c] at g
      subst g
      exact ⟨_, rfl, r⟩
    · rw [valV_neg c]
      exact RepK.get h (by simpa [getK, List.find?_cons, c] using g)
theorem RepK.none {cl : Str → Option Addr} {F : Hp} {k : Key} : ∀ {ds : List (Key × D)} {xs : List (Key × V)}, RepK cl F ds xs → getK ds k = none → valV xs k = none
  | [], xs, h, e => by
    simp only [RepK] at h
    subst h
    rfl
  | (j, e) :: ds, xs, h, g => by
    simp only [RepK] at h
    obtain ⟨y, ys, rfl, r, h⟩ := h
    by_cases c : j = k
    · simp [getK, List.find?_cons, c] at g
    · rw [valV_neg c]
      exact RepK.none h (by simpa [getK, List.find?_cons, c] using g)
theorem RepK.isSome {cl : Str → Option Addr} {F : Hp} {k : Key} {ds : List (Key × D)} {xs : List (Key × V)} (h : RepK cl F ds xs) : (valV xs k).isSome = (getK ds k).isSome := by
  cases e : getK ds k with
  | none => rw [h.none e]; rfl
  | some d =>
    obtain ⟨v, q, _⟩ := h.get e
    rw [q] <;> rfl

/-! ### which keys, which lengths -/
def lim : Nat := 1000000
theorem lim_line {n : Nat} (h : n ≤ lim) : n ≤ sizeLine := by
  rw [sizeLine_eq]
  unfold lim at h
  omega
theorem lim_lt {n : Nat} (h : n < lim) : n < sizeLine := by
  rw [sizeLine_eq]
  unfold lim at h
  omega
def keyD : D → Option Key
  | .int i => some (.inl i)
  | .str x => some (.inr x)
  | _ => none
theorem keyD_rep {c : FC} {F H : Hp} {d : D} {k : Key} {v : V} (e : keyD d = some k) (r : RepT c F H d v) : v = kV k := by
  cases d with
  | int i => simp [keyD] at e; subst e; simpa [RepT, Rep, kV] using r
  | str i => simp [keyD] at e; subst e; simpa [RepT, Rep, kV] using r
  | _ => simp [keyD] at e

/-! ### the operations -/
def dIx : D → D → Option D
  | .lst ds, .int i => atI ds i
  | .tup ds, .int i => atI ds i
  | .str z, .int i => if z.length ≤ lim then (atI z.cps.toList i).map fun c => .str ⟨#[c]⟩ else none
  | .dic kvs, k => (keyD k).bind fun k => getK kvs k
  | _, _ => none
section
variable {X : Cx} {c : FC}
theorem sub_tail {prog : Program} {w : World} {A : Around} {E : Value → Shared → Prop} {s : Shared} {value slice : Expr} {T id : String} {o i : Value} {Q : Value → Shared → Prop}
    (hl : typeLookup (.type T) "__getitem__" = pure (some (.builtin id))) (hs : subscripted slice false o i = operate [o, i] (getItem o i)) (hT : s.TypeIs o T)
    (h : wpAny (model prog w) A (getItem o i) Q E s) : wpAny (model prog w) A (PyProof.Rows.subscriptTail value slice o i) Q E s := by
  unfold PyProof.Rows.subscriptTail
  refine wpAny_bind ?_
  rw [getitemInPython_of_ne hT.not_modules]
  refine wpAny_bind (wpAny_specialOf hT hl ?_)
  have last : wpAny (model prog w) A (subscripted slice false o i) (fun r s1 => wpAny (model prog w) A (letTemporaryGo value o r >>= fun _ => pure r) Q E s1) E s := by
    rw [hs]
    refine wpAny_operating (wpAny_mono h (fun r s1 h1 => ?_) fun _ _ x => x)
    exact wpAny_bind (wpAny_letTemporaryGo (wpAny_pure h1))
  first
    | exact wpAny_pure (wpAny_bind last)
    | exact wpAny_bind (wpAny_pure (wpAny_bind last))
    | exact wpAny_bind last
theorem ix_dict (hu : X.A.units + 1 < cLine) : IxR X (fun x y H Q => ∃ a v, x = .ref a ∧ DGet H a y (some v) ∧ Q v H) := by
  intro value slice pins s σ H x y v u Q I rx ry h hs
  obtain ⟨a, z, rfl, g, q⟩ := h
  obtain rfl : v = Value.ref a := rx
  exact sub_tail PySem.F.slot_dict_getitem.lookup hs (dict_typeIs I g) (d_getItem hu I g ry fun w' s3 I3 rw' => ⟨z, H, I3, rw', q⟩)
theorem ix_data (hu : X.A.units + 1 < cLine) : IxR X (R2D c dIx) := by
  refine ixR_imp ((ix_seq (X := X)).or (ix_dict hu)) fun x y H Q h => ?_
  obtain ⟨w, σ, dx, dy, d, s, rx, ry, e, q⟩ := h
  cases dx with
  | lst ds =>
    cases dy with
    | int i =>
      obtain ⟨a, xs, rfl, h1, _, h2⟩ := rx
      have ry : y = .int i := by simpa [RepT, Rep] using ry
      obtain ⟨v, e1, r⟩ := Reps.atI h2 e
      exact .inl (.inl ⟨a, xs, i, v, rfl, ry, SqL.of h1, e1, q.val s r⟩)
    | _ => simp [dIx] at e
  | tup ds =>
    cases dy with
    | int i =>
      obtain ⟨a, xs, rfl, h1, _, h2⟩ := rx
      have ry : y = .int i := by simpa [RepT, Rep] using ry
      obtain ⟨v, e1, r⟩ := Reps.atI h2 e
      exact .inl (.inr (.inl ⟨a, xs, i, v, rfl, ry, SqT.of h1.1, e1, q.val s r⟩))
    | _ => simp [dIx] at e
  | str z =>
    cases dy with
    | int i =>
      have rx : x = .str z := by simpa [RepT, Rep] using rx
      have ry : y = .int i := by simpa [RepT, Rep] using ry
      simp only [dIx] at e
      split at e
      · rename_i hl
        cases e1 : atI z.cps.toList i with
        | none => rw [e1] at e; simp at e
        | some k =>
          rw [e1] at e
          simp at e
          subst e
          exact .inl (.inr (.inr ⟨z, i, k, rx, ry, lim_line hl, e1, q.str s⟩))
      · cases e
    | _ => simp [dIx] at e
  | dic kvs =>
    obtain ⟨a, xs, rfl, h1, _, h2⟩ := rx
    simp only [dIx] at e
    cases ek : keyD dy with
    | none => rw [ek] at e; cases e
    | some k =>
      rw [ek] at e
      obtain ⟨v, e1, r⟩ := h2.get e
      exact .inr ⟨a, v, rfl, .inl ⟨xs, k, h1, keyD_rep ek ry, e1.symm⟩, q.val s r⟩
  | _ => simp [dIx] at e
end
end DL

set_option Elab.async false
set_option linter.all false
set_option maxRecDepth 100000
set_option maxHeartbeats 4000000
namespace DL
open PySem PySem.Spec L2
open PySem.SeqAt (EqAt RcAt EqP)

/-! ### == on data without dicts -/
def eqZ (f : D → D → Option Bool) : List D → List D → Option Bool
  | x :: xs, y :: ys => (f x y).bind fun a => (eqZ f xs ys).map fun b => a && b
  | _, _ => some true
def eqN : Nat → D → D → Option Bool
  | 0, _, _ => none
  | n + 1, d, e => match d, e with
    | .non, .non => some true
    | .non, .bl _ => some false
    | .non, .int _ => some false
    | .non, .str _ => some false
    | .non, .lst _ => some false
    | .non, .tup _ => some false
    | .bl _, .non => some false
    | .bl a, .bl b => some (a == b)
    | .bl a, .int b => some ((if a = true then 1 else 0) == b)
    | .bl _, .str _ => some false
    | .bl _, .lst _ => some false
    | .bl _, .tup _ => some false
    | .int _, .non => some false
    | .int a, .bl b => some (a == (if b = true then 1 else 0))
    | .int a, .int b => some (a == b)
    | .int _, .str _ => some false
    | .int _, .lst _ => some false
    | .int _, .tup _ => some false
    | .str _, .non => some false
    | .str _, .bl _ => some false
    | .str _, .int _ => some false
    | .str a, .str b => some (a == b)
    | .str _, .lst _ => some false
    | .str _, .tup _ => some false
    | .lst _, .non => some false
    | .lst _, .bl _ => some false
    | .lst _, .int _ => some false
    | .lst _, .str _ => some false
    | .lst _, .tup _ => some false
    | .lst xs, .lst ys => if xs.length = ys.length then eqZ (eqN n) xs ys else some false
    | .tup _, .non => some false
    | .tup _, .bl _ => some false
    | .tup _, .int _ => some false
    | .tup _, .str _ => some false
    | .tup _, .lst _ => some false
    | .tup xs, .tup ys => (eqZ (eqN n) xs ys).map fun b => b && (xs.length == ys.length)
    | _, _ => none
theorem eqZ_get {f : D → D → Option Bool} : ∀ {xs ys : List D} {b : Bool}, eqZ f xs ys = some b → ∀ (j : Nat) (x y : D), xs[j]? = some x → ys[j]? = some y → ∃ k, f x y = some k
  | [], _, _, _, j, x, y, h, _ => by simp at h
  | _ :: _, [], _, _, j, x, y, _, h => by simp at h
  | a :: xs, b :: ys, k, e, j, x, y, h1, h2 => by
    simp only [eqZ, Option.bind_eq_some_iff, Option.map_eq_some_iff] at e
    obtain ⟨k1, e1, k2, e2, _⟩ := e
    cases j with
    | zero =>
      simp only [List.getElem?_cons_zero, Option.some.injEq] at h1 h2
      subst h1 h2
      exact ⟨k1, e1⟩
    | succ j => exact eqZ_get e2 j x y (by simpa using h1) (by simpa using h2)
/-- the answer at the places -/
def ansZ (f : D → D → Option Bool) (xs ys : List D) (j : Nat) : Bool := match xs[j]?, ys[j]? with
  | some x, some y => (f x y).getD true
  | _, _ => true
theorem eqZ_all {f : D → D → Option Bool} : ∀ {xs ys : List D} {b : Bool}, eqZ f xs ys = some b → (List.range (min xs.length ys.length)).all (ansZ f xs ys) = b
  | [], _, _, e => by simp [eqZ] at e; subst e; simp
  | _ :: _, [], _, e => by simp [eqZ] at e; subst e; simp
  | x :: xs, y :: ys, b, e => by
    simp only [eqZ, Option.bind_eq_some_iff, Option.map_eq_some_iff] at e
    obtain ⟨k1, e1, k2, e2, e3⟩ := e
    have ih := eqZ_all e2
    have hm : min (x :: xs).length (y :: ys).length = min xs.length ys.length + 1 := by simp only [List.length_cons]; omega
    rw [hm, List.range_succ_eq_map, List.all_cons, List.all_map]
    have h0 : ansZ f (x :: xs) (y :: ys) 0 = k1 := by simp [ansZ, e1]
    have h1 : (ansZ f (x :: xs) (y :: ys) ∘ Nat.succ) = ansZ f xs ys := by
      funext j
      simp [ansZ]
    rw [h0, h1, ih, e3]
/-- one object, two readings: == is true -/
theorem rep_same {cl : Str → Option Addr} {F : Hp} : ∀ (n : Nat) {d e : D} {v : V} {b : Bool}, Rep cl F d v → Rep cl F e v → eqN n d e = some b → b = true := by
  intro n
  induction n with
  | zero => intro d e v b _ _ h; simp [eqN] at h
  | succ n ih =>
    have hz : ∀ {xs ys : List D} {vs : List V} {b : Bool}, Reps cl F xs vs → Reps cl F ys vs → eqZ (eqN n) xs ys = some b → b = true := by
      intro xs
      induction xs with
      | nil => intro ys vs b _ _ h; simp [eqZ] at h; exact h
      | cons x xs ihx =>
        intro ys vs b h1 h2 h
        cases ys with
        | nil => simp [eqZ] at h; exact h
        | cons y ys =>
          simp only [Reps] at h1 h2
          obtain ⟨z, zs, rfl, r1, h1⟩ := h1
          obtain ⟨z', zs', e, r2, h2⟩ := h2
          cases e
          simp only [eqZ, Option.bind_eq_some_iff, Option.map_eq_some_iff] at h
          obtain ⟨k1, e1, k2, e2, e3⟩ := h
          rw [ih r1 r2 e1, ihx h1 h2 e2] at e3
          exact e3.symm
    intro d e v b h1 h2 h
    cases d with
    | non =>
      have h1 : v = .non := by simpa [Rep] using h1
      subst h1
      cases e <;> first
        | (simpa [eqN] using h.symm; done)
        | (simp [eqN] at h; done)
        | (simp [Rep] at h2; done)
    | bl k =>
      have h1 : v = .bl k := by simpa [Rep] using h1
      subst h1
      cases e <;> first
        | (simp [eqN] at h; done)
        | (simp [Rep] at h2; done)
        | (simp [Rep] at h2; subst h2; simpa [eqN] using h.symm)
    | int k =>
      have h1 : v = .int k := by simpa [Rep] using h1
      subst h1
      cases e <;> first
        | (simp [eqN] at h; done)
        | (simp [Rep] at h2; done)
        | (simp [Rep] at h2; subst h2; simpa [eqN] using h.symm)
    | str k =>
      have h1 : v = .str k := by simpa [Rep] using h1
      subst h1
      cases e <;> first
        | (simp [eqN] at h; done)
        | (simp [Rep] at h2; done)
        | (simp [Rep] at h2; subst h2; simpa [eqN] using h.symm)
    | lst xs =>
      obtain ⟨a, us, rfl, e1, r1⟩ := h1
      cases e with
      | lst ys =>
        obtain ⟨a', us', q, e2, r2⟩ := h2
        cases q
        rw [e1] at e2
        cases e2
        have l1 := r1.length
        have l2 := r2.length
        simp only [eqN] at h
        rw [if_pos (by omega)] at h
        exact hz r1 r2 h
      | tup ys =>
        obtain ⟨a', us', q, e2, r2⟩ := h2
        cases q
        rw [e1] at e2
        cases e2
      | _ => first
        | (simp [eqN] at h; done)
        | (simp [Rep] at h2; done)
    | tup xs =>
      obtain ⟨a, us, rfl, e1, r1⟩ := h1
      cases e with
      | tup ys =>
        obtain ⟨a', us', q, e2, r2⟩ := h2
        cases q
        rw [e1] at e2
        cases e2
        have l1 := r1.length
        have l2 := r2.length
        simp only [eqN, Option.map_eq_some_iff] at h
        obtain ⟨k, h, rfl⟩ := h
        rw [hz r1 r2 h]
        have hl : xs.length = ys.length := by omega
        simp [hl]
      | lst ys =>
        obtain ⟨a', us', q, e2, r2⟩ := h2
        cases q
        rw [e1] at e2
        cases e2
      | _ => first
        | (simp [eqN] at h; done)
        | (simp [Rep] at h2; done)
    | _ => simp [eqN] at h

section
variable {X : Cx} {pins : List (Addr × Obj)} {σ0 : L2.St} {H : Hp} {s : Shared} {c : FC} {w : Wd} {σ : L2.St}
/-- the places of two lists of values, compared -/
theorem items_at {A : Around} {n : Nat} {F : Hp} {cl : Str → Option Addr} (ih : ∀ {d e : D} {x y : V} {v u : Value} {b : Bool}, Rep cl F d x → Rep cl F e y → RelV x v → RelV y u → eqN n d e = some b → EqAt A s v u b)
    {ds es : List D} {xs ys : List V} {us ws : List Value} {b : Bool} (h1 : Reps cl F ds xs) (h2 : Reps cl F es ys) (r1 : Vals xs us) (r2 : Vals ys ws) (e : eqZ (eqN n) ds es = some b) :
    ∀ j (j1 : j < us.toArray.size) (j2 : j < ws.toArray.size), EqAt A s us.toArray[j] ws.toArray[j] (ansZ (eqN n) ds es j) := by
  intro j j1 j2
  have j1' : j < us.length := by simpa using j1
  have j2' : j < ws.length := by simpa using j2
  have l1 := r1.length
  have l2 := r2.length
  have m1 := h1.length
  have m2 := h2.length
  obtain ⟨d, hd⟩ : ∃ d, ds[j]? = some d := ⟨ds[j]'(by omega), List.getElem?_eq_getElem _⟩
  obtain ⟨k, hk⟩ : ∃ k, es[j]? = some k := ⟨es[j]'(by omega), List.getElem?_eq_getElem _⟩
  obtain ⟨x, hx, rx⟩ := h1.get hd
  obtain ⟨y, hy, ry⟩ := h2.get hk
  obtain ⟨v, hv, rv⟩ := r1.get hx
  obtain ⟨u, hu, ru⟩ := r2.get hy
  obtain ⟨q, hq⟩ := eqZ_get e j d k hd hk
  have ev : us[j] = v := by
    rw [List.getElem?_eq_getElem j1'] at hv
    exact Option.some.inj hv
  have eu : ws[j] = u := by
    rw [List.getElem?_eq_getElem j2'] at hu
    exact Option.some.inj hu
  have ea : ansZ (eqN n) ds es j = q := by
    unfold ansZ
    rw [hd, hk]
    simp [hq]
  rw [ea]
  show EqAt A s us[j] ws[j] q
  rw [ev, eu]
  exact ih rx ry rv ru hq
theorem reps_same {cl : Str → Option Addr} {F : Hp} {n : Nat} : ∀ {ds es : List D} {vs : List V} {b : Bool}, Reps cl F ds vs → Reps cl F es vs → eqZ (eqN n) ds es = some b → b = true
  | [], es, vs, b, _, _, h => by simp [eqZ] at h; exact h
  | d :: ds, [], vs, b, _, _, h => by simp [eqZ] at h; exact h
  | d :: ds, e :: es, vs, b, h1, h2, h => by
    simp only [Reps] at h1 h2
    obtain ⟨z, zs, rfl, r1, h1⟩ := h1
    obtain ⟨z', zs', q, r2, h2⟩ := h2
    cases q
    simp only [eqZ, Option.bind_eq_some_iff, Option.map_eq_some_iff] at h
    obtain ⟨k1, e1, k2, e2, e3⟩ := h
    rw [rep_same n r1 r2 e1, reps_same h1 h2 e2] at e3
    exact e3.symm
/-- two lists -/
theorem lists_at (I : Inv X pins σ0 H s) {A : Around} {n : Nat} {F : Hp} {cl : Str → Option Addr} (hu : A.units < cLine) (ih : ∀ {d e : D} {x y : V} {v u : Value} {b : Bool}, Rep cl F d x → Rep cl F e y → RelV x v → RelV y u → eqN n d e = some b → EqAt A.in1 s v u b)
    {ds es : List D} {xs ys : List V} {a a' : Addr} {b : Bool} (e1 : H a = some (.lst xs)) (e2 : H a' = some (.lst ys)) (h1 : Reps cl F ds xs) (h2 : Reps cl F es ys) (e : (if ds.length = es.length then eqZ (eqN n) ds es else some false) = some b) :
    EqAt A s (.ref a) (.ref a') b := by
  have l1 := h1.length
  have l2 := h2.length
  by_cases ha : a = a'
  · subst ha
    rw [e1] at e2
    cases e2
    rw [if_pos (by omega)] at e
    rw [reps_same h1 h2 e]
    exact EqAt.same _
  · obtain ⟨us, r1, p1, _⟩ := I.list (SqL.of (K := X.K) e1)
    obtain ⟨ws, r2, p2, _⟩ := I.list (SqL.of (K := X.K) e2)
    have m1 := r1.length
    have m2 := r2.length
    by_cases hl : ds.length = es.length
    · rw [if_pos hl] at e
      have hsz : us.toArray.size = ws.toArray.size := by simp only [List.size_toArray]; omega
      have z := eqZ_all e
      have hm : min ds.length es.length = us.toArray.size := by simp only [List.size_toArray]; omega
      rw [hm] at z
      rw [← z]
      exact EqAt.of_refs ha (RcAt.lists p1.isList p2.isList hsz hu (items_at ih h1 h2 r1 r2 e))
    · rw [if_neg hl] at e
      cases e
      exact EqAt.of_refs ha (RcAt.lists_lengths p1.isList p2.isList (by simp only [List.size_toArray, bne_iff_ne, ne_eq]; omega) hu)
theorem tups_at (I : Inv X pins σ0 H s) {A : Around} {n : Nat} {F : Hp} {cl : Str → Option Addr} (hu : A.units < cLine) (ih : ∀ {d e : D} {x y : V} {v u : Value} {b : Bool}, Rep cl F d x → Rep cl F e y → RelV x v → RelV y u → eqN n d e = some b → EqAt A.in1 s v u b)
    {ds es : List D} {xs ys : List V} {a a' : Addr} {b : Bool} (e1 : H a = some (.tup xs)) (e2 : H a' = some (.tup ys)) (h1 : Reps cl F ds xs) (h2 : Reps cl F es ys) (e : (eqZ (eqN n) ds es).map (fun b => b && (ds.length == es.length)) = some b) :
    EqAt A s (.ref a) (.ref a') b := by
  have l1 := h1.length
  have l2 := h2.length
  rw [Option.map_eq_some_iff] at e
  obtain ⟨k, e, rfl⟩ := e
  by_cases ha : a = a'
  · subst ha
    rw [e1] at e2
    cases e2
    rw [reps_same h1 h2 e]
    have hl : ds.length = es.length := by omega
    rw [hl]
    simpa using EqAt.same _
  · obtain ⟨us, r1, p1, _⟩ := I.tuple (SqT.of (K := X.K) e1)
    obtain ⟨ws, r2, p2, _⟩ := I.tuple (SqT.of (K := X.K) e2)
    have m1 := r1.length
    have m2 := r2.length
    have z := eqZ_all e
    have hm : min ds.length es.length = min us.toArray.size ws.toArray.size := by simp only [List.size_toArray]; omega
    rw [hm] at z
    have he : (ds.length == es.length) = (us.toArray.size == ws.toArray.size) := by
      simp only [List.size_toArray]
      rw [← l1, ← l2, m1, m2]
    rw [he, ← z]
    exact EqAt.of_refs ha (RcAt.tuples (show s.heap.IsTuple a us.toArray from p1) (show s.heap.IsTuple a' ws.toArray from p2) hu (items_at ih h1 h2 r1 r2 e))
/-- two pieces of data, by what stands outermost -/
theorem eq_step (I : Inv X pins σ0 H s) {A : Around} {n : Nat} {F : Hp} {c : FC} (hu : A.units < cLine) (ih : ∀ {d e : D} {x y : V} {v u : Value} {b : Bool}, Rep c.cl F d x → Rep c.cl F e y → RelV x v → RelV y u → eqN n d e = some b → EqAt A.in1 s v u b)
    {d e : D} {x y : V} {v u : Value} {b : Bool} (h1 : RepT c F H d x) (h2 : RepT c F H e y) (r1 : RelV x v) (r2 : RelV y u) (q : eqN (n + 1) d e = some b) : EqAt A s v u b := by
  cases d with
  | non =>
    have h1 : x = .non := by simpa [RepT, Rep] using h1
    subst h1
    obtain rfl : v = .none := r1
    cases e with
    | non =>
      have h2 : y = .non := by simpa [RepT, Rep] using h2
      subst h2
      obtain rfl : u = .none := r2
      simp [eqN] at q
      subst q
      exact EqAt.same _
    | bl k =>
      have h2 : y = .bl k := by simpa [RepT, Rep] using h2
      subst h2
      obtain rfl : u = .bool k := r2
      simp [eqN] at q
      subst q
      exact EqAt.none_bool _
    | int k =>
      have h2 : y = .int k := by simpa [RepT, Rep] using h2
      subst h2
      obtain ⟨t, rfl⟩ := r2
      simp [eqN] at q
      subst q
      exact EqAt.none_int _ _
    | str k =>
      have h2 : y = .str k := by simpa [RepT, Rep] using h2
      subst h2
      obtain ⟨t, rfl⟩ := r2
      simp [eqN] at q
      subst q
      exact EqAt.none_str _ _
    | lst ys =>
      obtain ⟨a, zs, rfl, e2, _, r⟩ := h2
      obtain rfl : u = .ref a := r2
      obtain ⟨us, _, p, _⟩ := I.list (SqL.of (K := X.K) e2)
      simp [eqN] at q
      subst q
      exact EqAt.none_list p.isList hu
    | tup ys =>
      obtain ⟨a, zs, rfl, e2, _, r⟩ := h2
      obtain rfl : u = .ref a := r2
      obtain ⟨us, _, p, _⟩ := I.tuple (SqT.of (K := X.K) e2.1)
      simp [eqN] at q
      subst q
      exact EqAt.none_tuple (show s.heap.IsTuple a us.toArray from p) hu
    | _ => simp [eqN] at q
  | bl j =>
    have h1 : x = .bl j := by simpa [RepT, Rep] using h1
    subst h1
    obtain rfl : v = .bool j := r1
    cases e with
    | non =>
      have h2 : y = .non := by simpa [RepT, Rep] using h2
      subst h2
      obtain rfl : u = .none := r2
      simp [eqN] at q
      subst q
      exact EqAt.bool_none _
    | bl k =>
      have h2 : y = .bl k := by simpa [RepT, Rep] using h2
      subst h2
      obtain rfl : u = .bool k := r2
      simp [eqN] at q
      subst q
      exact EqAt.bool_bool _ _
    | int k =>
      have h2 : y = .int k := by simpa [RepT, Rep] using h2
      subst h2
      obtain ⟨t, rfl⟩ := r2
      simp only [eqN, Option.some.injEq] at q
      subst q
      exact EqAt.bool_int _ _ _
    | str k =>
      have h2 : y = .str k := by simpa [RepT, Rep] using h2
      subst h2
      obtain ⟨t, rfl⟩ := r2
      simp [eqN] at q
      subst q
      exact EqAt.bool_str _ _ _
    | lst ys =>
      obtain ⟨a, zs, rfl, e2, _, r⟩ := h2
      obtain rfl : u = .ref a := r2
      obtain ⟨us, _, p, _⟩ := I.list (SqL.of (K := X.K) e2)
      simp [eqN] at q
      subst q
      exact EqAt.bool_list _ p.isList hu
    | tup ys =>
      obtain ⟨a, zs, rfl, e2, _, r⟩ := h2
      obtain rfl : u = .ref a := r2
      obtain ⟨us, _, p, _⟩ := I.tuple (SqT.of (K := X.K) e2.1)
      simp [eqN] at q
      subst q
      exact EqAt.bool_tuple _ (show s.heap.IsTuple a us.toArray from p) hu
    | _ => simp [eqN] at q
  | int j =>
    have h1 : x = .int j := by simpa [RepT, Rep] using h1
    subst h1
    obtain ⟨t1, rfl⟩ := r1
    cases e with
    | non =>
      have h2 : y = .non := by simpa [RepT, Rep] using h2
      subst h2
      obtain rfl : u = .none := r2
      simp [eqN] at q
      subst q
      exact EqAt.int_none _ _
    | bl k =>
      have h2 : y = .bl k := by simpa [RepT, Rep] using h2
      subst h2
      obtain rfl : u = .bool k := r2
      simp only [eqN, Option.some.injEq] at q
      subst q
      exact EqAt.int_bool _ _ _
    | int k =>
      have h2 : y = .int k := by simpa [RepT, Rep] using h2
      subst h2
      obtain ⟨t, rfl⟩ := r2
      simp only [eqN, Option.some.injEq] at q
      subst q
      exact EqAt.int_int _ _ _ _
    | str k =>
      have h2 : y = .str k := by simpa [RepT, Rep] using h2
      subst h2
      obtain ⟨t, rfl⟩ := r2
      simp [eqN] at q
      subst q
      exact EqAt.int_str _ _ _ _
    | lst ys =>
      obtain ⟨a, zs, rfl, e2, _, r⟩ := h2
      obtain rfl : u = .ref a := r2
      obtain ⟨us, _, p, _⟩ := I.list (SqL.of (K := X.K) e2)
      simp [eqN] at q
      subst q
      exact EqAt.int_list _ _ p.isList hu
    | tup ys =>
      obtain ⟨a, zs, rfl, e2, _, r⟩ := h2
      obtain rfl : u = .ref a := r2
      obtain ⟨us, _, p, _⟩ := I.tuple (SqT.of (K := X.K) e2.1)
      simp [eqN] at q
      subst q
      exact EqAt.int_tuple _ _ (show s.heap.IsTuple a us.toArray from p) hu
    | _ => simp [eqN] at q
  | str j =>
    have h1 : x = .str j := by simpa [RepT, Rep] using h1
    subst h1
    obtain ⟨t1, rfl⟩ := r1
    cases e with
    | non =>
      have h2 : y = .non := by simpa [RepT, Rep] using h2
      subst h2
      obtain rfl : u = .none := r2
      simp [eqN] at q
      subst q
      exact EqAt.str_none _ _
    | bl k =>
      have h2 : y = .bl k := by simpa [RepT, Rep] using h2
      subst h2
      obtain rfl : u = .bool k := r2
      simp [eqN] at q
      subst q
      exact EqAt.str_bool _ _ _
    | int k =>
      have h2 : y = .int k := by simpa [RepT, Rep] using h2
      subst h2
      obtain ⟨t, rfl⟩ := r2
      simp [eqN] at q
      subst q
      exact EqAt.str_int _ _ _ _
    | str k =>
      have h2 : y = .str k := by simpa [RepT, Rep] using h2
      subst h2
      obtain ⟨t, rfl⟩ := r2
      simp only [eqN, Option.some.injEq] at q
      subst q
      exact EqAt.str_str _ _ _ _
    | lst ys =>
      obtain ⟨a, zs, rfl, e2, _, r⟩ := h2
      obtain rfl : u = .ref a := r2
      obtain ⟨us, _, p, _⟩ := I.list (SqL.of (K := X.K) e2)
      simp [eqN] at q
      subst q
      exact EqAt.str_list _ _ p.isList hu
    | tup ys =>
      obtain ⟨a, zs, rfl, e2, _, r⟩ := h2
      obtain rfl : u = .ref a := r2
      obtain ⟨us, _, p, _⟩ := I.tuple (SqT.of (K := X.K) e2.1)
      simp [eqN] at q
      subst q
      exact EqAt.str_tuple _ _ (show s.heap.IsTuple a us.toArray from p) hu
    | _ => simp [eqN] at q
  | lst xs =>
    obtain ⟨a1, zs1, rfl, e1, _, q1⟩ := h1
    obtain rfl : v = .ref a1 := r1
    obtain ⟨us1, _, p1, _⟩ := I.list (SqL.of (K := X.K) e1)
    cases e with
    | non =>
      have h2 : y = .non := by simpa [RepT, Rep] using h2
      subst h2
      obtain rfl : u = .none := r2
      simp [eqN] at q
      subst q
      exact EqAt.list_none p1.isList hu
    | bl k =>
      have h2 : y = .bl k := by simpa [RepT, Rep] using h2
      subst h2
      obtain rfl : u = .bool k := r2
      simp [eqN] at q
      subst q
      exact EqAt.list_bool _ p1.isList hu
    | int k =>
      have h2 : y = .int k := by simpa [RepT, Rep] using h2
      subst h2
      obtain ⟨t, rfl⟩ := r2
      simp [eqN] at q
      subst q
      exact EqAt.list_int _ _ p1.isList hu
    | str k =>
      have h2 : y = .str k := by simpa [RepT, Rep] using h2
      subst h2
      obtain ⟨t, rfl⟩ := r2
      simp [eqN] at q
      subst q
      exact EqAt.list_str _ _ p1.isList hu
    | lst ys =>
      obtain ⟨a, zs, rfl, e2, _, q2⟩ := h2
      obtain rfl : u = .ref a := r2
      exact lists_at I hu ih e1 e2 q1 q2 (by simpa only [eqN] using q)
    | tup ys =>
      obtain ⟨a, zs, rfl, e2, _, q2⟩ := h2
      obtain rfl : u = .ref a := r2
      obtain ⟨us, _, p, _⟩ := I.tuple (SqT.of (K := X.K) e2.1)
      simp [eqN] at q
      subst q
      exact EqAt.list_tuple p1.isList (show s.heap.IsTuple a us.toArray from p) hu
    | _ => simp [eqN] at q
  | tup xs =>
    obtain ⟨a1, zs1, rfl, e1, _, q1⟩ := h1
    obtain rfl : v = .ref a1 := r1
    obtain ⟨us1, _, p1, _⟩ := I.tuple (SqT.of (K := X.K) e1.1)
    have p1 : s.heap.IsTuple a1 us1.toArray := p1
    cases e with
    | non =>
      have h2 : y = .non := by simpa [RepT, Rep] using h2
      subst h2
      obtain rfl : u = .none := r2
      simp [eqN] at q
      subst q
      exact EqAt.tuple_none p1 hu
    | bl k =>
      have h2 : y = .bl k := by simpa [RepT, Rep] using h2
      subst h2
      obtain rfl : u = .bool k := r2
      simp [eqN] at q
      subst q
      exact EqAt.tuple_bool _ p1 hu
    | int k =>
      have h2 : y = .int k := by simpa [RepT, Rep] using h2
      subst h2
      obtain ⟨t, rfl⟩ := r2
      simp [eqN] at q
      subst q
      exact EqAt.tuple_int _ _ p1 hu
    | str k =>
      have h2 : y = .str k := by simpa [RepT, Rep] using h2
      subst h2
      obtain ⟨t, rfl⟩ := r2
      simp [eqN] at q
      subst q
      exact EqAt.tuple_str _ _ p1 hu
    | lst ys =>
      obtain ⟨a, zs, rfl, e2, _, q2⟩ := h2
      obtain rfl : u = .ref a := r2
      obtain ⟨us, _, p, _⟩ := I.list (SqL.of (K := X.K) e2)
      simp [eqN] at q
      subst q
      exact EqAt.tuple_list p1 p.isList hu
    | tup ys =>
      obtain ⟨a, zs, rfl, e2, _, q2⟩ := h2
      obtain rfl : u = .ref a := r2
      exact tups_at I hu ih e1.1 e2.1 q1 q2 (by simpa only [eqN] using q)
    | _ => simp [eqN] at q
  | _ => simp [eqN] at q
theorem eq_at (I : Inv X pins σ0 H s) (sr : SR c w σ H) : ∀ (n : Nat) (A : Around), A.units + n < cLine → ∀ {d e : D} {x y : V} {v u : Value} {b : Bool}, RepT c w.F H d x → RepT c w.F H e y → RelV x v → RelV y u → eqN n d e = some b → EqAt A s v u b
  | 0, A, hu, d, e, x, y, v, u, b, _, _, _, _, q => by simp [eqN] at q
  | n + 1, A, hu, d, e, x, y, v, u, b, h1, h2, r1, r2, q => eq_step I (by omega) (fun h1 h2 r1 r2 q => eq_at I sr n A.in1 (by show A.units + 1 + n < cLine; omega) (sr.view h1) (sr.view h2) r1 r2 q) h1 h2 r1 r2 q
end
end DL

set_option Elab.async false
set_option linter.all false
set_option maxRecDepth 100000
set_option maxHeartbeats 4000000
namespace DL
open PySem PySem.Spec L2
open PySem.SeqAt (EqAt RcAt EqP RcNeAt)
section
variable {X : Cx} {pins : List (Addr × Obj)} {σ0 : L2.St} {H : Hp} {s : Shared} {c : FC} {w : Wd} {σ : L2.St}
theorem lists_rc (I : Inv X pins σ0 H s) {A : Around} {n : Nat} {F : Hp} {cl : Str → Option Addr} (hu : A.units < cLine) (ih : ∀ {d e : D} {x y : V} {v u : Value} {b : Bool}, Rep cl F d x → Rep cl F e y → RelV x v → RelV y u → eqN n d e = some b → EqAt A.in1 s v u b)
    {ds es : List D} {xs ys : List V} {a a' : Addr} {b : Bool} (e1 : H a = some (.lst xs)) (e2 : H a' = some (.lst ys)) (h1 : Reps cl F ds xs) (h2 : Reps cl F es ys) (e : (if ds.length = es.length then eqZ (eqN n) ds es else some false) = some b) :
    RcAt A s (.ref a) (.ref a') b := by
  have l1 := h1.length
  have l2 := h2.length
  obtain ⟨us, r1, p1, _⟩ := I.list (SqL.of (K := X.K) e1)
  obtain ⟨ws, r2, p2, _⟩ := I.list (SqL.of (K := X.K) e2)
  have m1 := r1.length
  have m2 := r2.length
  by_cases hl : ds.length = es.length
  · rw [if_pos hl] at e
    have hsz : us.toArray.size = ws.toArray.size := by simp only [List.size_toArray]; omega
    have z := eqZ_all e
    have hm : min ds.length es.length = us.toArray.size := by simp only [List.size_toArray]; omega
    rw [hm] at z
    rw [← z]
    exact RcAt.lists p1.isList p2.isList hsz hu (items_at ih h1 h2 r1 r2 e)
  · rw [if_neg hl] at e
    cases e
    exact RcAt.lists_lengths p1.isList p2.isList (by simp only [List.size_toArray, bne_iff_ne, ne_eq]; omega) hu
theorem tups_rc (I : Inv X pins σ0 H s) {A : Around} {n : Nat} {F : Hp} {cl : Str → Option Addr} (hu : A.units < cLine) (ih : ∀ {d e : D} {x y : V} {v u : Value} {b : Bool}, Rep cl F d x → Rep cl F e y → RelV x v → RelV y u → eqN n d e = some b → EqAt A.in1 s v u b)
    {ds es : List D} {xs ys : List V} {a a' : Addr} {b : Bool} (e1 : H a = some (.tup xs)) (e2 : H a' = some (.tup ys)) (h1 : Reps cl F ds xs) (h2 : Reps cl F es ys) (e : (eqZ (eqN n) ds es).map (fun b => b && (ds.length == es.length)) = some b) :
    RcAt A s (.ref a) (.ref a') b := by
  have l1 := h1.length
  have l2 := h2.length
  rw [Option.map_eq_some_iff] at e
  obtain ⟨k, e, rfl⟩ := e
  obtain ⟨us, r1, p1, _⟩ := I.tuple (SqT.of (K := X.K) e1)
  obtain ⟨ws, r2, p2, _⟩ := I.tuple (SqT.of (K := X.K) e2)
  have m1 := r1.length
  have m2 := r2.length
  have z := eqZ_all e
  have hm : min ds.length es.length = min us.toArray.size ws.toArray.size := by simp only [List.size_toArray]; omega
  rw [hm] at z
  have he : (ds.length == es.length) = (us.toArray.size == ws.toArray.size) := by
    simp only [List.size_toArray]
    rw [← l1, ← l2, m1, m2]
  rw [he, ← z]
  exact RcAt.tuples (show s.heap.IsTuple a us.toArray from p1) (show s.heap.IsTuple a' ws.toArray from p2) hu (items_at ih h1 h2 r1 r2 e)
/-- two pieces of data, by what stands outermost -/
theorem rc_step (I : Inv X pins σ0 H s) {A : Around} {n : Nat} {F : Hp} {c : FC} (hu : A.units < cLine) (ih : ∀ {d e : D} {x y : V} {v u : Value} {b : Bool}, Rep c.cl F d x → Rep c.cl F e y → RelV x v → RelV y u → eqN n d e = some b → EqAt A.in1 s v u b)
    {d e : D} {x y : V} {v u : Value} {b : Bool} (h1 : RepT c F H d x) (h2 : RepT c F H e y) (r1 : RelV x v) (r2 : RelV y u) (q : eqN (n + 1) d e = some b) : RcAt A s v u b := by
  cases d with
  | non =>
    have h1 : x = .non := by simpa [RepT, Rep] using h1
    subst h1
    obtain rfl : v = .none := r1
    cases e with
    | non =>
      have h2 : y = .non := by simpa [RepT, Rep] using h2
      subst h2
      obtain rfl : u = .none := r2
      simp [eqN] at q
      subst q
      exact RcAt.none_none
    | bl k =>
      have h2 : y = .bl k := by simpa [RepT, Rep] using h2
      subst h2
      obtain rfl : u = .bool k := r2
      simp [eqN] at q
      subst q
      exact RcAt.none_bool _
    | int k =>
      have h2 : y = .int k := by simpa [RepT, Rep] using h2
      subst h2
      obtain ⟨t, rfl⟩ := r2
      simp [eqN] at q
      subst q
      exact RcAt.none_int _ _
    | str k =>
      have h2 : y = .str k := by simpa [RepT, Rep] using h2
      subst h2
      obtain ⟨t, rfl⟩ := r2
      simp [eqN] at q
      subst q
      exact RcAt.none_str _ _
    | lst ys =>
      obtain ⟨a, zs, rfl, e2, _, r⟩ := h2
      obtain rfl : u = .ref a := r2
      obtain ⟨us, _, p, _⟩ := I.list (SqL.of (K := X.K) e2)
      simp [eqN] at q
      subst q
      exact RcAt.none_list p.isList hu
    | tup ys =>
      obtain ⟨a, zs, rfl, e2, _, r⟩ := h2
      obtain rfl : u = .ref a := r2
      obtain ⟨us, _, p, _⟩ := I.tuple (SqT.of (K := X.K) e2.1)
      simp [eqN] at q
      subst q
      exact RcAt.none_tuple (show s.heap.IsTuple a us.toArray from p) hu
    | _ => simp [eqN] at q
  | bl j =>
    have h1 : x = .bl j := by simpa [RepT, Rep] using h1
    subst h1
    obtain rfl : v = .bool j := r1
    cases e with
    | non =>
      have h2 : y = .non := by simpa [RepT, Rep] using h2
      subst h2
      obtain rfl : u = .none := r2
      simp [eqN] at q
      subst q
      exact RcAt.bool_none _
    | bl k =>
      have h2 : y = .bl k := by simpa [RepT, Rep] using h2
      subst h2
      obtain rfl : u = .bool k := r2
      simp [eqN] at q
      subst q
      exact RcAt.bool_bool _ _
    | int k =>
      have h2 : y = .int k := by simpa [RepT, Rep] using h2
      subst h2
      obtain ⟨t, rfl⟩ := r2
      simp only [eqN, Option.some.injEq] at q
      subst q
      exact RcAt.bool_int _ _ _
    | str k =>
      have h2 : y = .str k := by simpa [RepT, Rep] using h2
      subst h2
      obtain ⟨t, rfl⟩ := r2
      simp [eqN] at q
      subst q
      exact RcAt.bool_str _ _ _
    | lst ys =>
      obtain ⟨a, zs, rfl, e2, _, r⟩ := h2
      obtain rfl : u = .ref a := r2
      obtain ⟨us, _, p, _⟩ := I.list (SqL.of (K := X.K) e2)
      simp [eqN] at q
      subst q
      exact RcAt.bool_list _ p.isList hu
    | tup ys =>
      obtain ⟨a, zs, rfl, e2, _, r⟩ := h2
      obtain rfl : u = .ref a := r2
      obtain ⟨us, _, p, _⟩ := I.tuple (SqT.of (K := X.K) e2.1)
      simp [eqN] at q
      subst q
      exact RcAt.bool_tuple _ (show s.heap.IsTuple a us.toArray from p) hu
    | _ => simp [eqN] at q
  | int j =>
    have h1 : x = .int j := by simpa [RepT, Rep] using h1
    subst h1
    obtain ⟨t1, rfl⟩ := r1
    cases e with
    | non =>
      have h2 : y = .non := by simpa [RepT, Rep] using h2
      subst h2
      obtain rfl : u = .none := r2
      simp [eqN] at q
      subst q
      exact RcAt.int_none _ _
    | bl k =>
      have h2 : y = .bl k := by simpa [RepT, Rep] using h2
      subst h2
      obtain rfl : u = .bool k := r2
      simp only [eqN, Option.some.injEq] at q
      subst q
      exact RcAt.int_bool _ _ _
    | int k =>
      have h2 : y = .int k := by simpa [RepT, Rep] using h2
      subst h2
      obtain ⟨t, rfl⟩ := r2
      simp only [eqN, Option.some.injEq] at q
      subst q
      exact RcAt.int_int _ _ _ _
    | str k =>
      have h2 : y = .str k := by simpa [RepT, Rep] using h2
      subst h2
      obtain ⟨t, rfl⟩ := r2
      simp [eqN] at q
      subst q
      exact RcAt.int_str _ _ _ _
    | lst ys =>
      obtain ⟨a, zs, rfl, e2, _, r⟩ := h2
      obtain rfl : u = .ref a := r2
      obtain ⟨us, _, p, _⟩ := I.list (SqL.of (K := X.K) e2)
      simp [eqN] at q
      subst q
      exact RcAt.int_list _ _ p.isList hu
    | tup ys =>
      obtain ⟨a, zs, rfl, e2, _, r⟩ := h2
      obtain rfl : u = .ref a := r2
      obtain ⟨us, _, p, _⟩ := I.tuple (SqT.of (K := X.K) e2.1)
      simp [eqN] at q
      subst q
      exact RcAt.int_tuple _ _ (show s.heap.IsTuple a us.toArray from p) hu
    | _ => simp [eqN] at q
  | str j =>
    have h1 : x = .str j := by simpa [RepT, Rep] using h1
    subst h1
    obtain ⟨t1, rfl⟩ := r1
    cases e with
    | non =>
      have h2 : y = .non := by simpa [RepT, Rep] using h2
      subst h2
      obtain rfl : u = .none := r2
      simp [eqN] at q
      subst q
      exact RcAt.str_none _ _
    | bl k =>
      have h2 : y = .bl k := by simpa [RepT, Rep] using h2
      subst h2
      obtain rfl : u = .bool k := r2
      simp [eqN] at q
      subst q
      exact RcAt.str_bool _ _ _
    | int k =>
      have h2 : y = .int k := by simpa [RepT, Rep] using h2
      subst h2
      obtain ⟨t, rfl⟩ := r2
      simp [eqN] at q
      subst q
      exact RcAt.str_int _ _ _ _
    | str k =>
      have h2 : y = .str k := by simpa [RepT, Rep] using h2
      subst h2
      obtain ⟨t, rfl⟩ := r2
      simp only [eqN, Option.some.injEq] at q
      subst q
      exact RcAt.str_str _ _ _ _
    | lst ys =>
      obtain ⟨a, zs, rfl, e2, _, r⟩ := h2
      obtain rfl : u = .ref a := r2
      obtain ⟨us, _, p, _⟩ := I.list (SqL.of (K := X.K) e2)
      simp [eqN] at q
      subst q
      exact RcAt.str_list _ _ p.isList hu
    | tup ys =>
      obtain ⟨a, zs, rfl, e2, _, r⟩ := h2
      obtain rfl : u = .ref a := r2
      obtain ⟨us, _, p, _⟩ := I.tuple (SqT.of (K := X.K) e2.1)
      simp [eqN] at q
      subst q
      exact RcAt.str_tuple _ _ (show s.heap.IsTuple a us.toArray from p) hu
    | _ => simp [eqN] at q
  | lst xs =>
    obtain ⟨a1, zs1, rfl, e1, _, q1⟩ := h1
    obtain rfl : v = .ref a1 := r1
    obtain ⟨us1, _, p1, _⟩ := I.list (SqL.of (K := X.K) e1)
    cases e with
    | non =>
      have h2 : y = .non := by simpa [RepT, Rep] using h2
      subst h2
      obtain rfl : u = .none := r2
      simp [eqN] at q
      subst q
      exact RcAt.list_none p1.isList hu
    | bl k =>
      have h2 : y = .bl k := by simpa [RepT, Rep] using h2
      subst h2
      obtain rfl : u = .bool k := r2
      simp [eqN] at q
      subst q
      exact RcAt.list_bool _ p1.isList hu
    | int k =>
      have h2 : y = .int k := by simpa [RepT, Rep] using h2
      subst h2
      obtain ⟨t, rfl⟩ := r2
      simp [eqN] at q
      subst q
      exact RcAt.list_int _ _ p1.isList hu
    | str k =>
      have h2 : y = .str k := by simpa [RepT, Rep] using h2
      subst h2
      obtain ⟨t, rfl⟩ := r2
      simp [eqN] at q
      subst q
      exact RcAt.list_str _ _ p1.isList hu
    | lst ys =>
      obtain ⟨a, zs, rfl, e2, _, q2⟩ := h2
      obtain rfl : u = .ref a := r2
      exact lists_rc I hu ih e1 e2 q1 q2 (by simpa only [eqN] using q)
    | tup ys =>
      obtain ⟨a, zs, rfl, e2, _, q2⟩ := h2
      obtain rfl : u = .ref a := r2
      obtain ⟨us, _, p, _⟩ := I.tuple (SqT.of (K := X.K) e2.1)
      simp [eqN] at q
      subst q
      exact RcAt.list_tuple p1.isList (show s.heap.IsTuple a us.toArray from p) hu
    | _ => simp [eqN] at q
  | tup xs =>
    obtain ⟨a1, zs1, rfl, e1, _, q1⟩ := h1
    obtain rfl : v = .ref a1 := r1
    obtain ⟨us1, _, p1, _⟩ := I.tuple (SqT.of (K := X.K) e1.1)
    have p1 : s.heap.IsTuple a1 us1.toArray := p1
    cases e with
    | non =>
      have h2 : y = .non := by simpa [RepT, Rep] using h2
      subst h2
      obtain rfl : u = .none := r2
      simp [eqN] at q
      subst q
      exact RcAt.tuple_none p1 hu
    | bl k =>
      have h2 : y = .bl k := by simpa [RepT, Rep] using h2
      subst h2
      obtain rfl : u = .bool k := r2
      simp [eqN] at q
      subst q
      exact RcAt.tuple_bool _ p1 hu
    | int k =>
      have h2 : y = .int k := by simpa [RepT, Rep] using h2
      subst h2
      obtain ⟨t, rfl⟩ := r2
      simp [eqN] at q
      subst q
      exact RcAt.tuple_int _ _ p1 hu
    | str k =>
      have h2 : y = .str k := by simpa [RepT, Rep] using h2
      subst h2
      obtain ⟨t, rfl⟩ := r2
      simp [eqN] at q
      subst q
      exact RcAt.tuple_str _ _ p1 hu
    | lst ys =>
      obtain ⟨a, zs, rfl, e2, _, q2⟩ := h2
      obtain rfl : u = .ref a := r2
      obtain ⟨us, _, p, _⟩ := I.list (SqL.of (K := X.K) e2)
      simp [eqN] at q
      subst q
      exact RcAt.tuple_list p1 p.isList hu
    | tup ys =>
      obtain ⟨a, zs, rfl, e2, _, q2⟩ := h2
      obtain rfl : u = .ref a := r2
      exact tups_rc I hu ih e1.1 e2.1 q1 q2 (by simpa only [eqN] using q)
    | _ => simp [eqN] at q
  | _ => simp [eqN] at q
theorem lists_ne (I : Inv X pins σ0 H s) {A : Around} {n : Nat} {F : Hp} {cl : Str → Option Addr} (hu : A.units < cLine) (ih : ∀ {d e : D} {x y : V} {v u : Value} {b : Bool}, Rep cl F d x → Rep cl F e y → RelV x v → RelV y u → eqN n d e = some b → EqAt A.in1 s v u b)
    {ds es : List D} {xs ys : List V} {a a' : Addr} {b : Bool} (e1 : H a = some (.lst xs)) (e2 : H a' = some (.lst ys)) (h1 : Reps cl F ds xs) (h2 : Reps cl F es ys) (e : (if ds.length = es.length then eqZ (eqN n) ds es else some false) = some b) :
    RcNeAt A s (.ref a) (.ref a') (!b) := by
  have l1 := h1.length
  have l2 := h2.length
  obtain ⟨us, r1, p1, _⟩ := I.list (SqL.of (K := X.K) e1)
  obtain ⟨ws, r2, p2, _⟩ := I.list (SqL.of (K := X.K) e2)
  have m1 := r1.length
  have m2 := r2.length
  by_cases hl : ds.length = es.length
  · rw [if_pos hl] at e
    have hsz : us.toArray.size = ws.toArray.size := by simp only [List.size_toArray]; omega
    have z := eqZ_all e
    have hm : min ds.length es.length = us.toArray.size := by simp only [List.size_toArray]; omega
    rw [hm] at z
    rw [← z]
    exact RcNeAt.lists p1.isList p2.isList hsz hu (items_at ih h1 h2 r1 r2 e)
  · rw [if_neg hl] at e
    cases e
    exact RcNeAt.lists_lengths p1.isList p2.isList (by simp only [List.size_toArray, bne_iff_ne, ne_eq]; omega) hu
theorem tups_ne (I : Inv X pins σ0 H s) {A : Around} {n : Nat} {F : Hp} {cl : Str → Option Addr} (hu : A.units < cLine) (ih : ∀ {d e : D} {x y : V} {v u : Value} {b : Bool}, Rep cl F d x → Rep cl F e y → RelV x v → RelV y u → eqN n d e = some b → EqAt A.in1 s v u b)
    {ds es : List D} {xs ys : List V} {a a' : Addr} {b : Bool} (e1 : H a = some (.tup xs)) (e2 : H a' = some (.tup ys)) (h1 : Reps cl F ds xs) (h2 : Reps cl F es ys) (e : (eqZ (eqN n) ds es).map (fun b => b && (ds.length == es.length)) = some b) :
    RcNeAt A s (.ref a) (.ref a') (!b) := by
  have l1 := h1.length
  have l2 := h2.length
  rw [Option.map_eq_some_iff] at e
  obtain ⟨k, e, rfl⟩ := e
  obtain ⟨us, r1, p1, _⟩ := I.tuple (SqT.of (K := X.K) e1)
  obtain ⟨ws, r2, p2, _⟩ := I.tuple (SqT.of (K := X.K) e2)
  have m1 := r1.length
  have m2 := r2.length
  have z := eqZ_all e
  have hm : min ds.length es.length = min us.toArray.size ws.toArray.size := by simp only [List.size_toArray]; omega
  rw [hm] at z
  have he : (ds.length == es.length) = (us.toArray.size == ws.toArray.size) := by
    simp only [List.size_toArray]
    rw [← l1, ← l2, m1, m2]
  rw [he, ← z]
  exact RcNeAt.tuples (show s.heap.IsTuple a us.toArray from p1) (show s.heap.IsTuple a' ws.toArray from p2) hu (items_at ih h1 h2 r1 r2 e)
/-- two pieces of data, by what stands outermost -/
theorem ne_step (I : Inv X pins σ0 H s) {A : Around} {n : Nat} {F : Hp} {c : FC} (hu : A.units < cLine) (ih : ∀ {d e : D} {x y : V} {v u : Value} {b : Bool}, Rep c.cl F d x → Rep c.cl F e y → RelV x v → RelV y u → eqN n d e = some b → EqAt A.in1 s v u b)
    {d e : D} {x y : V} {v u : Value} {b : Bool} (h1 : RepT c F H d x) (h2 : RepT c F H e y) (r1 : RelV x v) (r2 : RelV y u) (q : eqN (n + 1) d e = some b) : RcNeAt A s v u (!b) := by
  cases d with
  | non =>
    have h1 : x = .non := by simpa [RepT, Rep] using h1
    subst h1
    obtain rfl : v = .none := r1
    cases e with
    | non =>
      have h2 : y = .non := by simpa [RepT, Rep] using h2
      subst h2
      obtain rfl : u = .none := r2
      simp [eqN] at q
      subst q
      exact RcNeAt.none_none
    | bl k =>
      have h2 : y = .bl k := by simpa [RepT, Rep] using h2
      subst h2
      obtain rfl : u = .bool k := r2
      simp [eqN] at q
      subst q
      exact RcNeAt.none_bool _
    | int k =>
      have h2 : y = .int k := by simpa [RepT, Rep] using h2
      subst h2
      obtain ⟨t, rfl⟩ := r2
      simp [eqN] at q
      subst q
      exact RcNeAt.none_int _ _
    | str k =>
      have h2 : y = .str k := by simpa [RepT, Rep] using h2
      subst h2
      obtain ⟨t, rfl⟩ := r2
      simp [eqN] at q
      subst q
      exact RcNeAt.none_str _ _
    | lst ys =>
      obtain ⟨a, zs, rfl, e2, _, r⟩ := h2
      obtain rfl : u = .ref a := r2
      obtain ⟨us, _, p, _⟩ := I.list (SqL.of (K := X.K) e2)
      simp [eqN] at q
      subst q
      exact RcNeAt.none_list p.isList hu
    | tup ys =>
      obtain ⟨a, zs, rfl, e2, _, r⟩ := h2
      obtain rfl : u = .ref a := r2
      obtain ⟨us, _, p, _⟩ := I.tuple (SqT.of (K := X.K) e2.1)
      simp [eqN] at q
      subst q
      exact RcNeAt.none_tuple (show s.heap.IsTuple a us.toArray from p) hu
    | _ => simp [eqN] at q
  | bl j =>
    have h1 : x = .bl j := by simpa [RepT, Rep] using h1
    subst h1
    obtain rfl : v = .bool j := r1
    cases e with
    | non =>
      have h2 : y = .non := by simpa [RepT, Rep] using h2
      subst h2
      obtain rfl : u = .none := r2
      simp [eqN] at q
      subst q
      exact RcNeAt.bool_none _
    | bl k =>
      have h2 : y = .bl k := by simpa [RepT, Rep] using h2
      subst h2
      obtain rfl : u = .bool k := r2
      simp [eqN] at q
      subst q
      exact RcNeAt.bool_bool _ _
    | int k =>
      have h2 : y = .int k := by simpa [RepT, Rep] using h2
      subst h2
      obtain ⟨t, rfl⟩ := r2
      simp only [eqN, Option.some.injEq] at q
      subst q
      exact RcNeAt.bool_int _ _ _
    | str k =>
      have h2 : y = .str k := by simpa [RepT, Rep] using h2
      subst h2
      obtain ⟨t, rfl⟩ := r2
      simp [eqN] at q
      subst q
      exact RcNeAt.bool_str _ _ _
    | lst ys =>
      obtain ⟨a, zs, rfl, e2, _, r⟩ := h2
      obtain rfl : u = .ref a := r2
      obtain ⟨us, _, p, _⟩ := I.list (SqL.of (K := X.K) e2)
      simp [eqN] at q
      subst q
      exact RcNeAt.bool_list _ p.isList hu
    | tup ys =>
      obtain ⟨a, zs, rfl, e2, _, r⟩ := h2
      obtain rfl : u = .ref a := r2
      obtain ⟨us, _, p, _⟩ := I.tuple (SqT.of (K := X.K) e2.1)
      simp [eqN] at q
      subst q
      exact RcNeAt.bool_tuple _ (show s.heap.IsTuple a us.toArray from p) hu
    | _ => simp [eqN] at q
  | int j =>
    have h1 : x = .int j := by simpa [RepT, Rep] using h1
    subst h1
    obtain ⟨t1, rfl⟩ := r1
    cases e with
    | non =>
      have h2 : y = .non := by simpa [RepT, Rep] using h2
      subst h2
      obtain rfl : u = .none := r2
      simp [eqN] at q
      subst q
      exact RcNeAt.int_none _ _
    | bl k =>
      have h2 : y = .bl k := by simpa [RepT, Rep] using h2
      subst h2
      obtain rfl : u = .bool k := r2
      simp only [eqN, Option.some.injEq] at q
      subst q
      exact RcNeAt.int_bool _ _ _
    | int k =>
      have h2 : y = .int k := by simpa [RepT, Rep] using h2
      subst h2
      obtain ⟨t, rfl⟩ := r2
      simp only [eqN, Option.some.injEq] at q
      subst q
      exact RcNeAt.int_int _ _ _ _
    | str k =>
      have h2 : y = .str k := by simpa [RepT, Rep] using h2
      subst h2
      obtain ⟨t, rfl⟩ := r2
      simp [eqN] at q
      subst q
      exact RcNeAt.int_str _ _ _ _
    | lst ys =>
      obtain ⟨a, zs, rfl, e2, _, r⟩ := h2
      obtain rfl : u = .ref a := r2
      obtain ⟨us, _, p, _⟩ := I.list (SqL.of (K := X.K) e2)
      simp [eqN] at q
      subst q
      exact RcNeAt.int_list _ _ p.isList hu
    | tup ys =>
      obtain ⟨a, zs, rfl, e2, _, r⟩ := h2
      obtain rfl : u = .ref a := r2
      obtain ⟨us, _, p, _⟩ := I.tuple (SqT.of (K := X.K) e2.1)
      simp [eqN] at q
      subst q
      exact RcNeAt.int_tuple _ _ (show s.heap.IsTuple a us.toArray from p) hu
    | _ => simp [eqN] at q
  | str j =>
    have h1 : x = .str j := by simpa [RepT, Rep] using h1
    subst h1
    obtain ⟨t1, rfl⟩ := r1
    cases e with
    | non =>
      have h2 : y = .non := by simpa [RepT, Rep] using h2
      subst h2
      obtain rfl : u = .none := r2
      simp [eqN] at q
      subst q
      exact RcNeAt.str_none _ _
    | bl k =>
      have h2 : y = .bl k := by simpa [RepT, Rep] using h2
      subst h2
      obtain rfl : u = .bool k := r2
      simp [eqN] at q
      subst q
      exact RcNeAt.str_bool _ _ _
    | int k =>
      have h2 : y = .int k := by simpa [RepT, Rep] using h2
      subst h2
      obtain ⟨t, rfl⟩ := r2
      simp [eqN] at q
      subst q
      exact RcNeAt.str_int _ _ _ _
    | str k =>
      have h2 : y = .str k := by simpa [RepT, Rep] using h2
      subst h2
      obtain ⟨t, rfl⟩ := r2
      simp only [eqN, Option.some.injEq] at q
      subst q
      exact RcNeAt.str_str _ _ _ _
    | lst ys =>
      obtain ⟨a, zs, rfl, e2, _, r⟩ := h2
      obtain rfl : u = .ref a := r2
      obtain ⟨us, _, p, _⟩ := I.list (SqL.of (K := X.K) e2)
      simp [eqN] at q
      subst q
      exact RcNeAt.str_list _ _ p.isList hu
    | tup ys =>
      obtain ⟨a, zs, rfl, e2, _, r⟩ := h2
      obtain rfl : u = .ref a := r2
      obtain ⟨us, _, p, _⟩ := I.tuple (SqT.of (K := X.K) e2.1)
      simp [eqN] at q
      subst q
      exact RcNeAt.str_tuple _ _ (show s.heap.IsTuple a us.toArray from p) hu
    | _ => simp [eqN] at q
  | lst xs =>
    obtain ⟨a1, zs1, rfl, e1, _, q1⟩ := h1
    obtain rfl : v = .ref a1 := r1
    obtain ⟨us1, _, p1, _⟩ := I.list (SqL.of (K := X.K) e1)
    cases e with
    | non =>
      have h2 : y = .non := by simpa [RepT, Rep] using h2
      subst h2
      obtain rfl : u = .none := r2
      simp [eqN] at q
      subst q
      exact RcNeAt.list_none p1.isList hu
    | bl k =>
      have h2 : y = .bl k := by simpa [RepT, Rep] using h2
      subst h2
      obtain rfl : u = .bool k := r2
      simp [eqN] at q
      subst q
      exact RcNeAt.list_bool _ p1.isList hu
    | int k =>
      have h2 : y = .int k := by simpa [RepT, Rep] using h2
      subst h2
      obtain ⟨t, rfl⟩ := r2
      simp [eqN] at q
      subst q
      exact RcNeAt.list_int _ _ p1.isList hu
    | str k =>
      have h2 : y = .str k := by simpa [RepT, Rep] using h2
      subst h2
      obtain ⟨t, rfl⟩ := r2
      simp [eqN] at q
      subst q
      exact RcNeAt.list_str _ _ p1.isList hu
    | lst ys =>
      obtain ⟨a, zs, rfl, e2, _, q2⟩ := h2
      obtain rfl : u = .ref a := r2
      exact lists_ne I hu ih e1 e2 q1 q2 (by simpa only [eqN] using q)
    | tup ys =>
      obtain ⟨a, zs, rfl, e2, _, q2⟩ := h2
      obtain rfl : u = .ref a := r2
      obtain ⟨us, _, p, _⟩ := I.tuple (SqT.of (K := X.K) e2.1)
      simp [eqN] at q
      subst q
      exact RcNeAt.list_tuple p1.isList (show s.heap.IsTuple a us.toArray from p) hu
    | _ => simp [eqN] at q
  | tup xs =>
    obtain ⟨a1, zs1, rfl, e1, _, q1⟩ := h1
    obtain rfl : v = .ref a1 := r1
    obtain ⟨us1, _, p1, _⟩ := I.tuple (SqT.of (K := X.K) e1.1)
    have p1 : s.heap.IsTuple a1 us1.toArray := p1
    cases e with
    | non =>
      have h2 : y = .non := by simpa [RepT, Rep] using h2
      subst h2
      obtain rfl : u = .none := r2
      simp [eqN] at q
      subst q
      exact RcNeAt.tuple_none p1 hu
    | bl k =>
      have h2 : y = .bl k := by simpa [RepT, Rep] using h2
      subst h2
      obtain rfl : u = .bool k := r2
      simp [eqN] at q
      subst q
      exact RcNeAt.tuple_bool _ p1 hu
    | int k =>
      have h2 : y = .int k := by simpa [RepT, Rep] using h2
      subst h2
      obtain ⟨t, rfl⟩ := r2
      simp [eqN] at q
      subst q
      exact RcNeAt.tuple_int _ _ p1 hu
    | str k =>
      have h2 : y = .str k := by simpa [RepT, Rep] using h2
      subst h2
      obtain ⟨t, rfl⟩ := r2
      simp [eqN] at q
      subst q
      exact RcNeAt.tuple_str _ _ p1 hu
    | lst ys =>
      obtain ⟨a, zs, rfl, e2, _, q2⟩ := h2
      obtain rfl : u = .ref a := r2
      obtain ⟨us, _, p, _⟩ := I.list (SqL.of (K := X.K) e2)
      simp [eqN] at q
      subst q
      exact RcNeAt.tuple_list p1 p.isList hu
    | tup ys =>
      obtain ⟨a, zs, rfl, e2, _, q2⟩ := h2
      obtain rfl : u = .ref a := r2
      exact tups_ne I hu ih e1.1 e2.1 q1 q2 (by simpa only [eqN] using q)
    | _ => simp [eqN] at q
  | _ => simp [eqN] at q
def dEq (d e : D) : Option D := (eqN 60 d e).map .bl
def dNe (d e : D) : Option D := (eqN 60 d e).map fun b => .bl (!b)
theorem op_eq_data (hu : X.A.units + 64 < cLine) : OpR X (compareOp .Eq) (R2D c dEq) := by
  intro pins s σ1 H x y v u Q I rx ry h
  obtain ⟨w, σ, dx, dy, d, sr, r1, r2, e, q⟩ := h
  unfold dEq at e
  rw [Option.map_eq_some_iff] at e
  obtain ⟨b, e, rfl⟩ := e
  exact rc_step (n := 59) I (by omega) (fun h1 h2 r1 r2 q => eq_at I sr 59 X.A.in1 (by show X.A.units + 1 + 59 < cLine; omega) (sr.view h1) (sr.view h2) r1 r2 q) r1 r2 rx ry e _ _ _ _ ⟨.bl b, H, I, rfl, q.bl sr⟩
theorem op_ne_data (hu : X.A.units + 64 < cLine) : OpR X (compareOp .NotEq) (R2D c dNe) := by
  intro pins s σ1 H x y v u Q I rx ry h
  obtain ⟨w, σ, dx, dy, d, sr, r1, r2, e, q⟩ := h
  unfold dNe at e
  rw [Option.map_eq_some_iff] at e
  obtain ⟨b, e, rfl⟩ := e
  exact ne_step (n := 59) I (by omega) (fun h1 h2 r1 r2 q => eq_at I sr 59 X.A.in1 (by show X.A.units + 1 + 59 < cLine; omega) (sr.view h1) (sr.view h2) r1 r2 q) r1 r2 rx ry e _ _ _ _ ⟨.bl (!b), H, I, rfl, q.bl sr⟩
end
end DL

set_option Elab.async false
set_option linter.all false
set_option maxRecDepth 100000
set_option maxHeartbeats 4000000
namespace DL
open PySem PySem.Spec L2

/-! ### + - * // % ** -/
def dAdd : D → D → Option D
  | .int i, .int j => some (.int (i + j))
  | .str x, .str y => if x.length + y.length ≤ lim then some (.str (x ++ y)) else none
  | .lst xs, .lst ys => if xs.length + ys.length ≤ lim then some (.lst (xs ++ ys)) else none
  | .tup xs, .tup ys => if xs.length + ys.length ≤ lim then some (.tup (xs ++ ys)) else none
  | _, _ => none
def dSub : D → D → Option D
  | .int i, .int j => some (.int (i - j))
  | _, _ => none
def smallI (i : Int) : Bool := decide (-(2 ^ 64) < i) && decide (i < 2 ^ 64)
def repS (x : Str) (k : Int) : Str := ⟨(List.replicate k.toNat x.cps.toList).flatten.toArray⟩
def dMul : D → D → Option D
  | .int i, .int j => if smallI i || smallI j then some (.int (i * j)) else none
  | .lst xs, .int k => if -1000000 ≤ k ∧ k ≤ 1000000 ∧ xs.length * k.toNat ≤ lim then some (.lst (List.replicate k.toNat xs).flatten) else none
  | _, _ => none
def dMod : D → D → Option D
  | .int i, .int j => if 0 < j then some (.int (i % j)) else none
  | _, _ => none
def dFdiv : D → D → Option D
  | .int i, .int j => if 0 < j ∧ j < 1073741824 then some (.int (i / j)) else none
  | _, _ => none
def dPow : D → D → Option D
  | .int i, .int j => if 0 ≤ j ∧ j ≤ 1000 ∧ i.natAbs < 2 ^ 60 then some (.int (i ^ j.toNat)) else none
  | _, _ => none
theorem Reps.rep {cl : Str → Option Addr} {F : Hp} {ds : List D} {xs : List V} (h : Reps cl F ds xs) : ∀ k : Nat, Reps cl F (List.replicate k ds).flatten (List.replicate k xs).flatten
  | 0 => by simp [Reps]
  | k + 1 => by
    simp only [List.replicate_succ, List.flatten_cons]
    exact h.append (Reps.rep h k)
section
variable {X : Cx} {c : FC}
theorem RepT.int {F H : Hp} {i : Int} {v : V} (h : RepT c F H (.int i) v) : v = .int i := by simpa [RepT, Rep] using h
theorem RepT.str {F H : Hp} {i : Str} {v : V} (h : RepT c F H (.str i) v) : v = .str i := by simpa [RepT, Rep] using h
theorem RepT.bl {F H : Hp} {i : Bool} {v : V} (h : RepT c F H (.bl i) v) : v = .bl i := by simpa [RepT, Rep] using h
theorem RepT.non {F H : Hp} {v : V} (h : RepT c F H .non v) : v = .non := by simpa [RepT, Rep] using h
theorem op_add_data : OpR X (binaryOp .Add) (R2D c dAdd) := by
  refine opR_imp ((op_add (X := X)).or ((op_add_str (X := X)).or ((op_cat (X := X)).or (op_catA (X := X))))) fun x y H Q h => ?_
  obtain ⟨w, σ, dx, dy, d, s, rx, ry, e, q⟩ := h
  cases dx <;> cases dy <;> simp only [dAdd, reduceCtorEq, Option.some.injEq] at e
  · subst e
    exact .inl ⟨_, _, rx.int, ry.int, q.int s⟩
  · split at e
    · rename_i hl
      cases e
      exact .inr (.inl ⟨_, _, rx.str, ry.str, lim_line hl, q.str s⟩)
    · cases e
  · split at e
    · rename_i hl
      cases e
      obtain ⟨a, xs, rfl, h1, _, r1⟩ := rx
      obtain ⟨b, ys, rfl, h2, _, r2⟩ := ry
      have l1 := r1.length
      have l2 := r2.length
      exact .inr (.inr (.inl ⟨a, b, xs, ys, rfl, rfl, h1, h2, lim_line (by omega), q.new s ⟨_, rfl, r1.append r2⟩⟩))
    · cases e
  · split at e
    · rename_i hl
      cases e
      obtain ⟨a, xs, rfl, h1, n1, r1⟩ := rx
      obtain ⟨b, ys, rfl, h2, n2, r2⟩ := ry
      have l1 := r1.length
      have l2 := r2.length
      refine .inr (.inr (.inr ⟨a, b, xs, ys, rfl, rfl, SqT.of h1.1, SqT.of h2.1, lim_line (by omega), fun e0 => ?_, fun _ e1 => ?_, fun _ _ => q.new s ⟨_, rfl, r1.append r2⟩⟩))
      · subst e0
        simp only [List.length_nil] at l1
        have e3 := List.eq_nil_of_length_eq_zero l1.symm
        subst e3
        exact q.val s ⟨b, ys, rfl, h2.2, by simpa using r2⟩
      · subst e1
        simp only [List.length_nil] at l2
        have e3 := List.eq_nil_of_length_eq_zero l2.symm
        subst e3
        exact q.val s ⟨a, xs, rfl, h1.2, by simpa using r1⟩
    · cases e
theorem op_sub_data : OpR X (binaryOp .Sub) (R2D c dSub) := by
  refine opR_imp (op_sub (X := X)) fun x y H Q h => ?_
  obtain ⟨w, σ, dx, dy, d, s, rx, ry, e, q⟩ := h
  cases dx <;> cases dy <;> simp only [dSub, reduceCtorEq, Option.some.injEq] at e
  subst e
  exact ⟨_, _, rx.int, ry.int, q.int s⟩
theorem op_mod_data : OpR X (binaryOp .Mod) (R2D c dMod) := by
  refine opR_imp (op_mod (X := X)) fun x y H Q h => ?_
  obtain ⟨w, σ, dx, dy, d, s, rx, ry, e, q⟩ := h
  cases dx <;> cases dy <;> simp only [dMod, reduceCtorEq] at e
  split at e
  · cases e
    exact ⟨_, _, rx.int, ry.int, by assumption, q.int s⟩
  · cases e
theorem op_fdiv_data : OpR X (binaryOp .FloorDiv) (R2D c dFdiv) := by
  refine opR_imp (op_fdiv (X := X)) fun x y H Q h => ?_
  obtain ⟨w, σ, dx, dy, d, s, rx, ry, e, q⟩ := h
  cases dx <;> cases dy <;> simp only [dFdiv, reduceCtorEq] at e
  split at e
  · cases e
    exact ⟨_, _, rx.int, ry.int, by assumption, q.int s⟩
  · cases e
theorem op_pow_data : OpR X (binaryOp .Pow) (R2D c dPow) := by
  refine opR_imp (op_pow (X := X)) fun x y H Q h => ?_
  obtain ⟨w, σ, dx, dy, d, s, rx, ry, e, q⟩ := h
  cases dx <;> cases dy <;> simp only [dPow, reduceCtorEq] at e
  split at e
  · rename_i hc
    cases e
    exact ⟨_, _, rx.int, ry.int, ⟨hc.1, by omega, by omega⟩, q.int s⟩
  · cases e
theorem op_mul_data : OpR X (binaryOp .Mult) (R2D c dMul) := by
  refine opR_imp ((op_mul (X := X)).or (op_rep (X := X))) fun x y H Q h => ?_
  obtain ⟨w, σ, dx, dy, d, s, rx, ry, e, q⟩ := h
  cases dx <;> cases dy <;> simp only [dMul, reduceCtorEq] at e
  · split at e
    · rename_i hc
      cases e
      simp only [smallI, Bool.or_eq_true, Bool.and_eq_true, decide_eq_true_eq] at hc
      exact .inl ⟨_, _, rx.int, ry.int, hc, q.int s⟩
    · cases e
  · split at e
    · rename_i hc
      cases e
      obtain ⟨a, xs, rfl, h1, n1, r1⟩ := rx
      have l1 := r1.length
      exact .inr ⟨a, _, xs, rfl, ry.int, h1, by omega, by omega, lim_line (by rw [l1]; exact hc.2.2), q.new s ⟨_, rfl, r1.rep _⟩⟩
    · cases e

/-! ### < <= > >= in, not in, is -/
def dLt : D → D → Option D
  | .int i, .int j => some (.bl (decide (i < j)))
  | .str i, .str j => some (.bl (decide (i.cps.toList < j.cps.toList)))
  | _, _ => none
def dLe : D → D → Option D
  | .int i, .int j => some (.bl (decide (i ≤ j)))
  | _, _ => none
def dGt : D → D → Option D
  | .int i, .int j => some (.bl (decide (j < i)))
  | _, _ => none
def dGe : D → D → Option D
  | .int i, .int j => some (.bl (decide (j ≤ i)))
  | _, _ => none
theorem op_lt_data : OpR X (compareOp .Lt) (R2D c dLt) := by
  refine opR_imp ((op_lt (X := X)).or (op_lt_str (X := X))) fun x y H Q h => ?_
  obtain ⟨w, σ, dx, dy, d, s, rx, ry, e, q⟩ := h
  cases dx <;> cases dy <;> simp only [dLt, reduceCtorEq, Option.some.injEq] at e
  · subst e
    exact .inl ⟨_, _, rx.int, ry.int, q.bl s⟩
  · subst e
    exact .inr ⟨_, _, rx.str, ry.str, q.bl s⟩
theorem op_le_data : OpR X (compareOp .LtE) (R2D c dLe) := by
  refine opR_imp (op_le (X := X)) fun x y H Q h => ?_
  obtain ⟨w, σ, dx, dy, d, s, rx, ry, e, q⟩ := h
  cases dx <;> cases dy <;> simp only [dLe, reduceCtorEq, Option.some.injEq] at e
  subst e
  exact ⟨_, _, rx.int, ry.int, q.bl s⟩
theorem op_gt_data : OpR X (compareOp .Gt) (R2D c dGt) := by
  refine opR_imp (op_gt (X := X)) fun x y H Q h => ?_
  obtain ⟨w, σ, dx, dy, d, s, rx, ry, e, q⟩ := h
  cases dx <;> cases dy <;> simp only [dGt, reduceCtorEq, Option.some.injEq] at e
  subst e
  exact ⟨_, _, rx.int, ry.int, q.bl s⟩
theorem op_ge_data : OpR X (compareOp .GtE) (R2D c dGe) := by
  refine opR_imp (op_ge (X := X)) fun x y H Q h => ?_
  obtain ⟨w, σ, dx, dy, d, s, rx, ry, e, q⟩ := h
  cases dx <;> cases dy <;> simp only [dGe, reduceCtorEq, Option.some.injEq] at e
  subst e
  exact ⟨_, _, rx.int, ry.int, q.bl s⟩
/-- is, is not: with None or a truth value -/
def dIs : D → D → Option D
  | .bl a, .bl b => some (.bl (a == b))
  | .non, .non => some (.bl true)
  | .bl _, .non => some (.bl false)
  | .int _, .non => some (.bl false)
  | .str _, .non => some (.bl false)
  | .lst _, .non => some (.bl false)
  | .tup _, .non => some (.bl false)
  | .dic _, .non => some (.bl false)
  | .ins _ _, .non => some (.bl false)
  | _, _ => none
def dIsNot (x y : D) : Option D := (dIs x y).bind fun
  | .bl b => some (.bl (!b))
  | _ => none
theorem op_is_data : OpR X (compareOp .Is) (R2D c dIs) := by
  refine opR_imp ((op_isN (X := X)).or (op_isBl (X := X))) fun x y H Q h => ?_
  obtain ⟨w, σ, dx, dy, d, s, rx, ry, e, q⟩ := h
  cases dx <;> cases dy <;> simp only [dIs, reduceCtorEq, Option.some.injEq] at e <;> subst e
  case bl.bl a b => exact .inr ⟨_, _, rx.bl, ry.bl, by rw [show decide (a = b) = (a == b) from (Bool.beq_eq_decide_eq a b).symm]; exact q.bl s⟩
  case non.non => exact .inl ⟨ry.non, by rw [rx.non]; exact q.bl s⟩
  case bl.non => exact .inl ⟨ry.non, by rw [rx.bl]; exact q.bl s⟩
  case int.non => exact .inl ⟨ry.non, by rw [rx.int]; exact q.bl s⟩
  case str.non => exact .inl ⟨ry.non, by rw [rx.str]; exact q.bl s⟩
  case lst.non => obtain ⟨a, xs, rfl, _⟩ := rx; exact .inl ⟨ry.non, q.bl s⟩
  case tup.non => obtain ⟨a, xs, rfl, _⟩ := rx; exact .inl ⟨ry.non, q.bl s⟩
  case dic.non => obtain ⟨a, xs, rfl, _⟩ := rx; exact .inl ⟨ry.non, q.bl s⟩
  case ins.non => obtain ⟨a, dx, C, gs, rfl, _⟩ := rx; exact .inl ⟨ry.non, q.bl s⟩
theorem op_isnot_data : OpR X (compareOp .IsNot) (R2D c dIsNot) := by
  refine opR_imp ((op_notN (X := X)).or (op_notBl (X := X))) fun x y H Q h => ?_
  obtain ⟨w, σ, dx, dy, d, s, rx, ry, e, q⟩ := h
  cases dx <;> cases dy <;> simp only [dIsNot, dIs, reduceCtorEq, Option.some.injEq, Option.bind_some, Option.bind_none] at e <;> subst e
  case bl.bl a b => exact .inr ⟨_, _, rx.bl, ry.bl, by rw [show decide (a = b) = (a == b) from (Bool.beq_eq_decide_eq a b).symm]; exact q.bl s⟩
  case non.non => exact .inl ⟨ry.non, by rw [rx.non]; exact q.bl s⟩
  case bl.non => exact .inl ⟨ry.non, by rw [rx.bl]; exact q.bl s⟩
  case int.non => exact .inl ⟨ry.non, by rw [rx.int]; exact q.bl s⟩
  case str.non => exact .inl ⟨ry.non, by rw [rx.str]; exact q.bl s⟩
  case lst.non => obtain ⟨a, xs, rfl, _⟩ := rx; exact .inl ⟨ry.non, q.bl s⟩
  case tup.non => obtain ⟨a, xs, rfl, _⟩ := rx; exact .inl ⟨ry.non, q.bl s⟩
  case dic.non => obtain ⟨a, xs, rfl, _⟩ := rx; exact .inl ⟨ry.non, q.bl s⟩
  case ins.non => obtain ⟨a, dx, C, gs, rfl, _⟩ := rx; exact .inl ⟨ry.non, q.bl s⟩
end
end DL

set_option Elab.async false
set_option linter.all false
set_option maxRecDepth 100000
set_option maxHeartbeats 4000000
namespace DL
open PySem PySem.Spec L2
open PySem.SeqAt (EqAt RcAt EqP)
/-- one object, two readings: == with a third is the same -/
theorem rep_fun {cl : Str → Option Addr} {F : Hp} : ∀ (n : Nat) {d e x : D} {v : V} {a b : Bool}, Rep cl F d v → Rep cl F e v → eqN n d x = some a → eqN n e x = some b → a = b := by
  intro n
  induction n with
  | zero => intro d e x v a b _ _ h; simp [eqN] at h
  | succ n ih =>
    have hz : ∀ {xs ys zs : List D} {vs : List V} {a b : Bool}, Reps cl F xs vs → Reps cl F ys vs → eqZ (eqN n) xs zs = some a → eqZ (eqN n) ys zs = some b → a = b := by
      intro xs
      induction xs with
      | nil =>
        intro ys zs vs a b h1 h2 h3 h4
        simp only [Reps] at h1
        subst h1
        cases ys with
        | nil => rw [h3] at h4; exact Option.some.inj h4
        | cons y ys => simp [Reps] at h2
      | cons x xs ihx =>
        intro ys zs vs a b h1 h2 h3 h4
        simp only [Reps] at h1
        obtain ⟨z, vs', rfl, r1, h1⟩ := h1
        cases ys with
        | nil => simp [Reps] at h2
        | cons y ys =>
          simp only [Reps] at h2
          obtain ⟨z', zs', q, r2, h2⟩ := h2
          cases q
          cases zs with
          | nil => simp [eqZ] at h3 h4; rw [h3, h4]
          | cons w zs =>
            simp only [eqZ, Option.bind_eq_some_iff, Option.map_eq_some_iff] at h3 h4
            obtain ⟨k1, e1, k2, e2, rfl⟩ := h3
            obtain ⟨l1, f1, l2, f2, rfl⟩ := h4
            rw [ih r1 r2 e1 f1, ihx h1 h2 e2 f2]
    intro d e x v a b h1 h2 h3 h4
    cases d with
    | non =>
      have h1 : v = .non := by simpa [Rep] using h1
      subst h1
      have he : e = .non := by
        cases e <;> first
          | rfl
          | (simp [Rep] at h2; done)
      subst he
      rw [h3] at h4; exact Option.some.inj h4
    | bl k =>
      have h1 : v = .bl k := by simpa [Rep] using h1
      subst h1
      have he : e = .bl k := by
        cases e <;> first
          | (simp [Rep] at h2; done)
          | (simp [Rep] at h2; subst h2; rfl)
      subst he
      rw [h3] at h4; exact Option.some.inj h4
    | int k =>
      have h1 : v = .int k := by simpa [Rep] using h1
      subst h1
      have he : e = .int k := by
        cases e <;> first
          | (simp [Rep] at h2; done)
          | (simp [Rep] at h2; subst h2; rfl)
      subst he
      rw [h3] at h4; exact Option.some.inj h4
    | str k =>
      have h1 : v = .str k := by simpa [Rep] using h1
      subst h1
      have he : e = .str k := by
        cases e <;> first
          | (simp [Rep] at h2; done)
          | (simp [Rep] at h2; subst h2; rfl)
      subst he
      rw [h3] at h4; exact Option.some.inj h4
    | lst xs =>
      obtain ⟨p, us, rfl, e1, r1⟩ := h1
      cases e with
      | lst ys =>
        obtain ⟨p', us', q, e2, r2⟩ := h2
        cases q
        rw [e1] at e2
        cases e2
        have l1 := r1.length
        have l2 := r2.length
        cases x with
        | lst zs =>
          simp only [eqN] at h3 h4
          by_cases hl : xs.length = zs.length
          · rw [if_pos hl] at h3
            rw [if_pos (by omega)] at h4
            exact hz r1 r2 h3 h4
          · rw [if_neg hl] at h3
            rw [if_neg (by omega)] at h4
            rw [h3] at h4; exact Option.some.inj h4
        | _ => simp [eqN] at h3 h4 <;> rw [h3, h4]
      | tup ys =>
        obtain ⟨a', us', q, e2, r2⟩ := h2
        cases q
        rw [e1] at e2
        cases e2
      | _ => first
        | (simp [eqN] at h4; done)
        | (simp [Rep] at h2; done)
    | tup xs =>
      obtain ⟨p, us, rfl, e1, r1⟩ := h1
      cases e with
      | tup ys =>
        obtain ⟨p', us', q, e2, r2⟩ := h2
        cases q
        rw [e1] at e2
        cases e2
        have l1 := r1.length
        have l2 := r2.length
        cases x with
        | tup zs =>
          simp only [eqN, Option.map_eq_some_iff] at h3 h4
          obtain ⟨k1, h3, rfl⟩ := h3
          obtain ⟨k2, h4, rfl⟩ := h4
          rw [hz r1 r2 h3 h4]
          have hl : xs.length = ys.length := by omega
          rw [hl]
        | _ => simp [eqN] at h3 h4 <;> rw [h3, h4]
      | lst ys =>
        obtain ⟨a', us', q, e2, r2⟩ := h2
        cases q
        rw [e1] at e2
        cases e2
      | _ => first
        | (simp [eqN] at h4; done)
        | (simp [Rep] at h2; done)
    | _ => simp [eqN] at h3

/-! ### in, not in -/
def inZ (x : D) : List D → Option Bool
  | [] => some false
  | y :: ys => (eqN 59 y x).bind fun a => (inZ x ys).map fun b => a || b
theorem inZ_get {x : D} : ∀ {ys : List D} {b : Bool}, inZ x ys = some b → ∀ (j : Nat) (y : D), ys[j]? = some y → ∃ k, eqN 59 y x = some k
  | [], _, _, j, y, h => by simp at h
  | z :: ys, b, e, j, y, h => by
    simp only [inZ, Option.bind_eq_some_iff, Option.map_eq_some_iff] at e
    obtain ⟨k1, e1, k2, e2, _⟩ := e
    cases j with
    | zero =>
      simp only [List.getElem?_cons_zero, Option.some.injEq] at h
      subst h
      exact ⟨k1, e1⟩
    | succ j => exact inZ_get e2 j y (by simpa using h)
theorem inZ_iff {x : D} : ∀ {ys : List D} {b : Bool}, inZ x ys = some b → (b = true ↔ ∃ (j : Nat) (y : D), ys[j]? = some y ∧ eqN 59 y x = some true)
  | [], b, e => by
    simp [inZ] at e
    subst e
    simp
  | z :: ys, b, e => by
    simp only [inZ, Option.bind_eq_some_iff, Option.map_eq_some_iff] at e
    obtain ⟨k1, e1, k2, e2, rfl⟩ := e
    have ih := inZ_iff e2
    constructor
    · intro h
      cases k1 with
      | true => exact ⟨0, z, rfl, e1⟩
      | false =>
        obtain ⟨j, y, h1, h2⟩ := ih.mp (by simpa using h)
        exact ⟨j + 1, y, by simpa using h1, h2⟩
    · rintro ⟨j, y, h1, h2⟩
      cases j with
      | zero =>
        simp only [List.getElem?_cons_zero, Option.some.injEq] at h1
        subst h1
        rw [e1] at h2
        cases h2
        rfl
      | succ j =>
        have := ih.mpr ⟨j, y, by simpa using h1, h2⟩
        rw [this, Bool.or_true]
/-- the answer for one value -/
noncomputable def ansV (x : D) (ds : List D) (us : List Value) (u : Value) : Bool := @decide (∃ (j : Nat) (y : D), us[j]? = some u ∧ ds[j]? = some y ∧ eqN 59 y x = some true) (Classical.propDecidable _)
section
variable {X : Cx} {pins : List (Addr × Obj)} {σ0 : L2.St} {H : Hp} {s : Shared} {c : FC} {w : Wd} {σ : L2.St}
theorem ansV_at {x : D} {ds : List D} {xs : List V} {us : List Value} {F : Hp} {cl : Str → Option Addr} {b : Bool} (h : Reps cl F ds xs) (r : Vals xs us) (e : inZ x ds = some b) {j : Nat} {y : D} {u : Value} {k : Bool}
    (hu : us[j]? = some u) (hy : ds[j]? = some y) (hk : eqN 59 y x = some k) : ansV x ds us u = k := by
  cases k with
  | true => exact @decide_eq_true _ (Classical.propDecidable _) ⟨j, y, hu, hy, hk⟩
  | false =>
    refine @decide_eq_false _ (Classical.propDecidable _) ?_
    rintro ⟨j', y', hu', hy', hk'⟩
    obtain ⟨z, hz, rz⟩ := h.get hy
    obtain ⟨z', hz', rz'⟩ := h.get hy'
    obtain ⟨v, hv, rv⟩ := r.get hz
    obtain ⟨v', hv', rv'⟩ := r.get hz'
    rw [hu] at hv
    rw [hu'] at hv'
    cases hv
    cases hv'
    have ez : z = z' := rv.inj rv'
    subst ez
    have := rep_fun 59 rz rz' hk hk'
    cases this
theorem ansV_any {x : D} {ds : List D} {xs : List V} {us : List Value} {F : Hp} {cl : Str → Option Addr} {b : Bool} (h : Reps cl F ds xs) (r : Vals xs us) (e : inZ x ds = some b) : us.any (ansV x ds us) = b := by
  have l1 := h.length
  have l2 := r.length
  have key : us.any (ansV x ds us) = true ↔ b = true := by
    rw [inZ_iff e, List.any_eq_true]
    constructor
    · rintro ⟨u, hm, hu⟩
      obtain ⟨j, y, h1, h2, h3⟩ := @of_decide_eq_true _ (Classical.propDecidable _) hu
      exact ⟨j, y, h2, h3⟩
    · rintro ⟨j, y, h1, h2⟩
      have hj : j < us.length := by
        have := (List.getElem?_eq_some_iff.mp h1).1
        omega
      exact ⟨us[j], List.getElem_mem _, @decide_eq_true _ (Classical.propDecidable _) ⟨j, y, List.getElem?_eq_getElem _, h1, h2⟩⟩
  cases b <;> cases q : us.any (ansV x ds us) <;> simp_all
theorem mem_at (I : Inv X pins σ0 H s) (sr : SR c w σ H) {A : Around} (hu : A.units + 60 < cLine) {x : D} {ds : List D} {xs : List V} {us : List Value} {b : Bool} (h : Reps c.cl w.F ds xs) (r : Vals xs us) (e : inZ x ds = some b) {z : V} {v : Value} (rx : RepT c w.F H x z) (rv : RelV z v) :
    ∀ u, u ∈ us.toArray → EqAt A.in1 s u v (ansV x ds us u) := by
  intro u hm
  have hm : u ∈ us := by simpa using hm
  obtain ⟨j, hj, ej⟩ := List.getElem_of_mem hm
  have l1 := h.length
  have l2 := r.length
  obtain ⟨y, hy⟩ : ∃ y, ds[j]? = some y := ⟨ds[j]'(by omega), List.getElem?_eq_getElem _⟩
  obtain ⟨k, hk⟩ := inZ_get e j y hy
  have hu' : us[j]? = some u := by rw [List.getElem?_eq_getElem hj, ej]
  rw [ansV_at h r e hu' hy hk]
  obtain ⟨t, ht, rt⟩ := h.get hy
  obtain ⟨t', ht', rt'⟩ := r.get ht
  rw [hu'] at ht'
  cases ht'
  exact eq_at I sr 59 A.in1 (by show A.units + 1 + 59 < cLine; omega) (sr.view rt) rx rt' rv hk
end
/-- x in y -/
def dInB : D → D → Option Bool
  | .str x, .str y => match x.cps.toList with
    | [k] => some (decide (k ∈ y.cps.toList))
    | _ => none
  | x, .lst ys => inZ x ys
  | x, .tup ys => inZ x ys
  | x, .dic kvs => (keyD x).map fun k => (getK kvs k).isSome
  | _, _ => none
def dIn (x y : D) : Option D := (dInB x y).map .bl
def dNotIn (x y : D) : Option D := (dInB x y).map fun b => .bl (!b)
theorem str_one {x : Str} {k : Nat} (h : x.cps.toList = [k]) : x = ⟨#[k]⟩ := by
  obtain ⟨a⟩ := x
  have h : a.toList = [k] := h
  congr 1
  exact Array.toList_inj.mp (by rw [h])
section
variable {X : Cx} {c : FC}
theorem op_in_data (hu : X.A.units + 64 < cLine) : OpR X (compareOp .In) (R2D c dIn) := by
  intro pins s σ1 H x y v u Q I rx ry h
  obtain ⟨w, σ, dx, dy, d, sr, r1, r2, e, q⟩ := h
  unfold dIn at e
  rw [Option.map_eq_some_iff] at e
  obtain ⟨b, e, rfl⟩ := e
  have ql : ∀ (ys : List D), dy = .lst ys → inZ dx ys = some b → wpAny (model X.prog X.w) X.A (compareOp .In v u) (EP X pins σ1 Q) X.xe s := fun ys ey ez => by
    subst ey
    obtain ⟨a, zs, rfl, h1, _, rr⟩ := r2
    obtain rfl : u = .ref a := ry
    obtain ⟨us, rv, p, _⟩ := I.list (SqL.of (K := X.K) h1)
    refine SeqAt.in_listAt (ansV dx ys us) p.isList (mem_at I sr (by omega) rr rv ez r1 rx) ⟨.bl b, H, I, ?_, q.bl sr⟩
    show Value.bool _ = Value.bool b
    rw [show us.toArray.any (ansV dx ys us) = us.any (ansV dx ys us) by simp, ansV_any rr rv ez]
  have qt : ∀ (ys : List D), dy = .tup ys → inZ dx ys = some b → wpAny (model X.prog X.w) X.A (compareOp .In v u) (EP X pins σ1 Q) X.xe s := fun ys ey ez => by
    subst ey
    obtain ⟨a, zs, rfl, h1, _, rr⟩ := r2
    obtain rfl : u = .ref a := ry
    obtain ⟨us, rv, p, _⟩ := I.tuple (SqT.of (K := X.K) h1.1)
    refine SeqAt.in_tupleAt (ansV dx ys us) (show s.heap.IsTuple a us.toArray from p) (mem_at I sr (by omega) rr rv ez r1 rx) ⟨.bl b, H, I, ?_, q.bl sr⟩
    show Value.bool _ = Value.bool b
    rw [show us.toArray.any (ansV dx ys us) = us.any (ansV dx ys us) by simp, ansV_any rr rv ez]
  have qd : ∀ kvs, dy = .dic kvs → (keyD dx).map (fun k => (getK kvs k).isSome) = some b → wpAny (model X.prog X.w) X.A (compareOp .In v u) (EP X pins σ1 Q) X.xe s := fun kvs ey ez => by
    subst ey
    rw [Option.map_eq_some_iff] at ez
    obtain ⟨k, ek, rfl⟩ := ez
    obtain ⟨a, zs, rfl, h1, _, rr⟩ := r2
    obtain rfl : u = .ref a := ry
    have ex := keyD_rep ek r1
    refine d_in (by omega) I (.inl ⟨zs, k, h1, ex, rfl⟩) rx fun s' I' => ⟨_, H, I', ?_, q.bl sr⟩
    show Value.bool _ = Value.bool _
    rw [rr.isSome]
  cases dy with
  | str j =>
    cases dx with
    | str i =>
      simp only [dInB] at e
      split at e
      · rename_i k hk
        cases e
        have ex := r1.str
        rw [str_one hk] at ex
        exact op_in_sign pins s σ1 H x y v u Q I rx ry ⟨k, j, ex, r2.str, q.bl sr⟩
      · cases e
    | _ => simp [dInB] at e
  | lst ys => exact ql ys rfl (by cases dx <;> simpa [dInB] using e)
  | tup ys => exact qt ys rfl (by cases dx <;> simpa [dInB] using e)
  | dic kvs => exact qd kvs rfl (by cases dx <;> simpa [dInB] using e)
  | _ => cases dx <;> simp [dInB] at e
theorem op_notin_data (hu : X.A.units + 64 < cLine) : OpR X (compareOp .NotIn) (R2D c dNotIn) := by
  intro pins s σ1 H x y v u Q I rx ry h
  obtain ⟨w, σ, dx, dy, d, sr, r1, r2, e, q⟩ := h
  unfold dNotIn at e
  rw [Option.map_eq_some_iff] at e
  obtain ⟨b, e, rfl⟩ := e
  have ql : ∀ (ys : List D), dy = .lst ys → inZ dx ys = some b → wpAny (model X.prog X.w) X.A (compareOp .NotIn v u) (EP X pins σ1 Q) X.xe s := fun ys ey ez => by
    subst ey
    obtain ⟨a, zs, rfl, h1, _, rr⟩ := r2
    obtain rfl : u = .ref a := ry
    obtain ⟨us, rv, p, _⟩ := I.list (SqL.of (K := X.K) h1)
    refine SeqAt.notIn_listAt (ansV dx ys us) p.isList (mem_at I sr (by omega) rr rv ez r1 rx) ⟨.bl (!b), H, I, ?_, q.bl sr⟩
    show Value.bool _ = Value.bool (!b)
    rw [show us.toArray.any (ansV dx ys us) = us.any (ansV dx ys us) by simp, ansV_any rr rv ez]
  have qt : ∀ (ys : List D), dy = .tup ys → inZ dx ys = some b → wpAny (model X.prog X.w) X.A (compareOp .NotIn v u) (EP X pins σ1 Q) X.xe s := fun ys ey ez => by
    subst ey
    obtain ⟨a, zs, rfl, h1, _, rr⟩ := r2
    obtain rfl : u = .ref a := ry
    obtain ⟨us, rv, p, _⟩ := I.tuple (SqT.of (K := X.K) h1.1)
    refine SeqAt.notIn_tupleAt (ansV dx ys us) (show s.heap.IsTuple a us.toArray from p) (mem_at I sr (by omega) rr rv ez r1 rx) ⟨.bl (!b), H, I, ?_, q.bl sr⟩
    show Value.bool _ = Value.bool (!b)
    rw [show us.toArray.any (ansV dx ys us) = us.any (ansV dx ys us) by simp, ansV_any rr rv ez]
  have qd : ∀ kvs, dy = .dic kvs → (keyD dx).map (fun k => (getK kvs k).isSome) = some b → wpAny (model X.prog X.w) X.A (compareOp .NotIn v u) (EP X pins σ1 Q) X.xe s := fun kvs ey ez => by
    subst ey
    rw [Option.map_eq_some_iff] at ez
    obtain ⟨k, ek, rfl⟩ := ez
    obtain ⟨a, zs, rfl, h1, _, rr⟩ := r2
    obtain rfl : u = .ref a := ry
    have ex := keyD_rep ek r1
    refine d_notIn (by omega) I (.inl ⟨zs, k, h1, ex, rfl⟩) rx fun s' I' => ⟨_, H, I', ?_, q.bl sr⟩
    show Value.bool _ = Value.bool _
    rw [rr.isSome]
  cases dy with
  | str j =>
    cases dx with
    | str i =>
      simp only [dInB] at e
      split at e
      · rename_i k hk
        cases e
        have ex := r1.str
        rw [str_one hk] at ex
        exact op_notIn_sign pins s σ1 H x y v u Q I rx ry ⟨k, j, ex, r2.str, q.bl sr⟩
      · cases e
    | _ => simp [dInB] at e
  | lst ys => exact ql ys rfl (by cases dx <;> simpa [dInB] using e)
  | tup ys => exact qt ys rfl (by cases dx <;> simpa [dInB] using e)
  | dic kvs => exact qd kvs rfl (by cases dx <;> simpa [dInB] using e)
  | _ => cases dx <;> simp [dInB] at e
end
end DL

set_option Elab.async false
set_option linter.all false
set_option maxRecDepth 100000
set_option maxHeartbeats 4000000
namespace DL
open PySem PySem.Spec L2

/-! ### tests -/
theorem pw_imp {X : Cx} {e : Expr} {t t' : TT} (h : PW X e t) (q : ∀ σ H Q, t' σ H Q → t σ H Q) : PW X e t' := ⟨fun wh pins s σ H Q I hw => h.run wh pins s σ H Q I (q _ _ _ hw)⟩
def asB : D → Z → ER Bool
  | .bl b, z => .ok b z
  | _, _ => .bad
def mB (m : M D) : M Bool := fun s z => (m s z).bind asB
def mNot (m : M Bool) : M Bool := fun s z => (m s z).bind fun b z => .ok (!b) z
def mAnd (a b : M Bool) : M Bool := fun s z => (a s z).bind fun k z => if k = true then b s z else .ok false z
def mOr (a b : M Bool) : M Bool := fun s z => (a s z).bind fun k z => if k = true then .ok true z else b s z
def mIf {α : Type} (c : M Bool) (a b : M α) : M α := fun s z => (c s z).bind fun k z => if k = true then a s z else b s z
/-- and, or as values, all but the last truth values -/
def mAndV (a b : M D) : M D := fun s z => (a s z).bind fun x z => (asB x z).bind fun k z => if k = true then b s z else .ok (.bl false) z
def mOrV (a b : M D) : M D := fun s z => (a s z).bind fun x z => (asB x z).bind fun k z => if k = true then .ok (.bl true) z else b s z
def mNotV (a : M D) : M D := fun s z => (a s z).bind fun x z => (asB x z).bind fun k z => .ok (.bl (!k)) z
theorem wnt_asB {c : FC} {W : WX} {σ : L2.St} {w : Wd} {H : Hp} {α : Type} {R : Wd → Hp → α → Prop} {d : D} {f : Bool → Z → ER α} (h : Wnt c W σ w H R ((asB d w.z).bind f)) : ∃ b, d = .bl b ∧ Wnt c W σ w H R (f b w.z) := by
  cases d <;> first
    | exact ⟨_, rfl, h⟩
    | exact False.elim h
theorem Wnt.ok {c : FC} {W : WX} {σ : L2.St} {w : Wd} {H : Hp} {α : Type} {R : Wd → Hp → α → Prop} {a : α} (s : SR c w σ H) (h : Wnt c W σ w H R (.ok a w.z)) : R w H a := h H w (Step.refl s) rfl
section
variable {X : Cx} {c : FC} {W : WX} {a b e : Expr} {ma mb m : M D} {na nb : M Bool} {pos : Pos} {g : D → D → Option D} {rest : List Expr}
theorem tb_to {σ : L2.St} {H : Hp} {Q : Bool → Hp → Prop} (q : tT c W (mB m) σ H Q) : tB (tV c W m) σ H Q := by
  obtain ⟨w, s, q⟩ := q
  refine ⟨w, s, (Wnt.bind q).imp fun w1 H1 d s1 q1 v r => ?_⟩
  cases d <;> first
    | exact ⟨_, r.bl, Wnt.ok s1.sr q1⟩
    | exact False.elim q1
theorem dt_val (h : PE X e (tV c W m)) (he : ∀ whole, isTrue e X.env whole = (do let v ← whole; standAt e.pos; holding [v] (truthy v)) := by intro _; rfl) : PT X e (tT c W (mB m)) := pt_imp (pt_val h he) fun _ _ _ q => tb_to q
theorem dt_cmp {op : CmpOp} (ho : OpR X (compareOp op) (R2D c g)) (ha : PE X a (tV c W ma)) (hb : PE X b (tV c W mb)) (hm : behindInMarks op b = false) : PT X (.Compare a [op] [b] pos) (tT c W (mB (mOp g ma mb))) :=
  pt_imp (pt_cmpR ho ha hb hm) fun σ H Q q => by
    have q2 : tF c W (mOp g ma mb) σ H fun x H' => ∃ k, x = .bl k ∧ Q k H' := by
      obtain ⟨w, s, q⟩ := q
      refine ⟨w, s, (Wnt.bind q).imp fun w1 H1 d s1 q1 v r => ?_⟩
      cases d <;> first
        | exact ⟨_, by simpa [Rep] using r, Wnt.ok s1.sr q1⟩
        | exact False.elim q1
    exact op_to q2
theorem dt_not (h : PT X a (tT c W na)) : PT X (.UnaryOp .Not a pos) (tT c W (mNot na)) := pt_imp (pt_not h) fun σ H Q ⟨w, s, q⟩ => ⟨w, s, (Wnt.bind q).imp fun w1 H1 d s1 q1 => Wnt.ok s1.sr q1⟩
theorem dt_pw (h : PW X e (tT c W na)) : PT X e (tT c W na) := h.pt
theorem dw_and1 (h : PT X a (tT c W na)) : PW X (.BoolOp .And [a] pos) (tT c W na) := pw_and1 h
theorem dw_or1 (h : PT X a (tT c W na)) : PW X (.BoolOp .Or [a] pos) (tT c W na) := pw_or1 h
theorem dw_and (h : PT X a (tT c W na)) (h2 : PW X (.BoolOp .And (b :: rest) pos) (tT c W nb)) : PW X (.BoolOp .And (a :: b :: rest) pos) (tT c W (mAnd na nb)) := pw_imp (pw_and h h2) fun σ H Q ⟨w, s, q⟩ => ⟨w, s, (Wnt.bind q).imp fun w1 H1 d s1 q1 => by
  cases d with
  | true => exact ⟨w1, s1.sr, by rw [s1.sl]; exact q1⟩
  | false => exact Wnt.ok s1.sr q1⟩
theorem dw_or (h : PT X a (tT c W na)) (h2 : PW X (.BoolOp .Or (b :: rest) pos) (tT c W nb)) : PW X (.BoolOp .Or (a :: b :: rest) pos) (tT c W (mOr na nb)) := pw_imp (pw_or h h2) fun σ H Q ⟨w, s, q⟩ => ⟨w, s, (Wnt.bind q).imp fun w1 H1 d s1 q1 => by
  cases d with
  | false => exact ⟨w1, s1.sr, by rw [s1.sl]; exact q1⟩
  | true => exact Wnt.ok s1.sr q1⟩
theorem df_one {op} (h : PE X a (tF c W ma)) : PE X (.BoolOp op [a] pos) (tF c W ma) := pe_one h
theorem df_and (h : PE X a (tV c W ma)) (h2 : PE X (.BoolOp .And (b :: rest) pos) (tF c W mb)) : PE X (.BoolOp .And (a :: b :: rest) pos) (tF c W (mAndV ma mb)) := pe_imp (pe_and h h2) fun σ H Q ⟨w, s, q⟩ => ⟨w, s, (Wnt.bind q).imp fun w1 H1 d s1 q1 v r => by
  obtain ⟨k, rfl, q2⟩ := wnt_asB q1
  refine ⟨k, r.bl, ?_⟩
  cases k with
  | true => exact ⟨w1, s1.sr, by rw [s1.sl]; exact q2⟩
  | false => exact Wnt.ok s1.sr q2 _ (by simp [Rep])⟩
theorem df_or (h : PE X a (tV c W ma)) (h2 : PE X (.BoolOp .Or (b :: rest) pos) (tF c W mb)) : PE X (.BoolOp .Or (a :: b :: rest) pos) (tF c W (mOrV ma mb)) := pe_imp (pe_or h h2) fun σ H Q ⟨w, s, q⟩ => ⟨w, s, (Wnt.bind q).imp fun w1 H1 d s1 q1 v r => by
  obtain ⟨k, rfl, q2⟩ := wnt_asB q1
  refine ⟨k, r.bl, ?_⟩
  cases k with
  | false => exact ⟨w1, s1.sr, by rw [s1.sl]; exact q2⟩
  | true => exact Wnt.ok s1.sr q2 _ (by simp [Rep])⟩
theorem df_not (h : PE X a (tV c W ma)) : PE X (.UnaryOp .Not a pos) (tF c W (mNotV ma)) := pe_imp (pe_not h) fun σ H Q ⟨w, s, q⟩ => ⟨w, s, (Wnt.bind q).imp fun w1 H1 d s1 q1 v r => by
  obtain ⟨k, rfl, q2⟩ := wnt_asB q1
  exact ⟨k, r.bl, Wnt.ok s1.sr q2 _ (by simp [Rep])⟩⟩
theorem df_if {t : Expr} (ht : PT X t (tT c W na)) (ha : PE X a (tF c W ma)) (hb : PE X b (tF c W mb)) : PE X (.IfExp t a b pos) (tF c W (mIf na ma mb)) := pe_imp (pe_ifExp ht ha hb) fun σ H Q ⟨w, s, q⟩ => ⟨w, s, (Wnt.bind q).imp fun w1 H1 d s1 q1 => by
  cases d with
  | false => exact ⟨w1, s1.sr, by rw [s1.sl]; exact q1⟩
  | true => exact ⟨w1, s1.sr, by rw [s1.sl]; exact q1⟩⟩
theorem dv_if {t : Expr} (ht : PT X t (tT c W na)) (ha : PE X a (tV c W ma)) (hb : PE X b (tV c W mb)) : PE X (.IfExp t a b pos) (tV c W (mIf na ma mb)) := pe_imp (pe_ifExp ht ha hb) fun σ H Q ⟨w, s, q⟩ => ⟨w, s, (Wnt.bind q).imp fun w1 H1 d s1 q1 => by
  cases d with
  | false => exact ⟨w1, s1.sr, by rw [s1.sl]; exact q1⟩
  | true => exact ⟨w1, s1.sr, by rw [s1.sl]; exact q1⟩⟩
/-! a < b < c -/
def mChain (g g' : D → D → Option D) (a b d : M D) : M D := fun s z => (a s z).bind fun x z => (b s z).bind fun y z => match g x y with
  | some (.bl true) => (d s z).bind fun w z => match g' y w with
    | some r => .ok r z
    | none => .bad
  | some (.bl false) => .ok (.bl false) z
  | _ => .bad
theorem chain_to {md : M D} {g' : D → D → Option D} {σ : L2.St} {H : Hp} {Q : VK} (q : tF c W (mChain g g' ma mb md) σ H Q) : tChain (R2D c g) (R2D c g') (tV c W ma) (tV c W mb) (tV c W md) σ H Q := by
  obtain ⟨w, s, q⟩ := q
  refine ⟨w, s, (Wnt.bind q).imp fun w1 H1 dx s1 q1 v1 r1 => ⟨w1, s1.sr, ?_⟩⟩
  rw [s1.sl]
  refine (Wnt.bind q1).imp fun w2 H2 dy s2 q2 v2 r2 => ?_
  have s02 := s1.trans s2
  cases e : g dx dy with
  | none => rw [e] at q2; exact False.elim q2
  | some d =>
    rw [e] at q2
    refine ⟨w2, σ, dx, dy, d, s2.sr, RepT.keep s2.le s2.keep r1, r2, e, fun v H3 w3 s3 z3 r3 => ?_⟩
    cases d with
    | bl k =>
      cases k with
      | true =>
        refine ⟨true, by simpa [Rep] using r3, ?_⟩
        rw [if_pos rfl]
        refine ⟨w3, s3.sr, ?_⟩
        have e3 : w3.sl = w.sl := s3.sl.trans s02.sl
        rw [e3, z3]
        refine (Wnt.bind (Wnt.step s3 q2)).imp fun w4 H4 dz s4 q4 v4 r4 => ?_
        obtain ⟨d', e', q5⟩ := wnt_op s4.sr q4
        exact ⟨w4, σ, dy, dz, d', s4.sr, RepT.keep s4.le s4.keep (RepT.keep s3.le s3.keep r2), r4, e', q5⟩
      | false =>
        refine ⟨false, by simpa [Rep] using r3, ?_⟩
        rw [if_neg Bool.false_ne_true]
        exact q2 H3 w3 s3 z3 _ (by simp [Rep])
    | _ => exact False.elim q2
theorem df_chain {md : M D} {d : Expr} {op op' : CmpOp} {g' : D → D → Option D} (ho : OpR X (compareOp op) (R2D c g)) (ho' : OpR X (compareOp op') (R2D c g')) (ha : PE X a (tV c W ma)) (hb : PE X b (tV c W mb)) (hd : PE X d (tV c W md))
    (hm : lastMarks [op, op'] [b, d] = false := by with_unfolding_all rfl) : PE X (.Compare a [op, op'] [b, d] pos) (tF c W (mChain g g' ma mb md)) := pe_imp (pe_chain ho ho' ha hb hd hm) fun _ _ _ q => chain_to q
theorem dt_chain {md : M D} {d : Expr} {op op' : CmpOp} {g' : D → D → Option D} (ho : OpR X (compareOp op) (R2D c g)) (ho' : OpR X (compareOp op') (R2D c g')) (ha : PE X a (tV c W ma)) (hb : PE X b (tV c W mb)) (hd : PE X d (tV c W md))
    (hm : lastMarks [op, op'] [b, d] = false := by with_unfolding_all rfl) : PT X (.Compare a [op, op'] [b, d] pos) (tT c W (mB (mChain g g' ma mb md))) := pt_imp (pt_chain ho ho' ha hb hd hm) fun σ H Q q => by
    have q2 : tF c W (mChain g g' ma mb md) σ H fun x H' => ∃ k, x = .bl k ∧ Q k H' := by
      obtain ⟨w, s, q⟩ := q
      refine ⟨w, s, (Wnt.bind q).imp fun w1 H1 d s1 q1 v r => ?_⟩
      cases d <;> first
        | exact ⟨_, by simpa [Rep] using r, Wnt.ok s1.sr q1⟩
        | exact False.elim q1
    exact chain_to q2
/-! ### slices -/
def cutD {α : Type} (xs : List α) (lo hi : Option Int) : List α := (xs.drop (HT.sIx xs.length 0 lo)).take (HT.sIx xs.length xs.length hi - HT.sIx xs.length 0 lo)
def dSl : D → Option Int → Option Int → Option D
  | .lst ds, lo, hi => some (.lst (cutD ds lo hi))
  | .tup ds, lo, hi => some (.tup (cutD ds lo hi))
  | .str z, lo, hi => if z.length ≤ lim then some (.str (cutS z lo hi)) else none
  | _, _, _ => none
def asI : D → Z → ER (Option Int)
  | .int i, z => .ok (some i) z
  | _, _ => .bad
def mPart (m : M D) : M (Option Int) := fun s z => (m s z).bind asI
def mNoPart : M (Option Int) := fun _ z => .ok none z
def mSl (a : M D) (lo hi : M (Option Int)) : M D := fun s z => (a s z).bind fun x z => (lo s z).bind fun l z => (hi s z).bind fun h z => match dSl x l h with
  | some d => .ok d z
  | none => .bad
def tO (c : FC) (W : WX) (m : M (Option Int)) : TO := fun σ H Q => ∃ w, SR c w σ H ∧ Wnt c W σ w H (fun w' H' d => Q d H') (m w.sl w.z)
theorem po_imp {e : Option Expr} {t t' : TO} (h : PO X e t) (q : ∀ σ H Q, t' σ H Q → t σ H Q) : PO X e t' := ⟨fun pins s σ H Q I hw => h.run pins s σ H Q I (q _ _ _ hw)⟩
theorem do_none : PO X none (tO c W mNoPart) := po_imp po_none fun σ H Q ⟨w, s, q⟩ => Wnt.ok s q
theorem do_some (h : PE X e (tV c W m)) : PO X (some e) (tO c W (mPart m)) := po_imp (po_some h) fun σ H Q ⟨w, s, q⟩ => ⟨w, s, (Wnt.bind q).imp fun w1 H1 d s1 q1 v r => by
  cases d <;> first
    | exact ⟨_, r.int, Wnt.ok s1.sr q1⟩
    | exact False.elim q1⟩
theorem cutD_V {cl : Str → Option Addr} {F : Hp} {ds : List D} {xs : List V} (h : Reps cl F ds xs) (lo hi : Option Int) : Reps cl F (cutD ds lo hi) (cutV xs lo hi) := by
  unfold cutD cutV
  rw [h.length]
  exact (h.drop _).take _
theorem df_sl {lo hi : Option Expr} {p2 : Pos} {ml mh : M (Option Int)} (ha : PE X a (tV c W ma)) (hl : PO X lo (tO c W ml)) (hh : PO X hi (tO c W mh)) : PE X (.Subscript a (.Slice lo hi none p2) pos) (tF c W (mSl ma ml mh)) :=
  pe_imp (pe_slice ((sl_list (X := X)).or ((sl_tupA (X := X)).or (sl_str (X := X)))) ha hl hh) fun σ H Q ⟨w, s, q⟩ => ⟨w, s, (Wnt.bind q).imp fun w1 H1 dx s1 q1 v1 r1 => ⟨w1, s1.sr, by
    rw [s1.sl]
    refine (Wnt.bind q1).imp fun w2 H2 l s2 q2 => ⟨w2, s2.sr, ?_⟩
    rw [s2.sl, s1.sl]
    refine (Wnt.bind q2).imp fun w3 H3 h s3 q3 => ?_
    obtain ⟨d, e, q4⟩ := wnt_op s3.sr q3
    have r1 := RepT.keep s3.le s3.keep (RepT.keep s2.le s2.keep r1)
    cases dx <;> simp only [dSl, reduceCtorEq, Option.some.injEq] at e
    · split at e
      · rename_i hl
        cases e
        exact .inr (.inr ⟨_, r1.str, lim_line hl, q4.str s3.sr⟩)
      · cases e
    · subst e
      obtain ⟨p, xs, rfl, h1, _, rr⟩ := r1
      exact .inl ⟨p, xs, rfl, SqL.of h1, q4.new s3.sr ⟨_, rfl, cutD_V rr l h⟩⟩
    · subst e
      obtain ⟨p, xs, rfl, h1, _, rr⟩ := r1
      refine .inr (.inl ⟨p, xs, rfl, SqT.of h1.1, fun hw => ?_, fun _ => q4.new s3.sr ⟨_, rfl, cutD_V rr l h⟩⟩)
      refine q4.val s3.sr ⟨p, xs, rfl, h1.2, ?_⟩
      have ec : cutV xs l h = xs := by
        unfold cutV
        rw [hw.1, hw.2]
        simp
      rw [← ec]
      exact cutD_V rr l h⟩⟩
end
end DL

set_option Elab.async false
set_option linter.all false
set_option maxRecDepth 100000
set_option maxHeartbeats 4000000
namespace DL
open PySem PySem.Spec L2

/-! ### arguments, calls of built-ins -/
def mNil : M (List D) := fun _ z => .ok [] z
def mCons (a : M D) (r : M (List D)) : M (List D) := fun s z => (a s z).bind fun x z => (r s z).bind fun xs z => .ok (x :: xs) z
def mOpt (e : Option D) (z : Z) : ER D := match e with
  | some d => .ok d z
  | none => .bad
def mCall (g : List D → Option D) (m : M (List D)) : M D := fun s z => (m s z).bind fun xs z => mOpt (g xs) z
def C1D (c : FC) (g : List D → Option D) : List V → Hp → VK → Prop := fun vs H Q => ∃ w σ ds d, SR c w σ H ∧ RepTs c w.F H ds vs ∧ g ds = some d ∧ Wt c σ w H d Q
theorem wnt_opt {c : FC} {W : WX} {σ : L2.St} {w : Wd} {H : Hp} {Q : VK} {e : Option D} (s : SR c w σ H) (h : Wnt c W σ w H (fun w' H' d => ∀ v, Rep c.cl w'.F d v → Q v H') (mOpt e w.z)) : ∃ d, e = some d ∧ Wt c σ w H d Q := wnt_op s h
theorem RepTs.one {c : FC} {F H : Hp} {d : D} {vs : List V} (h : RepTs c F H [d] vs) : ∃ v, vs = [v] ∧ RepT c F H d v := by
  obtain ⟨y, ys, rfl, r, h⟩ := h
  exact ⟨y, by rw [show ys = [] from h], r⟩
theorem RepTs.two {c : FC} {F H : Hp} {d e : D} {vs : List V} (h : RepTs c F H [d, e] vs) : ∃ v u, vs = [v, u] ∧ RepT c F H d v ∧ RepT c F H e u := by
  obtain ⟨y, ys, rfl, r, h⟩ := h
  obtain ⟨u, e, r2⟩ := h.one
  exact ⟨y, u, by rw [e], r, r2⟩
section
variable {X : Cx} {c : FC} {W : WX} {a b e : Expr} {ma mb m : M D} {mr : M (List D)} {pos p : Pos} {g : List D → Option D} {es : List Expr} {x : Str}
theorem dav_nil : PA X [] (tAV c W mNil) := pa_imp pa_nil fun σ H Q ⟨w, s, q⟩ => Wnt.ok s q [] rfl
theorem dav_cons (ha : PE X e (tV c W ma)) (hr : PA X es (tAV c W mr)) (hs : starEach (e :: es) X.env = (false, eval e X.env) :: starEach es X.env := by rfl) : PA X (e :: es) (tAV c W (mCons ma mr)) :=
  pa_imp (pa_cons ha hr hs) fun σ H Q ⟨w, s, q⟩ => ⟨w, s, (Wnt.bind q).imp fun w1 H1 dx s1 q1 v1 r1 => ⟨w1, s1.sr, by
    rw [s1.sl]
    exact (Wnt.bind q1).imp fun w2 H2 l s2 q2 vs rs => Wnt.ok s2.sr q2 (v1 :: vs) ⟨v1, vs, rfl, RepT.keep s2.le s2.keep r1, rs⟩⟩⟩
theorem daf_nil : PA X [] (tAF c W mNil) := pa_imp pa_nil fun σ H Q ⟨w, s, q⟩ => Wnt.ok s q [] (by simp [Reps])
theorem daf_cons (ha : PE X e (tF c W ma)) (hr : PA X es (tAF c W mr)) (hs : starEach (e :: es) X.env = (false, eval e X.env) :: starEach es X.env := by rfl) : PA X (e :: es) (tAF c W (mCons ma mr)) :=
  pa_imp (pa_cons ha hr hs) fun σ H Q ⟨w, s, q⟩ => ⟨w, s, (Wnt.bind q).imp fun w1 H1 dx s1 q1 v1 r1 => ⟨w1, s1.sr, by
    rw [s1.sl]
    exact (Wnt.bind q1).imp fun w2 H2 l s2 q2 vs rs => Wnt.ok s2.sr q2 (v1 :: vs) (.cons (Rep.le s2.le r1) rs)⟩⟩
theorem call_to {σ : L2.St} {H : Hp} {Q : VK} (q : tF c W (mCall g mr) σ H Q) : tCB (C1D c g) (tAV c W mr) σ H Q := by
  obtain ⟨w, s, q⟩ := q
  refine ⟨w, s, (Wnt.bind q).imp fun w1 H1 ds s1 q1 vs rs => ?_⟩
  obtain ⟨d, e, q3⟩ := wnt_opt s1.sr q1
  exact ⟨w1, σ, ds, d, s1.sr, rs, e, q3⟩
theorem callR_imp {f : Value} {r r' : List V → Hp → VK → Prop} (h : CallR X f r) (q : ∀ xs H Q, r' xs H Q → r xs H Q) : CallR X f r' := fun pins s σ H xs us Q I rs hw => h pins s σ H xs us Q I rs (q _ _ _ hw)
theorem callR_or {f : Value} {r r' : List V → Hp → VK → Prop} (h : CallR X f r) (h' : CallR X f r') : CallR X f (fun xs H Q => r xs H Q ∨ r' xs H Q) := fun pins s σ H xs us Q I rs hw => hw.elim (h pins s σ H xs us Q I rs) (h' pins s σ H xs us Q I rs)
theorem df_callB {id : String} (hc : CallR X (.builtin id) (C1D c g)) (hg : Gl X x) (hm : X.mg x = none) (hv : bootBuiltins x = some (.builtin id)) (ha : PA X (e :: es) (tAV c W mr)) (hn : x ≠ "__name__" := by decide) (hdb : (x == ("__debug__" : Str)) = false := by decide)
    (he : starEach (e :: es) X.env = (false, eval e X.env) :: starEach es X.env := by rfl) (hpl : (backTo pos (starEach es X.env)).any (·.1) = false := by rfl) : PE X (.Call (.Name x p) (e :: es) [] pos) (tF c W (mCall g mr)) :=
  pe_imp (pe_callB hc hg hm hv ha hn hdb he hpl) fun _ _ _ q => call_to q
theorem df_callTy {T : String} (hc : CallR X (.type T) (C1D c g)) (hg : Gl X x) (hm : X.mg x = none) (hv : bootBuiltins x = some (.type T)) (ha : PA X (e :: es) (tAV c W mr)) (hn : x ≠ "__name__" := by decide) (hdb : (x == ("__debug__" : Str)) = false := by decide)
    (he : starEach (e :: es) X.env = (false, eval e X.env) :: starEach es X.env := by rfl) (hpl : (backTo pos (starEach es X.env)).any (·.1) = false := by rfl) : PE X (.Call (.Name x p) (e :: es) [] pos) (tF c W (mCall g mr)) :=
  pe_imp (pe_callTy hc hg hm hv ha hn hdb he hpl) fun _ _ _ q => call_to q

/-! len, str, int, list, tuple, all, any, sum -/
def dLen : List D → Option D
  | [.str x] => if x.length ≤ lim then some (.int x.length) else none
  | [.lst ds] => some (.int ds.length)
  | [.tup ds] => some (.int ds.length)
  | [.dic kvs] => some (.int kvs.length)
  | _ => none
theorem call_lenR : CallR X (.builtin "len") (fun xs H Q => ∃ a kvs, xs = [V.ref a] ∧ Rd H a (.dK kvs) ∧ Q (.int kvs.length) H) := by
  intro pins s σ H xs us Q I r h
  obtain ⟨a, kvs, rfl, e, q⟩ := h
  obtain ⟨u, rfl, ru⟩ := vals1 r
  obtain rfl : u = Value.ref a := ru
  exact d_len I e fun t s' I' => ⟨.int _, H, I', ⟨t, rfl⟩, q⟩
theorem c_len : CallR X (.builtin "len") (C1D c dLen) := by
  refine callR_imp (callR_or call_len call_lenR) fun xs H Q h => ?_
  obtain ⟨w, σ, ds, d, s, rs, e, q⟩ := h
  unfold dLen at e
  split at e
  · split at e
    · rename_i hl
      cases e
      obtain ⟨v, rfl, r⟩ := rs.one
      exact .inl ⟨_, _, rfl, by rw [r.str]; exact ⟨lim_line hl, rfl⟩, q.int s⟩
    · cases e
  · cases e
    obtain ⟨v, rfl, r⟩ := rs.one
    obtain ⟨p, ys, rfl, h1, _, rr⟩ := r
    exact .inl ⟨_, _, rfl, .inl ⟨ys, SqL.of h1, rfl⟩, by rw [rr.length]; exact q.int s⟩
  · cases e
    obtain ⟨v, rfl, r⟩ := rs.one
    obtain ⟨p, ys, rfl, h1, _, rr⟩ := r
    exact .inl ⟨_, _, rfl, .inr ⟨ys, SqT.of h1.1, rfl⟩, by rw [rr.length]; exact q.int s⟩
  · cases e
    obtain ⟨v, rfl, r⟩ := rs.one
    obtain ⟨p, ys, rfl, h1, _, rr⟩ := r
    exact .inr ⟨p, ys, rfl, h1, by rw [rr.length]; exact q.int s⟩
  · cases e
def strI (i : Int) : Str := (toString i : String)
def dStr : List D → Option D
  | [.int i] => if i.natAbs < 2 ^ 1000 then some (.str (strI i)) else none
  | _ => none
theorem log2_lt {n : Nat} (h : n < 2 ^ 1000) : n.log2 < 1920 := by
  by_cases h0 : n = 0
  · subst h0
    decide
  · have := (Nat.log2_lt h0).mpr h
    omega
theorem c_str : CallR X (.type "str") (C1D c dStr) := by
  refine callR_imp call_str_int fun xs H Q h => ?_
  obtain ⟨w, σ, ds, d, s, rs, e, q⟩ := h
  unfold dStr at e
  split at e
  · split at e
    · rename_i hl
      cases e
      obtain ⟨v, rfl, r⟩ := rs.one
      exact ⟨_, by rw [r.int], log2_lt hl, q.str s⟩
    · cases e
  · cases e
def dInt : List D → Option D
  | [.int i] => some (.int i)
  | [.bl b] => some (.int (if b = true then 1 else 0))
  | [.str x] => if x.length ≤ 600 then (PySem.intText? x).map .int else none
  | _ => none
theorem c_int : CallR X (.type "int") (C1D c dInt) := by
  refine callR_imp (callR_or call_int1 call_int_str) fun xs H Q h => ?_
  obtain ⟨w, σ, ds, d, s, rs, e, q⟩ := h
  unfold dInt at e
  split at e
  · cases e
    obtain ⟨v, rfl, r⟩ := rs.one
    exact .inl (.inl ⟨_, by rw [r.int], q.int s⟩)
  · cases e
    obtain ⟨v, rfl, r⟩ := rs.one
    exact .inl (.inr ⟨_, by rw [r.bl], q.int s⟩)
  · split at e
    · rename_i hl
      rw [Option.map_eq_some_iff] at e
      obtain ⟨n, e, rfl⟩ := e
      obtain ⟨v, rfl, r⟩ := rs.one
      exact .inr ⟨_, n, by rw [r.str], e, by omega, q.int s⟩
    · cases e
  · cases e
def keyOf : Key → D
  | .inl i => .int i
  | .inr x => .str x
theorem keys_reps {cl : Str → Option Addr} {F : Hp} : ∀ {kvs : List (Key × D)} {xs : List (Key × V)}, RepK cl F kvs xs → Reps cl F (kvs.map fun kv => keyOf kv.1) (xs.map fun kv => kV kv.1)
  | [], xs, h => by
    simp only [RepK] at h
    subst h
    simp [Reps]
  | (k, d) :: kvs, xs, h => by
    simp only [RepK] at h
    obtain ⟨y, ys, rfl, _, h⟩ := h
    exact .cons (by cases k <;> simp [Rep, keyOf, kV]) (keys_reps h)
def dList : List D → Option D
  | [.lst ds] => some (.lst ds)
  | [.tup ds] => some (.lst ds)
  | _ => none
theorem c_list : CallR X (.type "list") (C1D c dList) := by
  refine callR_imp call_list_of fun xs H Q h => ?_
  obtain ⟨w, σ, ds, d, s, rs, e, q⟩ := h
  unfold dList at e
  split at e
  · cases e
    obtain ⟨v, rfl, r⟩ := rs.one
    obtain ⟨p, ys, rfl, h1, _, rr⟩ := r
    exact ⟨p, ys, rfl, .inl (SqL.of h1), q.new s ⟨_, rfl, rr⟩⟩
  · cases e
    obtain ⟨v, rfl, r⟩ := rs.one
    obtain ⟨p, ys, rfl, h1, _, rr⟩ := r
    exact ⟨p, ys, rfl, .inr (SqT.of h1.1), q.new s ⟨_, rfl, rr⟩⟩
  · cases e
def dTuple : List D → Option D
  | [.lst ds] => some (.tup ds)
  | [.tup ds] => some (.tup ds)
  | _ => none
theorem c_tuple : CallR X (.type "tuple") (C1D c dTuple) := by
  refine callR_imp call_tuple_of fun xs H Q h => ?_
  obtain ⟨w, σ, ds, d, s, rs, e, q⟩ := h
  unfold dTuple at e
  split at e
  · cases e
    obtain ⟨v, rfl, r⟩ := rs.one
    obtain ⟨p, ys, rfl, h1, _, rr⟩ := r
    exact ⟨p, ys, rfl, .inl ⟨SqL.of h1, q.new s ⟨_, rfl, rr⟩⟩⟩
  · cases e
    obtain ⟨v, rfl, r⟩ := rs.one
    obtain ⟨p, ys, rfl, h1, _, rr⟩ := r
    exact ⟨p, ys, rfl, .inr ⟨SqT.of h1.1, q.val s ⟨p, ys, rfl, h1.2, rr⟩⟩⟩
  · cases e
def bools : List D → Option (List Bool)
  | [] => some []
  | .bl b :: ds => (bools ds).map fun bs => b :: bs
  | _ => none
theorem bools_reps {cl : Str → Option Addr} {F : Hp} : ∀ {ds : List D} {xs : List V} {bs : List Bool}, Reps cl F ds xs → bools ds = some bs → xs = bs.map V.bl
  | [], xs, bs, h, e => by
    simp only [Reps] at h
    simp only [bools, Option.some.injEq] at e
    subst e h
    rfl
  | d :: ds, xs, bs, h, e => by
    simp only [Reps] at h
    obtain ⟨y, ys, rfl, r, h⟩ := h
    cases d <;> simp only [bools, reduceCtorEq, Option.map_eq_some_iff] at e
    obtain ⟨bs', e, rfl⟩ := e
    rw [bools_reps h e]
    simp only [Rep] at r
    subst r
    rfl
def dAll : List D → Option D
  | [.lst ds] => (bools ds).map fun bs => .bl (bs.all id)
  | _ => none
def dAny : List D → Option D
  | [.lst ds] => (bools ds).map fun bs => .bl (bs.any id)
  | _ => none
theorem c_all (hc : X.calm = true) : CallR X (.builtin "all") (C1D c dAll) := by
  refine callR_imp (cr_all hc) fun xs H Q h => ?_
  obtain ⟨w, σ, ds, d, s, rs, e, q⟩ := h
  unfold dAll at e
  split at e
  · rw [Option.map_eq_some_iff] at e
    obtain ⟨bs, e, rfl⟩ := e
    obtain ⟨v, rfl, r⟩ := rs.one
    obtain ⟨p, ys, rfl, h1, _, rr⟩ := r
    exact ⟨p, bs, rfl, by rw [← bools_reps rr e]; exact SqL.of h1, q.bl s⟩
  · cases e
theorem c_any (hc : X.calm = true) : CallR X (.builtin "any") (C1D c dAny) := by
  refine callR_imp (cr_any hc) fun xs H Q h => ?_
  obtain ⟨w, σ, ds, d, s, rs, e, q⟩ := h
  unfold dAny at e
  split at e
  · rw [Option.map_eq_some_iff] at e
    obtain ⟨bs, e, rfl⟩ := e
    obtain ⟨v, rfl, r⟩ := rs.one
    obtain ⟨p, ys, rfl, h1, _, rr⟩ := r
    exact ⟨p, bs, rfl, by rw [← bools_reps rr e]; exact SqL.of h1, q.bl s⟩
  · cases e
/-! dict(pairs), dict(d) -/
def pairsD : List D → Option (List (Key × D))
  | [] => some []
  | .tup [k, d] :: ds => (keyD k).bind fun k => (pairsD ds).map fun r => (k, d) :: r
  | _ => none
def mergeD {κ α : Type} [DecidableEq κ] (acc more : List (κ × α)) : List (κ × α) := more.foldl (fun acc kv => setK acc kv.1 kv.2) acc
def dDict : List D → Option D
  | [.lst ds] => (pairsD ds).map fun kvs => .dic (mergeD [] kvs)
  | [.dic kvs] => some (.dic kvs)
  | _ => none
theorem RepK.any {cl : Str → Option Addr} {F : Hp} {k : Key} : ∀ {kvs : List (Key × D)} {xs : List (Key × V)}, RepK cl F kvs xs → (xs.any fun kv => decide (kv.1 = k)) = (kvs.any fun kv => decide (kv.1 = k))
  | [], xs, h => by
    simp only [RepK] at h
    subst h
    rfl
  | (j, d) :: kvs, xs, h => by
    simp only [RepK] at h
    obtain ⟨y, ys, rfl, _, h⟩ := h
    simp only [List.any_cons, RepK.any h]
theorem RepK.put {cl : Str → Option Addr} {F : Hp} {k : Key} {d : D} {v : V} {kvs : List (Key × D)} {xs : List (Key × V)} (h : RepK cl F kvs xs) (r : Rep cl F d v) : RepK cl F (setK kvs k d) (putK xs k v) := by
  have e : putK xs k v = if (xs.any fun kv => decide (kv.1 = k)) = true then xs.map (fun kv => if kv.1 = k then (kv.1, v) else kv) else xs ++ [(k, v)] := by
    first
      | rfl
      | (unfold putK; split <;> simp_all)
  rw [e, h.any]
  unfold setK
  split
  · have : ∀ {kvs : List (Key × D)} {xs : List (Key × V)}, RepK cl F kvs xs → RepK cl F (kvs.map fun kv => if kv.1 = k then (kv.1, d) else kv) (xs.map fun kv => if kv.1 = k then (kv.1, v) else kv) := by
      intro kvs
      induction kvs with
      | nil =>
        intro xs h
        simp only [RepK] at h
        subst h
        simp [RepK]
      | cons kv kvs ih =>
        intro xs h
        obtain ⟨j, e⟩ := kv
        simp only [RepK] at h
        obtain ⟨y, ys, rfl, ry, h⟩ := h
        simp only [List.map_cons]
        by_cases c : j = k
        · rw [if_pos c, if_pos c]
          simp only [RepK]
          exact ⟨v, _, rfl, r, ih h⟩
        · rw [if_neg c, if_neg c]
          simp only [RepK]
          exact ⟨y, _, rfl, ry, ih h⟩
    exact this h
  · have : ∀ {kvs : List (Key × D)} {xs : List (Key × V)}, RepK cl F kvs xs → RepK cl F (kvs ++ [(k, d)]) (xs ++ [(k, v)]) := by
      intro kvs
      induction kvs with
      | nil =>
        intro xs h
        simp only [RepK] at h
        subst h
        simp [RepK, r]
      | cons kv kvs ih =>
        intro xs h
        obtain ⟨j, e⟩ := kv
        simp only [RepK] at h
        obtain ⟨y, ys, rfl, ry, h⟩ := h
        simp only [List.cons_append, RepK]
        exact ⟨y, _, rfl, ry, ih h⟩
    exact this h
theorem RepK.merge {cl : Str → Option Addr} {F : Hp} : ∀ {more : List (Key × D)} {ys : List (Key × V)} {acc : List (Key × D)} {xs : List (Key × V)}, RepK cl F more ys → RepK cl F acc xs → RepK cl F (mergeD acc more) (mergeK xs ys)
  | [], ys, acc, xs, h, h' => by
    simp only [RepK] at h
    subst h
    exact h'
  | (k, d) :: more, ys, acc, xs, h, h' => by
    simp only [RepK] at h
    obtain ⟨y, zs, rfl, r, h⟩ := h
    show RepK cl F (mergeD (setK acc k d) more) (mergeK (putK xs k y) zs)
    exact RepK.merge h (h'.put r)
theorem pairs_reps {H : Hp} {w : Wd} {σ : L2.St} (s : SR c w σ H) : ∀ {ds : List D} {xs : List V} {kvs : List (Key × D)}, Reps c.cl w.F ds xs → pairsD ds = some kvs → ∃ (ps : List Addr) (ys : List (Key × V)), xs = ps.map V.ref ∧ Paired (fun p kv => SqT X.K H p [kV kv.1, kv.2]) ps ys ∧ RepK c.cl w.F kvs ys
  | [], xs, kvs, h, e => by
    simp only [Reps] at h
    simp only [pairsD, Option.some.injEq] at e
    subst e h
    exact ⟨[], [], rfl, .nil, by simp [RepK]⟩
  | d :: ds, xs, kvs, h, e => by
    simp only [Reps] at h
    obtain ⟨y, ys, rfl, r, h⟩ := h
    unfold pairsD at e
    split at e
    · rename_i heq
      cases heq
    · rename_i k d' ds' heq
      cases heq
      simp only [Option.bind_eq_some_iff, Option.map_eq_some_iff] at e
      obtain ⟨k', ek, r', e, rfl⟩ := e
      obtain ⟨ps, zs, rfl, hp, hk⟩ := pairs_reps s h e
      obtain ⟨p, us, rfl, hF, rr⟩ := r
      simp only [Reps] at rr
      obtain ⟨v1, l1, rfl, r1, v2, l2, rfl, r2, rfl⟩ := rr
      have e1 := keyD_rep (c := c) (H := H) ek (s.view r1)
      subst e1
      exact ⟨p :: ps, (k', v2) :: zs, rfl, .cons (SqT.of (s.sub _ _ hF).tup) hp, by simp only [RepK]; exact ⟨v2, zs, rfl, r2, hk⟩⟩
    · cases e
theorem call_copyR : CallR X (.type "dict") (fun xs H Q => ∃ a kvs, xs = [V.ref a] ∧ Rd H a (.dK kvs) ∧ ∀ p, H p = none → Q (.ref p) (upd H p (.dK kvs))) := by
  intro pins s σ H xs us Q I r h
  obtain ⟨a, kvs, rfl, e, q⟩ := h
  obtain ⟨u, rfl, ru⟩ := vals1 r
  obtain rfl : u = Value.ref a := ru
  exact d_copyOf I e fun p s' hp I' => ⟨.ref p, _, I', rfl, q p hp⟩
theorem c_dict (hc : X.calm = true) : CallR X (.type "dict") (C1D c dDict) := by
  refine callR_imp (callR_or (call_dictP hc) call_copyR) fun xs H Q h => ?_
  obtain ⟨w, σ, ds, d, s, rs, e, q⟩ := h
  unfold dDict at e
  split at e
  · rw [Option.map_eq_some_iff] at e
    obtain ⟨kvs, e, rfl⟩ := e
    obtain ⟨v, rfl, r⟩ := rs.one
    obtain ⟨p, ys, rfl, h1, _, rr⟩ := r
    obtain ⟨ps, zs, rfl, hp, hk⟩ := pairs_reps (X := X) s rr e
    exact .inl ⟨p, ps, zs, rfl, SqL.of h1, hp, q.new s ⟨_, rfl, RepK.merge hk (by simp [RepK])⟩⟩
  · cases e
    obtain ⟨v, rfl, r⟩ := rs.one
    obtain ⟨p, ys, rfl, h1, _, rr⟩ := r
    exact .inr ⟨p, ys, rfl, h1, q.new s ⟨_, rfl, rr⟩⟩
  · cases e
end
end DL

set_option Elab.async false
set_option linter.all false
set_option maxRecDepth 100000
set_option maxHeartbeats 4000000
namespace DL
open PySem PySem.Spec L2

/-! ### isinstance -/
inductive Ty where
  | int | bool | str | list | tuple | dict
  deriving DecidableEq
def Ty.name : Ty → String
  | .int => "int"
  | .bool => "bool"
  | .str => "str"
  | .list => "list"
  | .tuple => "tuple"
  | .dict => "dict"
def tyN : D → Option String
  | .non => some "NoneType"
  | .bl _ => some "bool"
  | .int _ => some "int"
  | .str _ => some "str"
  | .lst _ => some "list"
  | .tup _ => some "tuple"
  | .dic _ => some "dict"
  | _ => none
def isTy : D → Ty → Option Bool
  | .non, _ => some false
  | .bl _, t => some (decide (t = .bool ∨ t = .int))
  | .int _, t => some (decide (t = .int))
  | .str _, t => some (decide (t = .str))
  | .lst _, t => some (decide (t = .list))
  | .tup _, t => some (decide (t = .tuple))
  | .dic _, t => some (decide (t = .dict))
  | _, _ => none
theorem kit_all (n : String) (hn : n ∈ ["NoneType", "bool", "int", "str", "list", "tuple", "dict"]) (t : Ty) : kitB n t.name = some (decide ((n = t.name) ∨ (n = "bool" ∧ t = .int))) := by
  simp only [List.mem_cons, List.not_mem_nil, or_false] at hn
  rcases hn with rfl | rfl | rfl | rfl | rfl | rfl | rfl <;> cases t <;> decide +kernel
theorem isTy_kit {d : D} {t : Ty} {b : Bool} (h : isTy d t = some b) : ∃ n, tyN d = some n ∧ kitB n t.name = some b := by
  cases d <;> simp only [isTy, reduceCtorEq, Option.some.injEq] at h <;> subst h <;> refine ⟨_, rfl, ?_⟩ <;> rw [kit_all _ (by simp)] <;> cases t <;> rfl
theorem tyN_x {K : PySem.W.Frag} {c : FC} {F H : Hp} {d : D} {v : V} {n : String} (r : RepT c F H d v) (h : tyN d = some n) : TyX K H v (.type n) := by
  cases d <;> simp only [tyN, reduceCtorEq, Option.some.injEq] at h <;> subst h
  · rw [r.non]; exact .base .non
  · rw [r.bl]; exact .base (.bl _)
  · rw [r.int]; exact .base (.int _)
  · rw [r.str]; exact .base (.str _)
  · obtain ⟨p, ys, rfl, h1, _, rr⟩ := r
    exact .base (.lst h1)
  · obtain ⟨p, ys, rfl, h1, _, rr⟩ := r
    exact .base (.tup h1.1)
  · obtain ⟨p, ys, rfl, h1, _, rr⟩ := r
    rcases h1 with h1 | ⟨o, h1⟩
    · exact .base (.dK h1)
    · exact .fDict h1
def isTys (d : D) : List Ty → Option Bool
  | [] => some false
  | t :: ts => (isTy d t).bind fun b => if b = true then some true else isTys d ts
theorem isTys_kit {K : PySem.W.Frag} {d : D} {n : String} (hn : tyN d = some n) : ∀ {ts : List Ty} {b : Bool}, isTys d ts = some b → PySem.W.kitAny K (.type n) (ts.map fun t => .type t.name) = some b
  | [], b, h => by
    simp only [isTys, Option.some.injEq] at h
    subst h
    exact kitAny_nil
  | t :: ts, b, h => by
    simp only [isTys, Option.bind_eq_some_iff] at h
    obtain ⟨k, e, h⟩ := h
    obtain ⟨n', e1, e2⟩ := isTy_kit e
    rw [hn] at e1
    cases e1
    refine kitAny_cons (kit_ty e2) (fun hk => ?_) fun hk => ?_
    · subst hk
      exact isTys_kit hn (by simpa using h)
    · subst hk
      simpa using h.symm
def mIsi (ts : List Ty) (m : M D) : M D := fun s z => (m s z).bind fun x z => mOpt ((isTys x ts).map .bl) z
section
variable {X : Cx} {c : FC} {W : WX} {a b e : Expr} {ma mb m : M D} {mr : M (List D)} {pos p : Pos} {es : List Expr} {x : Str}
theorem df_isi {tE : Expr} {t : Ty} (hg : Gl X "isinstance") (hm : X.mg "isinstance" = none) (ha : PE X a (tV c W ma)) (hT : PE X tE (tC (.ty t.name)))
    (he : starEach [a, tE] X.env = (false, eval a X.env) :: starEach [tE] X.env := by rfl) (he2 : starEach [tE] X.env = (false, eval tE X.env) :: starEach [] X.env := by rfl) (hpl : (backTo pos (starEach [tE] X.env)).any (·.1) = false := by rfl) :
    PE X (.Call (.Name "isinstance" p) [a, tE] [] pos) (tF c W (mIsi [t] ma)) :=
  pe_imp (pe_callB call_isi hg hm (by decide +kernel) (pa_cons ha (pa_cons hT pa_nil he2) he) (by decide) (by decide) he hpl) fun σ H Q ⟨w, s, q⟩ => ⟨w, s, (Wnt.bind q).imp fun w1 H1 d s1 q1 v r => by
    obtain ⟨d', e, q2⟩ := wnt_opt s1.sr q1
    rw [Option.map_eq_some_iff] at e
    obtain ⟨b, e, rfl⟩ := e
    simp only [isTys, Option.bind_eq_some_iff] at e
    obtain ⟨k, e, h⟩ := e
    have hb : k = b := by cases k <;> simpa using h
    subst hb
    obtain ⟨n, e1, e2⟩ := isTy_kit e
    exact ⟨v, _, _, _, k, rfl, .ty _, tyN_x r e1, kit_ty e2, q2.bl s1.sr⟩⟩
theorem clsV_all : ∀ ts : List Ty, Paired ClsV (ts.map fun t => V.ty t.name) (ts.map fun t => Value.type t.name)
  | [] => .nil
  | _ :: ts => .cons (.ty _) (clsV_all ts)
theorem df_isiT {tEs : List Expr} {x1 : Nat} {t : Ty} {ts : List Ty} {tp : Pos} (hg : Gl X "isinstance") (hm : X.mg "isinstance" = none) (ha : PE X a (tV c W ma)) (hT : PA X tEs (fun _ H Q => Q ((t :: ts).map fun t => .ty t.name) H)) (hl : (t :: ts).length ≤ 10)
    (he : starEach [a, .Tuple tEs x1 tp] X.env = (false, eval a X.env) :: starEach [.Tuple tEs x1 tp] X.env := by rfl) (he2 : starEach [.Tuple tEs x1 tp] X.env = (false, eval (.Tuple tEs x1 tp) X.env) :: starEach [] X.env := by rfl)
    (hpl : (backTo pos (starEach [.Tuple tEs x1 tp] X.env)).any (·.1) = false := by rfl) :
    PE X (.Call (.Name "isinstance" p) [a, .Tuple tEs x1 tp] [] pos) (tF c W (mIsi (t :: ts) ma)) :=
  pe_imp (pe_callB call_isiT hg hm (by decide +kernel) (pa_cons ha (pa_cons (pe_tup hT) pa_nil he2) he) (by decide) (by decide) he hpl) fun σ H Q ⟨w, s, q⟩ => ⟨w, s, (Wnt.bind q).imp fun w1 H1 d s1 q1 v r => by
    obtain ⟨d', e, q2⟩ := wnt_opt s1.sr q1
    rw [Option.map_eq_some_iff] at e
    obtain ⟨b, e, rfl⟩ := e
    refine ⟨by rw [List.length_map, sizeLine_eq]; omega, fun tp' hp => ?_⟩
    have e0 := e
    simp only [isTys, Option.bind_eq_some_iff] at e0
    obtain ⟨k, e0, h⟩ := e0
    obtain ⟨n, hn, e2⟩ := isTy_kit e0
    have s2 := s1.sr.track (.tup ((t :: ts).map fun t => .ty t.name)) hp
    exact ⟨v, tp', _, _, (t :: ts).map (fun t => .type t.name), b, rfl, upd_same, clsV_all _, tyN_x (RepT.keep s2.le s2.keep r) hn, isTys_kit hn e, q2 _ _ _ s2 rfl (by simp [Rep])⟩⟩
end
end DL

set_option Elab.async false
set_option linter.all false
set_option maxRecDepth 100000
set_option maxHeartbeats 4000000
namespace DL
open PySem PySem.Spec L2

/-! ### objects of our own: written, frozen -/
def NoOwn (w : Wd) (σ : L2.St) (p : Addr) : Prop := ∀ (i : Nat) (d : D), w.sl[i]? = some (Slot.own d) → σ[i]? ≠ some (some (V.ref p))
section
variable {c : FC} {w : Wd} {σ : L2.St} {H : Hp} {p : Addr} {o o' : HO}
theorem SR.h0 (s : SR c w σ H) (hp : H p = none) : c.H0 p = none := by
  cases e : c.H0 p with
  | none => rfl
  | some u =>
    by_cases m : p ∈ c.chg
    · obtain ⟨v, z⟩ := s.chgd p m
      rw [hp] at z; cases z
    · rcases s.keep p u e m with z | ⟨_, _, z⟩
      · rw [hp] at z; cases z
      · rw [hp] at z; cases z
theorem SR.nochg (s : SR c w σ H) (hp : H p = none) : p ∉ c.chg := fun m => by
  obtain ⟨v, z⟩ := s.chgd p m
  rw [hp] at z; cases z
theorem SR.noown (s : SR c w σ H) (hp : H p = none) : NoOwn w σ p := fun i d h e => by
  obtain ⟨a, e1, o1, _⟩ := s.slots i _ h
  rw [e1] at e
  cases e
  obtain ⟨u, z⟩ := o1.some
  rw [hp] at z; cases z
theorem SR.over (s : SR c w σ H) (q : H p = some o) (ho : ∀ x, o ≠ .own x) (hF : w.F p = none) (h0 : c.H0 p = none) (hc : p ∉ c.chg) (hs : NoOwn w σ p) : SR c w σ (upd H p o') where
  sub := fun a u h => by
    have : a ≠ p := fun z => by rw [z, hF] at h; cases h
    rcases s.sub a u h with z | ⟨d, ob, z⟩
    · exact .inl (by rw [upd_ne this]; exact z)
    · exact .inr ⟨d, ob, by rw [upd_ne this]; exact z⟩
  keep := fun a u h n => by
    have : a ≠ p := fun z => by rw [z, h0] at h; cases h
    rcases s.keep a u h n with z | ⟨ob, l, z⟩
    · exact .inl (by rw [upd_ne this]; exact z)
    · exact .inr ⟨ob, l, by rw [upd_ne this]; exact z⟩
  slots := fun i sl h => by
    have q1 := s.slots i sl h
    cases sl with
    | own d =>
      obtain ⟨a, e1, e2, e3, e4, e5⟩ := q1
      have : a ≠ p := fun z => by subst z; exact hs i d h e1
      exact ⟨a, e1, OwnR.le (Le.refl _) (fun o z => by rw [upd_ne this]; exact z) e2, e3, e4, e5⟩
    | slf cn fs =>
      obtain ⟨a, dx, C, gs, e, e1, e2, e3, e4, e5, e6, e7⟩ := q1
      have h1 : a ≠ p := fun z => hc (by rw [← z, e2]; simp)
      have h2 : dx ≠ p := fun z => by
        rw [z, q] at e4
        exact ho _ (Option.some.inj e4)
      exact ⟨a, dx, C, gs, e, e1, e2, by rw [upd_ne h1]; exact e3, by rw [upd_ne h2]; exact e4, e5, e6, e7⟩
    | none => trivial
    | sh d => exact q1
    | strm => exact q1
    | xcp cn fs => exact q1
  dist := s.dist
  fmut := s.fmut
  chgd := fun a m => by
    obtain ⟨u, z⟩ := s.chgd a m
    exact ⟨u, by rw [upd_ne (fun e => hc (by rw [← e]; exact m))]; exact z⟩
  strm := fun sa la h => by
    obtain ⟨⟨h1, h2⟩, h3⟩ := s.strm sa la h
    exact ⟨⟨by rw [upd_ne (fun e => hc (by rw [← e, h3]; simp))]; exact h1, by rw [upd_ne (fun e => hc (by rw [← e, h3]; simp))]; exact h2⟩, h3⟩
  fz0 := s.fz0
  len := s.len
  lkd := fun a ha => by
    obtain ⟨u, e1, e2, e3⟩ := s.lkd a ha
    exact ⟨u, e1, e2, by rw [upd_ne (fun z => by rw [z, hF] at e1; cases e1)]; exact e3⟩
  lks := fun a u o h d e => by
    rw [upd_ne (fun z => by rw [z, hF] at h; cases h)] at e
    exact s.lks a u o h d e
theorem SR.frzF (s : SR c w σ H) (q : H p = some o) (ho : ∀ x, o ≠ .own x) (hF : w.F p = none) (h0 : c.H0 p = none) (hc : p ∉ c.chg) (hs : NoOwn w σ p) : SR c { w with F := upd w.F p o } σ H where
  sub := fun a u h => by
    by_cases e : a = p
    · subst e
      have h2 : upd w.F a o a = some u := h
      rw [upd_same] at h2
      cases h2
      exact .inl q
    · have h2 : upd w.F p o a = some u := h
      rw [upd_ne e] at h2
      exact s.sub a u h2
  keep := s.keep
  slots := fun i sl h => by
    have l : Le w.F (upd w.F p o) := fun a u h => by rw [upd_ne (ne_of_none h hF)]; exact h
    have q1 := s.slots i sl h
    cases sl with
    | own d =>
      obtain ⟨a, e1, e2, e3, e4, e5⟩ := q1
      have : a ≠ p := fun z => by subst z; exact hs i d h e1
      exact ⟨a, e1, OwnR.le l (fun o z => z) e2, by show upd w.F p o a = none; rw [upd_ne this]; exact e3, e4, e5⟩
    | slf cn fs =>
      obtain ⟨a, dx, C, gs, e, e1, e2, e3, e4, e5, e6, e7⟩ := q1
      have h2 : dx ≠ p := fun z => by
        rw [z, q] at e4
        exact ho _ (Option.some.inj e4)
      exact ⟨a, dx, C, gs, e, e1, e2, e3, e4, RepF.le l e5, by show upd w.F p o dx = none; rw [upd_ne h2]; exact e6, e7⟩
    | none => trivial
    | sh d =>
      obtain ⟨v, e, r⟩ := q1
      exact ⟨v, e, Rep.le l r⟩
    | strm => exact q1
    | xcp cn fs =>
      obtain ⟨a, C, dd, e1, e2, e3, e4⟩ := q1
      exact ⟨a, C, dd, e1, e2, e3, e4.le l⟩
  dist := s.dist
  fmut := fun a m => by
    show upd w.F p o a = none
    rw [upd_ne (fun e => hc (by rw [← e]; exact m))]
    exact s.fmut a m
  chgd := s.chgd
  strm := s.strm
  fz0 := fun a u h n => by
    show upd w.F p o a = none
    rw [upd_ne (fun e => by rw [e, h0] at h; cases h)]
    exact s.fz0 a u h n
  len := s.len
  lkd := fun a ha => by
    obtain ⟨u, e1, e2, e3⟩ := s.lkd a ha
    exact ⟨u, by show upd w.F p o a.1 = some u; rw [upd_ne (ne_of_none e1 hF)]; exact e1, e2, e3⟩
  lks := fun a u o' h d e => by
    by_cases z : a = p
    · subst z
      have h2 : upd w.F a o a = some u := h
      rw [upd_same] at h2
      cases h2
      obtain ⟨kvs, rfl⟩ := d
      rw [q] at e
      cases e
    · have h2 : upd w.F p o a = some u := h
      rw [upd_ne z] at h2
      exact s.lks a u o' h2 d e
theorem Step.wasnone {w1 : Wd} {H1 : Hp} (s1 : Step c σ w H w1 H1) (h : H1 p = none) : H p = none := by
  cases e : H p with
  | none => rfl
  | some u =>
    by_cases m : p ∈ c.chg
    · obtain ⟨v, z⟩ := s1.sr.chgd p m
      rw [h] at z; cases z
    · rw [s1.keep p u e m] at h; cases h
/-- an object that is new since then, written; and frozen -/
theorem Step.lay {w1 : Wd} {H1 : Hp} (s : SR c w σ H) (hp : H p = none) (s1 : Step c σ w H w1 H1) (hF : w1.F p = none) (ho : ∀ x, H1 p ≠ some (.own x)) (hn : ∀ x, o' ≠ .own x) :
    Step c σ w H w1 (upd H1 p o') ∧ Step c σ w H { w1 with F := upd w1.F p o' } (upd H1 p o') := by
  have hc := s.nochg hp
  have h0 := s.h0 hp
  have hno : NoOwn w1 σ p := fun i d h => by
    rw [s1.sl] at h
    exact s.noown hp i d h
  have s2 : SR c w1 σ (upd H1 p o') := by
    cases e : H1 p with
    | none => exact (s1.sr.track o' e).sr
    | some o0 => exact s1.sr.over e (fun x z => ho x (by rw [e, z])) hF h0 hc hno
  have k : ∀ a u, H a = some u → (H1 a = some u) → upd H1 p o' a = some u := fun a u h h' => by
    rw [upd_ne (ne_of_none h hp)]; exact h'
  refine ⟨⟨s2, s1.le, fun a u h n => k a u h (s1.keep a u h n), s1.lk, s1.sl, s1.fz, fun e a u h => k a u h (s1.all e a u h)⟩,
    ⟨s2.frzF upd_same hn hF h0 hc hno, s1.le.trans fun a u h => ?_, fun a u h n => k a u h (s1.keep a u h n), s1.lk, s1.sl, fun a u h n => ?_, fun e a u h => k a u h (s1.all e a u h)⟩⟩
  · show upd w1.F p o' a = some u
    rw [upd_ne (ne_of_none h hF)]; exact h
  · show upd w1.F p o' a = none
    rw [upd_ne (ne_of_none h hp)]
    exact s1.fz a u h n
end

/-! ### a new object that nothing else names -/
def tN (c : FC) (W : WX) (m : M D) : TE := fun σ H Q => ∃ w, SR c w σ H ∧ Wnt c W σ w H (fun w' H' d => ∀ o, NewR c.cl w'.F d o → ∀ p, H p = none → w'.F p = none → (∀ x, H' p ≠ some (.own x)) → Q (.ref p) (upd H' p o)) (m w.sl w.z)
theorem newR_own {cl : Str → Option Addr} {F : Hp} {d : D} {o : HO} (n : NewR cl F d o) (x : Addr) : o ≠ .own x := fun e => by
  subst e
  cases d <;> first
    | (obtain ⟨_, h, _⟩ := n; cases h)
    | exact n.elim
theorem tn_at {c : FC} {W : WX} {σ : L2.St} {w w1 : Wd} {H H1 : Hp} {Q : VK} {d : D} {o : HO} (s1 : Step c σ w H w1 H1) (q : ∀ o, NewR c.cl w1.F d o → ∀ p, H p = none → w1.F p = none → (∀ x, H1 p ≠ some (.own x)) → Q (.ref p) (upd H1 p o))
    (n : NewR c.cl w1.F d o) (p : Addr) (hp : H1 p = none) : Q (.ref p) (upd H1 p o) := q o n p (s1.wasnone hp) (s1.sr.fnone hp) fun x z => by rw [hp] at z; cases z
def mDisp (mk : List D → D) (m : M (List D)) : M D := fun s z => (m s z).bind fun ds z => if ds.length ≤ lim then .ok (mk ds) z else .bad
theorem wnt_if {c : FC} {W : WX} {σ : L2.St} {w : Wd} {H : Hp} {α : Type} {R : Wd → Hp → α → Prop} {p : Prop} [Decidable p] {a : α} {z : Z} (h : Wnt c W σ w H R (if p then .ok a z else .bad)) : p ∧ Wnt c W σ w H R (.ok a z) := by
  by_cases q : p
  · rw [if_pos q] at h
    exact ⟨q, h⟩
  · rw [if_neg q] at h
    exact h.elim
section
variable {X : Cx} {c : FC} {W : WX} {a b e : Expr} {ma mb m : M D} {mr : M (List D)} {pos p : Pos} {es : List Expr} {x : Str}
theorem tn_tf {σ : L2.St} {H : Hp} {Q : VK} (h : tF c W m σ H Q) : tN c W m σ H Q := by
  obtain ⟨w, s, q⟩ := h
  refine ⟨w, s, ?_⟩
  cases hm : m w.sl w.z with
  | ok d z =>
    rw [hm] at q
    intro H' w' st e o n p hp hF ho
    exact q _ _ (Step.lay s hp st hF ho (newR_own n)).2 e _ (n.rep hF)
  | exc cn fs z =>
    rw [hm] at q
    exact q
  | bad =>
    rw [hm] at q
    exact q
theorem dn (h : PE X e (tN c W m)) : PE X e (tF c W m) := pe_imp h fun _ _ _ => tn_tf
theorem dn_lst (h : PA X es (tAF c W mr)) : PE X (.List es pos) (tN c W (mDisp .lst mr)) := pe_imp (pe_lst h) fun σ H Q ⟨w, s, q⟩ => ⟨w, s, (Wnt.bind q).imp fun w1 H1 ds s1 q1 vs r => by
  obtain ⟨hl, q2⟩ := wnt_if q1
  exact ⟨lim_line (by rw [r.length]; exact hl), fun p hp => tn_at s1 (W := W) (Wnt.ok s1.sr q2) ⟨_, rfl, r⟩ p hp⟩⟩
theorem dn_tup {x1} (h : PA X es (tAF c W mr)) : PE X (.Tuple es x1 pos) (tN c W (mDisp .tup mr)) := pe_imp (pe_tup h) fun σ H Q ⟨w, s, q⟩ => ⟨w, s, (Wnt.bind q).imp fun w1 H1 ds s1 q1 vs r => by
  obtain ⟨hl, q2⟩ := wnt_if q1
  exact ⟨lim_line (by rw [r.length]; exact hl), fun p hp => tn_at s1 (W := W) (Wnt.ok s1.sr q2) ⟨_, rfl, r⟩ p hp⟩⟩
theorem dn_dic0 : PE X (.Dict [] [] pos) (tN c W (mC (.dic []))) := pe_imp pe_dnewK fun σ H Q ⟨w, s, q⟩ p hp => tn_at (Step.refl s) (W := W) (Wnt.ok s q) ⟨_, rfl, by simp [RepK]⟩ p hp

/-! {k: v, ..} -/
inductive PD (X : Cx) (c : FC) (W : WX) : List (Option Expr) → List Expr → List (M D × M D) → List (TE × TE) → Prop where
  | nil : PD X c W [] [] [] []
  | cons {k v : Expr} {ks : List (Option Expr)} {vs : List Expr} {mk mv : M D} {ms : List (M D × M D)} {ts : List (TE × TE)} (hk : PE X k (tF c W mk)) (hv : PE X v (tF c W mv)) (hr : PD X c W ks vs ms ts) :
    PD X c W (some k :: ks) (v :: vs) ((mk, mv) :: ms) ((tF c W mk, tF c W mv) :: ts)
theorem PD.pps {ks : List (Option Expr)} {vs : List Expr} {ms : List (M D × M D)} {ts : List (TE × TE)} (h : PD X c W ks vs ms ts) : PPs X pos ks vs ts := by
  induction h with
  | nil => exact pps_nil
  | cons hk hv _ ih => exact pps_cons hk hv ih
def mPairs : List (M D × M D) → M (List (D × D))
  | [] => fun _ z => .ok [] z
  | (k, v) :: r => fun s z => (k s z).bind fun x z => (v s z).bind fun y z => (mPairs r s z).bind fun ps z => .ok ((x, y) :: ps) z
def RepP (cl : Str → Option Addr) (F : Hp) : List (D × D) → List (V × V) → Prop
  | [], ps => ps = []
  | (x, y) :: r, ps => ∃ u v q, ps = (u, v) :: q ∧ Rep cl F x u ∧ Rep cl F y v ∧ RepP cl F r q
theorem PD.reads {ks : List (Option Expr)} {vs : List Expr} {ms : List (M D × M D)} {ts : List (TE × TE)} (h : PD X c W ks vs ms ts) : ∀ {σ : L2.St} {H : Hp} {w : Wd} {Q : List (V × V) → Hp → Prop}, SR c w σ H → 
    Wnt c W σ w H (fun w' H' ds => ∀ ps, RepP c.cl w'.F ds ps → Q ps H') (mPairs ms w.sl w.z) → tPairs ts σ H Q := by
  induction h with
  | nil =>
    intro σ H w Q s q
    exact Wnt.ok s q [] rfl
  | cons hk hv _ ih =>
    intro σ H w Q s q
    refine ⟨w, s, (Wnt.bind q).imp fun w1 H1 x s1 q1 u ru => ⟨w1, s1.sr, ?_⟩⟩
    rw [s1.sl]
    refine (Wnt.bind q1).imp fun w2 H2 y s2 q2 v rv => ih s2.sr ?_
    rw [s2.sl, s1.sl]
    refine (Wnt.bind q2).imp fun w3 H3 ds s3 q3 ps rp => Wnt.ok s3.sr q3 _ ⟨u, v, ps, rfl, Rep.le (s2.le.trans s3.le) ru, Rep.le s3.le rv, rp⟩
def keyPairs : List (D × D) → Option (List (Key × D))
  | [] => some []
  | (k, v) :: r => match keyD k, keyPairs r with
    | some k, some r => some ((k, v) :: r)
    | _, _ => none
theorem RepP.kv {c : FC} {F H : Hp} : ∀ {ds : List (D × D)} {ps : List (V × V)} {kvs : List (Key × D)}, RepP c.cl F ds ps → keyPairs ds = some kvs → ∃ xs : List (Key × V), ps = xs.map (fun kv => (kV kv.1, kv.2)) ∧ RepK c.cl F kvs xs ∧ xs.length = kvs.length
  | [], _, _, h, e => by
    cases e
    exact ⟨[], by rw [show _ = [] from h]; rfl, by simp [RepK], rfl⟩
  | (x, y) :: r, _, kvs, h, e => by
    obtain ⟨u, v, q, rfl, hu, hv, hq⟩ := h
    unfold keyPairs at e
    split at e
    · rename_i k kr ek er
      cases e
      obtain ⟨xs, rfl, rk, hl⟩ := RepP.kv (c := c) (H := H) hq er
      refine ⟨(k, v) :: xs, ?_, ?_, by simp [hl]⟩
      · have : u = kV k := keyD_rep (c := c) (F := F) (H := H) ek (by cases x <;> first | exact hu | cases ek)
        rw [this]; rfl
      · simp only [RepK]
        exact ⟨v, xs, rfl, hv, rk⟩
    · cases e
def mDic (ms : List (M D × M D)) : M D := fun s z => (mPairs ms s z).bind fun ds z => match keyPairs ds with
  | some kvs => if kvs.length ≤ 15 then .ok (.dic (mergeD [] kvs)) z else .bad
  | none => .bad
theorem dn_dic {ks : List (Option Expr)} {vs : List Expr} {ms : List (M D × M D)} {ts : List (TE × TE)} (h : PD X c W ks vs ms ts) (hall : ks.all (·.isSome) = true) (hl : ks.length = vs.length) (h0 : ks ≠ []) (h15 : ks.length ≤ 15) :
    PE X (.Dict ks vs pos) (tF c W (mDic ms)) := pe_imp (pe_disp h.pps hall hl h0 h15) fun σ H Q ⟨w, s, q⟩ p hp => by
  have st := s.track (.dK []) hp
  have out : ∀ w1 H1 ds kvs, Step c σ w (upd H p (.dK [])) w1 H1 → mPairs ms w.sl w.z = .ok ds w1.z → keyPairs ds = some kvs → kvs.length ≤ 15 → ∀ ps, RepP c.cl w1.F ds ps → 
      H1 p = some (.dK []) ∧ ∃ kvs : List (Key × V), ps = kvs.map (fun kv => (kV kv.1, kv.2)) ∧ kvs.length ≤ 15 ∧ Q (.ref p) (upd H1 p (.dK (mergeK [] kvs))) := by
    intro w1 H1 ds kvs s1 em e hk ps rp
    obtain ⟨xs, rfl, rk, hxl⟩ := rp.kv (c := c) (H := H1) e
    have hF : w1.F p = none := s1.fz p _ upd_same (s.fnone hp)
    have hp1 : H1 p = some (.dK []) := s1.keep _ _ upd_same (s.nochg hp)
    have s3 := (Step.lay (o' := .dK (mergeK [] xs)) s hp (st.trans s1) hF (fun x z => by rw [hp1] at z; cases z) (fun x z => by cases z)).2
    have rk2 : RepK c.cl w1.F (mergeD [] kvs) (mergeK [] xs) := rk.merge (by simp [RepK])
    have l : Le w1.F (upd w1.F p (.dK (mergeK [] xs))) := fun a u h => by rw [upd_ne (ne_of_none h hF)]; exact h
    refine ⟨hp1, xs, rfl, by omega, ?_⟩
    have q2 := q
    unfold mDic at q2
    rw [em] at q2
    simp only [ER.bind, e, if_pos hk] at q2
    exact q2 _ _ s3 rfl _ ⟨p, _, rfl, upd_same, RepK.le l rk2⟩
  refine h.reads st.sr ?_
  unfold mDic at q
  show Wnt c W σ w (upd H p (.dK [])) _ (mPairs ms w.sl w.z)
  cases em : mPairs ms w.sl w.z with
  | ok ds z =>
    intro H1 w1 s1 ez ps rp
    subst ez
    rw [em] at q
    cases e : keyPairs ds with
    | none =>
      simp only [ER.bind, e] at q
      exact q.elim
    | some kvs =>
      by_cases hk : kvs.length ≤ 15
      · exact out w1 H1 ds kvs s1 em e hk ps rp
      · simp only [ER.bind, e, if_neg hk] at q
        exact q.elim
  | exc cn fs z =>
    rw [em] at q
    exact ErrW.step st q
  | bad =>
    rw [em] at q
    exact q
end
end DL

set_option Elab.async false
set_option linter.all false
set_option maxRecDepth 100000
set_option maxHeartbeats 4000000
namespace DL
open PySem PySem.Spec L2

/-! ### slots -/
theorem wipe_get {σ : L2.St} : ∀ {vs : List Nat} {i : Nat}, i ∈ vs → ∀ v, (wipe σ vs)[i]? ≠ some (some v)
  | vs, i, h, v, e => (wipe_some e).2 h
theorem wipe_in {σ : L2.St} {i : Nat} : ∀ {vs : List Nat}, i ∈ vs → i < σ.length → (wipe σ vs)[i]? = some none
  | v :: vs, h, hl => by
    unfold wipe
    by_cases e : v = i
    · subst e
      rw [List.getElem?_set_self (by rw [wipe_length]; exact hl)]
    · rw [List.getElem?_set_ne e]
      exact wipe_in ((List.mem_cons.mp h).resolve_left fun z => e z.symm) hl
theorem wipe_ext {σ σ' : L2.St} {vs : List Nat} (hl : σ'.length = σ.length) (h : ∀ i, i ∉ vs → σ'[i]? = σ[i]?) : wipe σ' vs = wipe σ vs := by
  apply List.ext_getElem?
  intro i
  by_cases hi : i ∈ vs
  · by_cases hb : i < σ.length
    · rw [wipe_in hi hb, wipe_in hi (by rw [hl]; exact hb)]
    · rw [List.getElem?_eq_none (by rw [wipe_length]; omega), List.getElem?_eq_none (by rw [wipe_length]; omega)]
  · rw [wipe_out hi, wipe_out hi, h i hi]
theorem wipe_set {σ : L2.St} {vs : List Nat} {i : Nat} {v : Option V} (hi : i ∈ vs) : wipe (σ.set i v) vs = wipe σ vs :=
  wipe_ext (List.length_set ..) fun j hj => List.getElem?_set_ne fun e => hj (by rw [← e]; exact hi)
theorem wipe_wipe {σ : L2.St} {vs : List Nat} : wipe (wipe σ vs) vs = wipe σ vs := wipe_ext (wipe_length ..) fun j hj => wipe_out hj
def wipeS (s : Sl) : List Nat → Sl
  | [] => s
  | v :: vs => (wipeS s vs).set v .none
theorem wipeS_length (s : Sl) : ∀ vs : List Nat, (wipeS s vs).length = s.length
  | [] => rfl
  | v :: vs => by unfold wipeS; rw [List.length_set, wipeS_length s vs]
theorem wipeS_get {s : Sl} {i : Nat} {x : Slot} : ∀ {vs : List Nat}, (wipeS s vs)[i]? = some x → x = .none ∨ (s[i]? = some x ∧ i ∉ vs)
  | [], h => .inr ⟨h, by simp⟩
  | v :: vs, h => by
    unfold wipeS at h
    by_cases e : v = i
    · subst e
      by_cases hb : v < (wipeS s vs).length
      · rw [List.getElem?_set_self hb] at h
        exact .inl (Option.some.inj h).symm
      · rw [List.getElem?_eq_none (by simpa using hb)] at h; cases h
    · rw [List.getElem?_set_ne e] at h
      rcases wipeS_get h with z | ⟨z, n⟩
      · exact .inl z
      · exact .inr ⟨z, by simp only [List.mem_cons, not_or]; exact ⟨fun q => e q.symm, n⟩⟩
section
variable {c : FC} {w : Wd} {σ : L2.St} {H : Hp}
/-- other slots over the same heap -/
theorem SR.slots_to {s' : Sl} {σ' : L2.St} (s : SR c w σ H) (hl : s'.length = σ'.length) (h : ∀ (i : Nat) (x : Slot), s'[i]? = some x → x ≠ Slot.none → (w.sl[i]? = some x ∧ σ'[i]? = σ[i]?) ∨ (∃ d v, x = .sh d ∧ σ'[i]? = some (some v) ∧ Rep c.cl w.F d v)) : SR c { w with sl := s' } σ' H where
  sub := s.sub
  keep := s.keep
  slots := fun i x e => by
    by_cases hx : x = Slot.none
    · subst hx; trivial
    · rcases h i x e hx with ⟨e1, e2⟩ | ⟨d, v, rfl, e1, e2⟩
      · have q := s.slots i x e1
        cases x with
        | none => trivial
        | sh d =>
          obtain ⟨v, q1, q2⟩ := q
          exact ⟨v, e2.trans q1, q2⟩
        | own d =>
          obtain ⟨a, q1, q2⟩ := q
          exact ⟨a, e2.trans q1, q2⟩
        | strm =>
          obtain ⟨sa, la, q1, q2⟩ := q
          exact ⟨sa, la, q1, e2.trans q2⟩
        | slf cn fs =>
          obtain ⟨a, dx, C, gs, q1, q2⟩ := q
          exact ⟨a, dx, C, gs, e2.trans q1, q2⟩
        | xcp cn fs =>
          obtain ⟨a, C, dd, q1, q2⟩ := q
          exact ⟨a, C, dd, e2.trans q1, q2⟩
      · exact ⟨v, e1, e2⟩
  dist := fun i j a n hi hj ei ej => by
    obtain ⟨d, hi⟩ := hi
    obtain ⟨d', hj⟩ := hj
    rcases h i _ hi (fun z => by cases z) with ⟨e1, e2⟩ | ⟨_, _, z, _⟩
    · rcases h j _ hj (fun z => by cases z) with ⟨e3, e4⟩ | ⟨_, _, z, _⟩
      · exact s.dist i j a n ⟨d, e1⟩ ⟨d', e3⟩ (e2 ▸ ei) (e4 ▸ ej)
      · cases z
    · cases z
  fmut := s.fmut
  chgd := s.chgd
  strm := s.strm
  fz0 := s.fz0
  len := hl
  lkd := s.lkd
  lks := s.lks
theorem SR.wipe (s : SR c w σ H) (vs : List Nat) : SR c { w with sl := wipeS w.sl vs } (L2.wipe σ vs) H :=
  s.slots_to (by rw [wipeS_length, wipe_length]; exact s.len) fun i x e n => by
    rcases wipeS_get e with z | ⟨z, q⟩
    · exact absurd z n
    · exact .inl ⟨z, wipe_out q⟩
theorem SR.set_sh (s : SR c w σ H) {i : Nat} {d : D} {v : V} (r : Rep c.cl w.F d v) : SR c { w with sl := w.sl.set i (.sh d) } (σ.set i (some v)) H :=
  s.slots_to (by rw [List.length_set, List.length_set]; exact s.len) fun j x e n => by
    by_cases hj : i = j
    · subst hj
      by_cases hb : i < w.sl.length
      · rw [List.getElem?_set_self hb] at e
        exact .inr ⟨d, v, (Option.some.inj e).symm, by rw [List.getElem?_set_self (by rw [← s.len]; exact hb)], r⟩
      · rw [List.getElem?_eq_none (by simpa using hb)] at e; cases e
    · rw [List.getElem?_set_ne hj] at e
      exact .inl ⟨e, List.getElem?_set_ne hj⟩
/-- back to the slots from before a block -/
theorem Step.back {w2 w3 : Wd} {σ2 : L2.St} {H3 : Hp} (s : SR c w σ H) (hF : w2.F = w.F) (hk : w2.lk = w.lk) (t : Step c σ2 w2 H w3 H3) : Step c σ w H { w3 with sl := w.sl } H3 := by
  have le : Le w.F w3.F := hF ▸ t.le
  refine ⟨⟨t.sr.sub, t.sr.keep, fun i x e => ?_, s.dist, t.sr.fmut, t.sr.chgd, t.sr.strm, t.sr.fz0, s.len, t.sr.lkd, t.sr.lks⟩, le, t.keep, t.lk.trans hk, rfl, fun a o h n => t.fz a o h (by rw [hF]; exact n), t.all⟩
  have q := s.slots i x e
  cases x with
  | none => trivial
  | sh d =>
    obtain ⟨v, q1, q2⟩ := q
    exact ⟨v, q1, Rep.le le q2⟩
  | own d =>
    obtain ⟨a, q1, q2, q3, q4, q5⟩ := q
    obtain ⟨o, ho⟩ := q2.some
    exact ⟨a, q1, OwnR.le le (fun o h => t.keep a o h q5) q2, t.fz a o ho (by rw [hF]; exact q3), q4, q5⟩
  | strm => exact q
  | slf cn fs =>
    obtain ⟨a, dx, C, gs, q1, q2, q3, q4, q5, q6, q7, q8⟩ := q
    have st : c.st = none := by
      cases e : c.st with
      | none => rfl
      | some p =>
        have z := (s.strm p.1 p.2 e).2
        rw [q3] at z
        cases z
    exact ⟨a, dx, C, gs, q1, q2, q3, t.all st _ _ q4, t.all st _ _ q5, RepF.le le q6, t.fz dx _ q5 (by rw [hF]; exact q7), q8⟩
  | xcp cn fs =>
    obtain ⟨a, C, dd, e1, e2, e3, e4⟩ := q
    exact ⟨a, C, dd, e1, e2, e3, e4.le le⟩
end

/-! ### targets -/
abbrev Tg := D → Sl → Option Sl
def tgN (i : Nat) : Tg := fun d s => some (s.set i (.sh d))
def tgAll : List Tg → List D → Sl → Option Sl
  | [], [], s => some s
  | t :: ts, d :: ds, s => (t d s).bind fun s => tgAll ts ds s
  | _, _, _ => none
def tgT (ts : List Tg) : Tg := fun d s => match d with
  | .tup ds => tgAll ts ds s
  | .lst ds => tgAll ts ds s
  | _ => none
def gD (c : FC) (vs : List Nat) (t : Tg) : TG := fun v σ H Q => ∃ w d s', SR c w σ H ∧ Rep c.cl w.F d v ∧ t d w.sl = some s' ∧ ∀ σ', SR c { w with sl := s' } σ' H → wipe σ' vs = wipe σ vs → Q σ' H
def gDs (c : FC) (vs : List Nat) (ts : List Tg) : TGs := fun xs σ H Q => ∃ w ds s', SR c w σ H ∧ Reps c.cl w.F ds xs ∧ tgAll ts ds w.sl = some s' ∧ ∀ σ', SR c { w with sl := s' } σ' H → wipe σ' vs = wipe σ vs → Q σ' H
theorem pg_imp {X : Cx} {e : Expr} {t t' : TG} (h : PG X e t) (q : ∀ v σ H Q, t' v σ H Q → t v σ H Q) : PG X e t' := ⟨fun pins s σ H v u Q I r hw => h.run pins s σ H v u Q I r (q _ _ _ _ hw)⟩
theorem pgs_imp {X : Cx} {e : List Expr} {t t' : TGs} (h : PGs X e t) (q : ∀ v σ H Q, t' v σ H Q → t v σ H Q) : PGs X e t' := ⟨fun pins s σ H v u Q I r hw => h.run pins s σ H v u Q I r (q _ _ _ _ hw)⟩
theorem pg_or {X : Cx} {e : Expr} {t t' : TG} (h : PG X e t) (h' : PG X e t') : PG X e (fun v σ H Q => t v σ H Q ∨ t' v σ H Q) := ⟨fun pins s σ H v u Q I r hw => hw.elim (h.run pins s σ H v u Q I r) (h'.run pins s σ H v u Q I r)⟩
section
variable {X : Cx} {c : FC} {vs : List Nat} {i : Nat} {x : Str} {pos : Pos} {t : Tg} {ts : List Tg} {e : Expr} {es : List Expr}
theorem dg_name (hv : i ∈ vs) (h : PG X (.Name x pos) (gName i)) : PG X (.Name x pos) (gD c vs (tgN i)) := pg_imp h fun v σ H Q ⟨w, d, s', s, r, e, q⟩ => by
  cases e
  exact q _ (s.set_sh r) (wipe_set hv)
theorem dgs_nil : PGs X [] (gDs c vs []) := pgs_imp pgs_nil fun xs σ H Q ⟨w, ds, s', s, r, e, q⟩ => by
  cases ds with
  | nil =>
    cases e
    simp only [Reps] at r
    exact ⟨r, q _ s rfl⟩
  | cons d ds => cases e
theorem dgs_cons (h : PG X e (gD c vs t)) (hr : PGs X es (gDs c vs ts)) (hs : (assignEach (e :: es) X.env).map (·.2) = assign e X.env :: (assignEach es X.env).map (·.2) := by rfl) : PGs X (e :: es) (gDs c vs (t :: ts)) :=
  pgs_imp (pgs_cons h hr hs) fun xs σ H Q ⟨w, ds, s', s, r, e, q⟩ => by
    cases ds with
    | nil => cases e
    | cons d ds =>
      simp only [Reps] at r
      obtain ⟨y, ys, rfl, r1, r2⟩ := r
      simp only [tgAll, Option.bind_eq_some_iff] at e
      obtain ⟨s1, e1, e2⟩ := e
      exact ⟨y, ys, rfl, w, d, s1, s, r1, e1, fun σ1 sr1 h1 => ⟨{ w with sl := s1 }, ds, s', sr1, r2, e2, fun σ2 sr2 h2 => q σ2 sr2 (h2.trans h1)⟩⟩
theorem dg_tup {k n : Nat} (hc : X.calm = true) (hn0 : ts.length = n) (h : PGs X es (gDs c vs ts)) (hn : (assignEach es X.env).length = n := by rfl) (hst : (assignEach es X.env).findIdx? (·.1) = none := by rfl) : PG X (.Tuple es k pos) (gD c vs (tgT ts)) :=
  pg_imp (pg_or (pg_tup hc h hn hst) (pg_lst hc h hn hst)) fun v σ H Q ⟨w, d, s', s, r, e, q⟩ => by
    have hlen : ∀ {ts : List Tg} {ds : List D} {s s' : Sl}, tgAll ts ds s = some s' → ds.length = ts.length := by
      intro ts
      induction ts with
      | nil =>
        intro ds s s' e
        cases ds with
        | nil => rfl
        | cons => cases e
      | cons t ts ih =>
        intro ds s s' e
        cases ds with
        | nil => cases e
        | cons d ds =>
          simp only [tgAll, Option.bind_eq_some_iff] at e
          obtain ⟨s1, _, e2⟩ := e
          simp [ih e2]
    cases d with
    | tup ds =>
      simp only [Rep] at r
      obtain ⟨a, xs, rfl, f, r⟩ := r
      exact .inl ⟨a, xs, rfl, SqT.of (s.sub _ _ f).tup, by rw [r.length, hlen e, hn0], w, ds, s', s, r, e, q⟩
    | lst ds =>
      simp only [Rep] at r
      obtain ⟨a, xs, rfl, f, r⟩ := r
      exact .inr ⟨a, xs, rfl, SqL.of (s.sub _ _ f).lst, by rw [r.length, hlen e, hn0], w, ds, s', s, r, e, q⟩
    | _ => cases e
end
end DL

set_option Elab.async false
set_option linter.all false
set_option maxRecDepth 100000
set_option maxHeartbeats 4000000
namespace DL
open PySem PySem.Spec L2 RZ

/-! ### what is walked -/
def ItD (c : FC) (F1 : Hp) (lk1 : List (Addr × Obj)) (J : It) (ds : List D) : Prop := ∀ (i : Nat) (σ : L2.St) (w : Wd) (H : Hp), SR c w σ H → Le F1 w.F → w.lk = lk1 →
  (ds.length ≤ i → J.stop i H) ∧ ∀ d, ds[i]? = some d → J.go i H ∧ ∀ x H', J.yld i H x H' → ∃ w', Step c σ w H w' H' ∧ w'.z = w.z ∧ Rep c.cl w'.F d x
def iD (c : FC) (W : WX) (m : M (List D)) : TI := fun σ H R => ∃ w, SR c w σ H ∧ Wnt c W σ w H (fun w1 H1 ds => ∀ J, ItD c w1.F w1.lk J ds → ds.length ≤ lim → R J H1) (m w.sl w.z)
theorem pi_imp {X : Cx} {tg e : Expr} {t t' : TI} (h : PI X tg e t) (q : ∀ σ H Q, t' σ H Q → t σ H Q) : PI X tg e t' := ⟨fun pins s σ H R I hw => h.run pins s σ H R I (q _ _ _ hw)⟩
theorem pi_or {X : Cx} {tg e : Expr} {t t' : TI} (h : PI X tg e t) (h' : PI X tg e t') : PI X tg e (fun σ H R => t σ H R ∨ t' σ H R) := ⟨fun pins s σ H R I hw => hw.elim (h.run pins s σ H R I) (h'.run pins s σ H R I)⟩
theorem it_list {c : FC} {K : PySem.W.Frag} {F1 : Hp} {lk1 : List (Addr × Obj)} {a : Addr} {xs : List V} {ds : List D} (f : F1 a = some (.lst xs)) (r : Reps c.cl F1 ds xs) : ItD c F1 lk1 (Itl K a) ds := fun i σ w H s l _ => by
  have hq : SqL K H a xs := SqL.of (s.sub _ _ (l _ _ f)).lst
  refine ⟨fun hi => ⟨xs, hq, by rw [r.length]; exact hi⟩, fun d e => ?_⟩
  obtain ⟨v, e1, r1⟩ := r.get e
  refine ⟨⟨xs, v, hq, e1⟩, fun x H' ⟨e2, e3⟩ => ?_⟩
  subst e2
  have e4 := e3 xs hq
  rw [e1] at e4
  cases e4
  exact ⟨w, Step.refl s, rfl, Rep.le l r1⟩
theorem it_tup {c : FC} {K : PySem.W.Frag} {F1 : Hp} {lk1 : List (Addr × Obj)} {a : Addr} {xs : List V} {ds : List D} (f : F1 a = some (.tup xs)) (r : Reps c.cl F1 ds xs) : ItD c F1 lk1 (Itt K a) ds := fun i σ w H s l _ => by
  have hq : SqT K H a xs := SqT.of (s.sub _ _ (l _ _ f)).tup
  refine ⟨fun hi => ⟨xs, hq, by rw [r.length]; exact hi⟩, fun d e => ?_⟩
  obtain ⟨v, e1, r1⟩ := r.get e
  refine ⟨⟨xs, v, hq, e1⟩, fun x H' ⟨e2, e3⟩ => ?_⟩
  subst e2
  have e4 := e3 xs hq
  rw [e1] at e4
  cases e4
  exact ⟨w, Step.refl s, rfl, Rep.le l r1⟩
def signs (x : Str) : List D := x.cps.toList.map fun c => .str ⟨#[c]⟩
theorem it_str {c : FC} {F1 : Hp} {lk1 : List (Addr × Obj)} {x : Str} : ItD c F1 lk1 (Its x) (signs x) := fun i σ w H s l _ => by
  refine ⟨fun hi => by show x.cps.size ≤ i; unfold signs at hi; simpa using hi, fun d e => ?_⟩
  unfold signs at e
  rw [List.getElem?_map, Option.map_eq_some_iff] at e
  obtain ⟨c', e1, rfl⟩ := e
  have e1' : x.cps[i]? = some c' := by rw [← Array.getElem?_toList]; exact e1
  refine ⟨?_, fun v H' ⟨e2, c2, e3, e4⟩ => ?_⟩
  · have := List.getElem?_eq_some_iff.mp e1
    obtain ⟨h, _⟩ := this
    show i < x.cps.size
    simpa using h
  · subst e2 e4
    rw [e1'] at e3
    cases e3
    exact ⟨w, Step.refl s, rfl, by simp [Rep]⟩
def upto (lo : Int) (n : Nat) : List D := (List.range n).map fun (i : Nat) => .int (lo + i)
theorem it_range {c : FC} {F1 : Hp} {lk1 : List (Addr × Obj)} {lo : Int} {n : Nat} : ItD c F1 lk1 (Itr lo n) (upto lo n) := fun i σ w H s l _ => by
  refine ⟨fun hi => by show n ≤ i; unfold upto at hi; simpa using hi, fun d e => ?_⟩
  unfold upto at e
  rw [List.getElem?_map, Option.map_eq_some_iff] at e
  obtain ⟨k, e1, rfl⟩ := e
  obtain ⟨h, e2⟩ := List.getElem?_eq_some_iff.mp e1
  have hk : k = i := by rw [List.getElem_range] at e2; exact e2.symm
  subst hk
  refine ⟨show k < n by simpa using h, fun v H' ⟨e3, e4⟩ => ?_⟩
  subst e3 e4
  exact ⟨w, Step.refl s, rfl, by simp [Rep]⟩
def enumD (ds : List D) : List D := ds.zipIdx.map fun p => .tup [.int (p.2 : Int), p.1]
theorem it_enum {c : FC} {K : PySem.W.Frag} {F1 : Hp} {lk1 : List (Addr × Obj)} {a : Addr} {xs : List V} {ds : List D} (f : F1 a = some (.lst xs)) (r : Reps c.cl F1 ds xs) : ItD c F1 lk1 (Ite K a) (enumD ds) := fun i σ w H s l _ => by
  have hq : SqL K H a xs := SqL.of (s.sub _ _ (l _ _ f)).lst
  refine ⟨fun hi => ⟨xs, hq, by rw [r.length]; unfold enumD at hi; simpa using hi⟩, fun d e => ?_⟩
  unfold enumD at e
  rw [List.getElem?_map, Option.map_eq_some_iff] at e
  obtain ⟨⟨d', k⟩, e1, rfl⟩ := e
  rw [List.getElem?_zipIdx, Option.map_eq_some_iff] at e1
  obtain ⟨d2, e1, e5⟩ := e1
  cases e5
  obtain ⟨v, e2, r1⟩ := r.get e1
  refine ⟨⟨xs, v, hq, e2⟩, fun x H' ⟨T, y, hx, hT, hH, hy⟩ => ?_⟩
  have e4 := hy xs hq
  rw [e2] at e4
  cases e4
  subst hx hH
  refine ⟨_, s.fresh _ hT, rfl, ?_⟩
  have lF : Le w.F (upd w.F T (.tup [.int (i : Nat), v])) := fun a u h => by rw [upd_ne (ne_of_none h (s.fnone hT))]; exact h
  refine ⟨T, _, rfl, upd_same, ?_⟩
  simp only [Reps, Rep]
  exact ⟨_, _, rfl, by simp, _, _, rfl, Rep.le (l.trans lF) r1, rfl⟩
def zipD (ds es : List D) : List D := (ds.zip es).map fun p => .tup [p.1, p.2]
theorem zip_step {c : FC} {σ : L2.St} {w : Wd} {H H' : Hp} {F1 : Hp} {T : Addr} {x y v : V} {d e : D} (s : SR c w σ H) (l : Le F1 w.F) (hv : v = .ref T) (hT : H T = none) (hH : H' = upd H T (.tup [x, y])) (r1 : Rep c.cl F1 d x) (r2 : Rep c.cl F1 e y) :
    ∃ w', Step c σ w H w' H' ∧ w'.z = w.z ∧ Rep c.cl w'.F (.tup [d, e]) v := by
  subst hv hH
  refine ⟨_, s.fresh _ hT, rfl, ?_⟩
  have lF : Le w.F (upd w.F T (.tup [x, y])) := fun a u h => by rw [upd_ne (ne_of_none h (s.fnone hT))]; exact h
  refine ⟨T, _, rfl, upd_same, ?_⟩
  simp only [Reps]
  exact ⟨_, _, rfl, Rep.le (l.trans lF) r1, _, _, rfl, Rep.le (l.trans lF) r2, rfl⟩
theorem zip_get {ds es : List D} {i : Nat} {d : D} (h : (zipD ds es)[i]? = some d) : ∃ x y, ds[i]? = some x ∧ es[i]? = some y ∧ d = .tup [x, y] := by
  unfold zipD at h
  rw [List.getElem?_map, Option.map_eq_some_iff] at h
  obtain ⟨⟨x, y⟩, e1, rfl⟩ := h
  rw [List.getElem?_zip_eq_some] at e1
  exact ⟨x, y, e1.1, e1.2, rfl⟩
theorem it_zipL {c : FC} {K : PySem.W.Frag} {F1 : Hp} {lk1 : List (Addr × Obj)} {a b : Addr} {xs ys : List V} {ds es : List D} (f : F1 a = some (.lst xs)) (g : F1 b = some (.lst ys)) (r : Reps c.cl F1 ds xs) (r' : Reps c.cl F1 es ys) : ItD c F1 lk1 (Itz K a b) (zipD ds es) := fun i σ w H s l _ => by
  have hq : SqL K H a xs := SqL.of (s.sub _ _ (l _ _ f)).lst
  have hq' : SqL K H b ys := SqL.of (s.sub _ _ (l _ _ g)).lst
  refine ⟨fun hi => ⟨xs, ys, hq, hq', by unfold zipD at hi; simp at hi; rw [r.length, r'.length]; omega⟩, fun d e => ?_⟩
  obtain ⟨d1, d2, e1, e2, rfl⟩ := zip_get e
  obtain ⟨x, f1, r1⟩ := r.get e1
  obtain ⟨y, f2, r2⟩ := r'.get e2
  refine ⟨⟨xs, ys, x, y, hq, hq', f1, f2⟩, fun v H' ⟨T, x', y', hx, hT, hH, h1, h2⟩ => ?_⟩
  have e4 := h1 xs hq
  rw [f1] at e4
  cases e4
  have e5 := h2 ys hq'
  rw [f2] at e5
  cases e5
  exact zip_step s l hx hT hH r1 r2
theorem it_zipT {c : FC} {K : PySem.W.Frag} {F1 : Hp} {lk1 : List (Addr × Obj)} {a b : Addr} {xs ys : List V} {ds es : List D} (f : F1 a = some (.tup xs)) (g : F1 b = some (.tup ys)) (r : Reps c.cl F1 ds xs) (r' : Reps c.cl F1 es ys) : ItD c F1 lk1 (ItzT K a b) (zipD ds es) := fun i σ w H s l _ => by
  have hq : SqT K H a xs := SqT.of (s.sub _ _ (l _ _ f)).tup
  have hq' : SqT K H b ys := SqT.of (s.sub _ _ (l _ _ g)).tup
  refine ⟨fun hi => ⟨xs, ys, hq, hq', by unfold zipD at hi; simp at hi; rw [r.length, r'.length]; omega⟩, fun d e => ?_⟩
  obtain ⟨d1, d2, e1, e2, rfl⟩ := zip_get e
  obtain ⟨x, f1, r1⟩ := r.get e1
  obtain ⟨y, f2, r2⟩ := r'.get e2
  refine ⟨⟨xs, ys, x, y, hq, hq', f1, f2⟩, fun v H' ⟨T, x', y', hx, hT, hH, h1, h2⟩ => ?_⟩
  have e4 := h1 xs hq
  rw [f1] at e4
  cases e4
  have e5 := h2 ys hq'
  rw [f2] at e5
  cases e5
  exact zip_step s l hx hT hH r1 r2
/-! the keys, the pairs of a dict under its lock -/
def keyVs (kvs : List (Key × D)) : List D := kvs.map fun kv => keyOf kv.1
def itemVs (kvs : List (Key × D)) : List D := kvs.map fun kv => .tup [keyOf kv.1, kv.2]
theorem lock_at {c : FC} {σ : L2.St} {w : Wd} {H F1 : Hp} {lk1 : List (Addr × Obj)} {a : Addr} {o : Obj} {xs : List (Key × V)} (s : SR c w σ H) (l : Le F1 w.F) (hk : w.lk = lk1) (f : F1 a = some (.dK xs)) (hm : (a, o) ∈ lk1) : H a = some (.frz o (.dK xs)) := by
  obtain ⟨u, e1, e2, e3⟩ := s.lkd (a, o) (by rw [hk]; exact hm)
  rw [l _ _ f] at e1
  cases e1
  exact e3
theorem RepK.at {cl : Str → Option Addr} {F : Hp} : ∀ {kvs : List (Key × D)} {xs : List (Key × V)} {i : Nat} {k : Key} {d : D}, RepK cl F kvs xs → kvs[i]? = some (k, d) → ∃ v, xs[i]? = some (k, v) ∧ Rep cl F d v
  | [], xs, i, k, d, h, e => by simp at e
  | (k', d') :: ds, xs, 0, k, d, h, e => by
    simp only [RepK] at h
    obtain ⟨y, ys, rfl, r, h⟩ := h
    simp only [List.getElem?_cons_zero, Option.some.injEq] at e
    cases e
    exact ⟨y, by simp, r⟩
  | (k', d') :: ds, xs, i + 1, k, d, h, e => by
    simp only [RepK] at h
    obtain ⟨y, ys, rfl, r, h⟩ := h
    obtain ⟨v, e1, r1⟩ := RepK.at h (i := i) (k := k) (d := d) (by simpa using e)
    exact ⟨v, by simpa using e1, r1⟩
theorem keyOf_rep {cl : Str → Option Addr} {F : Hp} (k : Key) : Rep cl F (keyOf k) (kV k) := by
  cases k <;> simp [keyOf, kV, Rep]
theorem it_keys {c : FC} {F1 : Hp} {lk1 : List (Addr × Obj)} {a : Addr} {o : Obj} {xs : List (Key × V)} {kvs : List (Key × D)} (f : F1 a = some (.dK xs)) (hm : (a, o) ∈ lk1) (r : RepK c.cl F1 kvs xs) : ItD c F1 lk1 (Itk a o xs) (keyVs kvs) := fun i σ w H s l hk => by
  have hH := lock_at s l hk f hm
  refine ⟨fun hi => ⟨hH, by unfold keyVs at hi; rw [r.length]; simpa using hi⟩, fun d e => ?_⟩
  unfold keyVs at e
  rw [List.getElem?_map, Option.map_eq_some_iff] at e
  obtain ⟨⟨k, d'⟩, e1, rfl⟩ := e
  obtain ⟨v, e2, r1⟩ := r.at e1
  refine ⟨⟨hH, (List.getElem?_eq_some_iff.mp e2).1⟩, fun x H' ⟨e3, k2, v2, e4, e5⟩ => ?_⟩
  rw [e2] at e4
  cases e4
  subst e3 e5
  exact ⟨w, Step.refl s, rfl, keyOf_rep k⟩
theorem it_items {c : FC} {F1 : Hp} {lk1 : List (Addr × Obj)} {a : Addr} {o : Obj} {xs : List (Key × V)} {kvs : List (Key × D)} (f : F1 a = some (.dK xs)) (hm : (a, o) ∈ lk1) (r : RepK c.cl F1 kvs xs) : ItD c F1 lk1 (Iti a o xs) (itemVs kvs) := fun i σ w H s l hk => by
  have hH := lock_at s l hk f hm
  refine ⟨fun hi => ⟨hH, by unfold itemVs at hi; rw [r.length]; simpa using hi⟩, fun d e => ?_⟩
  unfold itemVs at e
  rw [List.getElem?_map, Option.map_eq_some_iff] at e
  obtain ⟨⟨k, d'⟩, e1, rfl⟩ := e
  obtain ⟨v, e2, r1⟩ := r.at e1
  refine ⟨⟨hH, (List.getElem?_eq_some_iff.mp e2).1⟩, fun x H' ⟨T, k2, v2, e4, e5, hT, hH'⟩ => ?_⟩
  rw [e2] at e4
  cases e4
  exact zip_step s (Le.refl _) e5 hT hH' (keyOf_rep k) (Rep.le l r1)
end DL

set_option Elab.async false
set_option linter.all false
set_option maxRecDepth 100000
set_option maxHeartbeats 4000000
namespace DL
open PySem PySem.Spec L2 RZ

/-! ### the walked things as rules -/
def chkL (ds : List D) (z : Z) : ER (List D) := if ds.length ≤ lim then .ok ds z else .bad
def itemsD : D → Z → ER (List D)
  | .lst ds, z => chkL ds z
  | .tup ds, z => chkL ds z
  | .str x, z => chkL (signs x) z
  | _, _ => .bad
def mItems (m : M D) : M (List D) := fun s z => (m s z).bind itemsD
def mRange1 (m : M D) : M (List D) := fun s z => (m s z).bind fun d z => match d with
  | .int j => if -(2 ^ 62) ≤ j ∧ j < 2 ^ 62 then chkL (upto 0 j.toNat) z else .bad
  | _ => .bad
def mRange2 (m m' : M D) : M (List D) := fun s z => (m s z).bind fun d z => (m' s z).bind fun e z => match d, e with
  | .int i, .int j => if -(2 ^ 62) ≤ i ∧ i < 2 ^ 62 ∧ -(2 ^ 62) ≤ j ∧ j < 2 ^ 62 then chkL (upto i (j - i).toNat) z else .bad
  | _, _ => .bad
def mEnum (m : M D) : M (List D) := fun s z => (m s z).bind fun d z => match d with
  | .lst ds => chkL (enumD ds) z
  | _ => .bad
def mZip (m m' : M D) : M (List D) := fun s z => (m s z).bind fun d z => (m' s z).bind fun e z => match d, e with
  | .lst ds, .lst es => chkL (zipD ds es) z
  | .tup ds, .tup es => chkL (zipD ds es) z
  | _, _ => .bad
theorem wnt_chk {c : FC} {W : WX} {σ : L2.St} {w : Wd} {H : Hp} {R : Wd → Hp → List D → Prop} {ds : List D} (s : SR c w σ H) (h : Wnt c W σ w H R (chkL ds w.z)) : ds.length ≤ lim ∧ R w H ds := by
  unfold chkL at h
  obtain ⟨h1, h2⟩ := wnt_if h
  exact ⟨h1, Wnt.ok s h2⟩
theorem wnt_chk0 {c : FC} {W : WX} {σ : L2.St} {w : Wd} {H : Hp} {R : Wd → Hp → List D → Prop} {ds : List D} {z : Z} (h : Wnt c W σ w H R (chkL ds z)) : ds.length ≤ lim ∧ ∀ H' w', Step c σ w H w' H' → w'.z = z → R w' H' ds := by
  unfold chkL at h
  exact wnt_if h
section
variable {X : Cx} {c : FC} {W : WX} {tg e e2 : Expr} {m m' : M D} {p pos tpos : Pos} {elts : List Expr} {kk : Nat}
theorem di_any (h : PE X e (tF c W m)) : PI X tg e (iD c W (mItems m)) := pi_imp (pi_or (pi_list h) (pi_or (pi_tup h) (pi_str h))) fun σ H R ⟨w, s, q⟩ => by
  unfold mItems at q
  cases hm : m w.sl w.z with
  | ok d z =>
    rw [hm] at q
    cases d with
    | lst ds =>
      obtain ⟨hl, q⟩ := wnt_chk0 (show Wnt c W σ w H _ (chkL ds z) from q)
      refine .inl ⟨w, s, ?_⟩
      rw [hm]
      intro H1 w1 s1 ez v r
      obtain ⟨a, xs, rfl, f, rr⟩ := r
      exact ⟨a, rfl, ⟨xs, SqL.of (s1.sr.sub _ _ f).lst⟩, q H1 w1 s1 ez _ (it_list f rr) hl⟩
    | tup ds =>
      obtain ⟨hl, q⟩ := wnt_chk0 (show Wnt c W σ w H _ (chkL ds z) from q)
      refine .inr (.inl ⟨w, s, ?_⟩)
      rw [hm]
      intro H1 w1 s1 ez v r
      obtain ⟨a, xs, rfl, f, rr⟩ := r
      exact ⟨a, rfl, ⟨xs, SqT.of (s1.sr.sub _ _ f).tup⟩, q H1 w1 s1 ez _ (it_tup f rr) hl⟩
    | str x =>
      obtain ⟨hl, q⟩ := wnt_chk0 (show Wnt c W σ w H _ (chkL (signs x) z) from q)
      refine .inr (.inr ⟨w, s, ?_⟩)
      rw [hm]
      intro H1 w1 s1 ez v r
      exact ⟨x, by simpa [Rep] using r, q H1 w1 s1 ez _ it_str hl⟩
    | _ => exact q.elim
  | exc cn fs z =>
    rw [hm] at q
    exact .inl ⟨w, s, by rw [hm]; exact q⟩
  | bad =>
    rw [hm] at q
    exact q.elim
theorem di_range1 {a : Expr} (hg : Gl X "range") (hm : X.mg "range" = none) (ha : PE X a (tV c W m)) (hs : starEach [a] X.env = [(false, eval a X.env)] := by rfl) : PI X tg (.Call (.Name "range" p) [a] [] pos) (iD c W (mRange1 m)) :=
  pi_imp (pi_range1 hg hm (pa_cons ha pa_nil hs) hs) fun σ H R ⟨w, s, q⟩ => ⟨w, s, (Wnt.bind q).imp fun w1 H1 d s1 q1 v r => by
    cases d with
    | int j =>
      have q1 := q1
      by_cases hb : -(2 ^ 62) ≤ j ∧ j < 2 ^ 62
      · simp only [if_pos hb] at q1
        obtain ⟨hl, q2⟩ := wnt_chk s1.sr q1
        exact ⟨j, by rw [r.int], hb.1, hb.2, q2 _ it_range hl⟩
      · simp only [if_neg hb] at q1
        exact q1.elim
    | _ => exact q1.elim⟩
theorem di_range2 {a b : Expr} (hg : Gl X "range") (hm : X.mg "range" = none) (ha : PE X a (tV c W m)) (hb : PE X b (tV c W m')) (hs : starEach [a, b] X.env = [(false, eval a X.env), (false, eval b X.env)] := by rfl) (hs2 : starEach [b] X.env = [(false, eval b X.env)] := by rfl)
    (hs3 : starEach [a, b] X.env = (false, eval a X.env) :: starEach [b] X.env := by rfl) : PI X tg (.Call (.Name "range" p) [a, b] [] pos) (iD c W (mRange2 m m')) :=
  pi_imp (pi_range2 hg hm (pa_cons ha (pa_cons hb pa_nil hs2) hs3) hs hs2) fun σ H R ⟨w, s, q⟩ => ⟨w, s, (Wnt.bind q).imp fun w1 H1 d s1 q1 v r => ⟨w1, s1.sr, by
    rw [s1.sl]
    refine (Wnt.bind q1).imp fun w2 H2 e s2 q2 u r2 => ?_
    cases d with
    | int i =>
      cases e with
      | int j =>
        by_cases hb : -(2 ^ 62) ≤ i ∧ i < 2 ^ 62 ∧ -(2 ^ 62) ≤ j ∧ j < 2 ^ 62
        · simp only [if_pos hb] at q2
          obtain ⟨hl, q3⟩ := wnt_chk s2.sr q2
          exact ⟨i, j, by rw [r.int, r2.int], hb, q3 _ it_range hl⟩
        · simp only [if_neg hb] at q2
          exact q2.elim
      | _ => exact q2.elim
    | _ => exact q2.elim⟩⟩
theorem di_enum (hg : Gl X "enumerate") (hm : X.mg "enumerate" = none) (ha : PE X e (tF c W m)) (hs : starEach [e] X.env = [(false, eval e X.env)] := by rfl) : PI X (.Tuple elts kk tpos) (.Call (.Name "enumerate" p) [e] [] pos) (iD c W (mEnum m)) :=
  pi_imp (pi_enum hg hm (pa_cons ha pa_nil hs) hs) fun σ H R ⟨w, s, q⟩ => ⟨w, s, (Wnt.bind q).imp fun w1 H1 d s1 q1 v r => by
    cases d with
    | lst ds =>
      obtain ⟨hl, q2⟩ := wnt_chk s1.sr q1
      obtain ⟨a, xs, rfl, f, rr⟩ := r
      exact ⟨a, xs, rfl, SqL.of (s1.sr.sub _ _ f).lst, q2 _ (it_enum f rr) hl⟩
    | _ => exact q1.elim⟩
theorem di_zip (hg : Gl X "zip") (hm : X.mg "zip" = none) (ha : PE X e (tF c W m)) (hb : PE X e2 (tF c W m')) (hs : starEach [e, e2] X.env = [(false, eval e X.env), (false, eval e2 X.env)] := by rfl) (hs2 : starEach [e2] X.env = [(false, eval e2 X.env)] := by rfl)
    (hs3 : starEach [e, e2] X.env = (false, eval e X.env) :: starEach [e2] X.env := by rfl) : PI X (.Tuple elts kk tpos) (.Call (.Name "zip" p) [e, e2] [] pos) (iD c W (mZip m m')) :=
  pi_imp (pi_zipA hg hm (pa_cons ha (pa_cons hb pa_nil hs2) hs3) hs3 (by rw [hs2]; rfl)) fun σ H R ⟨w, s, q⟩ => ⟨w, s, (Wnt.bind q).imp fun w1 H1 d s1 q1 v r => ⟨w1, s1.sr, by
    rw [s1.sl]
    refine (Wnt.bind q1).imp fun w2 H2 e s2 q2 u r2 => ?_
    cases d with
    | lst ds =>
      cases e with
      | lst es =>
        obtain ⟨hl, q3⟩ := wnt_chk s2.sr q2
        obtain ⟨a, xs, rfl, f, rr⟩ := Rep.le s2.le r
        obtain ⟨b, ys, rfl, f2, rr2⟩ := r2
        exact ⟨a, b, xs, ys, rfl, .inl ⟨SqL.of (s2.sr.sub _ _ f).lst, SqL.of (s2.sr.sub _ _ f2).lst, q3 _ (it_zipL f f2 rr rr2) hl⟩⟩
      | _ => exact q2.elim
    | tup ds =>
      cases e with
      | tup es =>
        obtain ⟨hl, q3⟩ := wnt_chk s2.sr q2
        obtain ⟨a, xs, rfl, f, rr⟩ := Rep.le s2.le r
        obtain ⟨b, ys, rfl, f2, rr2⟩ := r2
        exact ⟨a, b, xs, ys, rfl, .inr ⟨SqT.of (s2.sr.sub _ _ f).tup, SqT.of (s2.sr.sub _ _ f2).tup, q3 _ (it_zipT f f2 rr rr2) hl⟩⟩
      | _ => exact q2.elim
    | _ => exact q2.elim⟩⟩

/-! ### list comprehensions -/
def noX {α : Type} : ER α → ER α
  | .ok a z => .ok a z
  | _ => .bad
def lcGo (t : Tg) (tt : M Bool) (te : M D) (s0 : Sl) : List D → Z → ER (List D)
  | [], z => .ok [] z
  | d :: ds, z => match t d s0 with
    | none => .bad
    | some s => (tt s z).bind fun b z => if b = true then (te s z).bind fun y z => (lcGo t tt te s0 ds z).bind fun ys z => .ok (y :: ys) z else lcGo t tt te s0 ds z
def mLc (vs : List Nat) (mi : M (List D)) (t : Tg) (tt : M Bool) (te : M D) : M D := fun s z => (mi s z).bind fun ds z => (noX (lcGo t tt te (wipeS s vs) ds z)).bind fun ys z => .ok (.lst ys) z
def mYes : M Bool := fun _ z => .ok true z
def W0 : WX := fun _ _ _ _ => False
theorem pts_imp {X : Cx} {e : List Expr} {t t' : TT} (h : PTs X e t) (q : ∀ σ H Q, t' σ H Q → t σ H Q) : PTs X e t' := ⟨fun pins s σ H Q I hw => h.run pins s σ H Q I (q _ _ _ hw)⟩
theorem dts_nil : PTs X [] (tT c W mYes) := pts_imp pts_nil fun σ H Q ⟨w, s, q⟩ => Wnt.ok s q
theorem dts_one {n : M Bool} (h : PT X e (tT c W n)) : PTs X [e] (tT c W n) := pts_one h
end
end DL

set_option Elab.async false
set_option linter.all false
set_option maxRecDepth 100000
set_option maxHeartbeats 4000000
namespace DL
open PySem PySem.Spec L2 RZ
theorem upd_self {H : Hp} {a : Addr} {o : HO} (h : H a = some o) : upd H a o = H := by
  funext b
  by_cases e : b = a
  · rw [e, upd_same, h]
  · rw [upd_ne e]
/-- the state of a comprehension's loop -/
structure LcI (c : FC) (W : WX) (vs : List Nat) (t : Tg) (tt : M Bool) (te : M D) (σ : L2.St) (w : Wd) (H : Hp) (w1 : Wd) (ds : List D) (D0 : Addr) (Q : VK) (i : Nat) (Hc : Hp) : Prop where
  ex : ∃ wi acc accV, Step c σ w H wi Hc ∧ Hc D0 = some (.lst accV) ∧ wi.F D0 = none ∧ Le w1.F wi.F ∧ Reps c.cl wi.F acc accV ∧ acc.length ≤ i ∧ i ≤ ds.length ∧
    Wnt c W σ w H (fun w' H' d => ∀ o, NewR c.cl w'.F d o → ∀ p, H p = none → w'.F p = none → (∀ x, H' p ≠ some (.own x)) → Q (.ref p) (upd H' p o)) ((noX (lcGo t tt te (wipeS w.sl vs) (ds.drop i) wi.z)).bind fun ys z => .ok (.lst (acc ++ ys)) z)
section
variable {X : Cx} {c : FC} {W : WX} {mi : M (List D)} {t : Tg} {tt : M Bool} {te : M D}
theorem lc_to0 {vs : List Nat} {σ : L2.St} {H : Hp} {Q : VK} {tI : TI} {w : Wd} (s : SR c w σ H) (hI : ∀ R : It → Hp → Prop, Wnt c W σ w H (fun w1 H1 ds => ∀ J, ItD c w1.F w1.lk J ds → ds.length ≤ lim → R J H1) (mi w.sl w.z) → tI σ H R)
    (q : Wnt c W σ w H (fun w' H' d => ∀ o, NewR c.cl w'.F d o → ∀ p, H p = none → w'.F p = none → (∀ x, H' p ≠ some (.own x)) → Q (.ref p) (upd H' p o)) (mLc vs mi t tt te w.sl w.z)) : tLc tI (gD c vs t) (tT c W0 tt) (tF c W0 te) vs σ H Q := by
  unfold mLc at q
  refine hI _ ?_
  cases hm : mi w.sl w.z with
  | exc cn fs z =>
    rw [hm] at q
    exact q
  | bad =>
    rw [hm] at q
    exact q
  | ok ds z1 =>
  rw [hm] at q
  replace q : Wnt c W σ w H (fun w' H' d => ∀ o, NewR c.cl w'.F d o → ∀ p, H p = none → w'.F p = none → (∀ x, H' p ≠ some (.own x)) → Q (.ref p) (upd H' p o)) ((noX (lcGo t tt te (wipeS w.sl vs) ds z1)).bind fun ys z => .ok (.lst ys) z) := q
  intro H1 w1 s1 ez J hJ hl D0 hD
  subst ez
  have hD0 : H D0 = none := s1.wasnone hD
  refine ⟨fun i m Hc => m = ds.length - i ∧ LcI c W vs t tt te σ w H w1 ds D0 Q i Hc, ⟨_, rfl, ?_⟩, ?_⟩
  · have s2 := (Step.lay (o' := .lst []) s hD0 s1 (s1.sr.fnone hD) (fun x z => by rw [hD] at z; cases z) (fun x z => by cases z)).1
    exact ⟨w1, [], [], s2, upd_same, s1.sr.fnone hD, Le.refl _, by simp [Reps], Nat.le_refl _, Nat.zero_le _, by simpa using q⟩
  rintro i m Hc ⟨rfl, wi, acc, accV, st, hDc, hF, l1, ra, hal, hil, q2⟩
  have hIt := hJ i σ wi Hc st.sr l1 (st.lk.trans s1.lk.symm)
  have hsl : wi.sl = w.sl := st.sl
  by_cases hi' : i < ds.length
  · -- a turn
    obtain ⟨d, hd⟩ : ∃ d, ds[i]? = some d := ⟨_, List.getElem?_eq_getElem hi'⟩
    obtain ⟨hgo, hy⟩ := hIt.2 d hd
    have hdrop : ds.drop i = d :: ds.drop (i + 1) := by
      rw [List.drop_eq_getElem_cons hi']
      congr 1
      rw [List.getElem?_eq_getElem hi'] at hd
      exact Option.some.inj hd
    rw [hdrop] at q2
    refine .inr ⟨hgo, LcI c W vs t tt te σ w H w1 ds D0 Q (i + 1), fun H' p => ⟨ds.length - (i + 1), by omega, rfl, p⟩, fun x H' y => ?_⟩
    obtain ⟨w', sy, ezy, rx⟩ := hy x H' y
    have sw := sy.sr.wipe vs
    have hsl' : w'.sl = w.sl := sy.sl.trans hsl
    unfold lcGo at q2
    cases htg : t d (wipeS w.sl vs) with
    | none =>
      rw [htg] at q2
      exact q2.elim
    | some s' =>
    simp only [htg] at q2
    refine ⟨{ w' with sl := wipeS w'.sl vs }, d, s', sw, rx, by show t d (wipeS w'.sl vs) = some s'; rw [hsl']; exact htg, fun σ2 sr2 h2 => ?_⟩
    refine ⟨h2.trans wipe_wipe, { w' with sl := s' }, sr2, ?_⟩
    show Wnt c W0 σ2 { w' with sl := s' } H' _ (tt s' w'.z)
    have ezz : w'.z = wi.z := ezy
    rw [← ezz] at q2
    cases htt : tt s' w'.z with
    | exc cn fs z =>
      rw [htt] at q2
      exact q2.elim
    | bad =>
      rw [htt] at q2
      exact q2.elim
    | ok b z2 =>
    rw [htt] at q2
    intro H3 w3 s3 ez3
    subst ez3
    have b3 : Step c σ w' H' { w3 with sl := w'.sl } H3 := Step.back (w2 := { w' with sl := s' }) sy.sr rfl rfl s3
    have st3 := (st.trans sy).trans b3
    have hD3 : H3 D0 = some (.lst accV) := b3.keep _ _ (sy.keep _ _ hDc (s.nochg hD0)) (s.nochg hD0)
    have hF3 : w3.F D0 = none := b3.fz D0 _ (sy.keep _ _ hDc (s.nochg hD0)) (sy.fz D0 _ hDc hF)
    have l3 : Le w1.F w3.F := (l1.trans sy.le).trans b3.le
    cases b with
    | false =>
      simp only [Bool.false_eq_true, if_false]
      refine ⟨{ w3 with sl := w'.sl }, acc, accV, st3, hD3, hF3, l3, Reps.le (sy.le.trans b3.le) ra, by omega, by omega, ?_⟩
      exact q2
    | true =>
      simp only [if_true]
      replace q2 : Wnt c W σ w H _ ((noX ((te s' w3.z).bind fun y z => (lcGo t tt te (wipeS w.sl vs) (ds.drop (i + 1)) z).bind fun ys z => .ok (y :: ys) z)).bind fun ys z => .ok (D.lst (acc ++ ys)) z) := q2
      refine ⟨w3, s3.sr, ?_⟩
      rw [s3.sl]
      show Wnt c W0 σ2 w3 H3 _ (te s' w3.z)
      cases hte : te s' w3.z with
      | exc cn fs z =>
        rw [hte] at q2
        exact q2.elim
      | bad =>
        rw [hte] at q2
        exact q2.elim
      | ok y z4 =>
      rw [hte] at q2
      intro H4 w4 s4 ez4 v rv
      subst ez4
      have b4 : Step c σ { w3 with sl := w'.sl } H3 { w4 with sl := w'.sl } H4 := Step.back (w2 := w3) b3.sr rfl rfl s4
      have st4 := st3.trans b4
      have hD4 : H4 D0 = some (.lst accV) := b4.keep _ _ hD3 (s.nochg hD0)
      have hF4 : w4.F D0 = none := b4.fz D0 _ hD3 hF3
      refine ⟨accV, hD4, ?_, ?_⟩
      · rw [ra.length]
        have := lim_line (n := acc.length) (by omega)
        have h2 : acc.length < lim := by omega
        have h3 : lim < sizeLine := by rw [sizeLine_eq]; decide
        omega
      · have s5 := (Step.lay (o' := .lst (accV ++ [v])) s hD0 st4 hF4 (fun x z => by rw [hD4] at z; cases z) (fun x z => by cases z)).1
        refine ⟨{ w4 with sl := w'.sl }, acc ++ [y], accV ++ [v], s5, upd_same, hF4, l3.trans b4.le, (Reps.le ((sy.le.trans b3.le).trans b4.le) ra).append (by simp only [Reps]; exact ⟨v, [], rfl, rv, rfl⟩), by simp; omega, by omega, ?_⟩
        show Wnt c W σ w H _ ((noX (lcGo t tt te (wipeS w.sl vs) (ds.drop (i + 1)) w4.z)).bind fun ys z => .ok (D.lst (acc ++ [y] ++ ys)) z)
        cases hr : lcGo t tt te (wipeS w.sl vs) (ds.drop (i + 1)) w4.z with
        | ok ys z =>
          simp only [ER.bind, hr, noX] at q2 ⊢
          rw [show acc ++ [y] ++ ys = acc ++ y :: ys by simp]
          exact q2
        | exc cn fs z =>
          simp only [ER.bind, hr, noX] at q2
          exact q2.elim
        | bad =>
          simp only [ER.bind, hr, noX] at q2
          exact q2.elim
  · refine .inl ⟨hIt.1 (by omega), ?_⟩
    have e : ds.drop i = [] := List.drop_eq_nil_of_le (by omega)
    rw [e] at q2
    have := (show Wnt c W σ w H _ (.ok (D.lst (acc ++ [])) wi.z) from q2) _ _ st rfl (.lst accV) ⟨accV, rfl, by simpa using ra⟩ D0 hD0 hF (fun x z => by rw [hDc] at z; cases z)
    rw [upd_self hDc] at this
    exact this
theorem lc_to {vs : List Nat} {σ : L2.St} {H : Hp} {Q : VK} (q : tN c W (mLc vs mi t tt te) σ H Q) : tLc (iD c W mi) (gD c vs t) (tT c W0 tt) (tF c W0 te) vs σ H Q := by
  obtain ⟨w, s, q⟩ := q
  exact lc_to0 s (fun R h => ⟨w, s, h⟩) q
theorem dn_lc {elt tg iter : Expr} {ifs : List Expr} {scope : Scope} {own : List (Str × Nat)} {pos : Pos} (hc : X.calm = true) (hN : X.N.Nodup) (hi : PI X tg iter (iD c W mi)) (ok : BlkOk X.N X.env.scope scope own)
    (hg : ∀ (s : Shared) (H : Hp) (C : Addr) (cl : List (Str × Addr)) (fp : List Addr), PG (X.blk s H scope (compEnvC scope cl C X.env) fp) tg (gD c (own.map (·.2)) t)) (ht : ∀ (s : Shared) (H : Hp) (C : Addr) (cl : List (Str × Addr)) (fp : List Addr), PTs (X.blk s H scope (compEnvC scope cl C X.env) fp) ifs (tT c W0 tt))
    (he : ∀ (s : Shared) (H : Hp) (C : Addr) (cl : List (Str × Addr)) (fp : List Addr), PE (X.blk s H scope (compEnvC scope cl C X.env) fp) elt (tF c W0 te)) (hs : ∀ x, foldedSetIterable iter X.env x = pure x := by intro _; rfl) :
    PE X (.ListComp elt [⟨tg, iter, ifs, 0⟩] scope pos) (tN c W (mLc (own.map (·.2)) mi t tt te)) := pe_imp (pe_lc hc hN hi ok hg ht he hs) fun _ _ _ q => lc_to q
end
end DL

set_option Elab.async false
set_option linter.all false
set_option maxRecDepth 100000
set_option maxHeartbeats 4000000
namespace DL
open PySem PySem.Spec L2 RZ

/-! ### statements -/
inductive FR where
  | nx (s : Sl) (z : Z)
  | rt (d : D) (s : Sl) (z : Z)
  | bk (s : Sl) (z : Z)
  | ct (s : Sl) (z : Z)
  | exc (c : Str) (fs : List (Str × D)) (s : Sl) (z : Z)
  | bad
abbrev SM := Sl → Z → FR
structure Lat (w w' : Wd) : Prop where
  le : Le w.F w'.F
  lk : w'.lk = w.lk
theorem Lat.refl (w : Wd) : Lat w w := ⟨Le.refl _, rfl⟩
theorem Lat.trans {a b d : Wd} (x : Lat a b) (y : Lat b d) : Lat a d := ⟨x.le.trans y.le, y.lk.trans x.lk⟩
theorem Step.lat {c : FC} {σ : L2.St} {w w1 : Wd} {H H1 : Hp} (s : Step c σ w H w1 H1) : Lat w w1 := ⟨s.le, s.lk⟩
def WntS (c : FC) (W : WX) (Dn : Ends) (w : Wd) : FR → Prop
  | .nx s z => ∀ σ' H' w', SR c w' σ' H' → Lat w w' → w'.sl = s → w'.z = z → Dn.nx σ' H'
  | .rt d s z => ∀ σ' H' w' v, SR c w' σ' H' → Lat w w' → w'.sl = s → w'.z = z → Rep c.cl w'.F d v → Dn.rt v H'
  | .bk s z => ∀ σ' H' w', SR c w' σ' H' → Lat w w' → w'.sl = s → w'.z = z → Dn.bk σ' H'
  | .ct s z => ∀ σ' H' w', SR c w' σ' H' → Lat w w' → w'.sl = s → w'.z = z → Dn.ct σ' H'
  | .exc cn fs s z => ∀ C dd σ' H' w', c.cl cn = some C → SR c w' σ' H' → Lat w w' → w'.sl = s → w'.z = z → XD c.cl w'.F fs dd → W (.ref C) dd σ' H'
  | .bad => False
def tS (c : FC) (W : WX) (m : SM) : TS := fun Dn σ H => ∃ w, SR c w σ H ∧ WntS c W Dn w (m w.sl w.z)
def toFR (s : Sl) (e : ER D) (k : D → Z → FR) : FR := match e with
  | .ok d z => k d z
  | .exc cn fs z => .exc cn fs s z
  | .bad => .bad
theorem WntS.lat {c : FC} {W : WX} {Dn : Ends} {w w1 : Wd} {e : FR} (l : Lat w w1) (h : WntS c W Dn w e) : WntS c W Dn w1 e := by
  cases e with
  | nx s z => exact fun σ' H' w' a b => h σ' H' w' a (l.trans b)
  | rt d s z => exact fun σ' H' w' v a b => h σ' H' w' v a (l.trans b)
  | bk s z => exact fun σ' H' w' a b => h σ' H' w' a (l.trans b)
  | ct s z => exact fun σ' H' w' a b => h σ' H' w' a (l.trans b)
  | exc cn fs s z => exact fun C dd σ' H' w' a b d => h C dd σ' H' w' a b (l.trans d)
  | bad => exact h
/-- an exception of an expression of the statement -/
theorem WntS.err {c : FC} {W : WX} {Dn : Ends} {σ : L2.St} {w : Wd} {H : Hp} {cn : Str} {fs : List (Str × D)} {z : Z} (h : WntS c W Dn w (.exc cn fs w.sl z)) : ErrW c W σ w H cn fs z := fun C dd H' w' h1 h2 h3 h4 => h C dd σ H' w' h1 h2.sr h2.lat h2.sl h3 h4
/-- an expression's value wanted by the rest of the statement -/
theorem toFR_wnt {c : FC} {W : WX} {Dn : Ends} {σ : L2.St} {w : Wd} {H : Hp} {e : ER D} {k : D → Z → FR} {R : Wd → Hp → D → Prop} (h : WntS c W Dn w (toFR w.sl e k)) (q : ∀ H' w' d, Step c σ w H w' H' → WntS c W Dn w' (k d w'.z) → R w' H' d) : Wnt c W σ w H R e := by
  cases e with
  | ok d z => exact fun H' w' st e => q H' w' d st (WntS.lat st.lat (e ▸ h))
  | exc cn fs z => exact WntS.err h
  | bad => exact h
def mSkip : SM := fun s z => .nx s z
def mSeq (a b : SM) : SM := fun s z => match a s z with
  | .nx s z => b s z
  | r => r
section
variable {X : Cx} {c : FC} {W : WX} {m m' : SM} {me : M D} {n : M Bool} {e : Expr} {st : Stmt} {sts : List Stmt} {pos : Pos}
theorem ds_nil : PSs X [] (tS c W mSkip) := pss_imp pss_nil fun Dn σ H ⟨w, s, q⟩ => q σ H w s (Lat.refl _) rfl rfl
theorem seq_to {t u : TS} {Dn : Ends} {σ : L2.St} {H : Hp} (ht : ∀ Dn σ H, tS c W m Dn σ H → t Dn σ H) (hu : ∀ Dn σ H, tS c W m' Dn σ H → u Dn σ H) (q : tS c W (mSeq m m') Dn σ H) : tSeq t u Dn σ H := by
  obtain ⟨w, s, q⟩ := q
  refine ht _ _ _ ⟨w, s, ?_⟩
  unfold mSeq at q
  cases hm : m w.sl w.z with
  | nx s1 z1 =>
    rw [hm] at q
    intro σ' H' w' a b e1 e2
    subst e1 e2
    exact hu _ _ _ ⟨w', a, WntS.lat b q⟩
  | rt d s z => rw [hm] at q; exact q
  | bk s z => rw [hm] at q; exact q
  | ct s z => rw [hm] at q; exact q
  | exc cn fs s z => rw [hm] at q; exact q
  | bad => rw [hm] at q; exact q
theorem ds_cons (h : PS X st (tS c W m)) (hs : PSs X sts (tS c W m')) : PSs X (st :: sts) (tS c W (mSeq m m')) := pss_imp (pss_cons h hs) fun _ _ _ q => seq_to (fun _ _ _ h => h) (fun _ _ _ h => h) q
theorem ds_one (h : PS X st (tS c W m)) : PSs X [st] (tS c W m) := pss_one h
theorem ds_pass : PS X (.Pass pos) (tS c W mSkip) := ps_imp ps_pass fun Dn σ H ⟨w, s, q⟩ => q σ H w s (Lat.refl _) rfl rfl
def mBrk : SM := fun s z => .bk s z
def mCnt : SM := fun s z => .ct s z
theorem ds_break : PS X (.Break pos) (tS c W mBrk) := ps_imp ps_break fun Dn σ H ⟨w, s, q⟩ => q σ H w s (Lat.refl _) rfl rfl
theorem ds_continue : PS X (.Continue pos) (tS c W mCnt) := ps_imp ps_continue fun Dn σ H ⟨w, s, q⟩ => q σ H w s (Lat.refl _) rfl rfl
def mRet (m : M D) : SM := fun s z => toFR s (m s z) fun d z => .rt d s z
theorem ds_ret (h : PE X e (tF c W me)) : PS X (.Return (some e) pos) (tS c W (mRet me)) := ps_imp (ps_ret h) fun Dn σ H ⟨w, s, q⟩ => ⟨w, s, toFR_wnt q fun H' w' d st q v r => q σ H' w' v st.sr (Lat.refl _) st.sl rfl r⟩
def mRetN : SM := fun s z => .rt .non s z
theorem ds_retN : PS X (.Return none pos) (tS c W mRetN) := ps_imp ps_retN fun Dn σ H ⟨w, s, q⟩ => q σ H w .non s (Lat.refl _) rfl rfl (by simp [Rep])
def mIfS (n : M Bool) (a b : SM) : SM := fun s z => match n s z with
  | .ok t z => if t = true then a s z else b s z
  | .exc cn fs z => .exc cn fs s z
  | .bad => .bad
theorem if_to {tc : TT} {t u : TS} {Dn : Ends} {σ : L2.St} {H : Hp} (hc : ∀ σ H Q, tT c W n σ H Q → tc σ H Q) (ht : ∀ Dn σ H, tS c W m Dn σ H → t Dn σ H) (hu : ∀ Dn σ H, tS c W m' Dn σ H → u Dn σ H) (q : tS c W (mIfS n m m') Dn σ H) : tIfS tc t u Dn σ H := by
  obtain ⟨w, s, q⟩ := q
  refine hc _ _ _ ⟨w, s, ?_⟩
  unfold mIfS at q
  cases hm : n w.sl w.z with
  | ok b z =>
    rw [hm] at q
    intro H' w' st e
    subst e
    cases b with
    | true =>
      simp only [if_true] at q ⊢
      exact ht _ _ _ ⟨w', st.sr, by rw [st.sl]; exact WntS.lat st.lat q⟩
    | false =>
      simp only [Bool.false_eq_true, if_false] at q ⊢
      exact hu _ _ _ ⟨w', st.sr, by rw [st.sl]; exact WntS.lat st.lat q⟩
  | exc cn fs z =>
    rw [hm] at q
    exact WntS.err q
  | bad =>
    rw [hm] at q
    exact q
theorem ds_if {t : Expr} {a b : List Stmt} (ht : PT X t (tT c W n)) (ha : PSs X a (tS c W m)) (hb : PSs X b (tS c W m')) : PS X (.If t a b pos) (tS c W (mIfS n m m')) := ps_imp (ps_if ht ha hb) fun _ _ _ q => if_to (fun _ _ _ h => h) (fun _ _ _ h => h) (fun _ _ _ h => h) q
def mDrop (m : M D) : SM := fun s z => toFR s (m s z) fun _ z => .nx s z
theorem ds_expr (h : PE X e (tF c W me)) (hs : swapsWith e none pos.line X.env = pure false := by rfl) : PS X (.Expr e pos) (tS c W (mDrop me)) := ps_imp (ps_expr h hs) fun Dn σ H ⟨w, s, q⟩ => ⟨w, s, by
  cases hm : me w.sl w.z with
  | ok d z =>
    unfold mDrop at q
    rw [hm] at q
    intro H' w' st e v r
    exact q σ H' w' st.sr st.lat st.sl e
  | exc cn fs z =>
    unfold mDrop at q
    rw [hm] at q
    exact WntS.err q
  | bad =>
    unfold mDrop at q
    rw [hm] at q
    exact q⟩
/-! assignments -/
def mAsg (t : Tg) (m : M D) : SM := fun s z => toFR s (m s z) fun d z => match t d s with
  | some s => .nx s z
  | none => .bad
theorem asg_to {vs : List Nat} {t : Tg} {te : TE} {g : TG} {Dn : Ends} {σ : L2.St} {H : Hp} (he : ∀ σ H Q, tF c W me σ H Q → te σ H Q) (hg : ∀ v σ H Q, gD c vs t v σ H Q → g v σ H Q) (q : tS c W (mAsg t me) Dn σ H) : tAsg te g Dn σ H := by
  obtain ⟨w, s, q⟩ := q
  refine he _ _ _ ⟨w, s, toFR_wnt q fun H' w' d st q v r => hg _ _ _ _ ?_⟩
  cases e : t d w.sl with
  | none =>
    rw [e] at q
    exact q.elim
  | some s' =>
    rw [e] at q
    exact ⟨w', d, s', st.sr, r, by rw [st.sl]; exact e, fun σ' sr' _ => q σ' H' _ sr' ⟨Le.refl _, rfl⟩ rfl rfl⟩
theorem ds_asg {vs : List Nat} {t : Tg} {te : TE} {g : TG} (h : PS X st (tAsg te g)) (he : ∀ σ H Q, tF c W me σ H Q → te σ H Q) (hg : ∀ v σ H Q, gD c vs t v σ H Q → g v σ H Q) : PS X st (tS c W (mAsg t me)) := ps_imp h fun _ _ _ q => asg_to he hg q
theorem gn_to {vs : List Nat} {i : Nat} (hv : i ∈ vs) {v : V} {σ : L2.St} {H : Hp} {Q : L2.St → Hp → Prop} (h : gD c vs (tgN i) v σ H Q) : gName i v σ H Q := by
  obtain ⟨w, d, s', s, r, e, q⟩ := h
  cases e
  exact q _ (s.set_sh r) (wipe_set hv)
theorem ds_set {i : Nat} {te : TE} (h : PS X st (tAsg te (gName i))) (he : ∀ σ H Q, tF c W me σ H Q → te σ H Q) : PS X st (tS c W (mAsg (tgN i) me)) := ds_asg (vs := [i]) h he fun _ _ _ _ q => gn_to (by simp) q
/-- a name gets a new list or dict of its own -/
def mOwn (i : Nat) (m : M D) : SM := fun s z => toFR s (m s z) fun d z => match d with
  | .lst ds => .nx (s.set i (.own (.lst ds))) z
  | .dic ds => .nx (s.set i (.own (.dic ds))) z
  | _ => .bad
theorem SR.set_own {w w1 : Wd} {σ : L2.St} {H H1 : Hp} {i : Nat} {d : D} {o : HO} {p : Addr} (s : SR c w σ H) (hp : H p = none) (s1 : Step c σ w H w1 H1) (hF : w1.F p = none) (ho : ∀ x, H1 p ≠ some (.own x)) (n : OwnR c.cl w1.F (upd H1 p o) p d) (hn : ∀ x, o ≠ .own x) :
    SR c { w1 with sl := w1.sl.set i (.own d) } (σ.set i (some (.ref p))) (upd H1 p o) := by
  have s2 := (Step.lay (o' := o) s hp s1 hF ho hn).1
  have no : NoOwn w1 σ p := fun j d h => by
    rw [s1.sl] at h
    exact s.noown hp j d h
  have far : ∀ j, j ≠ i → (w1.sl.set i (.own d))[j]? = w1.sl[j]? := fun j h => List.getElem?_set_ne (Ne.symm h)
  have far2 : ∀ j, j ≠ i → (σ.set i (some (V.ref p)))[j]? = σ[j]? := fun j h => List.getElem?_set_ne (Ne.symm h)
  refine ⟨s2.sr.sub, s2.sr.keep, fun j x e => ?_, fun j k a hjk hj hk ej ek => ?_, s2.sr.fmut, s2.sr.chgd, s2.sr.strm, s2.sr.fz0, by rw [List.length_set, List.length_set]; exact s2.sr.len, s2.sr.lkd, s2.sr.lks⟩
  · have e : (w1.sl.set i (.own d))[j]? = some x := e
    by_cases hj : j = i
    · subst hj
      by_cases hb : j < w1.sl.length
      · rw [List.getElem?_set_self hb] at e
        cases e
        exact ⟨p, by rw [List.getElem?_set_self (by rw [← s2.sr.len]; exact hb)], n, hF, s.h0 hp, s.nochg hp⟩
      · rw [List.getElem?_eq_none (by simpa using hb)] at e; cases e
    · rw [far j hj] at e
      have q := s2.sr.slots j x e
      cases x with
      | none => trivial
      | sh d =>
        obtain ⟨v, q1, q2⟩ := q
        exact ⟨v, (far2 j hj).trans q1, q2⟩
      | own d =>
        obtain ⟨a, q1, q2⟩ := q
        exact ⟨a, (far2 j hj).trans q1, q2⟩
      | strm =>
        obtain ⟨sa, la, q1, q2⟩ := q
        exact ⟨sa, la, q1, (far2 j hj).trans q2⟩
      | slf cn fs =>
        obtain ⟨a, dx, C, gs, q1, q2⟩ := q
        exact ⟨a, dx, C, gs, (far2 j hj).trans q1, q2⟩
      | xcp cn fs =>
        obtain ⟨a, C, dd, q1, q2⟩ := q
        exact ⟨a, C, dd, (far2 j hj).trans q1, q2⟩
  · obtain ⟨dj, hj⟩ := hj
    obtain ⟨dk, hk⟩ := hk
    have hj : (w1.sl.set i (.own d))[j]? = _ := hj
    have hk : (w1.sl.set i (.own d))[k]? = _ := hk
    by_cases h1 : j = i
    · have h2 : k ≠ i := fun z => hjk (h1.trans z.symm)
      rw [far k h2] at hk
      rw [far2 k h2] at ek
      rw [h1] at ej
      by_cases hb : i < σ.length
      · rw [List.getElem?_set_self hb] at ej
        cases ej
        exact no k _ hk ek
      · rw [List.getElem?_eq_none (by simpa using hb)] at ej; cases ej
    · rw [far j h1] at hj
      rw [far2 j h1] at ej
      by_cases h2 : k = i
      · rw [h2] at ek
        by_cases hb : i < σ.length
        · rw [List.getElem?_set_self hb] at ek
          cases ek
          exact no j _ hj ej
        · rw [List.getElem?_eq_none (by simpa using hb)] at ek; cases ek
      · rw [far k h2] at hk
        rw [far2 k h2] at ek
        exact s2.sr.dist j k a hjk ⟨_, hj⟩ ⟨_, hk⟩ ej ek
theorem own_to {i : Nat} {te : TE} {Dn : Ends} {σ : L2.St} {H : Hp} (he : ∀ σ H Q, tN c W me σ H Q → te σ H Q) (q : tS c W (mOwn i me) Dn σ H) : tAsg te (gName i) Dn σ H := by
  obtain ⟨w, s, q⟩ := q
  refine he _ _ _ ⟨w, s, toFR_wnt q fun H' w' d st q o n p hp hF ho => ?_⟩
  show Dn.nx _ _
  cases d with
  | lst ds =>
    obtain ⟨xs, rfl, r⟩ := n
    exact q _ _ _ (SR.set_own s hp st hF ho (d := .lst ds) ⟨xs, upd_same, r⟩ (fun x z => by cases z)) ⟨Le.refl _, rfl⟩ (by show w'.sl.set i _ = _; rw [st.sl]) rfl
  | dic ds =>
    obtain ⟨xs, rfl, r⟩ := n
    exact q _ _ _ (SR.set_own s hp st hF ho (d := .dic ds) ⟨xs, upd_same, r⟩ (fun x z => by cases z)) ⟨Le.refl _, rfl⟩ (by show w'.sl.set i _ = _; rw [st.sl]) rfl
  | _ => exact q.elim
theorem ds_own {i : Nat} {te : TE} (h : PS X st (tAsg te (gName i))) (he : ∀ σ H Q, tN c W me σ H Q → te σ H Q) : PS X st (tS c W (mOwn i me)) := ps_imp h fun _ _ _ q => own_to he q
end
end DL

set_option Elab.async false
set_option linter.all false
set_option maxRecDepth 100000
set_option maxHeartbeats 4000000
namespace DL
open PySem PySem.Spec L2 RZ

/-! ### a name's own object is frozen from here on -/
def frzS (i : Nat) (s : Sl) : Sl := match s[i]? with
  | some (.own d) => s.set i (.sh d)
  | _ => s
theorem SR.frz_slot {c : FC} {w : Wd} {σ : L2.St} {H : Hp} (s : SR c w σ H) (i : Nat) : ∃ F', SR c { w with F := F', sl := frzS i w.sl } σ H ∧ Le w.F F' := by
  unfold frzS
  cases e : w.sl[i]? with
  | none => exact ⟨w.F, s, Le.refl _⟩
  | some x =>
    cases x with
    | own d =>
      obtain ⟨a, q1, q2, q3, q4, q5⟩ := s.slots i _ e
      -- the object
      have key : ∃ o, H a = some o ∧ (∀ x, o ≠ .own x) ∧ Rep c.cl (upd w.F a o) d (.ref a) := by
        cases d with
        | lst ds =>
          obtain ⟨xs, h1, h2⟩ := q2
          exact ⟨_, h1, fun x z => (by cases z), NewR.rep q3 (d := .lst ds) ⟨xs, rfl, h2⟩⟩
        | dic ds =>
          obtain ⟨xs, h1, h2⟩ := q2
          exact ⟨_, h1, fun x z => (by cases z), NewR.rep q3 (d := .dic ds) ⟨xs, rfl, h2⟩⟩
        | _ => exact q2.elim
      obtain ⟨o, ho, hno, hr⟩ := key
      -- the slot first: nothing there
      have s1 : SR c { w with sl := w.sl.set i .none } σ H := s.slots_to (by rw [List.length_set]; exact s.len) fun j x ej n => by
        by_cases hj : i = j
        · subst hj
          by_cases hb : i < w.sl.length
          · rw [List.getElem?_set_self hb] at ej
            exact absurd (Option.some.inj ej).symm n
          · rw [List.getElem?_eq_none (by simpa using hb)] at ej; cases ej
        · rw [List.getElem?_set_ne hj] at ej
          exact .inl ⟨ej, rfl⟩
      have no : NoOwn { w with sl := w.sl.set i .none } σ a := fun j dj h ej => by
        have h : (w.sl.set i .none)[j]? = _ := h
        by_cases hj : i = j
        · subst hj
          by_cases hb : i < w.sl.length
          · rw [List.getElem?_set_self hb] at h; cases h
          · rw [List.getElem?_eq_none (by simpa using hb)] at h; cases h
        · rw [List.getElem?_set_ne hj] at h
          exact s.dist i j a hj ⟨d, e⟩ ⟨dj, h⟩ q1 ej
      have s2 := s1.frzF ho hno q3 q4 q5 no
      have s3 := s2.set_sh (i := i) hr
      have e1 : σ.set i (some (V.ref a)) = σ := by
        apply List.ext_getElem?
        intro j
        by_cases hj : i = j
        · subst hj
          obtain ⟨hb, _⟩ := List.getElem?_eq_some_iff.mp q1
          rw [List.getElem?_set_self hb, q1]
        · rw [List.getElem?_set_ne hj]
      rw [e1] at s3
      refine ⟨upd w.F a o, ?_, fun x u h => by rw [upd_ne (ne_of_none h q3)]; exact h⟩
      have e2 : (w.sl.set i .none).set i (.sh d) = w.sl.set i (.sh d) := List.set_set ..
      have s4 : SR c { F := upd w.F a o, lk := w.lk, sl := (w.sl.set i .none).set i (.sh d), z := w.z } σ H := s3
      rw [e2] at s4
      exact s4
    | _ => exact ⟨w.F, s, Le.refl _⟩
def mFz (i : Nat) (m : SM) : SM := fun s z => m (frzS i s) z
theorem fz_to {c : FC} {W : WX} {m : SM} {i : Nat} {Dn : Ends} {σ : L2.St} {H : Hp} (q : tS c W (mFz i m) Dn σ H) : tS c W m Dn σ H := by
  obtain ⟨w, s, q⟩ := q
  obtain ⟨F', s', l⟩ := s.frz_slot i
  exact ⟨_, s', WntS.lat ⟨l, rfl⟩ q⟩
section
variable {X : Cx} {c : FC} {W : WX} {m m' : SM} {me : M D} {n : M Bool} {e : Expr} {st : Stmt} {sts : List Stmt} {pos : Pos}
theorem ds_fz {i : Nat} (h : PS X st (tS c W m)) : PS X st (tS c W (mFz i m)) := ps_imp h fun _ _ _ q => fz_to q
theorem dss_fz {i : Nat} (h : PSs X sts (tS c W m)) : PSs X sts (tS c W (mFz i m)) := pss_imp h fun _ _ _ q => fz_to q

/-! ### a name's own object changes -/
theorem SR.own_set {w : Wd} {σ : L2.St} {H : Hp} {i : Nat} {d d' : D} {o : HO} {a : Addr} (s : SR c w σ H) (h : w.sl[i]? = some (.own d)) (e : σ[i]? = some (some (.ref a))) (n : OwnR c.cl w.F (upd H a o) a d') :
    SR c { w with sl := w.sl.set i (.own d') } σ (upd H a o) := by
  obtain ⟨a', q1, q2, q3, q4, q5⟩ := s.slots i _ h
  rw [e] at q1
  cases q1
  have hne : ∃ o0, H a = some o0 ∧ ∀ x, o0 ≠ .own x := by
    cases d with
    | lst ds => obtain ⟨xs, h1, _⟩ := q2; exact ⟨_, h1, fun x z => by cases z⟩
    | dic ds => obtain ⟨xs, h1, _⟩ := q2; exact ⟨_, h1, fun x z => by cases z⟩
    | _ => exact q2.elim
  obtain ⟨o0, ho0, hno⟩ := hne
  have s1 : SR c { w with sl := w.sl.set i .none } σ H := s.slots_to (by rw [List.length_set]; exact s.len) fun j x ej n => by
    by_cases hj : i = j
    · subst hj
      by_cases hb : i < w.sl.length
      · rw [List.getElem?_set_self hb] at ej
        exact absurd (Option.some.inj ej).symm n
      · rw [List.getElem?_eq_none (by simpa using hb)] at ej; cases ej
    · rw [List.getElem?_set_ne hj] at ej
      exact .inl ⟨ej, rfl⟩
  have no : NoOwn { w with sl := w.sl.set i .none } σ a := fun j dj hh ej => by
    have hh : (w.sl.set i .none)[j]? = _ := hh
    by_cases hj : i = j
    · subst hj
      by_cases hb : i < w.sl.length
      · rw [List.getElem?_set_self hb] at hh; cases hh
      · rw [List.getElem?_eq_none (by simpa using hb)] at hh; cases hh
    · rw [List.getElem?_set_ne hj] at hh
      exact s.dist i j a hj ⟨d, h⟩ ⟨dj, hh⟩ e ej
  have s2 := s1.over (o' := o) ho0 hno q3 q4 q5 no
  refine ⟨s2.sub, s2.keep, fun j x ej => ?_, fun j k b hjk hj hk bj bk => ?_, s2.fmut, s2.chgd, s2.strm, s2.fz0, by rw [List.length_set]; exact s.len, s2.lkd, s2.lks⟩
  · have ej : (w.sl.set i (.own d'))[j]? = some x := ej
    by_cases hj : i = j
    · subst hj
      by_cases hb : i < w.sl.length
      · rw [List.getElem?_set_self hb] at ej
        cases ej
        exact ⟨a, e, n, q3, q4, q5⟩
      · rw [List.getElem?_eq_none (by simpa using hb)] at ej; cases ej
    · rw [List.getElem?_set_ne hj] at ej
      exact s2.slots j x (by show (w.sl.set i .none)[j]? = _; rw [List.getElem?_set_ne hj]; exact ej)
  · have key : ∀ j, OwnS (w.sl.set i (.own d')) j → OwnS w.sl j := fun j ⟨dj, hj⟩ => by
      by_cases z : i = j
      · subst z
        exact ⟨d, h⟩
      · rw [List.getElem?_set_ne z] at hj
        exact ⟨dj, hj⟩
    exact s.dist j k b hjk (key j hj) (key k hk) bj bk
/-- name.append(e) -/
def mApp (i : Nat) (m : M D) : SM := fun s z => match s[i]? with
  | some (.own (.lst ds)) => toFR s (m s z) fun d z => if ds.length < lim then .nx (s.set i (.own (.lst (ds ++ [d])))) z else .bad
  | _ => .bad
/-- name.extend(e) -/
def mExt (i : Nat) (m : M D) : SM := fun s z => match s[i]? with
  | some (.own (.lst ds)) => toFR s (m s z) fun d z => match d with
    | .lst es => if ds.length + es.length ≤ lim then .nx (s.set i (.own (.lst (ds ++ es)))) z else .bad
    | _ => .bad
  | _ => .bad
theorem app_to {K : PySem.W.Frag} {i : Nat} {Dn : Ends} {σ : L2.St} {H : Hp} (q : tS c W (mApp i me) Dn σ H) : tDrop (tBM K "list" rAppend (tVar i) (tCons (tF c W me) tNil)) Dn σ H := by
  obtain ⟨w, s, q⟩ := q
  unfold mApp at q
  split at q
  · rename_i ds hs
    obtain ⟨a, q1, ⟨xs, q2, r⟩, q3⟩ := s.slots i _ hs
    refine ⟨_, q1, .inl ⟨rfl, xs, SqL.of q2⟩, w, s, toFR_wnt q fun H' w' d st q v rv => ?_⟩
    by_cases hl : ds.length < lim
    · rw [if_pos hl] at q
      have hs' : w'.sl[i]? = some (.own (.lst ds)) := by rw [st.sl]; exact hs
      obtain ⟨a', p1, ⟨xs', p2, r'⟩, p3⟩ := st.sr.slots i _ hs'
      rw [q1] at p1
      cases p1
      refine ⟨a, xs', v, rfl, rfl, p2, lim_lt (by rw [r'.length]; exact hl), ?_⟩
      exact q _ _ _ (st.sr.own_set (d' := .lst (ds ++ [d])) hs' q1 ⟨_, upd_same, r'.append (by simp only [Reps]; exact ⟨v, [], rfl, rv, rfl⟩)⟩) ⟨Le.refl _, rfl⟩ (by show w'.sl.set i _ = _; rw [st.sl]) rfl
    · rw [if_neg hl] at q
      exact q.elim
  · exact q.elim
theorem ext_to {K : PySem.W.Frag} {i : Nat} {Dn : Ends} {σ : L2.St} {H : Hp} (q : tS c W (mExt i me) Dn σ H) : tDrop (tBM K "list" rExtend (tVar i) (tCons (tF c W me) tNil)) Dn σ H := by
  obtain ⟨w, s, q⟩ := q
  unfold mExt at q
  split at q
  · rename_i ds hs
    obtain ⟨a, q1, ⟨xs, q2, r⟩, q3⟩ := s.slots i _ hs
    refine ⟨_, q1, .inl ⟨rfl, xs, SqL.of q2⟩, w, s, toFR_wnt q fun H' w' d st q v rv => ?_⟩
    cases d with
    | lst es =>
      by_cases hl : ds.length + es.length ≤ lim
      · simp only [if_pos hl] at q
        have hs' : w'.sl[i]? = some (.own (.lst ds)) := by rw [st.sl]; exact hs
        obtain ⟨a', p1, ⟨xs', p2, r'⟩, p3⟩ := st.sr.slots i _ hs'
        rw [q1] at p1
        cases p1
        obtain ⟨b, zs, rfl, f, rz⟩ := rv
        refine ⟨a, b, xs', zs, rfl, rfl, p2, (st.sr.sub _ _ f).lst, lim_line (by rw [r'.length, rz.length]; exact hl), ?_⟩
        exact q _ _ _ (st.sr.own_set (d' := .lst (ds ++ es)) hs' q1 ⟨_, upd_same, r'.append rz⟩) ⟨Le.refl _, rfl⟩ (by show w'.sl.set i _ = _; rw [st.sl]) rfl
      · simp only [if_neg hl] at q
        exact q.elim
    | _ => exact q.elim
  · exact q.elim
theorem ds_app {i : Nat} (h : PS X st (tDrop (tBM X.K "list" rAppend (tVar i) (tCons (tF c W me) tNil)))) : PS X st (tS c W (mApp i me)) := ps_imp h fun _ _ _ q => app_to q
theorem ds_ext {i : Nat} (h : PS X st (tDrop (tBM X.K "list" rExtend (tVar i) (tCons (tF c W me) tNil)))) : PS X st (tS c W (mExt i me)) := ps_imp h fun _ _ _ q => ext_to q
/-- name[key] = value: the value, the dict, the key -/
def mPut (i : Nat) (mv mk : M D) : SM := fun s z => match s[i]? with
  | some (.own (.dic kvs)) => toFR s (mv s z) fun v z => toFR s (mk s z) fun k z => match keyD k with
    | some k => if kvs.length < lim then .nx (s.set i (.own (.dic (setK kvs k v)))) z else .bad
    | none => .bad
  | _ => .bad
theorem put_to {i : Nat} {mv mk : M D} {Dn : Ends} {σ : L2.St} {H : Hp} (q : tS c W (mPut i mv mk) Dn σ H) : sDPut (tVar i) (tV c W mk) (tF c W mv) Dn σ H := by
  obtain ⟨w, s, q⟩ := q
  unfold mPut at q
  split at q
  · rename_i kvs hs
    refine ⟨w, s, toFR_wnt q fun H1 w1 dv s1 q v rv => ?_⟩
    have hs1 : w1.sl[i]? = some (.own (.dic kvs)) := by rw [s1.sl]; exact hs
    obtain ⟨a, q1, ⟨xs, q2, r⟩, q3⟩ := s1.sr.slots i _ hs1
    refine ⟨_, q1, w1, s1.sr, ?_⟩
    rw [← s1.sl] at q
    refine toFR_wnt q fun H2 w2 dk s2 q u ru => ?_
    have hs2 : w2.sl[i]? = some (.own (.dic kvs)) := by rw [s2.sl]; exact hs1
    obtain ⟨a', p1, ⟨xs', p2, r'⟩, p3⟩ := s2.sr.slots i _ hs2
    rw [q1] at p1
    cases p1
    cases ek : keyD dk with
    | none =>
      simp only [ek] at q
      exact q.elim
    | some k =>
      simp only [ek] at q
      by_cases hl : kvs.length < lim
      · rw [if_pos hl] at q
        have eu : u = kV k := keyD_rep ek ru
        refine ⟨a, _, rfl, .inl ⟨xs', k, p2, eu, ?_, rfl⟩, ?_⟩
        · exact lim_lt (by rw [r'.length]; exact hl)
        · exact q _ _ _ (s2.sr.own_set (d' := .dic (setK kvs k dv)) hs2 q1 ⟨_, upd_same, r'.put (Rep.le s2.le rv)⟩) ⟨Le.refl _, rfl⟩ (by show w2.sl.set i _ = _; rw [s2.sl]) rfl
      · rw [if_neg hl] at q
        exact q.elim
  · exact q.elim
theorem ds_put {i : Nat} {mv mk : M D} (h : PS X st (sDPut (tVar i) (tV c W mk) (tF c W mv))) : PS X st (tS c W (mPut i mv mk)) := ps_imp h fun _ _ _ q => put_to q

/-! ### loops -/
def mForG (t : Tg) (body : SM) : List D → SM
  | [] => fun s z => .nx s z
  | d :: ds => fun s z => match t d s with
    | none => .bad
    | some s1 => match body s1 z with
      | .nx s2 z2 => mForG t body ds s2 z2
      | .ct s2 z2 => mForG t body ds s2 z2
      | .bk s2 z2 => .nx s2 z2
      | r => r
def mFor (mi : M (List D)) (t : Tg) (body : SM) : SM := fun s z => match mi s z with
  | .ok ds z => mForG t body ds s z
  | .exc cn fs z => .exc cn fs s z
  | .bad => .bad
structure ForI (c : FC) (W : WX) (t : Tg) (body : SM) (w1 : Wd) (ds : List D) (Dn : Ends) (i : Nat) (σ : L2.St) (H : Hp) : Prop where
  ex : ∃ wi, SR c wi σ H ∧ Lat w1 wi ∧ i ≤ ds.length ∧ WntS c W Dn wi (mForG t body (ds.drop i) wi.sl wi.z)
theorem for_to0 {mi : M (List D)} {t : Tg} {body : SM} {vs : List Nat} {tb : TS} {g : TG} {Dn : Ends} {σ : L2.St} {H : Hp} {tI : TI} {w : Wd} (s : SR c w σ H) (hI : ∀ R : It → Hp → Prop, Wnt c W σ w H (fun w1 H1 ds => ∀ J, ItD c w1.F w1.lk J ds → ds.length ≤ lim → R J H1) (mi w.sl w.z) → tI σ H R)
    (hg : ∀ v σ H Q, gD c vs t v σ H Q → g v σ H Q) (hb : ∀ Dn σ H, tS c W body Dn σ H → tb Dn σ H) (q : WntS c W Dn w (mFor mi t body w.sl w.z)) : tFor tI g tb Dn σ H := by
  refine hI _ ?_
  unfold mFor at q
  cases hm : mi w.sl w.z with
  | exc cn fs z =>
    rw [hm] at q
    exact WntS.err q
  | bad =>
    rw [hm] at q
    exact q
  | ok ds z1 =>
  rw [hm] at q
  intro H1 w1 s1 ez J hJ hl
  subst ez
  refine ⟨fun i m σ H => m = ds.length - i ∧ ForI c W t body w1 ds Dn i σ H, ⟨_, rfl, ⟨w1, s1.sr, Lat.refl _, Nat.zero_le _, ?_⟩⟩, ?_⟩
  · rw [List.drop_zero, s1.sl]
    exact WntS.lat s1.lat q
  rintro i m σ' H' ⟨rfl, wi, sr, lt, hil, qi⟩
  have hIt := hJ i σ' wi H' sr lt.le lt.lk
  by_cases hi' : i < ds.length
  · obtain ⟨d, hd⟩ : ∃ d, ds[i]? = some d := ⟨_, List.getElem?_eq_getElem hi'⟩
    obtain ⟨hgo, hy⟩ := hIt.2 d hd
    have hdrop : ds.drop i = d :: ds.drop (i + 1) := by
      rw [List.drop_eq_getElem_cons hi']
      congr 1
      rw [List.getElem?_eq_getElem hi'] at hd
      exact Option.some.inj hd
    rw [hdrop] at qi
    refine .inr ⟨hgo, ForI c W t body w1 ds Dn (i + 1), fun σ' H' p => ⟨ds.length - (i + 1), by omega, rfl, p⟩, fun x H2 y => ?_⟩
    obtain ⟨w', sy, ezy, rx⟩ := hy x H2 y
    refine hg _ _ _ _ ?_
    unfold mForG at qi
    cases htg : t d wi.sl with
    | none =>
      rw [htg] at qi
      exact qi.elim
    | some s' =>
    simp only [htg] at qi
    refine ⟨w', d, s', sy.sr, rx, by rw [sy.sl]; exact htg, fun σ2 sr2 _ => hb _ _ _ ⟨_, sr2, ?_⟩⟩
    show WntS c W _ { w' with sl := s' } (body s' w'.z)
    rw [← ezy] at qi
    have lt2 : Lat w1 { w' with sl := s' } := lt.trans ⟨sy.le, sy.lk⟩
    have lt3 : Lat wi { w' with sl := s' } := ⟨sy.le, sy.lk⟩
    cases hbd : body s' w'.z with
    | nx s2 z2 =>
      rw [hbd] at qi
      intro σ3 H3 w3 sr3 l3 e1 e2
      subst e1 e2
      exact ⟨w3, sr3, lt2.trans l3, by omega, WntS.lat (lt3.trans l3) qi⟩
    | ct s2 z2 =>
      rw [hbd] at qi
      intro σ3 H3 w3 sr3 l3 e1 e2
      subst e1 e2
      exact ⟨w3, sr3, lt2.trans l3, by omega, WntS.lat (lt3.trans l3) qi⟩
    | bk s2 z2 =>
      rw [hbd] at qi
      intro σ3 H3 w3 sr3 l3 e1 e2
      exact qi σ3 H3 w3 sr3 (lt3.trans l3) e1 e2
    | rt d2 s2 z2 =>
      rw [hbd] at qi
      exact WntS.lat lt3 qi
    | exc cn fs s2 z2 =>
      rw [hbd] at qi
      exact WntS.lat lt3 qi
    | bad =>
      rw [hbd] at qi
      exact qi.elim
  · refine .inl ⟨hIt.1 (by omega), ?_⟩
    have e : ds.drop i = [] := List.drop_eq_nil_of_le (by omega)
    rw [e] at qi
    exact qi σ' H' wi sr (Lat.refl _) rfl rfl
theorem for_to {mi : M (List D)} {t : Tg} {body : SM} {vs : List Nat} {tb : TS} {g : TG} {Dn : Ends} {σ : L2.St} {H : Hp} (hg : ∀ v σ H Q, gD c vs t v σ H Q → g v σ H Q) (hb : ∀ Dn σ H, tS c W body Dn σ H → tb Dn σ H) (q : tS c W (mFor mi t body) Dn σ H) : tFor (iD c W mi) g tb Dn σ H := by
  obtain ⟨w, s, q⟩ := q
  exact for_to0 s (fun R h => ⟨w, s, h⟩) hg hb q
theorem ds_for {mi : M (List D)} {t : Tg} {body : SM} {vs : List Nat} {tb : TS} {g : TG} (h : PS X st (tFor (iD c W mi) g tb)) (hg : ∀ v σ H Q, gD c vs t v σ H Q → g v σ H Q) (hb : ∀ Dn σ H, tS c W body Dn σ H → tb Dn σ H) : PS X st (tS c W (mFor mi t body)) := ps_imp h fun _ _ _ q => for_to hg hb q
def mWhile (n : M Bool) (body : SM) : Nat → SM
  | 0 => fun _ _ => .bad
  | k + 1 => fun s z => match n s z with
    | .ok b z => if b = true then (match body s z with
      | .nx s2 z2 => mWhile n body k s2 z2
      | .ct s2 z2 => mWhile n body k s2 z2
      | .bk s2 z2 => .nx s2 z2
      | r => r) else .nx s z
    | .exc cn fs z => .exc cn fs s z
    | .bad => .bad
theorem while_to {body : SM} {k : Nat} {Dn : Ends} {σ : L2.St} {H : Hp} (q : tS c W (mWhile n body k) Dn σ H) : tWhile (tT c W n) (tS c W body) Dn σ H := by
  obtain ⟨w, s, q⟩ := q
  refine ⟨fun m σ' H' => ∃ wi, SR c wi σ' H' ∧ Lat w wi ∧ WntS c W Dn wi (mWhile n body m wi.sl wi.z), ⟨k, w, s, Lat.refl _, q⟩, ?_⟩
  rintro m σ' H' ⟨wi, sr, lt, qi⟩
  cases m with
  | zero => exact qi.elim
  | succ m =>
    refine ⟨wi, sr, ?_⟩
    unfold mWhile at qi
    cases hn : n wi.sl wi.z with
    | exc cn fs z =>
      rw [hn] at qi
      exact WntS.err qi
    | bad =>
      rw [hn] at qi
      exact qi
    | ok b z =>
      rw [hn] at qi
      intro H2 w2 s2 ez
      subst ez
      cases b with
      | false =>
        simp only [Bool.false_eq_true, if_false] at qi ⊢
        exact qi _ _ _ s2.sr s2.lat s2.sl rfl
      | true =>
        simp only [if_true] at qi ⊢
        refine ⟨fun σ3 H3 => ∃ wi, SR c wi σ3 H3 ∧ Lat w wi ∧ WntS c W Dn wi (mWhile n body m wi.sl wi.z), fun σ3 H3 p => ⟨m, by omega, p⟩, w2, s2.sr, ?_⟩
        rw [s2.sl]
        have lt3 : Lat wi w2 := s2.lat
        cases hbd : body wi.sl w2.z with
        | nx s3 z3 =>
          rw [hbd] at qi
          intro σ3 H3 w3 sr3 l3 e1 e2
          subst e1 e2
          exact ⟨w3, sr3, (lt.trans lt3).trans l3, WntS.lat (lt3.trans l3) qi⟩
        | ct s3 z3 =>
          rw [hbd] at qi
          intro σ3 H3 w3 sr3 l3 e1 e2
          subst e1 e2
          exact ⟨w3, sr3, (lt.trans lt3).trans l3, WntS.lat (lt3.trans l3) qi⟩
        | bk s3 z3 =>
          rw [hbd] at qi
          intro σ3 H3 w3 sr3 l3 e1 e2
          exact qi σ3 H3 w3 sr3 (lt3.trans l3) e1 e2
        | rt d3 s3 z3 =>
          rw [hbd] at qi
          exact WntS.lat lt3 qi
        | exc cn fs s3 z3 =>
          rw [hbd] at qi
          exact WntS.lat lt3 qi
        | bad =>
          rw [hbd] at qi
          exact qi.elim
theorem ds_while {body : SM} (k : Nat) (h : PS X st (tWhile (tT c W n) (tS c W body))) : PS X st (tS c W (mWhile n body k)) := ps_imp h fun _ _ _ q => while_to q
end
end DL

set_option Elab.async false
set_option linter.all false
set_option maxRecDepth 100000
set_option maxHeartbeats 4000000
namespace DL
open PySem PySem.Spec PyProof.Rows L2 RZ

/-! ### defs: a call's start and its end -/
abbrev Fm := List D → Z → ER D
/-- the slots at a def's start -/
def startSl (n : Nat) (sm : Bool) (ds : List D) : Sl := (if sm = true then .strm :: ds.map .sh else ds.map .sh) ++ List.replicate (n - (ds.length + if sm = true then 1 else 0)) .none
/-- what holds while the callee runs -/
def calleeC (c : FC) (sm : Bool) (w : Wd) (H : Hp) : FC := { cl := c.cl, H0 := H, F0 := w.F, st := if sm = true then c.st else none, chg := if sm = true then c.chg else [] }
theorem Reps.at {cl : Str → Option Addr} {F : Hp} {ds : List D} {vs : List V} (h : Reps cl F ds vs) {i : Nat} {d : D} (e : ds[i]? = some d) : ∃ v, vs[i]? = some v ∧ Rep cl F d v := h.get e
theorem SR.call {c : FC} {w : Wd} {σ : L2.St} {H : Hp} (s : SR c w σ H) {sm : Bool} {n : Nat} {N : List Str} {ds : List D} {us vs : List V} {z0 : Z} (r : Reps c.cl w.F ds us) (hn : ds.length + (if sm = true then 1 else 0) ≤ N.length) (hN : N.length = n)
    (hv : if sm = true then ∃ sa la, c.st = some (sa, la) ∧ vs = .ref sa :: us else vs = us) (hz : sm = true → z0 = w.z) : SR (calleeC c sm w H) { F := w.F, lk := w.lk, sl := startSl n sm ds, z := z0 } (L2.start N vs) H where
  sub := s.sub
  keep := fun a o h _ => .inl h
  slots := fun i x e => by
    have e : (startSl n sm ds)[i]? = some x := e
    have lv : us.length = ds.length := r.length
    cases sm with
    | false =>
      simp only [Bool.false_eq_true, if_false] at hv hn
      subst hv
      unfold startSl at e
      simp only [Bool.false_eq_true, if_false] at e
      by_cases hi : i < ds.length
      · rw [List.getElem?_append_left (by simpa using hi), List.getElem?_map, Option.map_eq_some_iff] at e
        obtain ⟨d, e1, rfl⟩ := e
        obtain ⟨v, e2, rv⟩ := r.get e1
        refine ⟨v, ?_, rv⟩
        unfold L2.start
        rw [List.getElem?_append_left (by simpa [lv] using hi), List.getElem?_map, e2]
        rfl
      · rw [List.getElem?_append_right (by simpa using hi), List.getElem?_replicate] at e
        split at e <;> cases e
        trivial
    | true =>
      simp only [if_true] at hv hn
      obtain ⟨sa, la, e0, rfl⟩ := hv
      unfold startSl at e
      simp only [if_true] at e
      cases i with
      | zero =>
        simp at e
        subst e
        exact ⟨sa, la, e0, by unfold L2.start; simp⟩
      | succ i =>
        rw [List.cons_append, List.getElem?_cons_succ] at e
        by_cases hi : i < ds.length
        · rw [List.getElem?_append_left (by simpa using hi), List.getElem?_map, Option.map_eq_some_iff] at e
          obtain ⟨d, e1, rfl⟩ := e
          obtain ⟨v, e2, rv⟩ := r.get e1
          refine ⟨v, ?_, rv⟩
          unfold L2.start
          rw [List.map_cons, List.cons_append, List.getElem?_cons_succ, List.getElem?_append_left (by simpa [lv] using hi), List.getElem?_map, e2]
          rfl
        · rw [List.getElem?_append_right (by simpa using hi), List.getElem?_replicate] at e
          split at e <;> cases e
          trivial
  dist := fun i j a _ hi => by
    obtain ⟨d, hi⟩ := hi
    have hi : (startSl n sm ds)[i]? = some (.own d) := hi
    exfalso
    have : Slot.own d ∈ startSl n sm ds := List.mem_of_getElem? hi
    unfold startSl at this
    rw [List.mem_append] at this
    rcases this with h | h
    · cases sm with
      | false =>
        simp only [Bool.false_eq_true, if_false, List.mem_map] at h
        obtain ⟨_, _, z⟩ := h
        cases z
      | true =>
        simp only [if_true, List.mem_cons, List.mem_map] at h
        rcases h with z | ⟨_, _, z⟩
        · cases z
        · cases z
    · have := List.eq_of_mem_replicate h
      cases this
  fmut := fun a m => by
    cases sm with
    | false => exact absurd (show a ∈ ([] : List Addr) from m) (by simp)
    | true => exact s.fmut a m
  chgd := fun a m => by
    cases sm with
    | false => exact absurd (show a ∈ ([] : List Addr) from m) (by simp)
    | true => exact s.chgd a m
  strm := fun sa la h => by
    cases sm with
    | false => cases (show (none : Option (Addr × Addr)) = some (sa, la) from h)
    | true =>
      rw [hz rfl]
      exact s.strm sa la h
  fz0 := fun a o _ h => h
  len := by
    have lv : us.length = ds.length := r.length
    unfold startSl L2.start
    cases sm with
    | false =>
      simp only [Bool.false_eq_true, if_false] at hv hn ⊢
      subst hv
      simp [lv]
      omega
    | true =>
      simp only [if_true] at hv hn ⊢
      obtain ⟨sa, la, e0, rfl⟩ := hv
      simp [lv]
      omega
  lkd := s.lkd
  lks := s.lks
/-- back from a call -/
theorem SR.ret {c : FC} {w : Wd} {σ σ' : L2.St} {H H' : Hp} (s : SR c w σ H) {sm : Bool} {w0 w' : Wd} {zr : Z} (t : SR (calleeC c sm w H) w' σ' H') (hst : sm = true → ∃ p, c.st = some p) (l : Lat w0 w') (hF : w0.F = w.F) (hk : w0.lk = w.lk) (hz : if sm = true then zr = w'.z else zr = w.z) :
    Step c σ w H { F := w'.F, lk := w.lk, sl := w.sl, z := zr } H' := by
  have le : Le w.F w'.F := hF ▸ l.le
  have lk : w'.lk = w.lk := l.lk.trans hk
  have keep0 : ∀ a o, H a = some o → a ∉ (calleeC c sm w H).chg → H' a = some o := fun a o h n => by
    rcases t.keep a o h n with q | ⟨ob, m, q⟩
    · exact q
    · rw [lk] at m
      obtain ⟨u, e1, e2, e3⟩ := s.lkd _ m
      rw [h] at e3
      cases e3
      obtain ⟨u2, f1, f2, f3⟩ := t.lkd (a, ob) (by rw [lk]; exact m)
      rw [q] at f3
      have f4 : HO.frz ob u = u2 := by
        have := Option.some.inj f3
        injection this
      obtain ⟨kvs, e⟩ := f2
      rw [e] at f4
      cases f4
  have sub : ∀ a, a ∈ (calleeC c sm w H).chg → a ∈ c.chg := fun a m => by
    cases sm with
    | false => exact absurd (show a ∈ ([] : List Addr) from m) (by simp)
    | true => exact m
  have keep : KeepH c H H' := fun a o h n => keep0 a o h fun m => n (sub a m)
  have fz : ∀ a o, H a = some o → w.F a = none → w'.F a = none := fun a o h n => t.fz0 a o h n
  have all : c.st = none → ∀ a o, H a = some o → H' a = some o := fun e a o h => by
    cases sm with
    | false => exact keep0 a o h fun m => absurd (show a ∈ ([] : List Addr) from m) (by simp)
    | true =>
      obtain ⟨p, z⟩ := hst rfl
      rw [e] at z
      cases z
  have there : ∀ a o, c.H0 a = some o → ∃ u, H a = some u := fun a o h => by
    by_cases m : a ∈ c.chg
    · exact s.chgd a m
    · rcases s.keep a o h m with q | ⟨ob, _, q⟩
      · exact ⟨_, q⟩
      · exact ⟨_, q⟩
  refine ⟨⟨t.sub, fun a o h n => ?_, fun i x e => ?_, s.dist, fun a m => ?_, fun a m => ?_, fun sa la h => ?_, fun a o h n => ?_, s.len, fun p hp => ?_, fun a u o h d e => ?_⟩, le, keep, rfl, rfl, fz, all⟩
  · rcases s.keep a o h n with q | ⟨ob, m, q⟩
    · exact .inl (keep _ _ q n)
    · exact .inr ⟨ob, m, keep _ _ q n⟩
  · have q := s.slots i x e
    cases x with
    | none => trivial
    | sh d =>
      obtain ⟨v, q1, q2⟩ := q
      exact ⟨v, q1, Rep.le le q2⟩
    | own d =>
      obtain ⟨a, q1, q2, q3, q4, q5⟩ := q
      obtain ⟨o, ho⟩ := q2.some
      exact ⟨a, q1, OwnR.le le (fun o h => keep a o h q5) q2, fz a o ho q3, q4, q5⟩
    | strm => exact q
    | slf cn fs =>
      obtain ⟨a, dx, C, gs, q1, q2, q3, q4, q5, q6, q7, q8⟩ := q
      have st : c.st = none := by
        cases e : c.st with
        | none => rfl
        | some p =>
          have z := (s.strm p.1 p.2 e).2
          rw [q3] at z
          cases z
      exact ⟨a, dx, C, gs, q1, q2, q3, all st _ _ q4, all st _ _ q5, RepF.le le q6, fz dx _ q5 q7, q8⟩
    | xcp cn fs =>
      obtain ⟨a, C, dd, e1, e2, e3, e4⟩ := q
      exact ⟨a, C, dd, e1, e2, e3, e4.le le⟩
  · obtain ⟨o, ho⟩ := s.chgd a m
    exact fz a o ho (s.fmut a m)
  · cases sm with
    | false =>
      obtain ⟨o, ho⟩ := s.chgd a m
      exact ⟨o, keep0 a o ho fun m => absurd (show a ∈ ([] : List Addr) from m) (by simp)⟩
    | true => exact t.chgd a m
  · cases sm with
    | false =>
      obtain ⟨⟨h1, h2⟩, h3⟩ := s.strm sa la h
      have hz : zr = w.z := hz
      show StrmR H' sa la zr ∧ _
      rw [hz]
      exact ⟨⟨keep0 _ _ h1 fun m => absurd (show sa ∈ ([] : List Addr) from m) (by simp), keep0 _ _ h2 fun m => absurd (show la ∈ ([] : List Addr) from m) (by simp)⟩, h3⟩
    | true =>
      have hz : zr = w'.z := hz
      show StrmR H' sa la zr ∧ _
      rw [hz]
      exact t.strm sa la h
  · obtain ⟨u, hu⟩ := there a o h
    exact fz a u hu (s.fz0 a o h n)
  · exact t.lkd p (by rw [lk]; exact hp)
  · have := t.lks a u o h d e
    rw [lk] at this
    exact this

/-! ### what a def promises -/
def zDum : Z := ⟨[], 0, 0, 0⟩
def reZ {α : Type} (z : Z) : ER α → ER α
  | .ok a _ => .ok a z
  | .exc c fs _ => .exc c fs z
  | .bad => .bad
/-- f as it is called: with the spring it hands on, without it leaves it -/
def runF (sm : Bool) (f : Fm) (ds : List D) (z : Z) : ER D := if sm = true then f ds z else reZ z (f ds zDum)
def spM (cl : Str → Option Addr) (n : Nat) (sm : Bool) (f : Fm) : Sp := fun vs H Q E => ∃ (c : FC) (σ : L2.St) (w : Wd) (ds : List D) (us : List V), c.cl = cl ∧ SR c w σ H ∧ Reps c.cl w.F ds us ∧ ds.length = n ∧ (if sm = true then ∃ sa la, c.st = some (sa, la) ∧ vs = .ref sa :: us else vs = us) ∧
  Wnt c (fun C dd _ H' => E C dd H') σ w H (fun w' H' d => ∀ v, Rep c.cl w'.F d v → Q v H') (runF sm f ds w.z)
theorem spM_len {cl : Str → Option Addr} {n : Nat} {sm : Bool} {f : Fm} {vs : List V} {H : Hp} {Q : VK} {E : XK} (h : spM cl n sm f vs H Q E) : vs.length = n + if sm = true then 1 else 0 := by
  obtain ⟨c, σ, w, ds, us, _, _, r, hl, hv, _⟩ := h
  cases sm with
  | false =>
    simp only [Bool.false_eq_true, if_false] at hv ⊢
    rw [hv, r.length, hl]; rfl
  | true =>
    simp only [if_true] at hv ⊢
    obtain ⟨_, _, _, hv⟩ := hv
    rw [hv, List.length_cons, r.length, hl]
def fnM (n : Nat) (sm : Bool) (m : SM) : Fm := fun ds z => match m (startSl n sm ds) z with
  | .nx _ z => .ok .non z
  | .rt d _ z => .ok d z
  | .exc cn fs _ z => .exc cn fs z
  | _ => .bad
section
variable {P : Program} {w : World} {K : PySem.W.Frag} {mg : Str → Option Value} {base : Heap} {cl : Str → Option Addr}
theorem fn_dl {x qual : Str} {params : Arguments} {body : List Stmt} {scope : Scope} {f : Addr} {fd : FuncData} {N ps : List Str} {k n : Nat} {sm : Bool} {m : SM} (F : FunD K x qual params body scope [] [] f fd) (S : FnScope N ps scope) (hps : ps.length = n + if sm = true then 1 else 0)
    (hb : ∀ (cdv : Value) (A : Around) (outer : List Env) (s : Shared) (H : Hp) (E : XK) (c : FC) (W : WX), Room k (A.deeper (envOfC qual scope s.heap.objs.size f cdv)) → c.cl = cl → Takes (cxOf (L2.CX P w) P w K mg base N qual scope f cdv A outer s H E) W →
      PSs (cxOf (L2.CX P w) P w K mg base N qual scope f cdv A outer s H E) body (tS c W m)) : FnOk P w K mg base (L2.CX P w) (k + 1) f fd ps (spM cl n sm (fnM N.length sm m)) := by
  refine F.ok S (fun vs H Q E h => (spM_len h).trans hps.symm) fun cdv A outer s H vs Q E hr hsp => ?_
  obtain ⟨c, σ, w0, ds, us, rfl, sr, r, hl, hv, q⟩ := hsp
  refine ⟨_, hb cdv A outer s H E (calleeC c sm w0 H) (fun cls d _ H' => E cls d H') hr rfl (takes_of (E := E) rfl rfl rfl rfl), ?_⟩
  have hN : ps.length ≤ N.length := by have := congrArg List.length S.pre; rw [List.length_take] at this; omega
  have hst : sm = true → ∃ p, c.st = some p := fun e => by
    rw [if_pos e] at hv
    obtain ⟨sa, la, z, _⟩ := hv
    exact ⟨_, z⟩
  have s1 := sr.call (n := N.length) (N := N) (z0 := if sm = true then w0.z else zDum) r (by omega) rfl hv (fun e => by rw [if_pos e])
  refine ⟨_, s1, ?_⟩
  show WntS _ _ _ _ (m (startSl N.length sm ds) (if sm = true then w0.z else zDum))
  unfold runF fnM at q
  cases sm with
  | true =>
    simp only [if_true] at q s1 ⊢
    cases hm : m (startSl N.length true ds) w0.z with
    | nx s z =>
      rw [hm] at q
      intro σ' H' w' t l e1 e2
      exact q _ _ (sr.ret (zr := w'.z) t hst l rfl rfl rfl) e2 _ (by simp [Rep])
    | rt d s z =>
      rw [hm] at q
      intro σ' H' w' v t l e1 e2 rv
      exact q _ _ (sr.ret (zr := w'.z) t hst l rfl rfl rfl) e2 _ rv
    | exc cn fs s z =>
      rw [hm] at q
      intro C dd σ' H' w' hc t l e1 e2 x
      exact q C dd H' _ hc (sr.ret (zr := w'.z) t hst l rfl rfl rfl) e2 x
    | bk s z => rw [hm] at q; exact q.elim
    | ct s z => rw [hm] at q; exact q.elim
    | bad => rw [hm] at q; exact q.elim
  | false =>
    simp only [Bool.false_eq_true, if_false] at q s1 ⊢
    cases hm : m (startSl N.length false ds) zDum with
    | nx s z =>
      rw [hm] at q
      intro σ' H' w' t l e1 e2
      exact q _ _ (sr.ret (zr := w0.z) t hst l rfl rfl rfl) rfl _ (by simp [Rep])
    | rt d s z =>
      rw [hm] at q
      intro σ' H' w' v t l e1 e2 rv
      exact q _ _ (sr.ret (zr := w0.z) t hst l rfl rfl rfl) rfl _ rv
    | exc cn fs s z =>
      rw [hm] at q
      intro C dd σ' H' w' hc t l e1 e2 x
      exact q C dd H' _ hc (sr.ret (zr := w0.z) t hst l rfl rfl rfl) rfl x
    | bk s z => rw [hm] at q; exact q.elim
    | ct s z => rw [hm] at q; exact q.elim
    | bad => rw [hm] at q; exact q.elim
end
end DL

set_option Elab.async false
set_option linter.all false
set_option maxRecDepth 100000
set_option maxHeartbeats 4000000
namespace DL
open PySem PySem.Spec PyProof.Rows L2 RZ

/-! ### calls of defs -/
def mCallF (n : Nat) (f : Fm) (mr : M (List D)) : M D := fun s z => (mr s z).bind fun ds z => if ds.length = n then runF false f ds z else .bad
def mCallS (i n : Nat) (f : Fm) (mr : M (List D)) : M D := fun s z => match s[i]? with
  | some .strm => (mr s z).bind fun ds z => if ds.length = n then runF true f ds z else .bad
  | _ => .bad
theorem wnt_ite {c : FC} {W : WX} {σ : L2.St} {w : Wd} {H : Hp} {α : Type} {R : Wd → Hp → α → Prop} {p : Prop} [Decidable p] {e : ER α} (h : Wnt c W σ w H R (if p then e else .bad)) : p ∧ Wnt c W σ w H R e := by
  by_cases q : p
  · rw [if_pos q] at h
    exact ⟨q, h⟩
  · rw [if_neg q] at h
    exact h.elim
theorem wnt_W {c : FC} {W W' : WX} {σ : L2.St} {w : Wd} {H : Hp} {α : Type} {R : Wd → Hp → α → Prop} {e : ER α} (hW : ∀ C dd H', W C dd σ H' → W' C dd σ H') (h : Wnt c W σ w H R e) : Wnt c W' σ w H R e := by
  cases e with
  | ok a z => exact h
  | exc cn fs z => exact fun C dd H' w' h1 h2 h3 h4 => hW _ _ _ (h C dd H' w' h1 h2 h3 h4)
  | bad => exact h
section
variable {X : Cx} {c : FC} {W : WX} {e : Expr} {es : List Expr} {mr : M (List D)} {p pos apos : Pos} {x : Str} {f : Addr} {fd : FuncData} {ps : List Str} {k j n i : Nat} {g : Fm}
theorem callF_to {σ : L2.St} {H : Hp} {Q : VK} (q : tF c W (mCallF n g mr) σ H Q) : tCallS (spM c.cl n false g) (WE W) (tAF c W mr) σ H Q := by
  obtain ⟨w, s, q⟩ := q
  refine ⟨w, s, (Wnt.bind q).imp fun w1 H1 ds s1 q1 vs rs => ?_⟩
  obtain ⟨hn, q2⟩ := wnt_ite q1
  exact ⟨c, σ, w1, ds, vs, rfl, s1.sr, rs, hn, rfl, wnt_W (fun _ _ _ h => h) q2⟩
theorem callS_to {σ : L2.St} {H : Hp} {Q : VK} (q : tF c W (mCallS i n g mr) σ H Q) : tCallS (spM c.cl n true g) (WE W) (tCons (tVar i) (tAF c W mr)) σ H Q := by
  obtain ⟨w, s, q⟩ := q
  unfold mCallS at q
  split at q
  · rename_i hs
    obtain ⟨sa, la, q1, q2⟩ := s.slots i _ hs
    refine ⟨_, q2, w, s, (Wnt.bind q).imp fun w1 H1 ds s1 q3 vs rs => ?_⟩
    obtain ⟨hn, q4⟩ := wnt_ite q3
    exact ⟨c, σ, w1, ds, vs, rfl, s1.sr, rs, hn, ⟨sa, la, q1, rfl⟩, wnt_W (fun _ _ _ h => h) q4⟩
  · exact q.elim
theorem df_call {cl : Str → Option Addr} (hcl : c.cl = cl) (tk : Takes X W) (F : FnOk X.prog X.w X.K X.mg X.base (L2.CX X.prog X.w) k f fd ps (spM cl n false g)) (hr : Room j X.A) (hkj : k ≤ j) (hg : Gl X x) (hm : X.mg x = some (.ref f)) (hk : PySem.W.keepIn X.K (.ref f) = true) (hb : Binds X.K fd ps [])
    (ha : PA X (e :: es) (tAF c W mr)) (hdb : (x == ("__debug__" : Str)) = false := by decide) (he : starEach (e :: es) X.env = (false, eval e X.env) :: starEach es X.env := by rfl) (hpl : (backTo pos (starEach es X.env)).any (·.1) = false := by rfl) :
    PE X (.Call (.Name x p) (e :: es) [] pos) (tF c W (mCallF n g mr)) := pe_imp (pe_callS F (hr.mono hkj) hg hm hk hb (fun σ => passAt tk σ) ha hdb he hpl) fun _ _ _ q => by
  subst hcl
  exact callF_to q
theorem df_callS {cl : Str → Option Addr} (hcl : c.cl = cl) (tk : Takes X W) (F : FnOk X.prog X.w X.K X.mg X.base (L2.CX X.prog X.w) k f fd ps (spM cl n true g)) (hr : Room j X.A) (hkj : k ≤ j) (hg : Gl X x) (hm : X.mg x = some (.ref f)) (hk : PySem.W.keepIn X.K (.ref f) = true) (hb : Binds X.K fd ps [])
    (hv : PE X e (tVar i)) (ha : PA X es (tAF c W mr)) (hs : starEach (e :: es) X.env = (false, eval e X.env) :: starEach es X.env := by rfl) (hdb : (x == ("__debug__" : Str)) = false := by decide) (hpl : (backTo pos (starEach es X.env)).any (·.1) = false := by rfl) :
    PE X (.Call (.Name x p) (e :: es) [] pos) (tF c W (mCallS i n g mr)) := pe_imp (pe_callS F (hr.mono hkj) hg hm hk hb (fun σ => passAt tk σ) (pa_cons hv ha hs) hdb hs hpl) fun _ _ _ q => by
  subst hcl
  exact callS_to q
/-- f(): no arguments -/
theorem df_call0 {cl : Str → Option Addr} (hcl : c.cl = cl) (F : FnOk X.prog X.w X.K X.mg X.base (L2.CX X.prog X.w) k f fd ps (spM cl 0 false g)) (hr : Room j X.A) (hkj : k ≤ j) (hg : Gl X x) (hm : X.mg x = some (.ref f)) (hk : PySem.W.keepIn X.K (.ref f) = true) (hb : Binds X.K fd ps [])
    (hdb : (x == ("__debug__" : Str)) = false := by decide) : PE X (.Call (.Name x p) [] [] pos) (tF c W0 (mCallF 0 g mNil)) :=
  pe_imp (pe_call0 (dvs := []) (E := fun _ _ _ => False) F (hr.mono hkj) hg hm hk hb .nil (fun pins σ H s e s' I h => by
    obtain ⟨_, _, _, _, _, _, _, _, _, _, _, _, z⟩ := h
    exact z.elim) hdb) fun _ _ _ q => by
  subst hcl
  obtain ⟨w, s, q⟩ := q
  obtain ⟨_, q2⟩ := wnt_ite (show Wnt c W0 _ w _ _ (if ([] : List D).length = 0 then runF false g [] w.z else .bad) from q)
  exact ⟨c, _, w, [], [], rfl, s, by simp [Reps], rfl, rfl, wnt_W (fun _ _ _ h => h) q2⟩
end
end DL

set_option Elab.async false
set_option linter.all false
set_option maxRecDepth 100000
set_option maxHeartbeats 4000000
namespace EX
open PySem PySem.Spec PySem.Calls PyProof.Rows L2

/-! ### super().__init__('..') as the first statement of an own exception's __init__ -/
theorem boot_super : bootBuiltins ("super" : Str) = some (.type "super") := by first | boot_by_name | rfl | kernel_rfl
/-- what the written part says of such a class and its __init__ -/
structure SupC (P : Program) (K : PySem.W.Frag) (C cc cda : Addr) (fI : Addr) : Prop where
  oex : OexC K C
  cell : ∃ cl cld csl, K.lookup cc = some ⟨cl, cld, .cell (some (.ref C)), csl⟩
  code : ∃ ccl cdd vs ccs file tf, K.lookup cda = some ⟨ccl, cdd, .fields vs, ccs⟩ ∧ vs[2]? = some (.str file tf) ∧ ((P.main.file : Str) == file) = true
  clsC : ∃ cd, PySem.W.clsIn K C = some cd
  sub : PySem.W.mroIn K C (.ref C) = some true
  ve : PySem.W.subIn K (.ref C) (.type "ValueError") = some true
  sup : PySem.W.ks_superIn K C C "__init__" = some (some (.builtin "ValueError.__init__"))
  third : PySem.W.nsIn K cStatics "thirdparty.any" = some none
  top : (P.main.scope.names.lookup ("super" : Str)).isSome = false

section
variable {M : Model} {A : Around} {E : Value → Shared → Prop} {h : Heap} {g : Array GenState} {d : Drawn} {t : Nat} {os : OsState}
theorem callWith_mw {pos : Pos} {u x : Addr} {args : List (Bool × Sem Value)} {Q : Value → Shared → Prop} {s : Shared} (hplain : args.any (·.1) = false)
    (h : wpAny M A (evalArgs (.ref u) true args []) (fun ar s₁ => s₁.heap.get? u = some (PySem.W.kxs_mw "ValueError.__init__" x) ∧ wpAny M A (call (.ref u) ([] ++ ar.pos) ar.kw) Q E s₁) E s) : wpAny M A (callWith pos (.ref u) [] args []) Q E s :=
  PySem.W.kxs_callWith (i := "ValueError.__init__") (x := x) hplain h
/-- the wrapper called -/
theorem call_mw {prog : Program} {w : World} {K : PySem.W.Frag} {C a u t0 : Addr} {dv : Option Addr} {rest : List Value} {Q : Value → Shared → Prop} (T : OexC K C) (X : K.In h)
    (he : h.get? a = some { cls := .ref C, dict := dv, data := .fields #[.ref t0, .none, .none, .none, .bool false, .none] }) (hu : h.get? u = some (PySem.W.kxs_mw "ValueError.__init__" a)) (hz : rest.length ≤ sizeLine)
    (hq : ∀ h' t1, (∀ b o, b ≠ a → h.get? b = some o → h'.get? b = some o) → h'.get? a = some { cls := .ref C, dict := dv, data := .fields #[.ref t1, .none, .none, .none, .bool false, .none] } → Q .none ⟨h', g, d, t, os⟩) :
    wpAny (model prog w) A (call (.ref u) rest) Q E ⟨h, g, d, t, os⟩ := by
  obtain ⟨nm, q, N, bs, bm, sn, sub, ab, col, dd, k0, k1, k2, k3, k5, hC, hbm⟩ := T.cls
  refine wpAny_call (codeAny_of_tree ?_)
  show wpAny _ A.in1 (callAny (.ref u) ⟨rest, []⟩) _ _ _
  simp only [callAny]
  refine wpAny_bind (wpAny_load hu ?_)
  simp only [PySem.W.kxs_mw, show (Value.type "method-wrapper" == Value.type "method" || Value.type "method-wrapper" == Value.type "builtin_function_or_method" || Value.type "method-wrapper" == Value.type "method-wrapper") = true by decide, if_true]
  refine PySem.W.KFB.if_so (by decide) ?_
  refine wpAny_bind (PySem.W.check_bound_init F.excBase_ValueError.toExcCallFacts (X _ _ hC) he rfl ?_)
  refine wpAny_bind (wpAny_pure (wpAny_pure ?_))
  refine ⟨PySem.plainId_quiet F.excBase_ValueError.init.plain _, codeAny_builtin F.excBase_ValueError.initEntry ?_⟩
  exact PySem.W.exc_init_tree (cls := .ref C) (t0 := t0) (dv := dv) (c2 := .none) (c3 := .none) (b4 := .bool false) he hz fun h' k e' _ => hq h' _ k e'
end
section
variable {X : Cx} {pins : List (Addr × Obj)} {σ : L2.St} {H : Hp} {s : Shared} {E : Value → Shared → Prop}
/-- the first statement -/
theorem sup_first {P : Program} {a C cc cda f L : Addr} {qual self text : Str} {scope : Scope} {body : List Stmt} {oc : Value} {od : Option Addr} {osl : Array (Option Value)} {fd : FuncData} {ar : Arg} {i : Nat} {j : Nat} {p0 p1 p2 p3 p4 p5 : Pos}
    (hP : X.prog = P) (T : SupC P X.K C cc cda f) (henv : X.env = PySem.W.envX qual scope L f (.ref cda) [("__class__", cc)]) (hm : X.mg "super" = none)
    (hf : X.K.lookup f = some ⟨oc, od, .func fd, osl⟩) (hp : (fd.params.posonlyargs ++ fd.params.args).head? = some ar) (har : ar.arg = self)
    (hks : scope.names.lookup ("super" : Str) = some .globalImplicit) (hkc : scope.names.lookup ("__class__" : Str) = some .free) (hka : scope.names.lookup self = some .local) (hk : scope.kind = .function)
    (hN : X.N[i]? = some self) (I : Inv X pins σ H s) (hv : σ[i]? = some (some (.ref a))) (e : H a = some (exo a C none)) {Q : Flow → Shared → Prop} (q : ∀ s', Inv X pins σ H s' → Q .next s') {pl : Sem Bool}
    (he : eval (.Call (.Attribute (.Call (.Name "super" p0) [] [] p1) "__init__" p2) [.Constant (.str text) j p3] [] p4) X.env = (do
      let ov ← attributeBase (.Call (.Name "super" p0) [] [] p1) "__init__" X.env (eval (.Call (.Name "super" p0) [] [] p1) X.env)
      standAt p2.atName
      let (f, first) ← holding [ov] (getMethod ov "__init__" pl)
      callWith p4 f first (backTo p4 (starEach [.Constant (.str text) j p3] X.env)) [])) :
    PySem.wpAt (model X.prog X.w) X.A (.func body X.env) (exec (.Expr (.Call (.Attribute (.Call (.Name "super" p0) [] [] p1) "__init__" p2) [.Constant (.str text) j p3] [] p4) p5) X.env) Q E s := by
  obtain ⟨cl, cld, csl, hcell⟩ := T.cell
  obtain ⟨ccl, cdd, vs, ccs, file, tf, hcode, hvs, hfile⟩ := T.code
  obtain ⟨cd, hcd⟩ := T.clsC
  have KX : X.K.In s.heap := I.kIn
  obtain ⟨t1, ho⟩ := exo_at I.hok e
  obtain ⟨m, hns, hloc⟩ := I.loc
  have hD : ∃ oD, s.heap.get? C = some oD ∧ oD.data = .cls cd := by
    unfold PySem.W.clsIn at hcd
    split at hcd
    · rename_i c d cd' sl ho
      cases hcd
      exact ⟨_, KX _ _ ho, rfl⟩
    · cases hcd
  obtain ⟨oD, hD1, hD2⟩ := hD
  have kS : X.env.kindOf "super" = some .globalImplicit := by rw [henv]; exact hks
  have kC : X.env.kindOf "__class__" = some .free := by rw [henv]; exact hkc
  have kA : X.env.kindOf self = some .local := by rw [henv]; exact hka
  have kF : X.env.scope.kind = .function := by rw [henv]; exact hk
  have vis : Vis X.env.scope self := .inl kA
  obtain ⟨u, ru, hl⟩ := hloc i self _ hN hv vis
  obtain rfl : u = Value.ref a := ru
  have hms : m self = some (.ref a) := by
    rcases hl with ⟨_, z⟩ | ⟨k, _⟩
    · exact z
    · rw [kA] at k
      rcases k with k | k <;> cases k
  refine PySem.ks_wpAt_Expr_any ?_ (by rw [henv]; simp [interactive, hk]) rfl
  refine PySem.ks_wpAt_MethodCall ?_ he
  refine PySem.ks_wpAt_super_base (f := f) (cc := cda) kS kC (by decide) (by rw [henv]) (KX _ _ hf) rfl hp (by rw [henv]) (KX _ _ hcode) rfl hvs (by rw [hP]; exact hfile) (by rw [hP]; exact T.top) ?_
  obtain ⟨mb, h1, h2⟩ := I.mod.blt
  refine PySem.W.ks_loadName_global kF kS (Calls.loadGlobal_builtin (by rw [I.ok.glob]; exact I.mod.glob.keeps I.bk) hm (by rw [I.ok.blt]; exact h1.keeps I.bk) ((h2 _ (by decide)).trans boot_super) ⟨rfl, ?_⟩)
  refine wpAny_loadName_free kF kC (c := cc) (by rw [henv]; rfl) ⟨_, KX _ _ hcell, rfl⟩ ?_
  rw [har]
  refine wpAny_loadName_local kF kA hns hms ?_
  refine PySem.ks_wpAny_isType_cls hD1 hD2 ⟨rfl, ?_⟩
  refine PySem.ks_wpAny_call_super hD1 hD2 ho rfl (fun c z => by cases z) (PySem.W.looks_mroIn KX T.sub) (fun h1 e1 k1 => ?_)
  have I1 : Inv X pins σ H { s with heap := h1, toks := s.toks } := I.kept k1
  have ho1 := k1 _ _ ho
  have hVE : PySem.W.Looks (model X.prog X.w) h1 (isInstance (.ref a) (.type "ValueError")) true := by
    have J : PySem.W.InstAt h1 a { cls := .ref C, dict := none, data := .fields #[.ref t1, .none, .none, .none, .bool false, .none] } C none := ⟨ho1, rfl, rfl, trivial⟩
    exact J.type.andThen (PySem.W.looks_subIn I1.kIn T.ve)
  have hne : a ≠ C := fun z => by
    rw [← z, ho] at hD1
    cases hD1
    cases hD2
  have hsup := T.sup
  unfold PySem.W.ks_superIn at hsup
  rw [hcd] at hsup
  refine PySem.W.kxs_getMethod PySem.W.kxs_ValueError e1 (PySem.W.looks_opaque I1.kIn T.third) (l₀ := cd.mro) ?_ rfl I1.kIn hsup hVE hne (by decide) ?_
  · exact fun A Q E s k q => wpAny_bind ((PySem.W.looks_clsIn I1.kIn hcd) A _ E s k (wpAny_pure q))
  have k2 : ∀ b o, h1.get? b = some o → (h1.push (PySem.W.kxs_mw "ValueError.__init__" a)).get? b = some o := fun b o z => Heap.get?_push_of_some _ z
  have I2 : Inv X pins σ H { s with heap := h1.push (PySem.W.kxs_mw "ValueError.__init__" a), toks := s.toks + 1 } := I1.kept k2
  have hmw : (h1.push (PySem.W.kxs_mw "ValueError.__init__" a)).get? h1.objs.size = some (PySem.W.kxs_mw "ValueError.__init__" a) := Heap.get?_push_at rfl rfl
  refine callWith_mw (x := a) (by rfl) (evalArgs_plain ?_)
  have hfr : H h1.objs.size = none := I1.hok.fresh (Nat.le_refl _)
  have I3 : Inv X ((h1.objs.size, PySem.W.kxs_mw "ValueError.__init__" a) :: pins) σ H { s with heap := h1.push (PySem.W.kxs_mw "ValueError.__init__" a), toks := s.toks + 1 } := I2.pins_of fun p hp => by
    rcases List.mem_cons.mp hp with rfl | hp
    · exact ⟨hmw, hfr, Nat.ne_of_gt I1.lt, I1.nofs (Nat.le_refl _), fun v z => by cases z⟩
    · exact I2.pin p (List.mem_append_right _ hp)
  refine Calls.spliced_cons (thn ((pe_str (X := X) (x := text) (j := j) (pos := p3)).run _ _ σ H (fun x H1 => x = .str text ∧ H1 = H) I3 ⟨rfl, rfl⟩) fun u2 s2 hu2 => ?_)
  obtain ⟨v2, H2, I4, r2, rfl, rfl⟩ := hu2
  refine Calls.spliced_nil ?_
  have hu4 := (I4.pin (h1.objs.size, PySem.W.kxs_mw "ValueError.__init__" a) (List.mem_append_right _ List.mem_cons_self)).1
  refine ⟨hu4, ?_⟩
  obtain ⟨t4, ho4⟩ := exo_at I4.hok e
  have I5 : Inv X pins σ H2 s2 := I4.pins_of fun p hp => I4.pin p (List.mem_append_right _ (List.mem_cons_of_mem _ hp))
  obtain ⟨h5, g5, d5, t5, os5⟩ := s2
  refine call_mw T.oex I5.kIn ho4 hu4 (by rw [sizeLine_eq]; show 1 ≤ _; omega) fun h' t' k e' => q _ ?_
  have J := I5.write (t' := t5) (x := a) (e := a) (o := exo a C none) (by rw [e]; exact True.intro) (.inl rfl) k ⟨_, e'⟩ (exo_ok e')
  have eu : upd H2 a (exo a C none) = H2 := by
    funext b
    by_cases hb : b = a
    · rw [hb, upd_same, e]
    · rw [upd_ne hb]
  rw [eu] at J
  exact J
end
end EX

set_option Elab.async false
set_option linter.all false
set_option maxRecDepth 100000
set_option maxHeartbeats 4000000
namespace EX
open PySem PySem.Spec PySem.Calls PyProof.Rows L2 NdefX
/-- such an __init__ as a nested def's words: its captured cell is the class's -/
abbrev iniF (name qual : Str) (params : Arguments) (body : List Stmt) (scope : Scope) (cc cda : Addr) : NF := ⟨name, qual, params, body, scope, [("__class__", cc)], cda⟩
def supSt (text : Str) (j : Nat) (p0 p1 p2 p3 p4 p5 : Pos) : Stmt := .Expr (.Call (.Attribute (.Call (.Name "super" p0) [] [] p1) "__init__" p2) [.Constant (.str text) j p3] [] p4) p5
section
variable {P : Program} {w : World} {K : PySem.W.Frag} {mg : Str → Option Value} {base : Heap} {CX : CXT} {k : Nat} {C cc cda f : Addr} {name qual text : Str} {params : Arguments} {scope : Scope} {rest : List Stmt} {dV kV doc pm ct oc : Value} {an od : Option Addr} {osl : Array (Option Value)}
  {N ps : List Str} {sp : Sp} {ar : Arg} {j : Nat} {p0 p1 p2 p3 p4 p5 : Pos}
/-- THE RULE for an __init__ that begins with super().__init__('..') -/
theorem fn_ofS (lk : K.lookup f = some ⟨oc, od, .func (PySem.W.ksFn name qual params (supSt text j p0 p1 p2 p3 p4 p5 :: rest) scope dV kV doc pm an (.ref cda) ct cc), osl⟩) (hcd : PySem.W.codeIn K (.ref cda) qual = true)
    (S : NScope N ps ["__class__"] scope) (T : SupC P K C cc cda f) (hm : mg "super" = none) (hp : (params.posonlyargs ++ params.args).head? = some ar) (hps : ps.head? = some ar.arg)
    (hks : scope.names.lookup ("super" : Str) = some .globalImplicit) (len : ∀ vs H Q E, sp vs H Q E → vs.length = ps.length)
    {pl : Sem Bool} (he : ∀ L : Addr, eval (.Call (.Attribute (.Call (.Name "super" p0) [] [] p1) "__init__" p2) [.Constant (.str text) j p3] [] p4) (PySem.W.envX qual scope L f (.ref cda) [("__class__", cc)]) = (do
      let ov ← attributeBase (.Call (.Name "super" p0) [] [] p1) "__init__" (PySem.W.envX qual scope L f (.ref cda) [("__class__", cc)]) (eval (.Call (.Name "super" p0) [] [] p1) (PySem.W.envX qual scope L f (.ref cda) [("__class__", cc)]))
      standAt p2.atName
      let (g, first) ← holding [ov] (getMethod ov "__init__" pl)
      callWith p4 g first (backTo p4 (starEach [.Constant (.str text) j p3] (PySem.W.envX qual scope L f (.ref cda) [("__class__", cc)]))) []))
    (hbody : ∀ (A : Around) (outer : List Env) (s : Shared) (H : Hp) (vs : List V) (Q : VK) (E : XK), sp vs H Q E → ∃ a, vs.head? = some (.ref a) ∧ H a = some (exo a C none) ∧
      ∃ t, PSs (ncx CX P w K mg base N (iniF name qual params (supSt text j p0 p1 p2 p3 p4 p5 :: rest) scope cc cda) f A outer s H E) rest t ∧ t { nx := fun _ H' => Q .non H', rt := Q } (startF N vs [some (.ref C)]) H) :
    FnOk P w K mg base CX (k + 1) f (PySem.W.ksFn name qual params (supSt text j p0 p1 p2 p3 p4 p5 :: rest) scope dV kV doc pm an (.ref cda) ct cc) ps sp := by
  refine ⟨len, fun A outer s H args us vs Q E hr e0 hb r hsp => ?_⟩
  have hl := len _ _ _ _ hsp
  have KX : K.In s.heap := e0.mod.kin.keeps fun b o e => (e0.bs b o e).1
  have lim : s.heap.NoLimit := e0.mod.nolimit.keeps fun b o e => (e0.bs b o e).1
  obtain ⟨cl, cld, csl, hcell⟩ := T.cell
  have hcb := e0.bs _ _ (e0.mod.kin _ _ hcell)
  have CA : CellsAt [(("__class__" : Str), cc)] ["__class__"] [some (V.ref C)] s.heap H := by
    have lk1 : ∀ {y : Str} {c : Addr}, ([(("__class__" : Str), cc)] : List (Str × Addr)).lookup y = some c → y = "__class__" ∧ c = cc := fun {y c} h => by
      by_cases e : y = "__class__"
      · subst e
        simp [List.lookup] at h
        exact ⟨rfl, h.symm⟩
      · have e2 : (y == ("__class__" : Str)) = false := by simpa using e
        simp [List.lookup, e2] at h
    refine ⟨rfl, fun y c h => ?_, fun x y c h1 h2 => (lk1 h1).1.trans (lk1 h2).1.symm, fun i y h => ?_⟩
    · obtain ⟨rfl, rfl⟩ := lk1 h
      exact ⟨hcb.2, _, _, hcb.1, rfl⟩
    · cases i with
      | zero =>
        cases h
        exact ⟨cc, by simp [List.lookup], fun v hv => by
          cases hv
          exact ⟨.ref C, rfl, _, hcb.1, rfl⟩⟩
      | succ i => cases h
  refine PySem.ks_codeAny_call_defAt (fd := PySem.W.ksFn name qual params (supSt text j p0 p1 p2 p3 p4 p5 :: rest) scope dV kV doc pm an (.ref cda) ct cc) (body := supSt text j p0 p1 p2 p3 p4 p5 :: rest) (binds := ps.zip us) hr.depth (KX _ _ lk) rfl lim (PySem.W.codeRec_of KX hcd) rfl hb S.nocell
    (fun ⟨n, _⟩ hy => S.par n (List.of_mem_zip hy).1) (fun h₁ hns kp => ?_) S.co S.gen S.kind
  obtain ⟨a, hva, ha, t, ht, hq⟩ := hbody A outer s H vs Q E hsp
  have I : Inv (ncx CX P w K mg base N (iniF name qual params (supSt text j p0 p1 p2 p3 p4 p5 :: rest) scope cc cda) f A outer s H E) [] (startF N vs [some (.ref C)]) H { s with heap := h₁, toks := s.toks + (ps.zip us).length } :=
    inv_startN S hr.hd e0 hl r CA hns kp
  have hN : N[0]? = some ar.arg := by
    have h1 : (N.take (ps.length + (["__class__"] : List Str).length))[0]? = some ar.arg := by
      rw [S.pre, List.getElem?_append_left (by cases ps with | nil => cases hps | cons => simp), ← List.head?_eq_getElem?]
      exact hps
    rw [List.getElem?_take_of_lt (by simp)] at h1
    exact h1
  have hv0 : (startF N vs [some (.ref C)])[0]? = some (some (V.ref a)) := by
    cases vs with
    | nil => cases hva
    | cons v vs =>
      cases hva
      rfl
  refine PySem.ks_wpAt_execs_cons ?_
  refine sup_first (X := ncx CX P w K mg base N (iniF name qual params (supSt text j p0 p1 p2 p3 p4 p5 :: rest) scope cc cda) f A outer s H E) (P := P) (L := s.heap.objs.size) (scope := scope) (qual := qual) (i := 0) (self := ar.arg) rfl T rfl hm lk hp rfl hks (S.frk _ (by simp)) (S.par _ (List.mem_of_mem_head? hps)) S.kind hN I hv0 ha (fun s' J => ?_) (he _)
  refine PySem.wpAt_of_wpAny (wpAny_mono (ht.run [] _ (startF N vs [some (.ref C)]) H _ J hq) (fun fl s' hs => ?_) fun e s' hs => hs)
  have fin : ∀ {σ' : L2.St} {H' : Hp} {v : V} {u : Value}, Inv (ncx CX P w K mg base N (iniF name qual params (supSt text j p0 p1 p2 p3 p4 p5 :: rest) scope cc cda) f A outer s H E) [] σ' H' s' → L2.RelV v u → Q v H' → CE outer P w H s Q u s' :=
    fun {σ' H' v u} J rv q => ⟨v, H', J.os, J.bare, J.base, J.hok, rv, q⟩
  cases fl with
  | ret u =>
    obtain ⟨v, σ', H', J, rv, q⟩ := hs
    exact fin J rv q
  | next =>
    obtain ⟨σ', H', J, q⟩ := hs
    exact fin (v := V.non) (u := Value.none) J rfl q
  | brk =>
    obtain ⟨_, _, _, q⟩ := hs
    exact False.elim q
  | cont =>
    obtain ⟨_, _, _, q⟩ := hs
    exact False.elim q
end
end EX

set_option Elab.async false
set_option linter.all false
set_option maxRecDepth 100000
set_option maxHeartbeats 4000000
namespace EX
open PySem PySem.Spec PySem.Calls PyProof.Rows L2 NdefX
/-- what such an __init__ of one field promises -/
def spIni1 (C : Addr) (fl : Str) : Sp := fun vs H Q _ => ∃ (a : Addr) (y : V), vs = [.ref a, y] ∧ H a = some (exo a C none) ∧ ∀ dx, H dx = none → dx ≠ a → Q .non (upd (upd H dx (exd dx [(fl, y)])) a (exo a C (some dx)))
def spIni2 (C : Addr) (f1 f2 : Str) : Sp := fun vs H Q _ => ∃ (a : Addr) (y z : V), vs = [.ref a, y, z] ∧ H a = some (exo a C none) ∧ ∀ dx, H dx = none → dx ≠ a → Q .non (upd (upd (upd H dx (exd dx [(f1, y)])) a (exo a C (some dx))) dx (exd dx [(f2, z), (f1, y)]))
def spIni0 (C : Addr) : Sp := fun vs H Q _ => ∃ (a : Addr), vs = [.ref a] ∧ H a = some (exo a C none) ∧ Q .non H
def setSt (self x fl : Str) (p1 p2 p3 p4 : Pos) : Stmt := .Assign [.Attribute (.Name self p1) fl p2] (.Name x p3) p4
section
variable {P : Program} {w : World} {K : PySem.W.Frag} {mg : Str → Option Value} {base : Heap} {CX : CXT} {k : Nat} {C cc cda f : Addr} {name qual text : Str} {params : Arguments} {scope : Scope} {dV kV doc pm ct oc : Value} {an od : Option Addr} {osl : Array (Option Value)}
  {self x y fl fl2 : Str} {ar : Arg} {j : Nat} {p0 p1 p2 p3 p4 p5 q1 q2 q3 q4 r1 r2 r3 r4 : Pos}
theorem ini1_ok (lk : K.lookup f = some ⟨oc, od, .func (PySem.W.ksFn name qual params [supSt text j p0 p1 p2 p3 p4 p5, setSt self x fl q1 q2 q3 q4] scope dV kV doc pm an (.ref cda) ct cc), osl⟩) (hcd : PySem.W.codeIn K (.ref cda) qual = true)
    (S : NScope [self, x, "__class__"] [self, x] ["__class__"] scope) (T : SupC P K C cc cda f) (hm : mg "super" = none) (hp : (params.posonlyargs ++ params.args).head? = some ar) (hps : ar.arg = self)
    (hks : scope.names.lookup ("super" : Str) = some .globalImplicit) (hno : PySem.W.findIn K (.ref C) fl = some none) (hd1 : (self == ("__debug__" : Str)) = false) (hd2 : (x == ("__debug__" : Str)) = false) (hd3 : (self == ("__classdict__" : Str)) = false) (hd4 : (x == ("__classdict__" : Str)) = false)
    {pl : Sem Bool} (he : ∀ L : Addr, eval (.Call (.Attribute (.Call (.Name "super" p0) [] [] p1) "__init__" p2) [.Constant (.str text) j p3] [] p4) (PySem.W.envX qual scope L f (.ref cda) [("__class__", cc)]) = (do
      let ov ← attributeBase (.Call (.Name "super" p0) [] [] p1) "__init__" (PySem.W.envX qual scope L f (.ref cda) [("__class__", cc)]) (eval (.Call (.Name "super" p0) [] [] p1) (PySem.W.envX qual scope L f (.ref cda) [("__class__", cc)]))
      standAt p2.atName
      let (g, first) ← holding [ov] (getMethod ov "__init__" pl)
      callWith p4 g first (backTo p4 (starEach [.Constant (.str text) j p3] (PySem.W.envX qual scope L f (.ref cda) [("__class__", cc)]))) [])) :
    FnOk P w K mg base CX (k + 1) f (PySem.W.ksFn name qual params [supSt text j p0 p1 p2 p3 p4 p5, setSt self x fl q1 q2 q3 q4] scope dV kV doc pm an (.ref cda) ct cc) [self, x] (spIni1 C fl) := by
  refine fn_ofS lk hcd S T hm hp (by rw [hps]; rfl) hks (fun vs H Q E h => ?_) he fun A outer s H vs Q E hsp => ?_
  · obtain ⟨a, y, rfl, _⟩ := h
    rfl
  · obtain ⟨a, y, rfl, ha, q⟩ := hsp
    refine ⟨a, rfl, ha, tOst K fl (tVar 0) (tVar 1), pss_one (ps_ost (X := ncx CX P w K mg base [self, x, "__class__"] _ f A outer s H E) (pe_var rfl (.inl (S.par self (by simp))) hd1 hd3) (pe_var rfl (.inl (S.par x (by simp))) hd2 hd4)), ?_⟩
    exact ⟨_, rfl, _, rfl, a, C, rfl, T.oex, hno, .inl ⟨ha, fun dx n ne => q dx n ne⟩⟩
end
end EX

set_option Elab.async false
set_option linter.all false
set_option maxRecDepth 100000
set_option maxHeartbeats 4000000
namespace DL
open PySem PySem.Spec PyProof.Rows L2 RZ EX

theorem wntS_ite {c : FC} {W : WX} {Dn : Ends} {w : Wd} {p : Prop} [Decidable p] {e : FR} (h : WntS c W Dn w (if p then e else .bad)) : p ∧ WntS c W Dn w e := by
  by_cases q : p
  · rw [if_pos q] at h
    exact ⟨q, h⟩
  · rw [if_neg q] at h
    exact h.elim
/-! ### raise -/
def mRaise (cn : Str) (mk : List D → Option (List (Str × D))) (mr : M (List D)) : SM := fun s z => match mr s z with
  | .ok ds z => (match mk ds with
    | some fs => .exc cn fs s z
    | none => .bad)
  | .exc c fs z => .exc c fs s z
  | .bad => .bad
def mk1 (fl : Str) : List D → Option (List (Str × D))
  | [d] => some [(fl, d)]
  | _ => none
theorem raise1_to {c : FC} {W : WX} {cn fl : Str} {C : Addr} {mr : M (List D)} {Dn : Ends} {σ : L2.St} {H : Hp} (hc : c.cl cn = some C) (q : tS c W (mRaise cn (mk1 fl) mr) Dn σ H) : tMkO C (spIni1 C fl) [] (tAF c W mr) σ H (fun cls d H' => W cls d σ H') := by
  obtain ⟨w, s, q⟩ := q
  unfold mRaise at q
  refine ⟨w, s, ?_⟩
  cases hm : mr w.sl w.z with
  | exc cn fs z =>
    rw [hm] at q
    exact WntS.err q
  | bad =>
    rw [hm] at q
    exact q
  | ok ds z =>
    rw [hm] at q
    intro H1 w1 s1 ez vs rs
    subst ez
    match ds, q with
    | [d], q =>
      simp only [mk1] at q
      simp only [Reps] at rs
      obtain ⟨y, ys, rfl, ry, rfl⟩ := rs
      refine ⟨by simp, fun a ha => ⟨a, y, rfl, upd_same, fun dx n ne => ?_⟩⟩
      have hdx : H1 dx = none := by
        rw [upd_ne ne] at n
        exact n
      refine ⟨rfl, dx, _, upd_same, by rw [upd_ne ne]; exact upd_same, hdx, ?_⟩
      have e : upd (del (upd (upd (upd H1 a (exo a C none)) dx (exd dx [(fl, y)])) a (exo a C (some dx))) a) dx (.xd [(fl, y)]) = upd H1 dx (.xd [(fl, y)]) := by
        funext b
        by_cases hb : b = dx
        · rw [hb, upd_same, upd_same]
        · rw [upd_ne hb, upd_ne hb]
          by_cases hb2 : b = a
          · rw [hb2, del_same, ha]
          · rw [del_ne hb2, upd_ne hb2, upd_ne hb, upd_ne hb2]
      rw [e]
      have st := s1.sr.fresh (.xd [(fl, y)]) hdx
      refine q C (some dx) σ _ _ hc st.sr (s1.trans st).lat ((s1.trans st).sl) rfl ⟨_, upd_same, ?_⟩
      simp only [RepF]
      exact ⟨y, [], rfl, Rep.le st.le ry, rfl⟩
    | [], q => exact q.elim
    | _ :: _ :: _, q => exact q.elim
section
variable {X : Cx} {c : FC} {W : WX} {e : Expr} {mr : M (List D)} {pos : Pos} {cn fl : Str} {C : Addr}
theorem ds_raise1 (hca : X.calm = true) (tk : Takes X W) (hc : c.cl cn = some C) (he : PMk X e (tMkO C (spIni1 C fl) [] (tAF c W mr))) : PS X (.Raise (some e) none pos) (tS c W (mRaise cn (mk1 fl) mr)) :=
  ps_imp (ps_raise hca tk he) fun _ _ _ q => raise1_to hc q
end

/-! ### try .. except C as e -/
def noXcp (s : Sl) : Bool := s.all fun x => match x with
  | .xcp _ _ => false
  | _ => true
theorem noXcp_at {s : Sl} (h : noXcp s = true) {i : Nat} {cn : Str} {fs : List (Str × D)} : s[i]? ≠ some (.xcp cn fs) := fun e => by
  have := List.all_eq_true.mp h _ (List.mem_of_getElem? e)
  cases this
theorem SR.xc {c : FC} {w : Wd} {σ : L2.St} {H : Hp} (s : SR c w σ H) (n : noXcp w.sl = true) (x : Option (Addr × Value × Option Addr)) : SR { c with xc := x } w σ H where
  sub := s.sub
  keep := s.keep
  slots := fun i sl e => by
    have q := s.slots i sl e
    cases sl with
    | xcp cn fs => exact absurd e (noXcp_at n)
    | none => trivial
    | sh d => exact q
    | own d => exact q
    | strm => exact q
    | slf cn fs => exact q
  dist := s.dist
  fmut := s.fmut
  chgd := s.chgd
  strm := s.strm
  fz0 := s.fz0
  len := s.len
  lkd := s.lkd
  lks := s.lks
/-- the end of the suite: the name is gone -/
def clrX (i : Nat) : FR → FR
  | .nx s z => if noXcp (s.set i .none) = true then .nx (s.set i .none) z else .bad
  | .rt d s z => if noXcp (s.set i .none) = true then .rt d (s.set i .none) z else .bad
  | .bk s z => if noXcp (s.set i .none) = true then .bk (s.set i .none) z else .bad
  | .ct s z => if noXcp (s.set i .none) = true then .ct (s.set i .none) z else .bad
  | _ => .bad
def mTry (i : Nat) (ctch : Str → Option Bool) (mb mh : SM) : SM := fun s z => match mb s z with
  | .exc cn fs s1 z1 => (match ctch cn with
    | some true => if noXcp s1 = true then clrX i (mh (s1.set i (.xcp cn fs)) z1) else .bad
    | some false => .exc cn fs s1 z1
    | none => .bad)
  | r => r
theorem SR.set_none {c : FC} {w : Wd} {σ : L2.St} {H : Hp} (s : SR c w σ H) (i : Nat) (v : Option V) : SR c { w with sl := w.sl.set i .none } (σ.set i v) H :=
  s.slots_to (by rw [List.length_set, List.length_set]; exact s.len) fun j x e n => by
    by_cases hj : i = j
    · subst hj
      by_cases hb : i < w.sl.length
      · rw [List.getElem?_set_self hb] at e
        exact absurd (Option.some.inj e).symm n
      · rw [List.getElem?_eq_none (by simpa using hb)] at e; cases e
    · rw [List.getElem?_set_ne hj] at e
      exact .inl ⟨e, List.getElem?_set_ne hj⟩
theorem SR.set_xcp {c : FC} {w : Wd} {σ : L2.St} {H : Hp} (s : SR c w σ H) (n : noXcp w.sl = true) {i : Nat} {a C : Addr} {cn : Str} {fs : List (Str × D)} {dd : Option Addr} (hc : c.cl cn = some C) (x : XD c.cl w.F fs dd) :
    SR { c with xc := some (a, .ref C, dd) } { w with sl := w.sl.set i (.xcp cn fs) } (σ.set i (some (.ref a))) H := by
  have n2 : noXcp (w.sl.set i .none) = true := by
    unfold noXcp at n ⊢
    rw [List.all_eq_true] at n ⊢
    intro y hy
    rcases List.mem_or_eq_of_mem_set hy with h | h
    · exact n y h
    · subst h; rfl
  have s2 := (s.set_none i (some (.ref a))).xc n2 (some (a, .ref C, dd))
  refine ⟨s2.sub, s2.keep, fun j x e => ?_, fun j k b hjk hj hk bj bk => ?_, s2.fmut, s2.chgd, s2.strm, s2.fz0, by rw [List.length_set, List.length_set]; exact s.len, s2.lkd, s2.lks⟩
  · have e : (w.sl.set i (.xcp cn fs))[j]? = some x := e
    by_cases hj : i = j
    · subst hj
      by_cases hb : i < w.sl.length
      · rw [List.getElem?_set_self hb] at e
        cases e
        exact ⟨a, C, dd, by rw [List.getElem?_set_self (by rw [← s.len]; exact hb)], rfl, hc, x⟩
      · rw [List.getElem?_eq_none (by simpa using hb)] at e; cases e
    · rw [List.getElem?_set_ne hj] at e
      exact s2.slots j x (by show (w.sl.set i .none)[j]? = _; rw [List.getElem?_set_ne hj]; exact e)
  · have key : ∀ j, OwnS (w.sl.set i (.xcp cn fs)) j → OwnS (w.sl.set i .none) j := fun j ⟨dj, hj⟩ => by
      by_cases z : i = j
      · subst z
        by_cases hb : i < w.sl.length
        · rw [List.getElem?_set_self hb] at hj; cases hj
        · rw [List.getElem?_eq_none (by simpa using hb)] at hj; cases hj
      · rw [List.getElem?_set_ne z] at hj
        exact ⟨dj, by rw [List.getElem?_set_ne z]; exact hj⟩
    exact s2.dist j k b hjk (key j hj) (key k hk) bj bk
theorem try_to {c : FC} {Wout : WX} {K : PySem.W.Frag} {cV : Value} {i : Nat} {ctch : Str → Option Bool} {mb mh : SM} {ts : Addr → Value → Option Addr → TS} {Dn : Ends} {σ : L2.St} {H : Hp}
    (hx : ∀ cn C b, ctch cn = some b → c.cl cn = some C → PySem.W.exmOne K (.ref C) cV = some b) (hts : ∀ (a C : Addr) (dd : Option Addr) Dn σ H, tS { c with xc := some (a, .ref C, dd) } W0 mh Dn σ H → ts a (.ref C) dd Dn σ H)
    (q : tS c Wout (mTry i ctch mb mh) Dn σ H) : tS c (wAs K cV i ts Wout Dn) mb Dn σ H := by
  obtain ⟨w, s, q⟩ := q
  refine ⟨w, s, ?_⟩
  unfold mTry at q
  cases hm : mb w.sl w.z with
  | nx s z => rw [hm] at q; exact q
  | rt d s z => rw [hm] at q; exact q
  | bk s z => rw [hm] at q; exact q
  | ct s z => rw [hm] at q; exact q
  | bad => rw [hm] at q; exact q
  | exc cn fs s1 z1 =>
    rw [hm] at q
    intro C dd σ' H' w' hc sr lt e1 e2 x
    subst e1 e2
    cases hct : ctch cn with
    | none => simp only [hct] at q; exact q.elim
    | some b =>
      refine ⟨b, hx cn C b hct hc, fun hb a ha => ?_, fun hb => ?_⟩
      · subst hb
        simp only [hct] at q
        by_cases hn : noXcp w'.sl = true
        · rw [if_pos hn] at q
          refine hts _ _ _ _ _ _ ⟨_, sr.set_xcp hn (i := i) hc x, ?_⟩
          show WntS _ W0 _ _ (mh (w'.sl.set i (.xcp cn fs)) w'.z)
          have back : ∀ {s2 : Sl} {σ2 : L2.St} {H2 : Hp} {w2 : Wd}, SR { c with xc := some (a, .ref C, dd) } w2 σ2 H2 → w2.sl = s2 → noXcp (s2.set i .none) = true → SR c { w2 with sl := s2.set i .none } (σ2.set i none) H2 := fun {s2 σ2 H2 w2} t e n => by
            subst e
            exact (t.set_none i none).xc n c.xc
          cases hh : mh (w'.sl.set i (.xcp cn fs)) w'.z with
          | nx s2 z2 =>
            rw [hh] at q
            obtain ⟨n, q⟩ := wntS_ite (by unfold clrX at q; exact q)
            · intro σ2 H2 w2 t l e3 e4
              exact q _ _ _ (back t e3 n) (lt.trans ⟨l.le, l.lk⟩) rfl e4
          | rt d s2 z2 =>
            rw [hh] at q
            obtain ⟨n, q⟩ := wntS_ite (by unfold clrX at q; exact q)
            · intro σ2 H2 w2 v t l e3 e4 r
              exact q _ _ _ v (back t e3 n) (lt.trans ⟨l.le, l.lk⟩) rfl e4 r
          | bk s2 z2 =>
            rw [hh] at q
            obtain ⟨n, q⟩ := wntS_ite (by unfold clrX at q; exact q)
            · intro σ2 H2 w2 t l e3 e4
              exact q _ _ _ (back t e3 n) (lt.trans ⟨l.le, l.lk⟩) rfl e4
          | ct s2 z2 =>
            rw [hh] at q
            obtain ⟨n, q⟩ := wntS_ite (by unfold clrX at q; exact q)
            · intro σ2 H2 w2 t l e3 e4
              exact q _ _ _ (back t e3 n) (lt.trans ⟨l.le, l.lk⟩) rfl e4
          | exc c2 f2 s2 z2 => rw [hh] at q; exact q.elim
          | bad => rw [hh] at q; exact q.elim
        · rw [if_neg hn] at q
          exact q.elim
      · subst hb
        simp only [hct] at q
        exact q C dd σ' H' w' hc sr lt rfl rfl x
/-! e.f in the suite -/
def mXf (i : Nat) (cn0 f : Str) : M D := fun s z => match s[i]? with
  | some (.xcp cn fs) => if cn = cn0 then mOpt (fs.lookup f) z else .bad
  | _ => .bad
theorem RepF.look {cl : Str → Option Addr} {F : Hp} {f : Str} {d : D} : ∀ {fs : List (Str × D)} {gs : List (Str × V)}, RepF cl F fs gs → fs.lookup f = some d → ∃ v, gs.lookup f = some v ∧ Rep cl F d v
  | [], gs, h, e => by cases e
  | (k, d') :: fs, gs, h, e => by
    simp only [RepF] at h
    obtain ⟨y, ys, rfl, r, h⟩ := h
    rw [List.lookup_cons] at e ⊢
    cases q : f == k with
    | true =>
      rw [q] at e
      cases e
      exact ⟨y, rfl, r⟩
    | false =>
      rw [q] at e
      exact RepF.look h e
theorem xf_to {c : FC} {W : WX} {i : Nat} {cn0 f : Str} {a C : Addr} {cls : Value} {d : Option Addr} {σ : L2.St} {H : Hp} {Q : VK} (hcl : c.cl cn0 = some C) (hx : c.xc = some (a, cls, d)) (q : tF c W (mXf i cn0 f) σ H Q) : tXf a cls d C f (tVar i) σ H Q := by
  obtain ⟨w, s, q⟩ := q
  unfold mXf at q
  split at q
  · rename_i cn fs hs
    obtain ⟨hcn, q3⟩ := wnt_ite q
    clear q
    subst hcn
    obtain ⟨a', C', dd, e1, e2, e3, e4⟩ := s.slots i _ hs
    rw [hx] at e2
    cases e2
    rw [hcl] at e3
    cases e3
    obtain ⟨v, hv, q2⟩ := wnt_opt s q3
    refine ⟨_, e1, rfl, rfl, ?_⟩
    cases d with
    | none =>
      rw [show fs = [] from e4] at hv
      cases hv
    | some dd =>
      obtain ⟨gs, f1, r⟩ := e4
      obtain ⟨u, hu, ru⟩ := r.look hv
      have hxd : H dd = some (.xd gs) := by
        rcases s.sub _ _ f1 with z | ⟨⟨_, z⟩, _⟩
        · exact z
        · cases z
      exact ⟨dd, gs, u, rfl, hxd, hu, q2.val s ru⟩
  · exact q.elim
end DL

set_option Elab.async false
set_option linter.all false
set_option maxRecDepth 100000
set_option maxHeartbeats 4000000
namespace DL
open PySem PySem.Spec PyProof.Rows L2 RZ

/-! ### the spring of draws -/
theorem SR.strm_ne {c : FC} {w : Wd} {σ : L2.St} {H : Hp} {sa la : Addr} (s : SR c w σ H) (e : c.st = some (sa, la)) : sa ≠ la := fun z => by
  obtain ⟨⟨h1, h2⟩, _⟩ := s.strm sa la e
  rw [z, h2] at h1
  have h3 := Option.some.inj h1
  injection h3 with h4
  cases hc : w.z.cells with
  | nil => rw [hc] at h4; cases h4
  | cons a r => rw [hc] at h4; cases h4
/-- one of the spring's objects written -/
theorem SR.strm_w {c : FC} {w : Wd} {σ : L2.St} {H : Hp} {sa la a : Addr} {o : HO} {z' : Z} (s : SR c w σ H) (e : c.st = some (sa, la)) (ha : a = sa ∨ a = la) (n : StrmR (upd H a o) sa la z') : SR c { w with z := z' } σ (upd H a o) := by
  obtain ⟨_, hc⟩ := s.strm sa la e
  have hm : a ∈ c.chg := by
    rw [hc]
    rcases ha with z | z
    · rw [z]; simp
    · rw [z]; simp
  have ne : ∀ {b : Addr}, b ∉ c.chg → b ≠ a := fun {b} h z => h (z ▸ hm)
  refine ⟨fun b u h => ?_, fun b u h m => ?_, fun i x h => ?_, s.dist, s.fmut, fun b m => ?_, fun sa' la' e' => ?_, s.fz0, s.len, fun p hp => ?_, fun b u o' h d e' => ?_⟩
  · have := ne (s.nomut h)
    rcases s.sub b u h with q | ⟨d, ob, q⟩
    · exact .inl (by rw [upd_ne this]; exact q)
    · exact .inr ⟨d, ob, by rw [upd_ne this]; exact q⟩
  · have := ne m
    rcases s.keep b u h m with q | ⟨ob, l, q⟩
    · exact .inl (by rw [upd_ne this]; exact q)
    · exact .inr ⟨ob, l, by rw [upd_ne this]; exact q⟩
  · have q := s.slots i x h
    cases x with
    | own d =>
      obtain ⟨b, q1, q2, q3, q4, q5⟩ := q
      exact ⟨b, q1, OwnR.le (Le.refl _) (fun o h => by rw [upd_ne (ne q5)]; exact h) q2, q3, q4, q5⟩
    | slf cn fs =>
      obtain ⟨b, dx, C, gs, q1, q2, q3, _⟩ := q
      rw [hc] at q3
      cases q3
    | none => trivial
    | sh d => exact q
    | strm => exact q
    | xcp cn fs => exact q
  · by_cases hb : b = a
    · exact ⟨o, by rw [hb]; exact upd_same⟩
    · obtain ⟨u, q⟩ := s.chgd b m
      exact ⟨u, by rw [upd_ne hb]; exact q⟩
  · rw [e] at e'
    cases e'
    exact ⟨n, hc⟩
  · obtain ⟨u, e1, e2, e3⟩ := s.lkd p hp
    exact ⟨u, e1, e2, by rw [upd_ne (ne (s.nomut e1))]; exact e3⟩
  · rw [upd_ne (ne (s.nomut h))] at e'
    exact s.lks b u o' h d e'
def Z.get (z : Z) : Nat → Option Int
  | 1 => some z.rest
  | 2 => some z.count
  | 3 => some z.mix
  | _ => none
def Z.put (z : Z) (j : Int) : Nat → Option Z
  | 1 => some { z with rest := j }
  | 2 => some { z with count := j }
  | 3 => some { z with mix := j }
  | _ => none
def mStrmI (i k : Nat) : M D := fun s z => match s[i]? with
  | some .strm => mOpt ((z.get k).map .int) z
  | _ => .bad
def mStrmNe (i : Nat) : M Bool := fun s z => match s[i]? with
  | some .strm => .ok (!z.cells.isEmpty) z
  | _ => .bad
def mStrmSet (i k : Nat) (m : M D) : SM := fun s z => match s[i]? with
  | some .strm => toFR s (m s z) fun d z => match d with
    | .int j => (match z.put j k with
      | some z => .nx s z
      | none => .bad)
    | _ => .bad
  | _ => .bad
def mStrmPop (i j : Nat) : SM := fun s z => match s[i]? with
  | some .strm => (match z.cells with
    | x :: r => .nx (s.set j (.sh (.int x))) { z with cells := r }
    | [] => .bad)
  | _ => .bad
section
variable {c : FC} {W : WX} {K : PySem.W.Frag} {i k : Nat} {me : M D}
theorem strmI_to {σ : L2.St} {H : Hp} {Q : VK} (q : tF c W (mStrmI i k) σ H Q) : tOp (rIxL K) (tVar i) (tC (.int k)) σ H Q := by
  obtain ⟨w, s, q⟩ := q
  unfold mStrmI at q
  split at q
  · rename_i hs
    obtain ⟨sa, la, e, e1⟩ := s.slots i _ hs
    obtain ⟨⟨h1, h2⟩, hc⟩ := s.strm sa la e
    obtain ⟨d, hd, q2⟩ := wnt_opt s q
    rw [Option.map_eq_some_iff] at hd
    obtain ⟨j, hj, rfl⟩ := hd
    refine ⟨_, e1, sa, _, _, .int j, rfl, rfl, SqL.of h1, ?_, q2.int s⟩
    match k, hj with
    | 1, hj => cases hj; rfl
    | 2, hj => cases hj; rfl
    | 3, hj => cases hj; rfl
  · exact q.elim
theorem strmSet_to {Dn : Ends} {σ : L2.St} {H : Hp} (q : tS c W (mStrmSet i k me) Dn σ H) : tAsg (tF c W me) (gSub (tVar i) (tC (.int k)) rSetL) Dn σ H := by
  obtain ⟨w, s, q⟩ := q
  unfold mStrmSet at q
  split at q
  · rename_i hs
    refine ⟨w, s, toFR_wnt q fun H1 w1 d s1 q v r => ?_⟩
    cases d with
    | int j =>
      have hs1 : w1.sl[i]? = some .strm := by rw [s1.sl]; exact hs
      obtain ⟨sa, la, e, e1⟩ := s1.sr.slots i _ hs1
      obtain ⟨⟨h1, h2⟩, hc⟩ := s1.sr.strm sa la e
      have hne := s1.sr.strm_ne e
      obtain rfl : v = .int j := by simpa [Rep] using r
      cases hp : w1.z.put j k with
      | none =>
        simp only [hp] at q
        exact q.elim
      | some z' =>
        simp only [hp] at q
        refine ⟨_, e1, sa, _, _, k, rfl, rfl, h1, ?_, q σ _ { w1 with z := z' } (s1.sr.strm_w (z' := z') e (.inl rfl) ⟨?_, ?_⟩) ⟨Le.refl _, rfl⟩ (by show w1.sl = _; rw [s1.sl]) rfl⟩
        · match k, hp with
          | 1, hp => rfl
          | 2, hp => rfl
          | 3, hp => rfl
        · rw [upd_same]
          match k, hp with
          | 1, hp => cases hp; rfl
          | 2, hp => cases hp; rfl
          | 3, hp => cases hp; rfl
        · rw [upd_ne (Ne.symm hne), h2]
          match k, hp with
          | 1, hp => cases hp; rfl
          | 2, hp => cases hp; rfl
          | 3, hp => cases hp; rfl
    | _ => exact q.elim
  · exact q.elim
theorem strmPop_to {j : Nat} {Dn : Ends} {σ : L2.St} {H : Hp} (q : tS c W (mStrmPop i j) Dn σ H) : tAsg (tBM K "list" rPopAt (tOp (rIxL K) (tVar i) (tC (.int 0))) (tCons (tC (.int 0)) tNil)) (gName j) Dn σ H := by
  obtain ⟨w, s, q⟩ := q
  unfold mStrmPop at q
  split at q
  · rename_i hs
    obtain ⟨sa, la, e, e1⟩ := s.slots i _ hs
    obtain ⟨⟨h1, h2⟩, hc⟩ := s.strm sa la e
    have hne := s.strm_ne e
    cases hz : w.z.cells with
    | nil =>
      simp only [hz] at q
      exact q.elim
    | cons x r =>
      simp only [hz] at q
      rw [hz] at h2
      refine ⟨_, e1, sa, _, _, .ref la, rfl, rfl, SqL.of h1, rfl, .inl ⟨rfl, _, SqL.of h2⟩, la, _, 0, 0, .int x, rfl, rfl, h2, by decide, by decide, ?_, rfl, ?_⟩
      · unfold seqIndex?
        simp
      · have s2 := s.strm_w (z' := { w.z with cells := r }) (o := .lst ((V.int x :: r.map V.int).eraseIdx 0)) e (.inr rfl) ⟨by rw [upd_ne hne]; exact h1, by rw [upd_same]; rfl⟩
        exact q _ _ _ (s2.set_sh (i := j) (d := .int x) (v := .int x) (by simp [Rep])) ⟨Le.refl _, rfl⟩ rfl rfl
  · exact q.elim
end
end DL

set_option Elab.async false
set_option linter.all false
set_option maxRecDepth 100000
set_option maxHeartbeats 4000000
namespace PySem
namespace EXK
open PySem.W PySem.Calls PyProof.Rows HandSPX
section
variable {M : Model} {A : Around} {E : Value → Shared → Prop} {h : Heap} {g : Array GenState} {d : Drawn} {t : Nat} {os : OsState}
variable {nm q : Str} {C N : Addr} {bs bm bmB : List Value} {hdct : Bool} {sn : List Str} {sub : List Value} {ab : Bool} {col : Option Bool} {dd : Option Addr} {k0 k1 k2 k3 k5 : Option Value} {B newId initId : String} {kw : List (Str × Value)}
theorem check_new_ownK (F : ExcBaseFacts B newId initId bmB) (hT : ∀ X : String, bm.contains (.type X) = bmB.contains (.type X)) {rest : List Value} {Q : Unit → Shared → Prop}
    (hC : h.get? C = some (excClassObj nm q C N bs bm hdct sn sub ab col dd k0 k1 k2 k3 k5 newId)) (hq : Q () ⟨h, g, d, t, os⟩) : wpAny M A (checkBuiltinCall newId ⟨.ref C :: rest, kw⟩) Q E ⟨h, g, d, t, os⟩ := by
  have hcont : (Value.ref C :: bm).contains (.type B) = true := by rw [List.contains_cons, hT, F.hasB, Bool.or_true]
  have hstar := F.noStar
  simp only [checkBuiltinCall, F.newKind, F.newSplit, F.newRow]
  repeat (first | refine wpAny_loadPart_at hC ?_ | (refine wpAny_isSubtype_exc hC ?_; rw [hcont]) | refine wpAny_staticBase_exc hC ?_ | refine wpAny_madeBy_exc hC ?_ | simp only [bne_self_eq_false, Bool.false_eq_true, if_false] | wp_step)
  exact hq
end
section
variable {prog : Program} {w : World} {A : Around} {E : Value → Shared → Prop} {R : Result → Shared → Prop} {h : Heap} {g : Array GenState} {d : Drawn} {t : Nat} {os : OsState}
variable {nm q : Str} {C N : Addr} {bs bm bmB : List Value} {hdct : Bool} {sn : List Str} {sub : List Value} {ab : Bool} {col : Option Bool} {dd : Option Addr} {k0 k1 k2 k3 k5 : Option Value} {B newId initId : String} {kw : List (Str × Value)}
theorem new_ownK (F : ExcBaseFacts B newId initId bmB) (hT : ∀ X : String, bm.contains (.type X) = bmB.contains (.type X)) {rest : List Value}
    (hC : h.get? C = some (excClassObj nm q C N bs bm hdct sn sub ab col dd k0 k1 k2 k3 k5 newId))
    (hq : R (.ok (.ret (.ref (h.objs.size + 1)))) ⟨(h.push { cls := .type "tuple", data := .seq rest.toArray }).push
      { cls := .ref C, data := .fields #[.ref h.objs.size, .none, .none, .none, .bool false, .none] }, g, d, t, os⟩) (hrest : rest.length ≤ sizeLine) :
    codeAny (model prog w) A (.builtin newId ⟨.ref C :: rest, kw⟩) R ⟨h, g, d, t, os⟩ := by
  have hends := F.ends
  have hcB : (Value.ref C :: bm).contains (.type B) = true := by rw [List.contains_cons, hT, F.hasB, Bool.or_true]
  have hcA : (Value.ref C :: bm).contains (.type "AttributeError") = false := by rw [List.contains_cons, hT, F.noAttr]; rfl
  have hcN : (Value.ref C :: bm).contains (.type "NameError") = false := by rw [List.contains_cons, hT, F.noName]; rfl
  refine codeAny_builtinAt F.entry ?_
  unfold Builtin.«BaseException.__new__»
  refine wpAt_bind ?_
  show wpAt _ _ _ (stack >>= _) _ _ _
  refine wpAt_bind (wpAt_stack fun p below => wpAt_of_wpAny ?_)
  wp_walk
  refine wpAt_of_wpAny ?_
  rw [F.owner]
  repeat (first | with_reducible refine wpAny_madeHere_exc F.canon hC ?_ | with_reducible refine wpAny_loadPart_at hC ?_ | (with_reducible refine wpAny_isSubtype_exc hC ?_; first | rw [hcB] | rw [hcA] | rw [hcN]) | wp_step)
  show R _ _
  rw [Heap.size_push]
  exact hq
theorem type_call_ownK (F : ExcBaseFacts B newId initId bmB) (hT : ∀ X : String, bm.contains (.type X) = bmB.contains (.type X)) {rest : List Value} {fI : Addr} {Q : Fin → Shared → Prop}
    (hC : h.get? C = some (excClassObj nm q C N bs bm hdct sn sub ab col dd k0 k1 k2 k3 k5 newId))
    (hi : W.Looks (model prog w) h (typeLookup (.ref C) "__init__") (some (.ref fI))) (hb : ∀ self, W.Looks (model prog w) h (bindSpecial (.ref fI) self) (.ref fI, [self])) (hrest : rest.length ≤ sizeLine)
    (hq : codeAny (model prog w) A (.call (.ref fI) ⟨.ref (h.objs.size + 1) :: rest, kw⟩)
      (fun r s' => match r with | .ok (.ret v) => v = .none ∧ Q (.done (.ret (.ref (h.objs.size + 1)))) s' | .ok _ => False | .error e => E e s')
      ⟨(h.push (W.kdv_tup rest)).push (excO C h.objs.size), g, d, t, os⟩) :
    wpAny (model prog w) A (Builtin.«type.__call__» ⟨.ref C :: rest, kw⟩) Q E ⟨h, g, d, t, os⟩ := by
  repeat (first | with_reducible refine wpAny_loadPart_at hC ?_ | with_reducible refine wpAny_madeBy_exc hC ?_ | wp_step)
  refine codeAny_call_builtin_code (Code.quiet_builtin _ F.quiet) (check_new_ownK F hT hC ?_)
  refine new_ownK F hT hC ?_ hrest
  show wpAny _ _ _ _ _ _
  have k : ∀ b o, h.get? b = some o → ((h.push (W.kdv_tup rest)).push (excO C h.objs.size)).get? b = some o := fun b o e => Heap.get?_push_of_some _ (Heap.get?_push_of_some _ e)
  have hC₁ := k _ _ hC
  have hget : ((h.push (W.kdv_tup rest)).push (excO C h.objs.size)).get? (h.objs.size + 1) = some (excO C h.objs.size) := by heap_get
  have hcC : (Value.ref C :: bm).contains (.ref C) = true := by simp
  have i1 := hi.keeps k
  have b1 := (hb (.ref (h.objs.size + 1))).keeps k
  unfold isInstance
  repeat (first | with_reducible refine wpAny_loadPart_at hget ?_ | (with_reducible refine wpAny_isSubtype_exc hC₁ ?_; rw [hcC]) | wp_step)
  show wpAny _ _ (typeLookup (.ref C) _) _ _ _
  refine i1.at ?_
  refine wpAny_holding (wpAny_bind (b1.at ?_))
  refine wpAny_bind (wpAny_call (codeAny_mono hq fun r s' z => ?_))
  rcases r with e | (v | _ | _ | _) <;> first | exact z | exact z.elim | skip
  obtain ⟨rfl, z⟩ := z
  first
    | exact wpAny_pure (wpAny_pure z)
    | (wp_walk; exact z)
theorem call_ownK (F : ExcBaseFacts B newId initId bmB) (hT : ∀ X : String, bm.contains (.type X) = bmB.contains (.type X)) {rest : List Value} {fI : Addr}
    (hC : h.get? C = some (excClassObj nm q C N bs bm hdct sn sub ab col dd k0 k1 k2 k3 k5 newId))
    (hi : W.Looks (model prog w) h (typeLookup (.ref C) "__init__") (some (.ref fI))) (hb : ∀ self, W.Looks (model prog w) h (bindSpecial (.ref fI) self) (.ref fI, [self])) (hrest : rest.length ≤ sizeLine)
    (hq : codeAny (model prog w) (A.under (.builtin "type.__call__" ⟨.ref C :: rest, kw⟩)) (.call (.ref fI) ⟨.ref (h.objs.size + 1) :: rest, kw⟩) (W.InitBack (h.objs.size + 1) R)
      ⟨(h.push (W.kdv_tup rest)).push (excO C h.objs.size), g, d, t, os⟩) :
    codeAny (model prog w) A (.call (.ref C) ⟨rest, kw⟩) R ⟨h, g, d, t, os⟩ := by
  have f1 := tc_lookup
  have f2 := tc_bind (.ref C)
  have hTy : (⟨h, g, d, t, os⟩ : Shared).TypeIs (.ref C) "type" := ⟨_, hC, rfl⟩
  refine codeAny_of_tree ?_
  show wpAny _ _ (callAny (.ref C) _) _ _ _
  repeat (any_goals (first | assumption | with_reducible refine wpAny_loadPart_at hC ?_ | wp_step))
  refine ⟨rfl, ?_⟩
  refine codeAny_call_builtin_at (Code.quiet_builtin _ (by decide +kernel)) entry_typeCall (wpAny_check_type_call_sub hC (type_call_ownK F hT hC hi hb hrest ?_))
  refine codeAny_mono hq fun r s' z => ?_
  rcases r with e | (v | _ | _ | _) <;> exact z
end
end EXK
end PySem

set_option Elab.async false
set_option linter.all false
set_option maxRecDepth 100000
set_option maxHeartbeats 4000000
namespace EX
open PySem PySem.Spec PySem.Calls PyProof.Rows L2 NdefX
/-! ### an exception made as a value -/
section
variable {X : Cx} {CX : CXT} {k : Nat} {C fI : Addr} {fd : FuncData} {ps ks : List Str} {sp : Sp} {x : Str} {p pos : Pos} {e : Expr} {es : List Expr} {kws : List Keyword} {t tk : TA}
theorem run_mkE {pins : List (Addr × Obj)} {σ : L2.St} {H : Hp} {s : Shared} {Q : VK} {us us2 : List Value} {kw : List (Str × Value)} {vs : List V} (T : OexC X.K C) (iC : PySem.W.findIn X.K (.ref C) "__init__" = some (some (.ref fI))) (tI : PySem.W.typeIn X.K (.ref fI) = some (.type "function"))
    (F1 : FnOk X.prog X.w X.K X.mg X.base CX k fI fd ps sp) (hr : Room (k + 1) X.A) (hb : ∀ (s : Shared) (u : Value), X.K.In s.heap → BindsTo s fd ⟨u :: us, kw⟩ (ps.zip (u :: us2))) (hx : Passes CX X (fun _ _ _ => False)) (I : Inv X pins σ H s) (r : Vals vs us2) (hus : us.length ≤ sizeLine)
    (h : ∀ a, H a = none → sp (.ref a :: vs) (upd H a (exo a C none)) (fun v H2 => v = .non ∧ Q (.ref a) H2) (fun _ _ _ => False)) : wpAny (model X.prog X.w) X.A (call (.ref C) us kw) (EP X pins σ Q) X.xe s := by
  obtain ⟨nm, q, N, bs, bm, sn, sub, ab, col, dd, k0, k1, k2, k3, k5, hC, hbm⟩ := T.cls
  obtain ⟨hp, g, dr, tk, os⟩ := s
  have hsz : hp.objs.size ≤ hp.objs.size + 1 := Nat.le_succ _
  have hn : H (hp.objs.size + 1) = none := I.hok.fresh hsz
  have hq := h (hp.objs.size + 1) hn
  have kk : ∀ b o, hp.get? b = some o → ((hp.push (PySem.W.kdv_tup us)).push (PySem.HandSPX.excO C hp.objs.size)).get? b = some o := fun b o e => Heap.get?_push_of_some _ (Heap.get?_push_of_some _ e)
  have hget : ((hp.push (PySem.W.kdv_tup us)).push (PySem.HandSPX.excO C hp.objs.size)).get? (hp.objs.size + 1) = some (PySem.HandSPX.excO C hp.objs.size) := by heap_get
  have I2 : Inv X pins σ (upd H (hp.objs.size + 1) (exo (hp.objs.size + 1) C none)) ⟨(hp.push (PySem.W.kdv_tup us)).push (PySem.HandSPX.excO C hp.objs.size), g, dr, tk, os⟩ :=
    I.laid (t' := tk) (a := hp.objs.size + 1) (o := exo (hp.objs.size + 1) C none) (h' := (hp.push (PySem.W.kdv_tup us)).push (PySem.HandSPX.excO C hp.objs.size)) kk hsz (exo_ok hget)
  have r2 : Vals (V.ref (hp.objs.size + 1) :: vs) (Value.ref (hp.objs.size + 1) :: us2) := .cons rfl r
  refine wpAny_call (PySem.EXK.call_ownK F.excBase_ValueError (fun Y => PySem.HandSPX.refsVE_contains Y bm hbm) (I.kIn _ _ hC) (PySem.W.looks_findIn I.kIn iC) (fun self => PySem.W.bind_fn I.kIn self tI) hus
    (codeAny_mono (F1.run _ X.stack _ _ ⟨Value.ref (hp.objs.size + 1) :: us, kw⟩ (Value.ref (hp.objs.size + 1) :: us2) _ _ (fun _ _ _ => False) (hr.make C us kw) (I2.env0.make C us kw) (hb _ _ I2.kIn) r2 hq) fun r s' hq' => ?_))
  cases r with
  | error er => exact hx pins σ _ _ er s' I2 hq'
  | ok fl =>
    cases fl with
    | ret u =>
      obtain ⟨v, H', I3, rv, ev, q3⟩ := I2.after hq'
      subst ev
      exact ⟨rv, ⟨V.ref (hp.objs.size + 1), H', I3, rfl, q3⟩⟩
    | next => exact False.elim hq'
    | brk => exact False.elim hq'
    | cont => exact False.elim hq'
/-- C(e, ..) -/
def tMkV (C : Addr) (sp : Sp) (t : TA) : TE := fun σ H Q => t σ H fun vs H1 => vs.length ≤ 1000 ∧ ∀ a, H1 a = none → sp (.ref a :: vs) (upd H1 a (exo a C none)) (fun v H2 => v = .non ∧ Q (.ref a) H2) (fun _ _ _ => False)
theorem pe_mkE (T : OexC X.K C) (iC : PySem.W.findIn X.K (.ref C) "__init__" = some (some (.ref fI))) (tI : PySem.W.typeIn X.K (.ref fI) = some (.type "function")) (F1 : FnOk X.prog X.w X.K X.mg X.base CX k fI fd ps sp) (hr : Room (k + 1) X.A) (hb : Binds X.K fd ps [])
    (hx : Passes CX X (fun _ _ _ => False)) (hg : Gl X x) (hm : X.mg x = some (.ref C)) (ha : PA X (e :: es) t) (hl : ∀ vs H Q E, sp vs H Q E → vs.length = ps.length)
    (hdb : (x == ("__debug__" : Str)) = false := by decide) (he : starEach (e :: es) X.env = (false, eval e X.env) :: starEach es X.env := by rfl) (hpl : (backTo pos (starEach es X.env)).any (·.1) = false := by rfl) : PE X (.Call (.Name x p) (e :: es) [] pos) (tMkV C sp t) := by
  refine ⟨fun pins s σ H Q I h => ?_⟩
  refine wpAny_Call_Name_kw (ld_glob I hg hm ?_ hdb)
  refine PySem.W.callWith_K (h₀ := X.base) I.ok.mod.kin T.kC (thn (ha.run pos pins s σ H _ I h) fun us s1 ⟨vs, H1, I1, r1, hz, q1⟩ => ⟨I1.kIn, ?_⟩) he hpl
  have len : us.length + 1 = ps.length := by
    have := hl _ _ _ _ (q1 _ (I1.hok.fresh (Nat.le_refl _)))
    rw [List.length_cons, r1.length] at this
    exact this
  have hus : us.length ≤ sizeLine := by rw [← r1.length, sizeLine_eq]; omega
  refine run_mkE T iC tI F1 hr (fun s u X => ?_) hx I1 r1 hus q1
  have b := hb s (u :: us) X (by rw [List.append_nil, List.length_cons]; exact len)
  rw [List.append_nil] at b
  exact b
/-- C() -/
theorem pe_mkE0 (T : OexC X.K C) (iC : PySem.W.findIn X.K (.ref C) "__init__" = some (some (.ref fI))) (tI : PySem.W.typeIn X.K (.ref fI) = some (.type "function")) (F1 : FnOk X.prog X.w X.K X.mg X.base CX k fI fd ps sp) (hr : Room (k + 1) X.A) (hb : Binds X.K fd ps [])
    (hx : Passes CX X (fun _ _ _ => False)) (hg : Gl X x) (hm : X.mg x = some (.ref C)) (hl : ps.length = 1)
    (hdb : (x == ("__debug__" : Str)) = false := by decide) : PE X (.Call (.Name x p) [] [] pos) (tMkV C sp tNil) := by
  refine ⟨fun pins s σ H Q I h => ?_⟩
  refine wpAny_Call_Name_kw (ld_glob I hg hm ?_ hdb)
  refine PySem.W.callWith_K0 I.kIn T.kC (run_mkE (us := []) (us2 := []) (vs := []) T iC tI F1 hr (fun s u X => ?_) hx I .nil (by simp) h.2)
  have b := hb s [u] X (by rw [List.append_nil]; exact hl.symm)
  rw [List.append_nil] at b
  exact b
/-- C(k = v, ..), the keywords in the parameters' order -/
theorem pe_mkEK (T : OexC X.K C) (iC : PySem.W.findIn X.K (.ref C) "__init__" = some (some (.ref fI))) (tI : PySem.W.typeIn X.K (.ref fI) = some (.type "function")) (F1 : FnOk X.prog X.w X.K X.mg X.base CX k fI fd ps sp) (hr : Room (k + 1) X.A)
    (hb : ∀ (s : Shared) (u : Value) (ws : List Value), ws.length = ks.length → BindsTo s fd ⟨[u], ks.zip ws⟩ (ps.zip (u :: ws))) (hx : Passes CX X (fun _ _ _ => False)) (hg : Gl X x) (hm : X.mg x = some (.ref C)) (hkw : PK X kws tk) (hl : ∀ vs H Q E, sp vs H Q E → vs.length = ps.length) (hpk : ps.length = ks.length + 1)
    (hall : (backToKw pos (keywordEach kws X.env)).all (·.1.isSome) = true := by rfl) (hks : (backToKw pos (keywordEach kws X.env)).filterMap (·.1) = ks := by rfl) (hdb : (x == ("__debug__" : Str)) = false := by decide)
    (hpl : ((backTo pos (starEach [] X.env)).any (·.1) || (backToKw pos (keywordEach kws X.env)).any (·.1.isNone)) = false := by rfl) :
    PE X (.Call (.Name x p) [] kws pos) (tMkV C sp tk) := by
  refine ⟨fun pins s σ H Q I h => ?_⟩
  refine wpAny_Call_Name_kw (ld_glob I hg hm ?_ hdb)
  refine PySem.W.callWith_KW0 (h₀ := X.base) I.ok.mod.kin T.kC hall ?_ hpl
  refine thn (hkw.run pos pins s σ H _ I h) fun ws s2 ⟨zs, H2, I2, rz, hz, q2⟩ => ⟨I2.kIn, ?_⟩
  rw [hks]
  have len : ws.length = ks.length := by
    have := hl _ _ _ _ (q2 _ (I2.hok.fresh (Nat.le_refl _)))
    rw [List.length_cons, rz.length] at this
    omega
  exact run_mkE (us := []) T iC tI F1 hr (fun s u _ => hb s u ws len) hx I2 rz (by simp) q2
/-- C(), C without an own __init__ -/
theorem pe_mkE00 {bmB : List Value} {newId : String} (q : PySem.W.excIn X.K C bmB newId = true) (F : ExcBaseFacts "ValueError" newId "ValueError.__init__" bmB) (kC : PySem.W.keepIn X.K (.ref C) = true) (hg : Gl X x) (hm : X.mg x = some (.ref C)) (hdb : (x == ("__debug__" : Str)) = false := by decide) :
    PE X (.Call (.Name x p) [] [] pos) (fun _ H Q => ∀ a, H a = none → Q (.ref a) (upd H a (exo a C none))) := by
  refine ⟨fun pins s σ H Q I h => ?_⟩
  refine wpAny_Call_Name_kw (ld_glob I hg hm ?_ hdb)
  refine PySem.W.callWith_K0 I.kIn kC ?_
  obtain ⟨bm, N, nm, qn, bs, hdct, sn, sub, ab, col, dd, k0, k1, k2, k3, k5, mN, hC, hN, hni, T⟩ := exc_obj I.kIn q
  refine wpAny_call_exc_subT F T hC hN hni (fun h' a hm => ?_) (by simp)
  have hn : H a = none := I.hok.gone hm.new
  obtain ⟨t, ht, _, _⟩ := hm.there
  exact ⟨.ref a, upd H a (exo a C none), I.laidN hm.keeps hm.new hn (exo_ok ht), rfl, h a hn⟩

/-! ### an exception's field, its class -/
structure ExV (K : PySem.W.Frag) (C : Addr) : Prop where
  xf : XfC K C
  ex : ExcC K C
/-- e.f, e an exception object -/
def tEf (K : PySem.W.Frag) (f : Str) (te : TE) : TE := fun σ H Q => te σ H fun x H1 => ∃ (a C dx : Addr) (fs : List (Str × V)) (v : V), x = .ref a ∧ H1 a = some (exo a C (some dx)) ∧ H1 dx = some (exd dx fs) ∧ XfC K C ∧ PySem.W.findIn K (.ref C) f = some none ∧ fs.lookup f = some v ∧ Q v H1
theorem pe_ef {te : TE} {n : Str} (he : PE X e te) (hb : attributeBase e n X.env (eval e X.env) = eval e X.env := by rfl) : PE X (.Attribute e n pos) (tEf X.K n te) := by
  refine ⟨fun pins s σ H Q I h => ?_⟩
  refine attr_of hb (thn (he.run pins s σ H _ I h) fun u s1 hh => ?_)
  obtain ⟨x, H1, I1, rx, a, C, dx, fs, v, ex, ea, ed, T, hno, l, q⟩ := hh
  subst ex
  obtain rfl : u = Value.ref a := rx
  obtain ⟨t1, ho1⟩ := exo_at I1.hok ea
  obtain ⟨mA, hns, hr⟩ := exd_at I1.hok ed
  obtain ⟨od, ho, hl⟩ := lookIn_ns hns
  obtain ⟨u, hu, ru⟩ := RelO.some_of (v := v) (o := mA n) (by rw [← l]; exact hr n)
  have J : PySem.W.InstAt s1.heap a { cls := .ref C, dict := some dx, data := .fields #[.ref t1, .none, .none, .none, .bool false, .none] } C (some od) := ⟨ho1, rfl, rfl, ho⟩
  exact HandSPX.exc_get I1.kIn J T.ga T.gg T.exC (PySem.W.findObj_own T.hdC hno rfl (by rw [hl, hu])) (handed_of ru) ⟨v, H1, I1.tok _, ru, q⟩
end
end EX

set_option Elab.async false
set_option linter.all false
set_option maxRecDepth 100000
set_option maxHeartbeats 4000000
namespace PySem
namespace W
open PySem PySem.Spec PySem.Calls PyProof.Rows
section
variable {prog : Program} {w : World} {A : Around} {E : Value → Shared → Prop} {s : Shared} {K : Frag} {x D : Addr} {ox : Obj} {od : Option Obj}
theorem findObj_dataA {C : Addr} {name : Str} {a g : Value} (hc : (clsIn K C).isSome = true) (ha : findIn K (.ref C) name = some (some a)) (hg : specialIn K a "__get__" = some (some g)) (ht : takesIn K a = some true) : findObj K C od name = some (.bind g a) := by
  cases od with
  | none => exact findObj_dataN hc ha hg ht
  | some o => exact findObj_data hc ha hg ht
theorem exv_class {Q : Option Value → Shared → Prop} (hga : findIn K (.ref D) "__getattribute__" = some (some (.builtin "BaseException.__getattribute__"))) (hgt : findIn K (.ref D) "__getattr__" = some none) (hsub : subIn K (.ref D) (.type "BaseException") = some true)
    (hdct : hasDictIn K D = true) (ha : findIn K (.ref D) "__class__" = some (some (.builtin "object.__class__")))
    (hn : specialIn K (.builtin "object.__class__") "__get__" = some (some (.builtin "getset_descriptor.__get__"))) (htk : takesIn K (.builtin "object.__class__") = some true) (hm : mroIn K D (.type "object") = some true)
    (X : K.In s.heap) (I : InstAt s.heap x ox D od) (h : Q (some (.ref D)) { s with toks := s.toks + 1 }) : wpAny (model prog w) A (getAttr? (.ref x) "__class__") Q E s := by
  have hf : findObj K D od "__class__" = some (.bind (.builtin "getset_descriptor.__get__") (.builtin "object.__class__")) := findObj_dataA (by obtain ⟨cd, hc, _⟩ := any_some hdct; rw [hc]; rfl) ha hn htk
  obtain ⟨hp, g, d, t, os⟩ := s
  have L0 := I.type (M := model prog w)
  have L1 := looks_findIn (M := model prog w) X hga
  have L2 := looks_findIn (M := model prog w) X hgt
  have L3 := looks_find (M := model prog w) X I hf
  have sub : Looks (model prog w) hp (isInstance (.ref x) (.type "BaseException")) true := L0.andThen (looks_subIn X hsub)
  have hx0 : (false && onTheHeap (Value.builtin "BaseException.__getattribute__")) = false := rfl
  have hx2 : (Value.builtin "BaseException.__getattribute__" == Value.builtin "object.__getattribute__") = false := by decide +kernel
  have hx1 : (onTheHeap (Value.ref D) && Value.builtin "BaseException.__getattribute__" == Value.builtin "object.__getattribute__") = false := by rw [hx2]; rfl
  unfold getAttr? getAttrBy? getAttrBy
  refine wpAny_bind (wpAny_mkText (wpAny_bind (wpAny_attempt (wpAny_holding (wpAny_bind (L0.at (wpAny_bind (L1.at ?_))))))))
  show wpAny _ _ (if (onTheHeap (Value.ref D) && Value.builtin "BaseException.__getattribute__" == Value.builtin "object.__getattribute__") = true then _ else _) _ _ _
  rw [hx1, if_neg Bool.false_ne_true]
  unfold getAttrByItsOwn hookBefore
  refine wpAny_bind ?_
  rw [if_pos (show onTheHeap (Value.ref D) = true from rfl)]
  refine L2.at ?_
  refine wpAny_bind (wpAny_attempt (wpAny_holding ?_))
  unfold callGetattribute
  rw [hx0, if_neg Bool.false_ne_true]
  unfold boundAndCalled
  rw [PySem.F.excAttr_ValueError.ga.bind (.ref x)]
  refine wpAny_bind (wpAny_pure ?_)
  show wpAny _ _ (call (.builtin "BaseException.__getattribute__") [.ref x, .str "__class__" t]) _ _ _
  refine wpAny_call (codeAny_call_builtin PySem.F.excAttr_ValueError.ga.plain PySem.F.entry_bexc_ga ?_)
  refine @check_slot (model prog w) _ _ ⟨hp, g, d, t + 1, os⟩ "BaseException.__getattribute__" "BaseException" "__getattribute__" (.ref x) [.str "__class__" t] [] _ (by decide +kernel) (by decide +kernel) sub (PySem.F.args_bexc_ga (.ref x) (.str "__class__" t)) ?_
  unfold Builtin.«object.__getattribute__»
  refine wpAny_bind (wpAny_of_eq (a := ((Value.ref x : Value), [Value.str "__class__" t])) (by first | rfl | (simp only [slotArgs]; rfl)) ?_)
  refine wpAny_bind (wpAny_pure (wpAny_bind (L0.at (wpAny_bind (L3.at ?_)))))
  show wpAny _ _ (holding [Value.builtin "object.__class__"] (call (.builtin "getset_descriptor.__get__") [.builtin "object.__class__", .ref x, .ref D]) >>= ret) _ _ _
  refine wpAny_bind (wpAny_holding (wpAny_call (class_get (s := ⟨hp, g, d, t + 1, os⟩) (ox := ox) (od := od) X I hm ?_)))
  refine wpAny_pure ?_
  show wpAny _ _ (handedOut (.ref D)) _ _ _
  rw [handedOut_of (v := .ref D) rfl]
  first
    | exact wpAny_pure (wpAny_pure h)
    | exact wpAny_pure h
    | exact wpAny_pure (wpAny_bind (wpAny_pure (wpAny_pure h)))
theorem exv_kit (hga : findIn K (.ref D) "__getattribute__" = some (some (.builtin "BaseException.__getattribute__"))) (hgt : findIn K (.ref D) "__getattr__" = some none) (hsub : subIn K (.ref D) (.type "BaseException") = some true) (hdct : hasDictIn K D = true) (ha : findIn K (.ref D) "__class__" = some (some (.builtin "object.__class__")))
    (hn : specialIn K (.builtin "object.__class__") "__get__" = some (some (.builtin "getset_descriptor.__get__"))) (htk : takesIn K (.builtin "object.__class__") = some true) (hm : mroIn K D (.type "object") = some true) :
    KitX K (.ref x) (.ref D) (fun h => ∃ ox od, InstAt h x ox D od) where
  ty := fun _ _ _ ⟨_, _, I⟩ => I.type
  it := fun _ _ X _ => by
    obtain ⟨cdD, hcD, _⟩ := any_some hdct
    unfold clsIn at hcD
    split at hcD
    · rename_i c' d' cd' sl' ho
      intro A' Q' E' s' k q
      unfold isType loadHead
      exact wpAny_bind (wpAny_loadPart (k _ _ (X _ _ ho)) (wpAny_pure q))
    · cases hcD
  ne := fun h tp dd its n sl X htp => by
    obtain ⟨cdD, hcD, _⟩ := any_some hdct
    refine Bool.eq_false_iff.mpr fun q => ?_
    have e : D = tp := Value.ref.inj (beq_iff_eq.mp q)
    subst e
    unfold clsIn at hcD
    split at hcD
    · rename_i c' d' cd' sl' ho
      have z := (X _ _ ho).symm.trans htp
      cases z
    · cases hcD
  ca := fun X ⟨ox, od, I⟩ k => exv_class hga hgt hsub hdct ha hn htk hm X I k
end
end W
end PySem
namespace EX
open PySem PySem.Spec PySem.Calls PyProof.Rows L2
/-- isinstance(e, c), e an exception object -/
def rIsV (K : PySem.W.Frag) : List V → Hp → VK → Prop := fun xs H Q => ∃ (a C : Addr) (dO : Option Addr) (fs : List (Str × V)) (cv : V) (u : Value) (b : Bool), xs = [.ref a, cv] ∧ H a = some (exo a C dO) ∧ (∀ dx, dO = some dx → H dx = some (exd dx fs)) ∧ ExcC K C ∧ ClsV cv u ∧ PySem.W.kitOne K (.ref C) u = some b ∧ Q (.bl b) H
theorem call_isV {X : Cx} : CallR X (.builtin "isinstance") (rIsV X.K) := by
  intro pins s σ H xs us Q I r h
  obtain ⟨a, C, dO, fs, cv, u, b, rfl, ea, ed, T, k, e, q⟩ := h
  obtain ⟨u1, u2, rfl, r1, r2⟩ := vals2 r
  have e2 := k.eq r2
  subst e2
  obtain rfl : u1 = Value.ref a := r1
  obtain ⟨t1, ho⟩ := exo_at I.hok ea
  have J : ∃ ox od, PySem.W.InstAt s.heap a ox C od := by
    cases dO with
    | none => exact ⟨_, none, ho, rfl, rfl, trivial⟩
    | some dx =>
      obtain ⟨mA, ⟨oD, es, ep, hoD, _⟩, _⟩ := exd_at I.hok (ed dx rfl)
      exact ⟨_, some oD, ho, rfl, rfl, hoD⟩
  exact PySem.W.kia_one (PySem.W.exv_kit T.hg T.hk T.hs T.hd T.ha T.hn T.ht T.hm) I.kIn J e (fun z => nomatch z) fun tk => ⟨.bl b, H, I.tok tk, rfl, q⟩
end EX

set_option Elab.async false
set_option linter.all false
set_option maxRecDepth 100000
set_option maxHeartbeats 4000000
namespace DL
open PySem PySem.Spec PyProof.Rows L2 RZ EX

/-! ### stream[0] != [] -/
def c0 : FC := { cl := fun _ => none, H0 := fun _ => none, F0 := fun _ => none, st := none, chg := [] }
theorem sr0 (H : Hp) : SR c0 { F := fun _ => none, lk := [], sl := [], z := zDum } [] H where
  sub := fun a u h => by cases h
  keep := fun a o h _ => by cases h
  slots := fun i x h => by simp at h
  dist := fun i j a _ hi => by obtain ⟨d, h⟩ := hi; simp at h
  fmut := fun a m => rfl
  chgd := fun a m => by simp [c0] at m
  strm := fun sa la h => by cases h
  fz0 := fun a o h _ => by cases h
  len := rfl
  lkd := fun p hp => by simp at hp
  lks := fun a u o h => by cases h
theorem reps_ints {cl : Str → Option Addr} {F : Hp} : ∀ cs : List Int, Reps cl F (cs.map .int) (cs.map .int)
  | [] => by simp [Reps]
  | x :: r => by
    simp only [List.map_cons, Reps, Rep]
    exact ⟨_, _, rfl, rfl, reps_ints r⟩
theorem strmNe_to {c : FC} {W : WX} {K : PySem.W.Frag} {i : Nat} {σ : L2.St} {H : Hp} {Q : Bool → Hp → Prop} (q : tT c W (mStrmNe i) σ H Q) : tB (tOp (R2D c0 dNe) (tOp (rIxL K) (tVar i) (tC (.int 0))) (tLst tNil)) σ H Q := by
  obtain ⟨w, s, q⟩ := q
  unfold mStrmNe at q
  split at q
  · rename_i hs
    obtain ⟨sa, la, e, e1⟩ := s.slots i _ hs
    obtain ⟨⟨h1, h2⟩, hc⟩ := s.strm sa la e
    refine ⟨_, e1, sa, _, _, .ref la, rfl, rfl, SqL.of h1, rfl, by simp, fun p hp => ?_⟩
    have hla : upd H p (.lst []) la = some (.lst (w.z.cells.map V.int)) := by rw [upd_ne (ne_of_none h2 hp)]; exact h2
    refine ⟨_, [], .lst (w.z.cells.map .int), .lst [], .bl (!w.z.cells.isEmpty), sr0 _, ⟨la, _, rfl, hla, by simp [c0], reps_ints _⟩, ⟨p, [], rfl, upd_same, by simp [c0], by simp [Reps]⟩, ?_, fun v H' w' st ez rv => ?_⟩
    · cases w.z.cells with
      | nil => rfl
      | cons x r => rfl
    · refine ⟨_, by simpa [Rep] using rv, ?_⟩
      have g : Gr c w.F H w.F H' w.z := ⟨fun a o h _ => st.keep a o (by rw [upd_ne (ne_of_none h hp)]; exact h) (by simp [c0]), fun _ a o h => st.keep a o (by rw [upd_ne (ne_of_none h hp)]; exact h) (by simp [c0]), Le.refl _, fun a u h => .inl h, fun sa' la' e' => by
        rw [e] at e'
        cases e'
        exact ⟨st.keep _ _ (by rw [upd_ne (ne_of_none h1 hp)]; exact h1) (by simp [c0]), st.keep _ _ hla (by simp [c0])⟩⟩
      exact q H' _ (s.step g) rfl
  · exact q.elim

/-! ### exceptions made as values -/
def mMkE (cn : Str) (mk : List D → Option (List (Str × D))) (mr : M (List D)) : M D := fun s z => (mr s z).bind fun ds z => match mk ds with
  | some fs => .ok (.err cn fs) z
  | none => .bad
def mk0 : List D → Option (List (Str × D))
  | [] => some []
  | _ => none
def mk2 (f1 f2 : Str) : List D → Option (List (Str × D))
  | [d, e] => some [(f2, e), (f1, d)]
  | _ => none
theorem err_lay {c : FC} {σ : L2.St} {w : Wd} {H : Hp} {a dx C : Addr} {cn : Str} {fs : List (Str × D)} {gs : List (Str × V)} (s : SR c w σ H) (hc : c.cl cn = some C) (r : RepF c.cl w.F fs gs) (ha : H a = none) (hd : H dx = none) (ne : dx ≠ a) :
    ∃ w', Step c σ w H w' (upd (upd H dx (exd dx gs)) a (exo a C (some dx))) ∧ w'.z = w.z ∧ Rep c.cl w'.F (.err cn fs) (.ref a) := by
  have s1 := s.fresh (exd dx gs) hd
  have ha1 : upd H dx (exd dx gs) a = none := by rw [upd_ne (Ne.symm ne)]; exact ha
  have s2 := s1.sr.fresh (exo a C (some dx)) ha1
  refine ⟨_, s1.trans s2, rfl, ?_⟩
  refine ⟨a, C, some dx, rfl, hc, upd_same, fun d e => ?_, fun e => by cases e⟩
  cases e
  refine ⟨gs, ?_, RepF.le (s1.trans s2).le r⟩
  show upd (upd w.F dx (exd dx gs)) a _ dx = _
  rw [upd_ne ne, upd_same]
theorem mkE1_to {c : FC} {W : WX} {cn fl : Str} {C : Addr} {mr : M (List D)} {σ : L2.St} {H : Hp} {Q : VK} (hc : c.cl cn = some C) (q : tF c W (mMkE cn (mk1 fl) mr) σ H Q) : tMkV C (spIni1 C fl) (tAF c W mr) σ H Q := by
  obtain ⟨w, s, q⟩ := q
  refine ⟨w, s, (Wnt.bind q).imp fun w1 H1 ds s1 q1 vs rs => ?_⟩
  match ds, q1 with
  | [d], q1 =>
    simp only [Reps] at rs
    obtain ⟨y, ys, rfl, ry, rfl⟩ := rs
    refine ⟨by simp, fun a ha => ⟨a, y, rfl, upd_same, fun dx n ne => ⟨rfl, ?_⟩⟩⟩
    have hdx : H1 dx = none := by
      rw [upd_ne ne] at n
      exact n
    obtain ⟨w', st, ez, rp⟩ := err_lay (fs := [(fl, d)]) (gs := [(fl, y)]) s1.sr hc (by simp only [RepF]; exact ⟨y, [], rfl, ry, rfl⟩) ha hdx ne
    have e : upd (upd (upd H1 a (exo a C none)) dx (exd dx [(fl, y)])) a (exo a C (some dx)) = upd (upd H1 dx (exd dx [(fl, y)])) a (exo a C (some dx)) := by
      funext b
      by_cases hb : b = a
      · rw [hb, upd_same, upd_same]
      · rw [upd_ne hb, upd_ne hb]
        by_cases hb2 : b = dx
        · rw [hb2, upd_same, upd_same]
        · rw [upd_ne hb2, upd_ne hb2, upd_ne hb]
    rw [e]
    exact (show Wnt c W σ w1 H1 _ (ER.ok (D.err cn [(fl, d)]) w1.z) from q1) _ _ st ez _ rp
  | [], q1 => exact q1.elim
  | _ :: _ :: _, q1 => exact q1.elim
theorem mkE2_to {c : FC} {W : WX} {cn f1 f2 : Str} {C : Addr} {mr : M (List D)} {σ : L2.St} {H : Hp} {Q : VK} (hc : c.cl cn = some C) (q : tF c W (mMkE cn (mk2 f1 f2) mr) σ H Q) : tMkV C (spIni2 C f1 f2) (tAF c W mr) σ H Q := by
  obtain ⟨w, s, q⟩ := q
  refine ⟨w, s, (Wnt.bind q).imp fun w1 H1 ds s1 q1 vs rs => ?_⟩
  match ds, q1 with
  | [d, d'], q1 =>
    simp only [Reps] at rs
    obtain ⟨y, ys, rfl, ry, y', ys', rfl, ry', rfl⟩ := rs
    refine ⟨by simp, fun a ha => ⟨a, y, y', rfl, upd_same, fun dx n ne => ⟨rfl, ?_⟩⟩⟩
    have hdx : H1 dx = none := by
      rw [upd_ne ne] at n
      exact n
    obtain ⟨w', st, ez, rp⟩ := err_lay (fs := [(f2, d'), (f1, d)]) (gs := [(f2, y'), (f1, y)]) s1.sr hc (by simp only [RepF]; exact ⟨y', _, rfl, ry', y, [], rfl, ry, rfl⟩) ha hdx ne
    have e : upd (upd (upd (upd H1 a (exo a C none)) dx (exd dx [(f1, y)])) a (exo a C (some dx))) dx (exd dx [(f2, y'), (f1, y)]) = upd (upd H1 dx (exd dx [(f2, y'), (f1, y)])) a (exo a C (some dx)) := by
      funext b
      by_cases hb : b = a
      · rw [hb, upd_same, upd_ne (Ne.symm ne), upd_same]
      · by_cases hb2 : b = dx
        · rw [hb2, upd_same, upd_ne ne, upd_same]
        · rw [upd_ne hb2, upd_ne hb, upd_ne hb2, upd_ne hb, upd_ne hb, upd_ne hb2]
    rw [e]
    exact (show Wnt c W σ w1 H1 _ (ER.ok (D.err cn [(f2, d'), (f1, d)]) w1.z) from q1) _ _ st ez _ rp
  | [], q1 => exact q1.elim
  | [_], q1 => exact q1.elim
  | _ :: _ :: _ :: _, q1 => exact q1.elim
theorem err_lay0 {c : FC} {σ : L2.St} {w : Wd} {H : Hp} {a C : Addr} {cn : Str} (s : SR c w σ H) (hc : c.cl cn = some C) (ha : H a = none) : ∃ w', Step c σ w H w' (upd H a (exo a C none)) ∧ w'.z = w.z ∧ Rep c.cl w'.F (.err cn []) (.ref a) :=
  ⟨_, s.fresh (exo a C none) ha, rfl, a, C, none, rfl, hc, upd_same, (fun d e => by cases e), fun _ => rfl⟩
theorem mkE0_to {c : FC} {W : WX} {cn : Str} {C : Addr} {σ : L2.St} {H : Hp} {Q : VK} (hc : c.cl cn = some C) (q : tF c W (mMkE cn mk0 mNil) σ H Q) : tMkV C (spIni0 C) tNil σ H Q := by
  obtain ⟨w, s, q⟩ := q
  refine ⟨by simp, fun a ha => ⟨a, rfl, upd_same, rfl, ?_⟩⟩
  obtain ⟨w', st, ez, rp⟩ := err_lay0 s hc ha
  exact (show Wnt c W σ w H _ (ER.ok (D.err cn []) w.z) from q) _ _ st ez _ rp
theorem mkE00_to {c : FC} {W : WX} {cn : Str} {C : Addr} {σ : L2.St} {H : Hp} {Q : VK} (hc : c.cl cn = some C) (q : tF c W (mMkE cn mk0 mNil) σ H Q) : ∀ a, H a = none → Q (.ref a) (upd H a (exo a C none)) := by
  obtain ⟨w, s, q⟩ := q
  intro a ha
  obtain ⟨w', st, ez, rp⟩ := err_lay0 s hc ha
  exact (show Wnt c W σ w H _ (ER.ok (D.err cn []) w.z) from q) _ _ st ez _ rp
/-! a field of such, its class -/
theorem ext_at {F H : Hp} {c : FC} {w : Wd} {σ : L2.St} {a : Addr} {φ : Heap → Prop} (s : SR c w σ H) (h : w.F a = some (.ext φ)) : H a = some (.ext φ) := by
  rcases s.sub _ _ h with z | ⟨⟨_, z⟩, _⟩
  · exact z
  · cases z
def mEf (okc : Str → Bool) (f : Str) (m : M D) : M D := fun s z => (m s z).bind fun d z => match d with
  | .err cn fs => if okc cn = true then mOpt (fs.lookup f) z else .bad
  | _ => .bad
theorem ef_to {c : FC} {W : WX} {K : PySem.W.Frag} {okc : Str → Bool} {f : Str} {m : M D} {te : TE} {σ : L2.St} {H : Hp} {Q : VK} (hE : ∀ cn C, okc cn = true → c.cl cn = some C → XfC K C ∧ PySem.W.findIn K (.ref C) f = some none) (he : ∀ σ H Q, tF c W m σ H Q → te σ H Q) (q : tF c W (mEf okc f m) σ H Q) : tEf K f te σ H Q := by
  obtain ⟨w, s, q⟩ := q
  refine he _ _ _ ⟨w, s, (Wnt.bind q).imp fun w1 H1 d s1 q1 v r => ?_⟩
  cases d with
  | err cn fs =>
    obtain ⟨ho, q2⟩ := wnt_ite q1
    obtain ⟨d2, hd, q3⟩ := wnt_opt s1.sr q2
    obtain ⟨a, C, dO, rfl, hc, fa, fd, f0⟩ := r
    obtain ⟨x1, x2⟩ := hE cn C ho hc
    cases dO with
    | none =>
      rw [f0 rfl] at hd
      cases hd
    | some dx =>
      obtain ⟨gs, g1, g2⟩ := fd dx rfl
      obtain ⟨u, hu, ru⟩ := g2.look hd
      exact ⟨a, C, dx, gs, u, rfl, ext_at (F := w1.F) s1.sr fa, ext_at (F := w1.F) s1.sr g1, x1, x2, hu, q3.val s1.sr ru⟩
  | _ => exact q1.elim
def mIsE (rel : Str → Option Bool) (m : M D) : M D := fun s z => (m s z).bind fun d z => match d with
  | .err cn _ => mOpt ((rel cn).map .bl) z
  | _ => .bad
theorem isE_to {c : FC} {W : WX} {K : PySem.W.Frag} {rel : Str → Option Bool} {m : M D} {te : TE} {cv : V} {u : Value} {σ : L2.St} {H : Hp} {Q : VK} (hk : ClsV cv u) (hE : ∀ cn C b, rel cn = some b → c.cl cn = some C → ExcC K C ∧ PySem.W.kitOne K (.ref C) u = some b) (he : ∀ σ H Q, tF c W m σ H Q → te σ H Q) (q : tF c W (mIsE rel m) σ H Q) :
    tCB (rIsV K) (tCons te (tCons (tC cv) tNil)) σ H Q := by
  obtain ⟨w, s, q⟩ := q
  refine he _ _ _ ⟨w, s, (Wnt.bind q).imp fun w1 H1 d s1 q1 v r => ?_⟩
  cases d with
  | err cn fs =>
    obtain ⟨d2, hd, q3⟩ := wnt_opt s1.sr q1
    rw [Option.map_eq_some_iff] at hd
    obtain ⟨b, hb, rfl⟩ := hd
    obtain ⟨a, C, dO, rfl, hc, fa, fd, f0⟩ := r
    obtain ⟨x1, x2⟩ := hE cn C b hb hc
    cases dO with
    | none => exact ⟨a, C, none, [], cv, u, b, rfl, ext_at (F := w1.F) s1.sr fa, (fun dx e => by cases e), x1, hk, x2, q3.bl s1.sr⟩
    | some dx =>
      obtain ⟨gs, g1, g2⟩ := fd dx rfl
      exact ⟨a, C, some dx, gs, cv, u, b, rfl, ext_at (F := w1.F) s1.sr fa, (fun dx' e => by cases e; exact ext_at (F := w1.F) s1.sr g1), x1, hk, x2, q3.bl s1.sr⟩
  | _ => exact q1.elim
end DL

set_option Elab.async false
set_option linter.all false
set_option maxRecDepth 100000
set_option maxHeartbeats 4000000
namespace XH
open PySem PySem.Spec PySem.Calls PyProof.Rows L2 NdefX EX
/-! ### what the head tells of own exception classes -/
theorem ba {a b : Bool} (h : (a && b) = true) : a = true ∧ b = true := Bool.and_eq_true_iff.mp h
theorem oexB_ok {K : PySem.W.Frag} {C : Addr} (h : oexB K C = true) : OexC K C := by
  obtain ⟨h1, h⟩ := ba h
  obtain ⟨h2, h⟩ := ba h
  obtain ⟨h3, h⟩ := ba h
  obtain ⟨h4, h5⟩ := ba h
  refine ⟨?_, of_decide_eq_true h2, of_decide_eq_true h3, of_decide_eq_true h4, h5⟩
  split at h1
  · rename_i dd cd sl lk
    obtain ⟨nm, bs, mro, N, q, hd, sn, sub, ab, col, del⟩ := cd
    dsimp only at h1
    split at h1
    · rename_i C' bm k0 k1 k2 k3 n k5 hs
      obtain ⟨e1, h1⟩ := ba h1
      obtain ⟨e2, h1⟩ := ba h1
      obtain ⟨e3, h1⟩ := ba h1
      obtain ⟨e4, e5⟩ := ba h1
      have e1 := beq_iff_eq.mp e1
      have e2 := beq_iff_eq.mp e2
      have e3 : del = false := by simpa using e3
      subst e1 e2 e3 e4
      have hsl : sl = #[k0, k1, k2, k3, some (.builtin "ValueError.__new__"), k5] := by
        rw [← hs]
      subst hsl
      exact ⟨nm, q, N, bs, bm, sn, sub, ab, col, dd, k0, k1, k2, k3, k5, lk, e5⟩
    · cases h1
  · cases h1
/-- the class x -/
structure XCls (P : Program) (K : PySem.W.Frag) (d : IniD) : Prop where
  fn : ∃ (oc kV doc pm ct : Value) (od an : Option Addr) (osl : Array (Option Value)) (cc cda : Addr), K.lookup (iAd K d.cls) = some ⟨oc, od, .func (PySem.W.ksFn "__init__" d.qual d.params d.body d.scope .none kV doc pm an (.ref cda) ct cc), osl⟩ ∧ PySem.W.codeIn K (.ref cda) d.qual = true ∧
    ((P.main.scope.names.lookup ("super" : Str)).isSome = false → SupC P K (cAd K d.cls) cc cda (iAd K d.cls))
  oex : OexC K (cAd K d.cls)
  ini : PySem.W.findIn K (.ref (cAd K d.cls)) "__init__" = some (some (.ref (iAd K d.cls)))
  typ : PySem.W.typeIn K (.ref (iAd K d.cls)) = some (.type "function")
  fld : ∀ f ∈ d.fields, PySem.W.findIn K (.ref (cAd K d.cls)) f = some none
theorem iniB_ok {P : Program} {K : PySem.W.Frag} {d : IniD} (e : iniW K d.cls = d.val) (h : iniB P K d = true) : XCls P K d := by
  obtain ⟨h1, h⟩ := ba h
  obtain ⟨h2, h⟩ := ba h
  obtain ⟨h3, h⟩ := ba h
  obtain ⟨h4, h⟩ := ba h
  obtain ⟨h5, h⟩ := ba h
  obtain ⟨h6, h⟩ := ba h
  obtain ⟨h7, h⟩ := ba h
  obtain ⟨h8, h⟩ := ba h
  obtain ⟨h9, h10⟩ := ba h
  have hoex := oexB_ok h2
  refine ⟨?_, hoex, of_decide_eq_true h8, of_decide_eq_true h9, fun f hf => of_decide_eq_true (List.all_eq_true.mp h10 f hf)⟩
  unfold iniW at e
  split at h1
  · rename_i oc od fd osl lk
    rw [lk] at e
    obtain ⟨n1, n2, n3, n4, n5, n6, n7, n8, n9, n10, n11, n12, n13, n14, n15⟩ := fd
    have e2 : (some (n1, n2, n3, n4, n5, n6, n7.map (·.1), n15) : IniW) = d.val := e
    unfold IniD.val at e2
    simp only [Option.some.injEq, Prod.mk.injEq] at e2
    obtain ⟨q1, q2, q3, q4, q5, q6, q7, q8⟩ := e2
    dsimp only at h1
    split at h1
    · rename_i nn cc cda
      obtain ⟨k1, k⟩ := ba h1
      obtain ⟨k2, k3⟩ := ba k
      have q7 : [nn] = [("__class__" : Str)] := q7
      have q7 : nn = "__class__" := by injection q7
      subst q1 q2 q3 q4 q5 q6 q7 q8
      refine ⟨oc, n9, n10, n11, n14, od, n12, osl, cc, cda, lk, k1, fun htop => ?_⟩
      refine ⟨hoex, ?_, ?_, Option.isSome_iff_exists.mp h3, of_decide_eq_true h4, of_decide_eq_true h5, of_decide_eq_true h6, of_decide_eq_true h7, htop⟩
      · split at k2
        · rename_i cl cld D csl lc
          have := beq_iff_eq.mp k2
          subst this
          exact ⟨_, _, _, lc⟩
        · cases k2
      · split at k3
        · rename_i ccl cdd vs ccs lc
          split at k3
          · rename_i file tf hv
            exact ⟨_, _, _, _, _, _, lc, hv, k3⟩
          · cases k3
        · cases k3
    · cases h1
  · cases h1
end XH

set_option Elab.async false
set_option linter.all false
set_option maxRecDepth 100000
set_option maxHeartbeats 4000000
namespace XH
open PySem PySem.Spec PySem.Calls PyProof.Rows L2 NdefX EX
/-! ### the hook: defs, facts, exception classes -/
def asI (g : Addr → Option Obj) (n : Nat) : List Addr := He.asD g n ++ [cStatics]
def obsI (P : Program) (fa : List He.Fa) (fn : List He.DefD) (ini : List IniD) (ex : PySem.W.Frag → Bool) (K : PySem.W.Frag) : AlI := (He.obsD fa fn K, (ini.all fun d => iniB P K d) && ex K, ini.map fun d => iniW K d.cls)
def valI (fn : List He.DefD) (ini : List IniD) : AlI := (He.valD fn, true, ini.map IniD.val)
structure SaysI (P : Program) (fa : List He.Fa) (fn : List He.DefD) (ini : List IniD) (ex : PySem.W.Frag → Bool) (K : PySem.W.Frag) : Prop where
  d : He.SaysD fa fn K
  x : ∀ d ∈ ini, XCls P K d
  ex : ex K = true
theorem saysI_of {P : Program} {fa : List He.Fa} {fn : List He.DefD} {ini : List IniD} {ex : PySem.W.Frag → Bool} {K : PySem.W.Frag} (e : obsI P fa fn ini ex K = valI fn ini) : SaysI P fa fn ini ex K := by
  have e1 : He.obsD fa fn K = He.valD fn := congrArg (fun z : AlI => z.1) e
  have e2 : ((ini.all fun d => iniB P K d) && ex K) = true := congrArg (fun z : AlI => z.2.1) e
  have e3 : (ini.map fun d => iniW K d.cls) = ini.map IniD.val := congrArg (fun z : AlI => z.2.2) e
  obtain ⟨e4, e5⟩ := ba e2
  refine ⟨e1, fun d hd => iniB_ok ?_ (List.all_eq_true.mp e4 d hd), e5⟩
  obtain ⟨i, hi, rfl⟩ := List.mem_iff_getElem.mp hd
  have q : (ini.map fun d => iniW K d.cls)[i]? = (ini.map IniD.val)[i]? := by rw [e3]
  rw [List.getElem?_map, List.getElem?_map, List.getElem?_eq_getElem hi] at q
  exact Option.some.inj q
def obsG (P : Program) (n : Nat) (fa : List He.Fa) (fn : List He.DefD) (ini : List IniD) (ex : PySem.W.Frag → Bool) (g : Addr → Option Obj) : AlI := obsI P fa fn ini ex (He.frG g (asI g n))
def hookI (P : Program) (n : Nat) (fa : List He.Fa) (fn : List He.DefD) (ini : List IniD) (ex : PySem.W.Frag → Bool) : PySem.W.Hook where
  α := AlI
  obs := fun s => obsG P n fa fn ini ex s.heap.get?
  val := fun _ => valI fn ini
  says := fun _ h => ∃ K : PySem.W.Frag, K.In h ∧ SaysI P fa fn ini ex K
  of := fun _ _ e => ⟨_, He.frG_in, saysI_of e⟩
  keeps := fun _ _ _ ⟨K, hK, c⟩ k => ⟨K, PySem.W.Frag.In.keeps hK k, c⟩
theorem obsG_eq {P : Program} {n : Nat} {fa : List He.Fa} {fn : List He.DefD} {ini : List IniD} {ex : PySem.W.Frag → Bool} {g : Addr → Option Obj} {s : Shared} (h : ∀ a, g a = s.heap.get? a) : obsG P n fa fn ini ex g = (hookI P n fa fn ini ex).obs s := by
  have e : g = s.heap.get? := funext h
  rw [e] <;> rfl

/-! ### classes among each other -/
theorem excB_ok {K : PySem.W.Frag} {D : Addr} (h : excB K D = true) : XfC K D ∧ ExcC K D := by
  obtain ⟨h1, h⟩ := ba h
  obtain ⟨h2, h⟩ := ba h
  obtain ⟨h3, h⟩ := ba h
  obtain ⟨h4, h⟩ := ba h
  obtain ⟨h5, h⟩ := ba h
  obtain ⟨h6, h⟩ := ba h
  obtain ⟨h7, h8⟩ := ba h
  have h1 := of_decide_eq_true h1
  have h2 := of_decide_eq_true h2
  have h3 := of_decide_eq_true h3
  exact ⟨⟨h1, h2, h3, h4⟩, ⟨h1, h2, h3, h4, of_decide_eq_true h5, of_decide_eq_true h6, of_decide_eq_true h7, of_decide_eq_true h8⟩⟩
theorem incB_lt : ∀ {l : List Addr} {a : Addr}, incB (a :: l) = true → ∀ b ∈ l, a < b
  | [], _, _, b, hb => by simp at hb
  | c :: r, a, h, b, hb => by
    obtain ⟨h1, h2⟩ := ba (show (decide (a < c) && incB (c :: r)) = true from h)
    have h1 := of_decide_eq_true h1
    rcases List.mem_cons.mp hb with z | z
    · rw [z]; exact h1
    · exact Nat.lt_trans h1 (incB_lt h2 b z)
theorem incB_tail {a : Addr} {l : List Addr} (h : incB (a :: l) = true) : incB l = true := by
  cases l with
  | nil => rfl
  | cons b r => exact (ba (show (decide (a < b) && incB (b :: r)) = true from h)).2
theorem incB_inj {f : Str → Addr} : ∀ {l : List Str}, incB (l.map f) = true → ∀ x ∈ l, ∀ y ∈ l, f x = f y → x = y
  | [], _, x, hx, _, _, _ => by simp at hx
  | a :: l, h, x, hx, y, hy, e => by
    have h' : incB (f a :: l.map f) = true := h
    rcases List.mem_cons.mp hx with zx | zx
    · rcases List.mem_cons.mp hy with zy | zy
      · rw [zx, zy]
      · have := incB_lt h' (f y) (List.mem_map_of_mem zy)
        rw [zx] at e
        rw [e] at this
        exact absurd this (Nat.lt_irrefl _)
    · rcases List.mem_cons.mp hy with zy | zy
      · have := incB_lt h' (f x) (List.mem_map_of_mem zx)
        rw [zy] at e
        rw [e] at this
        exact absurd this (Nat.lt_irrefl _)
      · exact incB_inj (incB_tail h') x zx y zy e
structure Fam (K : PySem.W.Frag) (w : Str) (names : List Str) : Prop where
  inc : incB (cAd K w :: names.map (cAd K)) = true
  mro : ∀ x ∈ names, (PySem.W.clsIn K (cAd K x)).map (·.mro) = some (Value.ref (cAd K x) :: Value.ref (cAd K w) :: He.veBase)
  typ : ∀ x ∈ names, PySem.W.typeIn K (.ref (cAd K x)) = some (.type "type")
  exc : ∀ x ∈ names, XfC K (cAd K x) ∧ ExcC K (cAd K x)
  mroW : (PySem.W.clsIn K (cAd K w)).map (·.mro) = some (Value.ref (cAd K w) :: He.veBase)
  typW : PySem.W.typeIn K (.ref (cAd K w)) = some (.type "type")
  excW : XfC K (cAd K w) ∧ ExcC K (cAd K w)
theorem famB_ok {K : PySem.W.Frag} {w : Str} {names : List Str} (h : famB K w names = true) : Fam K w names := by
  obtain ⟨h1, h2⟩ := ba h
  obtain ⟨h3, h4⟩ := ba h1
  obtain ⟨h5, h6⟩ := ba h2
  obtain ⟨h7, h8⟩ := ba h6
  have key : ∀ x ∈ names, _ := fun x hx => ba (List.all_eq_true.mp h4 x hx)
  exact ⟨h3, fun x hx => of_decide_eq_true (ba (key x hx).1).1, fun x hx => of_decide_eq_true (ba (key x hx).1).2, fun x hx => excB_ok (key x hx).2, of_decide_eq_true h5, of_decide_eq_true h7, excB_ok h8⟩
theorem sub_of {K : PySem.W.Frag} {C : Addr} {l : List Value} {c : Value} (h : (PySem.W.clsIn K C).map (·.mro) = some (Value.ref C :: l)) : PySem.W.subIn K (.ref C) c = some ((Value.ref C :: l).contains c) := by
  show PySem.W.mroIn K C c = _
  unfold PySem.W.mroIn
  rw [Option.map_eq_some_iff] at h
  obtain ⟨cd, h1, h2⟩ := h
  rw [h1, Option.bind_some, h2]
  rfl
theorem kit_own {K : PySem.W.Frag} {t : Value} {C : Addr} {l : List Value} {b : Bool} (hm : (PySem.W.clsIn K C).map (·.mro) = some l) (ht : PySem.W.typeIn K (.ref C) = some (.type "type")) (hs : PySem.W.subIn K t (.ref C) = some b) (hb : t = .ref C → b = true) : PySem.W.kitOne K t (.ref C) = some b := by
  unfold PySem.W.kitOne
  by_cases e : t = .ref C
  · rw [if_pos (by simpa using e), hb e]
  · rw [if_neg (by simpa using e)]
    unfold PySem.W.kitCls
    rw [Option.map_eq_some_iff] at hm
    obtain ⟨cd, h1, _⟩ := hm
    show (if ((PySem.W.clsIn K C).isSome && PySem.W.typeIn K (.ref C) == some (.type "type")) = true then PySem.W.subIn K t (.ref C) else none) = some b
    rw [if_pos (by rw [h1, ht]; rfl)]
    exact hs
theorem Fam.kit {K : PySem.W.Frag} {w : Str} {names : List Str} (F : Fam K w names) {x y : Str} (hx : x ∈ names) (hy : y ∈ names) : PySem.W.kitOne K (.ref (cAd K x)) (.ref (cAd K y)) = some (decide (x = y)) := by
  have hW : ∀ z ∈ names, cAd K z ≠ cAd K w := fun z hz e => by
    have := incB_lt F.inc _ (List.mem_map_of_mem (f := cAd K) hz)
    rw [e] at this
    exact absurd this (Nat.lt_irrefl _)
  have hi := incB_inj (f := cAd K) (incB_tail F.inc)
  refine kit_own (F.mro y hy) (F.typ y hy) ?_ fun e => ?_
  · rw [sub_of (F.mro x hx)]
    congr 1
    simp only [List.contains_cons, He.veBase]
    by_cases e : x = y
    · subst e
      simp
    · have h1 : cAd K y ≠ cAd K x := fun z => e (hi x hx y hy z.symm)
      have h2 : cAd K y ≠ cAd K w := hW y hy
      simp [e, h1, h2]
  · have : cAd K x = cAd K y := by injection e
    simp [hi x hx y hy this]
theorem Fam.kitW {K : PySem.W.Frag} {w : Str} {names : List Str} (F : Fam K w names) {x : Str} (hx : x ∈ names) : PySem.W.kitOne K (.ref (cAd K x)) (.ref (cAd K w)) = some true := by
  refine kit_own F.mroW F.typW ?_ fun _ => rfl
  rw [sub_of (F.mro x hx)]
  simp
theorem Fam.kitV {K : PySem.W.Frag} {w : Str} {names : List Str} (F : Fam K w names) {x : Str} (hx : x ∈ names) : PySem.W.kitOne K (.ref (cAd K x)) (.type "ValueError") = some true := by
  unfold PySem.W.kitOne
  rw [if_neg (by simp)]
  show (if PySem.W.kitMeta "ValueError" = true then PySem.W.subIn K (.ref (cAd K x)) (.type "ValueError") else none) = some true
  rw [if_pos (by decide +kernel), sub_of (F.mro x hx)]
  simp [He.veBase]
theorem Fam.kitWV {K : PySem.W.Frag} {w : Str} {names : List Str} (F : Fam K w names) : PySem.W.kitOne K (.ref (cAd K w)) (.type "ValueError") = some true := by
  unfold PySem.W.kitOne
  rw [if_neg (by simp)]
  show (if PySem.W.kitMeta "ValueError" = true then PySem.W.subIn K (.ref (cAd K w)) (.type "ValueError") else none) = some true
  rw [if_pos (by decide +kernel), sub_of F.mroW]
  simp [He.veBase]
end XH

set_option Elab.async false
set_option linter.all false
set_option maxRecDepth 100000
set_option maxHeartbeats 4000000
namespace DL
open PySem PySem.Spec PyProof.Rows L2 RZ EX

/-! ### != of dicts that are alike -/
def flatEq : D → D → Bool
  | .non, .non => true
  | .bl a, .bl b => a == b
  | .int a, .int b => a == b
  | .str a, .str b => decide (a = b)
  | _, _ => false
def sameK (ks ls : List (Key × D)) : Bool := ks.length == ls.length && ks.all fun p => match getK ls p.1 with
  | some d => flatEq p.2 d
  | none => false
def dNeX : D → D → Option D
  | .dic ks, .dic ls => if sameK ks ls = true then some (.bl false) else none
  | d, e => dNe d e
theorem flatEq_rep {cl : Str → Option Addr} {F : Hp} {d e : D} {v u : V} (h : flatEq d e = true) (rv : Rep cl F d v) (ru : Rep cl F e u) : u = v ∧ flatB v = true := by
  cases d <;> cases e <;> simp only [flatEq, Bool.false_eq_true, beq_iff_eq, decide_eq_true_eq] at h <;> simp only [Rep] at rv ru <;> subst rv ru <;> simp [flatB, h]
section
variable {X : Cx} {c : FC}
def rNeD : R2 := fun x y H Q => ∃ a b ks ls, x = .ref a ∧ y = .ref b ∧ Rd H a (.dK ks) ∧ Rd H b (.dK ls) ∧ ks.length = ls.length ∧ (∀ p ∈ ks, valV ls p.1 = some p.2 ∧ flatB p.2 = true) ∧ Q (.bl false) H
theorem op_ne_alike (hu : X.A.units < cLine) : OpR X (compareOp .NotEq) rNeD := by
  intro pins s σ H x y v u Q I rx ry ⟨a, b, ks, ls, ex, ey, ea, eb, hlen, hp, q⟩
  subst ex ey
  obtain ⟨_, ya, va, ra, da⟩ := dk_rd I.hok ea
  obtain ⟨_, yb, vb, rb, db⟩ := dk_rd I.hok eb
  obtain rfl : v = Value.ref a := rx
  obtain rfl : u = Value.ref b := ry
  exact PySem.W.keq_ne (knd := mixKind X.prog X.w) (r := true) ya yb da db hu (fun _ => hits_all rb ra hp) (fin_bl I q (by have h1 := ra.length; have h2 := rb.length; simp; omega))
theorem sameK_rep {cl : Str → Option Addr} {F : Hp} {ls : List (Key × D)} {ys : List (Key × V)} (rl : RepK cl F ls ys) : ∀ {ks : List (Key × D)} {xs : List (Key × V)}, RepK cl F ks xs → (ks.all fun p => match getK ls p.1 with
  | some d => flatEq p.2 d
  | none => false) = true → ∀ p ∈ xs, valV ys p.1 = some p.2 ∧ flatB p.2 = true
  | [], xs, h, _, p, hp => by
    simp only [RepK] at h
    subst h
    simp at hp
  | (k, d) :: ks, xs, h, e, p, hp => by
    simp only [RepK] at h
    obtain ⟨y, zs, rfl, r, h⟩ := h
    rw [List.all_cons, Bool.and_eq_true] at e
    rcases List.mem_cons.mp hp with rfl | hp
    · have e1 := e.1
      split at e1
      · rename_i d2 hd
        obtain ⟨v, hv, rv⟩ := rl.get hd
        obtain ⟨z1, z2⟩ := flatEq_rep e1 r rv
        subst z1
        exact ⟨hv, z2⟩
      · cases e1
    · exact sameK_rep rl h e.2 p hp
theorem op_neX_data (hu : X.A.units + 64 < cLine) : OpR X (compareOp .NotEq) (R2D c dNeX) := by
  refine opR_imp ((op_ne_data (c := c) hu).or (op_ne_alike (X := X) (by omega))) fun x y H Q h => ?_
  obtain ⟨w, σ, dx, dy, d, s, rx, ry, e, q⟩ := h
  by_cases hd : ∃ ks ls, dx = .dic ks ∧ dy = .dic ls
  · obtain ⟨ks, ls, rfl, rfl⟩ := hd
    simp only [dNeX] at e
    split at e
    · rename_i hs
      cases e
      obtain ⟨a, xs, rfl, h1, _, r1⟩ := rx
      obtain ⟨b, ys, rfl, h2, _, r2⟩ := ry
      unfold sameK at hs
      rw [Bool.and_eq_true] at hs
      have hl := beq_iff_eq.mp hs.1
      exact .inr ⟨a, b, xs, ys, rfl, rfl, h1, h2, by rw [r1.length, r2.length, hl], sameK_rep r2 r1 hs.2, q.bl s⟩
    · cases e
  · refine .inl ⟨w, σ, dx, dy, d, s, rx, ry, ?_, q⟩
    unfold dNeX at e
    split at e
    · exact absurd ⟨_, _, rfl, rfl⟩ hd
    · exact e
end
/-! ### defs and classes by their names -/
structure DefOk (P : Program) (w : World) (K : PySem.W.Frag) (mg : Str → Option Value) (base : Heap) (cl : Str → Option Addr) (x : Str) (k n : Nat) (sm : Bool) (g : Fm) : Prop where
  ex : ∃ f fd ps, mg x = some (.ref f) ∧ PySem.W.keepIn K (.ref f) = true ∧ Binds K fd ps [] ∧ FnOk P w K mg base (L2.CX P w) k f fd ps (spM cl n sm g)
structure MkOk (P : Program) (w : World) (K : PySem.W.Frag) (mg : Str → Option Value) (base : Heap) (cl : Str → Option Addr) (x : Str) (ks : List Str) (sp : Addr → Sp) : Prop where
  ex : ∃ C fI fd, cl x = some C ∧ mg x = some (.ref C) ∧ OexC K C ∧ PySem.W.findIn K (.ref C) "__init__" = some (some (.ref fI)) ∧ PySem.W.typeIn K (.ref fI) = some (.type "function") ∧ FnOk P w K mg base (L2.CX P w) 1 fI fd (("self" : Str) :: ks) (sp C) ∧ Binds K fd (("self" : Str) :: ks) [] ∧
    (∀ (s : Shared) (u : Value) (ws : List Value), ws.length = ks.length → BindsTo s fd ⟨[u], ks.zip ws⟩ ((("self" : Str) :: ks).zip (u :: ws))) ∧ (∀ vs H Q E, sp C vs H Q E → vs.length = (("self" : Str) :: ks).length)
section
variable {X : Cx} {c : FC} {W : WX} {e : Expr} {es : List Expr} {kws : List Keyword} {mr : M (List D)} {p pos apos : Pos} {x : Str} {k j n i : Nat} {g : Fm} {cl : Str → Option Addr}
theorem df_callD (D : DefOk X.prog X.w X.K X.mg X.base cl x k n false g) (hcl : c.cl = cl) (tk : Takes X W) (hr : Room j X.A) (hkj : k ≤ j) (hg : Gl X x)
    (ha : PA X (e :: es) (tAF c W mr)) (hdb : (x == ("__debug__" : Str)) = false := by decide) (he : starEach (e :: es) X.env = (false, eval e X.env) :: starEach es X.env := by rfl) (hpl : (backTo pos (starEach es X.env)).any (·.1) = false := by rfl) :
    PE X (.Call (.Name x p) (e :: es) [] pos) (tF c W (mCallF n g mr)) := by
  obtain ⟨f, fd, ps, h1, h2, h3, h4⟩ := D.ex
  exact df_call hcl tk h4 hr hkj hg h1 h2 h3 ha hdb he hpl
theorem df_callSD (D : DefOk X.prog X.w X.K X.mg X.base cl x k n true g) (hcl : c.cl = cl) (tk : Takes X W) (hr : Room j X.A) (hkj : k ≤ j) (hg : Gl X x)
    (hv : PE X e (tVar i)) (ha : PA X es (tAF c W mr)) (hs : starEach (e :: es) X.env = (false, eval e X.env) :: starEach es X.env := by rfl) (hdb : (x == ("__debug__" : Str)) = false := by decide) (hpl : (backTo pos (starEach es X.env)).any (·.1) = false := by rfl) :
    PE X (.Call (.Name x p) (e :: es) [] pos) (tF c W (mCallS i n g mr)) := by
  obtain ⟨f, fd, ps, h1, h2, h3, h4⟩ := D.ex
  exact df_callS hcl tk h4 hr hkj hg h1 h2 h3 hv ha hs hdb hpl
theorem no_pass {X : Cx} : Passes (L2.CX X.prog X.w) X (fun _ _ _ => False) := fun pins σ H s e s' I h => by
  obtain ⟨_, _, _, _, _, _, _, _, _, _, _, _, z⟩ := h
  exact z.elim
theorem df_mk1 {f1 : Str} (D : MkOk X.prog X.w X.K X.mg X.base cl x [f1] (fun C => spIni1 C f1)) (hcl : c.cl = cl) (hr : Room 2 X.A) (hg : Gl X x) (ha : PA X (e :: es) (tAF c W mr)) (hdb : (x == ("__debug__" : Str)) = false := by decide) (he : starEach (e :: es) X.env = (false, eval e X.env) :: starEach es X.env := by rfl) (hpl : (backTo pos (starEach es X.env)).any (·.1) = false := by rfl) :
    PE X (.Call (.Name x p) (e :: es) [] pos) (tF c W (mMkE x (mk1 f1) mr)) := by
  obtain ⟨C, fI, fd, h1, h2, h3, h4, h5, h6, h7, h8, h9⟩ := D.ex
  exact pe_imp (pe_mkE h3 h4 h5 h6 hr h7 no_pass hg h2 ha h9 hdb he hpl) fun _ _ _ q => mkE1_to (by rw [hcl]; exact h1) q
theorem df_mk1K {f1 : Str} (D : MkOk X.prog X.w X.K X.mg X.base cl x [f1] (fun C => spIni1 C f1)) (hcl : c.cl = cl) (hr : Room 2 X.A) (hg : Gl X x) (ha : PK X kws (tAF c W mr)) (hall : (backToKw pos (keywordEach kws X.env)).all (·.1.isSome) = true := by rfl) (hks : (backToKw pos (keywordEach kws X.env)).filterMap (·.1) = [f1] := by rfl)
    (hdb : (x == ("__debug__" : Str)) = false := by decide) (hpl : ((backTo pos (starEach [] X.env)).any (·.1) || (backToKw pos (keywordEach kws X.env)).any (·.1.isNone)) = false := by rfl) : PE X (.Call (.Name x p) [] kws pos) (tF c W (mMkE x (mk1 f1) mr)) := by
  obtain ⟨C, fI, fd, h1, h2, h3, h4, h5, h6, h7, h8, h9⟩ := D.ex
  exact pe_imp (pe_mkEK h3 h4 h5 h6 hr h8 no_pass hg h2 ha h9 rfl hall hks hdb hpl) fun _ _ _ q => mkE1_to (by rw [hcl]; exact h1) q
theorem df_mk2 {f1 f2 : Str} (D : MkOk X.prog X.w X.K X.mg X.base cl x [f1, f2] (fun C => spIni2 C f1 f2)) (hcl : c.cl = cl) (hr : Room 2 X.A) (hg : Gl X x) (ha : PA X (e :: es) (tAF c W mr)) (hdb : (x == ("__debug__" : Str)) = false := by decide) (he : starEach (e :: es) X.env = (false, eval e X.env) :: starEach es X.env := by rfl) (hpl : (backTo pos (starEach es X.env)).any (·.1) = false := by rfl) :
    PE X (.Call (.Name x p) (e :: es) [] pos) (tF c W (mMkE x (mk2 f1 f2) mr)) := by
  obtain ⟨C, fI, fd, h1, h2, h3, h4, h5, h6, h7, h8, h9⟩ := D.ex
  exact pe_imp (pe_mkE h3 h4 h5 h6 hr h7 no_pass hg h2 ha h9 hdb he hpl) fun _ _ _ q => mkE2_to (by rw [hcl]; exact h1) q
theorem df_mk2K {f1 f2 : Str} (D : MkOk X.prog X.w X.K X.mg X.base cl x [f1, f2] (fun C => spIni2 C f1 f2)) (hcl : c.cl = cl) (hr : Room 2 X.A) (hg : Gl X x) (ha : PK X kws (tAF c W mr)) (hall : (backToKw pos (keywordEach kws X.env)).all (·.1.isSome) = true := by rfl) (hks : (backToKw pos (keywordEach kws X.env)).filterMap (·.1) = [f1, f2] := by rfl)
    (hdb : (x == ("__debug__" : Str)) = false := by decide) (hpl : ((backTo pos (starEach [] X.env)).any (·.1) || (backToKw pos (keywordEach kws X.env)).any (·.1.isNone)) = false := by rfl) : PE X (.Call (.Name x p) [] kws pos) (tF c W (mMkE x (mk2 f1 f2) mr)) := by
  obtain ⟨C, fI, fd, h1, h2, h3, h4, h5, h6, h7, h8, h9⟩ := D.ex
  exact pe_imp (pe_mkEK h3 h4 h5 h6 hr h8 no_pass hg h2 ha h9 rfl hall hks hdb hpl) fun _ _ _ q => mkE2_to (by rw [hcl]; exact h1) q
theorem df_mk0 (D : MkOk X.prog X.w X.K X.mg X.base cl x [] spIni0) (hcl : c.cl = cl) (hr : Room 2 X.A) (hg : Gl X x) (hdb : (x == ("__debug__" : Str)) = false := by decide) : PE X (.Call (.Name x p) [] [] pos) (tF c W (mMkE x mk0 mNil)) := by
  obtain ⟨C, fI, fd, h1, h2, h3, h4, h5, h6, h7, h8, h9⟩ := D.ex
  exact pe_imp (pe_mkE0 h3 h4 h5 h6 hr h7 no_pass hg h2 rfl hdb) fun _ _ _ q => mkE0_to (by rw [hcl]; exact h1) q
theorem kf_nil : PK X [] (tAF c W mNil) := ⟨fun pos pins s σ H Q I ⟨w, sr, q⟩ => pk_nil.run pos pins s σ H Q I (Wnt.ok sr q [] (by simp [Reps]))⟩
theorem kf_cons {nm : Option Str} {kpos : Pos} {ma : M D} (ha : PE X e (tF c W ma)) (hr : PK X kws (tAF c W mr)) : PK X (⟨nm, e, kpos⟩ :: kws) (tAF c W (mCons ma mr)) := ⟨fun pos pins s σ H Q I h => (pk_cons (nm := nm) (kpos := kpos) ha hr).run pos pins s σ H Q I (by
  obtain ⟨w, sr, q⟩ := h
  exact ⟨w, sr, (Wnt.bind q).imp fun w1 H1 dx s1 q1 v1 r1 => ⟨w1, s1.sr, by
    rw [s1.sl]
    exact (Wnt.bind q1).imp fun w2 H2 l s2 q2 vs rs => Wnt.ok s2.sr q2 (v1 :: vs) (.cons (Rep.le s2.le r1) rs)⟩⟩)⟩
/-! the field, the class -/
theorem df_ef {K : PySem.W.Frag} {f : Str} {m : M D} {okc : Str → Bool} (hK : X.K = K) (hE : ∀ cn C, okc cn = true → c.cl cn = some C → XfC K C ∧ PySem.W.findIn K (.ref C) f = some none) (he : PE X e (tF c W m)) (hb : attributeBase e f X.env (eval e X.env) = eval e X.env := by rfl) :
    PE X (.Attribute e f pos) (tF c W (mEf okc f m)) := by
  subst hK
  exact pe_imp (pe_ef he hb) fun _ _ _ q => ef_to hE (fun _ _ _ h => h) q
theorem df_isE {K : PySem.W.Frag} {cE : Expr} {m : M D} {rel : Str → Option Bool} {cv : V} {u : Value} (hK : X.K = K) (hk : ClsV cv u) (hE : ∀ cn C b, rel cn = some b → c.cl cn = some C → ExcC K C ∧ PySem.W.kitOne K (.ref C) u = some b) (hg : Gl X "isinstance") (hm : X.mg "isinstance" = none) (ha : PE X e (tF c W m)) (hT : PE X cE (tC cv))
    (he : starEach [e, cE] X.env = (false, eval e X.env) :: starEach [cE] X.env := by rfl) (he2 : starEach [cE] X.env = (false, eval cE X.env) :: starEach [] X.env := by rfl) (hpl : (backTo pos (starEach [cE] X.env)).any (·.1) = false := by rfl) :
    PE X (.Call (.Name "isinstance" p) [e, cE] [] pos) (tF c W (mIsE rel m)) := by
  subst hK
  exact pe_imp (pe_callB call_isV hg hm (by decide +kernel) (pa_cons ha (pa_cons hT pa_nil he2) he) (by decide) (by decide) he hpl) fun _ _ _ q => isE_to hk hE (fun _ _ _ h => h) q
/-! the spring's words -/
theorem df_strmI {a b : Expr} (ha : PE X a (tVar i)) (hb : PE X b (tC (.int k))) (hs : PlainIx b) : PE X (.Subscript a b pos) (tF c W (mStrmI i k)) := pe_imp (pe_ix ix_list ha hb hs) fun _ _ _ q => strmI_to q
theorem dt_strmNe {a b d : Expr} (hu : X.A.units + 64 < cLine) (ha : PE X a (tVar i)) (hb : PE X b (tC (.int 0))) (hs : PlainIx b) (hd : PE X d (tLst tNil)) (hm : behindInMarks .NotEq d = false) {p2 : Pos} : PT X (.Compare (.Subscript a b p2) [.NotEq] [d] pos) (tT c W (mStrmNe i)) :=
  pt_imp (pt_cmpR (op_ne_data (c := c0) hu) (pe_ix ix_list ha hb hs) hd hm) fun _ _ _ q => strmNe_to q
end
end DL

set_option Elab.async false
set_option linter.all false
set_option maxRecDepth 100000
set_option maxHeartbeats 4000000
namespace DL
open PySem PySem.Spec PyProof.Rows L2 RZ EX

/-! ### a test that reads a name's own object as frozen -/
def mThaw (i : Nat) (n : M Bool) : M Bool := fun s z => noX (n (frzS i s) z)
section
variable {X : Cx} {c : FC} {W : WX} {n : M Bool} {e : Expr} {i j k : Nat} {pos : Pos} {m : M D}
theorem dt_thaw (i : Nat) (h : PT X e (tT c W n)) : PT X e (tT c W (mThaw i n)) := pt_imp h fun σ H Q ⟨w, s, q⟩ => by
  obtain ⟨F', s', l⟩ := s.frz_slot i
  refine ⟨_, s', ?_⟩
  show Wnt c W σ _ H _ (n (frzS i w.sl) w.z)
  unfold mThaw at q
  cases hn : n (frzS i w.sl) w.z with
  | ok b z =>
    rw [hn] at q
    intro H2 w2 st ez
    subst ez
    have g : Gr c w.F H w.F H2 w2.z := ⟨st.keep, st.all, Le.refl _, fun a u h => .inl h, fun sa la e => (st.sr.strm sa la e).1⟩
    exact (show Wnt c W σ w H _ (ER.ok b w2.z) from q) _ _ (s.step g) rfl
  | exc cn fs z =>
    rw [hn] at q
    exact q.elim
  | bad =>
    rw [hn] at q
    exact q.elim
theorem hu64_of {A : Around} (hr : Room k A) : A.units + 64 < cLine := by
  have := hr.un
  omega
theorem hu01_of {A : Around} (hr : Room k A) : A.units + 1 < cLine := by
  have := hr.un
  omega
def mNeg (m : M D) : M D := fun s z => (m s z).bind fun d z => match d with
  | .int i => .ok (.int (-i)) z
  | _ => .bad
theorem df_neg (h : PE X e (tV c W m)) : PE X (.UnaryOp .USub e pos) (tF c W (mNeg m)) := pe_imp (pe_un un_neg h) fun σ H Q ⟨w, s, q⟩ => ⟨w, s, (Wnt.bind q).imp fun w1 H1 d s1 q1 v r => by
  cases d with
  | int i => exact ⟨i, r.int, Wnt.ok s1.sr q1 _ (by simp [Rep])⟩
  | _ => exact q1.elim⟩
theorem df_mk00 {C : Addr} {x : Str} {p : Pos} (hq : PySem.W.excIn X.K C He.veBase "ValueError.__new__" = true) (kC : PySem.W.keepIn X.K (.ref C) = true) (hc : c.cl x = some C) (hg : Gl X x) (hm : X.mg x = some (.ref C)) (hdb : (x == ("__debug__" : Str)) = false := by decide) :
    PE X (.Call (.Name x p) [] [] pos) (tF c W (mMkE x mk0 mNil)) := pe_imp (pe_mkE00 hq F.excBase_ValueError kC hg hm hdb) fun _ _ _ q => mkE00_to hc q
/-- the rest of a body under a context that is chosen there -/
theorem pss_ex {sts : List Stmt} {cl : Str → Option Addr} {m : SM} (h : ∀ c : FC, c.cl = cl → PSs X sts (tS c W m)) : PSs X sts (fun D σ H => ∃ c : FC, c.cl = cl ∧ tS c W m D σ H) := ⟨fun pins s σ H D I ⟨c, hc, q⟩ => (h c hc).run pins s σ H D I q⟩
end
/-- [list(script), 0, 0, 11] -/
def spStart (K : PySem.W.Frag) : Sp := fun vs H Q _ => ∃ (a : Addr) (ns : List Int), vs = [.ref a] ∧ SqL K H a (ns.map V.int) ∧ ∀ p q, H p = none → upd H p (.lst (ns.map V.int)) q = none → Q (.ref q) (upd (upd H p (.lst (ns.map V.int))) q (.lst [.ref p, .int 0, .int 0, .int 11]))
/-- the law's start: the spring stands alone -/
theorem sr_law {cl : Str → Option Addr} {H0 : Hp} {sa la : Addr} {N : Nat} {σ : L2.St} {ns : List Int} (h1 : upd H0 la (.lst (ns.map V.int)) sa = none) (h2 : H0 la = none) (hσ : σ.length = N) (hs : σ[1]? = some (some (.ref sa))) :
    SR { cl := cl, H0 := H0, F0 := fun _ => none, st := some (sa, la), chg := [sa, la] } { F := fun _ => none, lk := [], sl := (List.replicate N Slot.none).set 1 .strm, z := ⟨ns, 0, 0, 11⟩ } σ (upd (upd H0 la (.lst (ns.map V.int))) sa (.lst [.ref la, .int 0, .int 0, .int 11])) where
  sub := fun a u h => by cases h
  keep := fun a o h _ => .inl (by
    have hla : a ≠ la := ne_of_none h h2
    have hsa : a ≠ sa := fun z => by
      rw [← z, upd_ne hla] at h1
      rw [show H0 a = some o from h] at h1
      cases h1
    rw [upd_ne hsa, upd_ne hla]; exact h)
  slots := fun i x h => by
    have h : ((List.replicate N Slot.none).set 1 .strm)[i]? = some x := h
    by_cases hi : 1 = i
    · subst hi
      by_cases hb : 1 < N
      · rw [List.getElem?_set_self (by simpa using hb)] at h
        cases h
        exact ⟨sa, la, rfl, hs⟩
      · rw [List.getElem?_eq_none (by simpa using hb)] at h; cases h
    · rw [List.getElem?_set_ne hi, List.getElem?_replicate] at h
      split at h <;> cases h
      trivial
  dist := fun i j a _ hi => by
    obtain ⟨d, hi⟩ := hi
    have hi : ((List.replicate N Slot.none).set 1 .strm)[i]? = some (.own d) := hi
    by_cases h1 : 1 = i
    · subst h1
      by_cases hb : 1 < N
      · rw [List.getElem?_set_self (by simpa using hb)] at hi; cases hi
      · rw [List.getElem?_eq_none (by simpa using hb)] at hi; cases hi
    · rw [List.getElem?_set_ne h1, List.getElem?_replicate] at hi
      split at hi <;> cases hi
  fmut := fun a m => rfl
  chgd := fun a m => by
    rcases List.mem_cons.mp m with z | z
    · exact ⟨_, by rw [z]; exact upd_same⟩
    · have z : a = la := by simpa using z
      rw [z]
      by_cases e : la = sa
      · exact ⟨_, by rw [e]; exact upd_same⟩
      · exact ⟨_, by rw [upd_ne e]; exact upd_same⟩
  strm := fun sa' la' e => by
    cases e
    refine ⟨⟨upd_same, ?_⟩, rfl⟩
    rw [upd_ne (fun e => by rw [e, upd_same] at h1; cases h1), upd_same]
  fz0 := fun a o _ _ => rfl
  len := by show ((List.replicate N Slot.none).set 1 .strm).length = _; rw [List.length_set, List.length_replicate, hσ]
  lkd := fun p hp => by cases hp
  lks := fun a u o h => by cases h
end DL

set_option Elab.async false
set_option linter.all false
set_option maxRecDepth 100000
set_option maxHeartbeats 4000000
namespace EX
open PySem PySem.Spec PySem.Calls PyProof.Rows L2 NdefX
section
variable {P : Program} {w : World} {K : PySem.W.Frag} {mg : Str → Option Value} {base : Heap} {CX : CXT} {k : Nat} {C cc cda f : Addr} {name qual text : Str} {params : Arguments} {scope : Scope} {dV kV doc pm ct oc : Value} {an od : Option Addr} {osl : Array (Option Value)}
  {self x y fl fl2 : Str} {ar : Arg} {j : Nat} {p0 p1 p2 p3 p4 p5 q1 q2 q3 q4 r1 r2 r3 r4 : Pos}
theorem ini2_ok (lk : K.lookup f = some ⟨oc, od, .func (PySem.W.ksFn name qual params [supSt text j p0 p1 p2 p3 p4 p5, setSt self x fl q1 q2 q3 q4, setSt self y fl2 r1 r2 r3 r4] scope dV kV doc pm an (.ref cda) ct cc), osl⟩) (hcd : PySem.W.codeIn K (.ref cda) qual = true)
    (S : NScope [self, x, y, "__class__"] [self, x, y] ["__class__"] scope) (T : SupC P K C cc cda f) (hm : mg "super" = none) (hp : (params.posonlyargs ++ params.args).head? = some ar) (hps : ar.arg = self)
    (hks : scope.names.lookup ("super" : Str) = some .globalImplicit) (hno : PySem.W.findIn K (.ref C) fl = some none) (hno2 : PySem.W.findIn K (.ref C) fl2 = some none) (hd5 : (y == ("__debug__" : Str)) = false) (hd6 : (y == ("__classdict__" : Str)) = false) (hd1 : (self == ("__debug__" : Str)) = false) (hd2 : (x == ("__debug__" : Str)) = false) (hd3 : (self == ("__classdict__" : Str)) = false) (hd4 : (x == ("__classdict__" : Str)) = false)
    {pl : Sem Bool} (he : ∀ L : Addr, eval (.Call (.Attribute (.Call (.Name "super" p0) [] [] p1) "__init__" p2) [.Constant (.str text) j p3] [] p4) (PySem.W.envX qual scope L f (.ref cda) [("__class__", cc)]) = (do
      let ov ← attributeBase (.Call (.Name "super" p0) [] [] p1) "__init__" (PySem.W.envX qual scope L f (.ref cda) [("__class__", cc)]) (eval (.Call (.Name "super" p0) [] [] p1) (PySem.W.envX qual scope L f (.ref cda) [("__class__", cc)]))
      standAt p2.atName
      let (g, first) ← holding [ov] (getMethod ov "__init__" pl)
      callWith p4 g first (backTo p4 (starEach [.Constant (.str text) j p3] (PySem.W.envX qual scope L f (.ref cda) [("__class__", cc)]))) [])) :
    FnOk P w K mg base CX (k + 1) f (PySem.W.ksFn name qual params [supSt text j p0 p1 p2 p3 p4 p5, setSt self x fl q1 q2 q3 q4, setSt self y fl2 r1 r2 r3 r4] scope dV kV doc pm an (.ref cda) ct cc) [self, x, y] (spIni2 C fl fl2) := by
  refine fn_ofS lk hcd S T hm hp (by rw [hps]; rfl) hks (fun vs H Q E h => ?_) he fun A outer s H vs Q E hsp => ?_
  · obtain ⟨a, u1, u2, rfl, _⟩ := h
    rfl
  · obtain ⟨a, u1, u2, rfl, ha, q⟩ := hsp
    refine ⟨a, rfl, ha, _, pss_cons (ps_ost (X := ncx CX P w K mg base [self, x, y, "__class__"] _ f A outer s H E) (pe_var (i := 0) rfl (.inl (S.par self (by simp))) hd1 hd3) (pe_var (i := 1) rfl (.inl (S.par x (by simp))) hd2 hd4)) (pss_one (ps_ost (X := ncx CX P w K mg base [self, x, y, "__class__"] _ f A outer s H E) (pe_var (i := 0) rfl (.inl (S.par self (by simp))) hd1 hd3) (pe_var (i := 2) rfl (.inl (S.par y (by simp))) hd5 hd6))), ?_⟩
    refine ⟨_, rfl, _, rfl, a, C, rfl, T.oex, hno, .inl ⟨ha, fun dx n ne => ?_⟩⟩
    refine ⟨_, rfl, _, rfl, a, C, rfl, T.oex, hno2, .inr ⟨dx, _, upd_same, by rw [upd_ne ne]; exact upd_same, by simp, q dx n ne⟩⟩
theorem ini0_ok (lk : K.lookup f = some ⟨oc, od, .func (PySem.W.ksFn name qual params [supSt text j p0 p1 p2 p3 p4 p5] scope dV kV doc pm an (.ref cda) ct cc), osl⟩) (hcd : PySem.W.codeIn K (.ref cda) qual = true)
    (S : NScope [self, "__class__"] [self] ["__class__"] scope) (T : SupC P K C cc cda f) (hm : mg "super" = none) (hp : (params.posonlyargs ++ params.args).head? = some ar) (hps : ar.arg = self)
    (hks : scope.names.lookup ("super" : Str) = some .globalImplicit) 
    {pl : Sem Bool} (he : ∀ L : Addr, eval (.Call (.Attribute (.Call (.Name "super" p0) [] [] p1) "__init__" p2) [.Constant (.str text) j p3] [] p4) (PySem.W.envX qual scope L f (.ref cda) [("__class__", cc)]) = (do
      let ov ← attributeBase (.Call (.Name "super" p0) [] [] p1) "__init__" (PySem.W.envX qual scope L f (.ref cda) [("__class__", cc)]) (eval (.Call (.Name "super" p0) [] [] p1) (PySem.W.envX qual scope L f (.ref cda) [("__class__", cc)]))
      standAt p2.atName
      let (g, first) ← holding [ov] (getMethod ov "__init__" pl)
      callWith p4 g first (backTo p4 (starEach [.Constant (.str text) j p3] (PySem.W.envX qual scope L f (.ref cda) [("__class__", cc)]))) [])) :
    FnOk P w K mg base CX (k + 1) f (PySem.W.ksFn name qual params [supSt text j p0 p1 p2 p3 p4 p5] scope dV kV doc pm an (.ref cda) ct cc) [self] (spIni0 C) := by
  refine fn_ofS lk hcd S T hm hp (by rw [hps]; rfl) hks (fun vs H Q E h => ?_) he fun A outer s H vs Q E hsp => ?_
  · obtain ⟨a, rfl, _⟩ := h
    rfl
  · obtain ⟨a, rfl, ha, q⟩ := hsp
    exact ⟨a, rfl, ha, _, pss_nil, q⟩
end
end EX

set_option Elab.async false
set_option linter.all false
set_option maxRecDepth 100000
set_option maxHeartbeats 4000000
namespace DL
open PySem PySem.Spec PyProof.Rows L2 RZ EX

/-! ### methods of texts with one argument -/
def mM1 (g : Str → D → Option D) (a b : M D) : M D := fun s z => (a s z).bind fun x z => match x with
  | .str x => (b s z).bind fun y z => mOpt (g x y) z
  | _ => .bad
def strsD : List D → Option (List Str)
  | [] => some []
  | .str x :: r => (strsD r).map fun xs => x :: xs
  | _ => none
theorem strs_reps {cl : Str → Option Addr} {F : Hp} : ∀ {ds : List D} {xs : List V} {ys : List Str}, Reps cl F ds xs → strsD ds = some ys → xs = ys.map V.str
  | [], xs, ys, h, e => by
    simp only [Reps] at h
    simp only [strsD, Option.some.injEq] at e
    subst e h
    rfl
  | d :: ds, xs, ys, h, e => by
    simp only [Reps] at h
    obtain ⟨y, zs, rfl, r, h⟩ := h
    cases d <;> simp only [strsD, reduceCtorEq, Option.map_eq_some_iff] at e
    obtain ⟨ys', e, rfl⟩ := e
    rw [strs_reps h e]
    simp only [Rep] at r
    subst r
    rfl
/-- the texts joined are not too long -/
def joinOk (a : Str) (ys : List Str) : Bool := decide ((ys.map (·.length)).sum + ys.length * a.length ≤ lim)
def dJoin (a : Str) : D → Option D
  | .lst ds => (strsD ds).bind fun ys => if joinOk a ys = true then some (.str (Txt.join a ys)) else none
  | .tup ds => (strsD ds).bind fun ys => if joinOk a ys = true then some (.str (Txt.join a ys)) else none
  | _ => none
def dSplit (a : Str) : D → Option D
  | .str b => if b.length ≠ 0 ∧ a.length + 2 ≤ lim then some (.lst ((Txt.split a b).map .str)) else none
  | _ => none
section
variable {X : Cx} {c : FC} {W : WX} {o e : Expr} {ma mb m : M D} {pos apos : Pos}
def R1D (c : FC) (g : Str → D → Option D) : V → List V → Hp → VK → Prop := fun x xs H Q => ∃ w σ a y dy d, x = .str a ∧ xs = [y] ∧ SR c w σ H ∧ RepT c w.F H dy y ∧ g a dy = some d ∧ Wt c σ w H d Q
theorem m1_to {g : Str → D → Option D} {r : V → List V → Hp → VK → Prop} {σ : L2.St} {H : Hp} {Q : VK} (hr : ∀ x xs H Q, R1D c g x xs H Q → r x xs H Q) (q : tF c W (mM1 g ma mb) σ H Q) : tM1 r (tF c W ma) (tV c W mb) σ H Q := by
  obtain ⟨w, s, q⟩ := q
  refine ⟨w, s, (Wnt.bind q).imp fun w1 H1 dx s1 q1 v r1 => ?_⟩
  cases dx with
  | str a =>
    refine ⟨⟨a, by simpa [Rep] using r1⟩, w1, s1.sr, ?_⟩
    rw [s1.sl]
    refine (Wnt.bind q1).imp fun w2 H2 dy s2 q2 u r2 => hr _ _ _ _ ?_
    obtain ⟨d, ed, q3⟩ := wnt_opt s2.sr q2
    exact ⟨w2, σ, a, u, dy, d, by simpa [Rep] using r1, rfl, s2.sr, r2, ed, q3⟩
  | _ => exact q1.elim
theorem df_join (ho : PE X o (tF c W ma)) (he : PE X e (tV c W mb)) (hs : starEach [e] X.env = [(false, eval e X.env)] := by rfl) (hbase : attributeBase o "join" X.env (eval o X.env) = eval o X.env := by rfl) (hline : (apos.endLine == pos.line) = true := by rfl) :
    PE X (.Call (.Attribute o "join" apos) [e] [] pos) (tF c W (mM1 dJoin ma mb)) := pe_imp (pe_join ho he hs hbase hline) fun _ _ _ q => m1_to (fun x xs H Q h => by
  obtain ⟨w, σ, a, y, dy, d, rfl, rfl, s, r, ed, q⟩ := h
  have lk : ∀ ys : List Str, joinOk a ys = true → (ys.map (·.length)).sum + ys.length * a.length ≤ 16777216 := fun ys z => by
    have := of_decide_eq_true z
    unfold lim at this
    omega
  unfold dJoin at ed
  split at ed
  · rw [Option.bind_eq_some_iff] at ed
    obtain ⟨ys, e1, e2⟩ := ed
    split at e2
    · rename_i hj
      cases e2
      obtain ⟨p, xs, rfl, h1, _, rr⟩ := r
      exact ⟨a, p, ys, rfl, rfl, .inl (by rw [← strs_reps rr e1]; exact SqL.of h1), lk ys hj, q.str s⟩
    · cases e2
  · rw [Option.bind_eq_some_iff] at ed
    obtain ⟨ys, e1, e2⟩ := ed
    split at e2
    · rename_i hj
      cases e2
      obtain ⟨p, xs, rfl, h1, _, rr⟩ := r
      exact ⟨a, p, ys, rfl, rfl, .inr (by rw [← strs_reps rr e1]; exact SqT.of h1.1), lk ys hj, q.str s⟩
    · cases e2
  · cases ed) q
theorem strs_to {cl : Str → Option Addr} {F : Hp} : ∀ ys : List Str, Reps cl F (ys.map D.str) (ys.map V.str)
  | [] => .nil
  | y :: ys => .cons (by simp [Rep]) (strs_to ys)
theorem df_split (ho : PE X o (tF c W ma)) (he : PE X e (tV c W mb)) (hs : starEach [e] X.env = [(false, eval e X.env)] := by rfl) (hbase : attributeBase o "split" X.env (eval o X.env) = eval o X.env := by rfl) (hline : (apos.endLine == pos.line) = true := by rfl) :
    PE X (.Call (.Attribute o "split" apos) [e] [] pos) (tF c W (mM1 dSplit ma mb)) := pe_imp (pe_split ho he hs hbase hline) fun _ _ _ q => m1_to (fun x xs H Q h => by
  obtain ⟨w, σ, a, y, dy, d, rfl, rfl, s, r, ed, q⟩ := h
  unfold dSplit at ed
  split at ed
  · split at ed
    · rename_i b hb
      cases ed
      exact ⟨a, b, rfl, by rw [r.str], by simpa using hb.1, lim_line hb.2, q.new s ⟨_, rfl, strs_to _⟩⟩
    · cases ed
  · cases ed) q

/-! ### dict(d), list(d) -/
def dDict1 : List D → Option D
  | [.dic kvs] => some (.dic kvs)
  | [.lst ds] => dDict [.lst ds]
  | _ => none
theorem c_dict1 (hc : X.calm = true) : CallR X (.type "dict") (C1D c dDict1) := by
  refine callR_imp (callR_or (c_dict (c := c) hc) (call_dictD (X := X))) fun xs H Q h => ?_
  obtain ⟨w, σ, ds, d, s, rs, e, q⟩ := h
  unfold dDict1 at e
  split at e
  · cases e
    obtain ⟨v, rfl, r⟩ := rs.one
    obtain ⟨p, ys, rfl, h1, _, rr⟩ := r
    exact .inr ⟨p, ys, rfl, h1, q.new s ⟨_, rfl, rr⟩⟩
  · exact .inl ⟨w, σ, _, d, s, rs, e, q⟩
  · cases e
theorem keysV_reps {cl : Str → Option Addr} {F : Hp} {kvs : List (Key × D)} {xs : List (Key × V)} (h : RepK cl F kvs xs) : Reps cl F (keyVs kvs) (xs.map fun kv => kV kv.1) := keys_reps h
def dList1 : List D → Option D
  | [.dic kvs] => some (.lst (keyVs kvs))
  | xs => dList xs
theorem c_list1 (hc : X.calm = true) : CallR X (.type "list") (C1D c dList1) := by
  refine callR_imp (callR_or (c_list (c := c)) (call_listD (X := X) hc)) fun xs H Q h => ?_
  obtain ⟨w, σ, ds, d, s, rs, e, q⟩ := h
  unfold dList1 at e
  split at e
  · cases e
    obtain ⟨v, rfl, r⟩ := rs.one
    obtain ⟨p, ys, rfl, h1, _, rr⟩ := r
    exact .inr ⟨p, ys, rfl, h1, q.new s ⟨_, rfl, keysV_reps rr⟩⟩
  · exact .inl ⟨w, σ, _, d, s, rs, e, q⟩
end
end DL

set_option Elab.async false
set_option linter.all false
set_option maxRecDepth 100000
set_option maxHeartbeats 6400000
namespace DL
open PySem PySem.Spec PyProof.Rows L2

/-! ### the unlike ones of a row, first met first -/
def dd1 {κ : Type} [DecidableEq κ] (acc : List κ) (k : κ) : List κ := if k ∈ acc then acc else acc ++ [k]
def ddL {κ : Type} [DecidableEq κ] (xs : List κ) : List κ := xs.foldl dd1 []
theorem dd1_mem {κ : Type} [DecidableEq κ] (acc : List κ) (k j : κ) : decide (j ∈ dd1 acc k) = (decide (j ∈ acc) || decide (j = k)) := by
  unfold dd1
  by_cases h : k ∈ acc
  · rw [if_pos h]
    by_cases e : j = k
    · subst e; simp [h]
    · simp [e]
  · rw [if_neg h]; simp
theorem dd1_len {κ : Type} [DecidableEq κ] (acc : List κ) (k : κ) : (dd1 acc k).length = if decide (k ∈ acc) = true then acc.length else acc.length + 1 := by
  unfold dd1
  by_cases h : k ∈ acc <;> simp [h]
theorem ddL_snoc {κ : Type} [DecidableEq κ] (xs : List κ) (k : κ) : ddL (xs ++ [k]) = dd1 (ddL xs) k := by
  unfold ddL; rw [List.foldl_append]; rfl
theorem ddL_le {κ : Type} [DecidableEq κ] (xs : List κ) : ∀ acc : List κ, (xs.foldl dd1 acc).length ≤ acc.length + xs.length := by
  induction xs with
  | nil => intro acc; simp
  | cons x xs ih =>
    intro acc
    have h1 := ih (dd1 acc x)
    have h2 := dd1_len acc x
    simp only [List.foldl_cons, List.length_cons]
    split at h2 <;> omega
theorem ddL_length {κ : Type} [DecidableEq κ] (xs : List κ) : (ddL xs).length ≤ xs.length := by have := ddL_le xs []; simpa [ddL] using this
theorem take_get {κ : Type} {xs : List κ} {i : Nat} {x : κ} (h : xs[i]? = some x) : xs.take (i + 1) = xs.take i ++ [x] := by
  rw [List.take_add_one, h]; rfl
abbrev memB {κ : Type} [DecidableEq κ] (l : List κ) : κ → Bool := fun j => decide (j ∈ l)
/-- a value is a key of the kind, of which a set asks nothing more -/
def IsKey {P : Program} {w : World} {κ : Type} [DecidableEq κ] (knd : PySem.KeyKind P w κ) (k : κ) (v : Value) : Prop := knd.is k v = true ∧ v.scannable = true
def KeysAre {P : Program} {w : World} {κ : Type} [DecidableEq κ] (knd : PySem.KeyKind P w κ) (ks : List κ) (vs : List Value) : Prop := ∀ (i : Nat) (v : Value), vs[i]? = some v → ∃ k, ks[i]? = some k ∧ IsKey knd k v
section
variable {prog : Program} {w : World} {A : Around} {R : Result → Shared → Prop} {I : Addr} {fp wr : List Addr} {G : Array GenState → Array GenState → Prop} {n : Nat} {P : Nat → Value → Prop} {St : Nat → Shared → Prop} {κ : Type} [DecidableEq κ]
theorem set_loop (knd : PySem.KeyKind prog w κ) (Wk : WalksS prog w A.in1 I fp wr G n P St) (S : Addr) (hSf : S ∉ fp) (ks : List κ) (hval : ∀ i v, P i v → ∃ k, ks[i]? = some k ∧ IsKey knd k v) (hb : n + 1 < scanBound)
    (hR : ∀ s0 s', Moved (S :: wr) G s0 s' → s'.heap.SetOf knd S (fun j => decide (j ∈ ddL (ks.take n))) (ddL (ks.take n)).length → R (.ok (.ret .none)) s' ∨ True) :
    ∀ (k i : Nat) (s : Shared), n - i = k → i ≤ n → St i s → s.heap.SetOf knd S (fun j => decide (j ∈ ddL (ks.take i))) (ddL (ks.take i)).length →
      (∀ s', Moved (S :: wr) G s s' → s'.heap.SetOf knd S (fun j => decide (j ∈ ddL (ks.take n))) (ddL (ks.take n)).length → R (.ok (.ret .none)) s') →
      codeAny (model prog w) A (.builtin "set.update.loop" ⟨[.ref S, .ref I], []⟩) R s := by
  have nw : S ∉ wr := fun h => hSf (Wk.sub _ h)
  have sub : ∀ b ∈ wr, b ∈ S :: wr := fun b q => List.mem_cons_of_mem _ q
  have at2 : ∀ {h h' : Heap} {f : κ → Bool} {m : Nat}, (∀ o, h.get? S = some o → h'.get? S = some o) → h.SetOf knd S f m → h'.SetOf knd S f m := fun {h h' f m} q ⟨o, es, ep, t, ho, r⟩ => ⟨o, es, ep, t, q o ho, r⟩
  intro k
  induction k with
  | zero =>
    intro i s hk hi hst hS hR
    have ein : i = n := by omega
    subst ein
    refine codeAny_builtin PyProof.Rows.F.entry_set_update_loop ?_
    rw [Around.under_plainId PyProof.Rows.F.plain_set_update_loop _]
    show wpAny _ A.in1 (pyNext (.ref I) >>= _) _ _ s
    refine wpAny_bind (Wk.done s _ _ hst fun s' hm => ?_)
    show wpAny _ A.in1 (ret Value.none) _ _ s'
    exact wpAny_pure (hR s' (hm.mono sub) (at2 (hm.heap S · nw) hS))
  | succ k ih =>
    intro i s hk hi hst hS hR
    have lt : i < n := by omega
    refine codeAny_builtin PyProof.Rows.F.entry_set_update_loop ?_
    rw [Around.under_plainId PyProof.Rows.F.plain_set_update_loop _]
    show wpAny _ A.in1 (pyNext (.ref I) >>= _) _ _ s
    refine wpAny_bind (Wk.item i s _ _ lt hst fun v s' hP hst' hm => ?_)
    obtain ⟨x, hx, hxv, hsc⟩ := hval i v hP
    have hS' := at2 (hm.heap S · nw) hS
    show wpAny _ A.in1 (holding [v] (setAdd S v) >>= _) _ _ s'
    refine wpAny_bind (wpAny_holding ?_)
    unfold setAdd
    refine wpAny_holding (wpAny_bind (knd.pyHash (k := x) hxv ?_))
    have room : (ddL (ks.take i)).length + 1 < scanBound := by
      have := ddL_length (ks.take i)
      rw [List.length_take] at this
      omega
    refine wpAny_setAddHashed_of (knd := knd) (s := { s' with toks := s'.toks + 1 }) hxv hsc hS' room fun h' sb h2 => ?_
    have h3 : h'.SetOf knd S (fun j => decide (j ∈ ddL (ks.take (i + 1)))) (ddL (ks.take (i + 1))).length :=
      SetOf_congr h2 (fun j => by rw [take_get hx, ddL_snoc, dd1_mem]) (by rw [take_get hx, ddL_snoc, dd1_len])
    refine wpAny_pure ⟨plainId_quiet PyProof.Rows.F.plain_set_update_loop _, ih (i + 1) _ (by omega) lt (Wk.frame _ s' _ _ hst' (Nat.le_succ _) fun b q o e => ?_) h3 fun s2 m2 q2 => ?_⟩
    · rw [sb.2 b fun z : b = S => hSf (z ▸ q)]; exact e
    · refine hR s2 (Moved.trans Wk.gtrans ((hm.mono sub).then_heap (Nat.le_succ _) fun b o q e => ?_) m2) q2
      rw [sb.2 b fun z : b = S => q (by rw [z]; exact List.mem_cons_self)]; exact e
end
/-! ### set(xs) -/
section
variable {prog : Program} {w : World} {A : Around} {E : Value → Shared → Prop} {s : Shared} {κ : Type} [DecidableEq κ]
/-- the new set's object -/
abbrev nso (led : Bool) : Obj := { cls := .type "set", dict := none, data := .set #[] 0 (.fresh 0 0 led) }
theorem call_set_list (knd : PySem.KeyKind prog w κ) {l : Addr} {items : Array Value} {ks : List κ} {Q : Value → Shared → Prop} (hh : A.handled = none) (hl : s.heap.IsList l items) (hi : KeysAre knd ks items.toList) (hn : ks.length = items.size) (hb : items.size + 1 < scanBound)
    (h : ∀ (h' : Heap) (tk : Nat), h'.SetOf knd s.heap.objs.size (fun j => decide (j ∈ ddL ks)) (ddL ks).length → (∀ b o, b < s.heap.objs.size → s.heap.get? b = some o → h'.get? b = some o) → Q (.ref s.heap.objs.size) { s with heap := h', toks := tk }) :
    wpAny (model prog w) A (call (.type "set") [.ref l]) Q E s := by
  obtain ⟨c, tl, hmro⟩ := PySem.F.called_set.mro
  have made := PySem.F.called_set.made
  have sub := PySem.F.called_set.sub
  refine wpAny_call (codeAny_of_tree ?_)
  show wpAny _ _ (callAny (.type "set") _) _ _ _
  refine wpAny_pure ⟨Code.quiet_builtin _ (by decide +kernel), codeAny_builtin PySem.F.entry_type_call ?_⟩
  rw [Around.under_plain (weight_type_call_type "set" [.ref l] []) rfl]
  have k1 := PySem.F.called_set.notType
  have k2 := PySem.F.called_set.canCreate
  have k3 := PySem.F.typeCall_set_1 (.ref l)
  repeat (any_goals (first | assumption | wp_step))
  refine codeAny_mono (code_set_new_1 (.ref l) (E := E) (Q₁ := fun obj s₁ => ∃ led : Bool, obj = .ref s.heap.objs.size ∧ s₁ = { s with heap := s.heap.push (nso led) }) fun led => ⟨led, rfl, rfl⟩) fun r s₁ hr => ?_
  cases r with
  | error e => exact hr
  | ok fl =>
    cases fl with
    | ret obj =>
      obtain ⟨led, rfl, rfl⟩ := hr
      have new : (s.heap.push (nso led)).get? s.heap.objs.size = some (nso led) := Heap.get?_push_size _ rfl
      have typ : Shared.TypeIs { s with heap := s.heap.push (nso led) } (.ref s.heap.objs.size) "set" := ⟨_, new, rfl⟩
      have k4 := PySem.F.called_set.init.lookup
      have k5 := PySem.F.called_set.init.bind (.ref s.heap.objs.size)
      repeat (any_goals (first | assumption | wp_step))
      refine codeAny_mono (codeAny_call_builtin (R := wants (fun r s₂ => r = .none ∧ ∃ h' tk, s₂ = { s with heap := h', toks := tk } ∧ h'.SetOf knd s.heap.objs.size (fun j => decide (j ∈ ddL ks)) (ddL ks).length ∧ (∀ b o, b < s.heap.objs.size → s.heap.get? b = some o → h'.get? b = some o)) E)
        PySem.F.called_set.init.plain PySem.F.entry_set_init (check_set_init_1 typ ?_)) fun r₂ s₂ hr₂ => ?_
      · obtain ⟨⟨ocls, odict, odata, oslots⟩, hol, hcl, nl, hdl⟩ := hl
        simp only at hcl hdl
        subst hcl hdl
        have k6 : (s.heap.push (nso led)).get? l = some { cls := .type "list", dict := odict, data := .seq items nl, slots := oslots } := Heap.get?_push_of_some _ hol
        have k7 := PySem.F.sub_list_set
        have k8 := PySem.F.sub_list_frozenset
        have k9 : (Value.type "list" == Value.type "dict") = false := by decide
        have hl1 : (s.heap.push (nso led)).IsList l items := ⟨_, k6, rfl, nl, rfl⟩
        unfold Builtin.«set.__init__» noKeywords Builtin.Frozenset.updateFrom
        generalize hPI : pyIter = PI
        wp_walk
        subst hPI
        refine wpAny_pyIter_list hl1 (wpAny_bind (wpAny_runValue ?_))
        have ls : l < s.heap.objs.size := Heap.lt_size hol
        have free : A.in1.in1.in1.handled = none := by simp [hh]
        have apart : l ≠ (s.heap.push (nso led)).objs.size := by
          rw [Heap.size_push]; exact Nat.ne_of_lt (Nat.lt_succ_of_lt ls)
        have off : s.heap.objs.size ∉ [(s.heap.push (nso led)).objs.size, l] := by
          rw [Heap.size_push]; simp only [List.mem_cons, List.mem_singleton, List.not_mem_nil, or_false, not_or]
          exact ⟨Nat.ne_of_lt (Nat.lt_succ_self _), Nat.ne_of_gt ls⟩
        have tk : ks.take items.size = ks := List.take_of_length_le (by omega)
        refine set_loop knd ((Walks.list free _ l apart items).toS) s.heap.objs.size off ks (fun i v hv => hi i v (by rw [Array.getElem?_toList]; exact hv)) hb (fun _ _ _ _ => .inr trivial) (items.size - 0) 0 _ (by omega) (Nat.zero_le _)
          ⟨⟨_, Heap.get?_push_size _ rfl, rfl, rfl⟩, (hl1.push _)⟩ ?hS0 ?hR
        case hS0 =>
          have g : ((s.heap.push (nso led)).push { cls := .type "list_iterator", data := .fields #[.ref l, .int 0 0] }).get? s.heap.objs.size = some (nso led) := Heap.get?_push_of_some _ new
          exact SetOf_congr ((setObjOf_fresh (knd := knd) led).setOf g (by unfold scanBound; omega)) (fun _ => by simp [ddL]) rfl
        case hR =>
          intro s' hm hS'
          rw [tk] at hS'
          obtain ⟨h', g', d', tk', os'⟩ := s'
          obtain rfl : g' = s.gens := hm.gens
          obtain rfl : d' = s.drawn := hm.drawn
          obtain rfl : os' = s.os := hm.os
          show wpAny _ _ _ _ _ _
          refine wpAny_pure ?_
          show wpAny _ _ (ret Value.none) _ _ _
          refine wpAny_pure ⟨rfl, h', tk', rfl, hS', fun b o lb e => ?_⟩
          refine hm.heap b o ?_ (Heap.get?_push_of_some _ (Heap.get?_push_of_some _ e))
          simp only [List.mem_cons, List.mem_singleton, List.not_mem_nil, or_false, not_or]
          rw [Heap.size_push]
          exact ⟨Nat.ne_of_lt lb, Nat.ne_of_lt (Nat.lt_succ_of_lt lb)⟩
      · cases r₂ with
        | error e => exact hr₂
        | ok fl₂ =>
          cases fl₂ with
          | ret r =>
            obtain ⟨rfl, h', tk, rfl, hS', hk'⟩ := hr₂
            repeat (any_goals (first | assumption | wp_step))
            exact h _ _ hS' hk'
          | _ => exact hr₂.elim
    | _ => exact hr.elim
theorem call_set_tuple (knd : PySem.KeyKind prog w κ) {l : Addr} {items : Array Value} {ks : List κ} {Q : Value → Shared → Prop} (hh : A.handled = none) (hl : s.heap.IsTuple l items) (hi : KeysAre knd ks items.toList) (hn : ks.length = items.size) (hb : items.size + 1 < scanBound)
    (h : ∀ (h' : Heap) (tk : Nat), h'.SetOf knd s.heap.objs.size (fun j => decide (j ∈ ddL ks)) (ddL ks).length → (∀ b o, b < s.heap.objs.size → s.heap.get? b = some o → h'.get? b = some o) → Q (.ref s.heap.objs.size) { s with heap := h', toks := tk }) :
    wpAny (model prog w) A (call (.type "set") [.ref l]) Q E s := by
  obtain ⟨c, tl, hmro⟩ := PySem.F.called_set.mro
  have made := PySem.F.called_set.made
  have sub := PySem.F.called_set.sub
  refine wpAny_call (codeAny_of_tree ?_)
  show wpAny _ _ (callAny (.type "set") _) _ _ _
  refine wpAny_pure ⟨Code.quiet_builtin _ (by decide +kernel), codeAny_builtin PySem.F.entry_type_call ?_⟩
  rw [Around.under_plain (weight_type_call_type "set" [.ref l] []) rfl]
  have k1 := PySem.F.called_set.notType
  have k2 := PySem.F.called_set.canCreate
  have k3 := PySem.F.typeCall_set_1 (.ref l)
  repeat (any_goals (first | assumption | wp_step))
  refine codeAny_mono (code_set_new_1 (.ref l) (E := E) (Q₁ := fun obj s₁ => ∃ led : Bool, obj = .ref s.heap.objs.size ∧ s₁ = { s with heap := s.heap.push (nso led) }) fun led => ⟨led, rfl, rfl⟩) fun r s₁ hr => ?_
  cases r with
  | error e => exact hr
  | ok fl =>
    cases fl with
    | ret obj =>
      obtain ⟨led, rfl, rfl⟩ := hr
      have new : (s.heap.push (nso led)).get? s.heap.objs.size = some (nso led) := Heap.get?_push_size _ rfl
      have typ : Shared.TypeIs { s with heap := s.heap.push (nso led) } (.ref s.heap.objs.size) "set" := ⟨_, new, rfl⟩
      have k4 := PySem.F.called_set.init.lookup
      have k5 := PySem.F.called_set.init.bind (.ref s.heap.objs.size)
      repeat (any_goals (first | assumption | wp_step))
      refine codeAny_mono (codeAny_call_builtin (R := wants (fun r s₂ => r = .none ∧ ∃ h' tk, s₂ = { s with heap := h', toks := tk } ∧ h'.SetOf knd s.heap.objs.size (fun j => decide (j ∈ ddL ks)) (ddL ks).length ∧ (∀ b o, b < s.heap.objs.size → s.heap.get? b = some o → h'.get? b = some o)) E)
        PySem.F.called_set.init.plain PySem.F.entry_set_init (check_set_init_1 typ ?_)) fun r₂ s₂ hr₂ => ?_
      · obtain ⟨⟨ocls, odict, odata, oslots⟩, hol, hcl, nl, hdl⟩ := hl
        simp only at hcl hdl
        subst hcl hdl
        have k6 : (s.heap.push (nso led)).get? l = some { cls := .type "tuple", dict := odict, data := .seq items nl, slots := oslots } := Heap.get?_push_of_some _ hol
        have k7 := PySem.F.sub_tuple_set
        have k8 := PySem.F.sub_tuple_frozenset
        have k9 : (Value.type "tuple" == Value.type "dict") = false := by decide
        have hl1 : (s.heap.push (nso led)).IsTuple l items := ⟨_, k6, rfl, nl, rfl⟩
        unfold Builtin.«set.__init__» noKeywords Builtin.Frozenset.updateFrom
        generalize hPI : pyIter = PI
        wp_walk
        subst hPI
        refine wpAny_pyIter_tuple hl1 (wpAny_bind (wpAny_runValue ?_))
        have ls : l < s.heap.objs.size := Heap.lt_size hol
        have free : A.in1.in1.in1.handled = none := by simp [hh]
        have apart : l ≠ (s.heap.push (nso led)).objs.size := by
          rw [Heap.size_push]; exact Nat.ne_of_lt (Nat.lt_succ_of_lt ls)
        have off : s.heap.objs.size ∉ [(s.heap.push (nso led)).objs.size, l] := by
          rw [Heap.size_push]; simp only [List.mem_cons, List.mem_singleton, List.not_mem_nil, or_false, not_or]
          exact ⟨Nat.ne_of_lt (Nat.lt_succ_self _), Nat.ne_of_gt ls⟩
        have tk : ks.take items.size = ks := List.take_of_length_le (by omega)
        refine set_loop knd ((Walks.tuple free _ l apart items).toS) s.heap.objs.size off ks (fun i v hv => hi i v (by rw [Array.getElem?_toList]; exact hv)) hb (fun _ _ _ _ => .inr trivial) (items.size - 0) 0 _ (by omega) (Nat.zero_le _)
          ⟨⟨_, Heap.get?_push_size _ rfl, rfl, rfl⟩, (hl1.push _)⟩ ?hS0 ?hR
        case hS0 =>
          have g : ((s.heap.push (nso led)).push { cls := .type "tuple_iterator", data := .fields #[.ref l, .int 0 0] }).get? s.heap.objs.size = some (nso led) := Heap.get?_push_of_some _ new
          exact SetOf_congr ((setObjOf_fresh (knd := knd) led).setOf g (by unfold scanBound; omega)) (fun _ => by simp [ddL]) rfl
        case hR =>
          intro s' hm hS'
          rw [tk] at hS'
          obtain ⟨h', g', d', tk', os'⟩ := s'
          obtain rfl : g' = s.gens := hm.gens
          obtain rfl : d' = s.drawn := hm.drawn
          obtain rfl : os' = s.os := hm.os
          show wpAny _ _ _ _ _ _
          refine wpAny_pure ?_
          show wpAny _ _ (ret Value.none) _ _ _
          refine wpAny_pure ⟨rfl, h', tk', rfl, hS', fun b o lb e => ?_⟩
          refine hm.heap b o ?_ (Heap.get?_push_of_some _ (Heap.get?_push_of_some _ e))
          simp only [List.mem_cons, List.mem_singleton, List.not_mem_nil, or_false, not_or]
          rw [Heap.size_push]
          exact ⟨Nat.ne_of_lt lb, Nat.ne_of_lt (Nat.lt_succ_of_lt lb)⟩
      · cases r₂ with
        | error e => exact hr₂
        | ok fl₂ =>
          cases fl₂ with
          | ret r =>
            obtain ⟨rfl, h', tk, rfl, hS', hk'⟩ := hr₂
            repeat (any_goals (first | assumption | wp_step))
            exact h _ _ hS' hk'
          | _ => exact hr₂.elim
    | _ => exact hr.elim
end
/-! ### len(set(xs)) -/
def keysD : List D → Option (List Key)
  | [] => some []
  | d :: r => match keyD d, keysD r with
    | some k, some ks => some (k :: ks)
    | _, _ => none
def dLenSet : D → Option D
  | .lst ds => (keysD ds).bind fun ks => if ks.length < 4000 then some (.int (ddL ks).length) else none
  | .tup ds => (keysD ds).bind fun ks => if ks.length < 4000 then some (.int (ddL ks).length) else none
  | .str x => if x.length < 4000 then some (.int (ddL ((signs x).map fun d => match d with | .str y => y | _ => Str.empty)).length) else none
  | _ => none
def mLenSet (m : M D) : M D := fun s z => (m s z).bind fun d z => match d with
  | .str _ => .bad
  | d => mOpt (dLenSet d) z
theorem keys_kV {c : FC} {F H : Hp} : ∀ {ds : List D} {xs : List V} {ks : List Key}, Reps c.cl F ds xs → keysD ds = some ks → xs = ks.map kV
  | [], xs, ks, h, e => by
    simp only [Reps] at h
    cases e
    exact h
  | d :: ds, xs, ks, h, e => by
    simp only [Reps] at h
    obtain ⟨y, ys, rfl, r, h⟩ := h
    unfold keysD at e
    split at e
    · rename_i k kr ek er
      cases e
      rw [keys_kV (c := c) (H := H) h er]
      have : y = kV k := keyD_rep (c := c) (F := F) (H := H) ek (by cases d <;> first | exact r | cases ek)
      rw [this]; rfl
    · cases e
theorem keysAre_of {P : Program} {w : World} : ∀ {ks : List Key} {us : List Value}, Vals (ks.map kV) us → KeysAre (mixKind P w) ks us := fun {ks us} h i v e => by
  have hl := h.length
  have hi : i < ks.length := by
    have := (List.getElem?_eq_some_iff.mp e).1
    rw [← hl, List.length_map] at this
    exact this
  obtain ⟨u, hu, r⟩ := h.get (i := i) (x := kV ks[i]) (by simp [hi])
  rw [e] at hu
  cases hu
  exact ⟨ks[i], List.getElem?_eq_getElem hi, kV_is r, key_scan r⟩
section
variable {X : Cx} {c : FC} {W : WX} {a : Expr} {m : M D} {p p2 q pos : Pos}
def tLenSetK (K : PySem.W.Frag) (ta : TE) : TE := fun σ H Q => ta σ H fun x H1 => ∃ (l : Addr) (ks : List Key), x = .ref l ∧ (SqL K H1 l (ks.map kV) ∨ SqT K H1 l (ks.map kV)) ∧ ks.length < 4000 ∧ Q (.int (ddL ks).length) H1
theorem pe_lenSetK {ta : TE} (hc : X.calm = true) (hg : Gl X "len") (hm : X.mg "len" = none) (hg2 : Gl X "set") (hm2 : X.mg "set" = none) (ha : PE X a ta) (na : starEach [a] X.env = (false, eval a X.env) :: starEach [] X.env := by rfl) :
    PE X (.Call (.Name "len" p) [.Call (.Name "set" p2) [a] [] q] [] pos) (tLenSetK X.K ta) := by
  refine ⟨fun pins s σ H Q I h => Call_ (ld_blt I hg hm boot_len ?_)⟩
  refine PyProof.Rows.callWith_builtin1 (PyProof.Rows.args_cons ?_ rfl) rfl rfl
  refine Call_ (ld_blt I hg2 hm2 boot_set ?_)
  refine PyProof.Rows.callWith_type1 (PyProof.Rows.args_cons (thn (ha.run pins s σ H _ I h) fun v s1 ⟨x, H1, I1, r1, q1⟩ => PyProof.Rows.args_nil ?_) na) na rfl
  obtain ⟨l, ks, rfl, hq, h1, q1⟩ := q1
  cases r1
  have fin : ∀ (h' : Heap) (tk : Nat), h'.SetOf (mixKind X.prog X.w) s1.heap.objs.size (memB (ddL ks)) (ddL ks).length → (∀ b o, b < s1.heap.objs.size → s1.heap.get? b = some o → h'.get? b = some o) →
      wpAny (model X.prog X.w) X.A (spliced (backTo pos (starEach [] X.env))) (fun vs s₂ => wpAny (model X.prog X.w) X.A (call (.builtin "len") (Value.ref s1.heap.objs.size :: vs)) (EP X pins σ Q) X.xe s₂) X.xe { s1 with heap := h', toks := tk } := fun h' tk hS hk => by
    refine PyProof.Rows.args_nil ?_
    obtain ⟨o, es, ep, t, ho, hex, hd, _, _, _, hf, hn⟩ := hS
    have I2 : Inv X pins σ H1 { s1 with heap := h', toks := tk } := I1.kept fun b o e => hk b o (Heap.lt_size e) e
    have hl := ddL_length ks
    refine call_len_set ho hex hd hf (by rw [hn] <;> omega) ⟨.int (ddL ks).length, H1, I2.tok _, ⟨_, by rw [hn]⟩, q1⟩
  have sz : ∀ {us : List Value}, Vals (ks.map kV) us → ks.length = us.toArray.size := fun {us} r => by rw [List.size_toArray, ← r.length, List.length_map]
  rcases hq with hq | hq
  · obtain ⟨its, r, pl, hz⟩ := I1.list hq
    exact call_set_list (mixKind X.prog X.w) (I1.ok.hd hc) pl.isList (keysAre_of (by simpa using r)) (sz r) (by rw [← sz r]; unfold scanBound; omega) fin
  · obtain ⟨its, r, pl, hz⟩ := I1.tuple hq
    exact call_set_tuple (mixKind X.prog X.w) (I1.ok.hd hc) pl (keysAre_of (by simpa using r)) (sz r) (by rw [← sz r]; unfold scanBound; omega) fin
theorem df_lenSet (hc : X.calm = true) (hg : Gl X "len") (hm : X.mg "len" = none) (hg2 : Gl X "set") (hm2 : X.mg "set" = none) (ha : PE X a (tV c W m)) (na : starEach [a] X.env = (false, eval a X.env) :: starEach [] X.env := by rfl) :
    PE X (.Call (.Name "len" p) [.Call (.Name "set" p2) [a] [] q] [] pos) (tF c W (mLenSet m)) := pe_imp (pe_lenSetK hc hg hm hg2 hm2 ha na) fun σ H Q ⟨w, s, q⟩ => ⟨w, s, (Wnt.bind q).imp fun w1 H1 d s1 q1 v r => by
  have key : ∀ d, (∀ x, d ≠ .str x) → RepT c w1.F H1 d v → Wnt c W σ w1 H1 (fun w' H' d => ∀ v, Rep c.cl w'.F d v → Q v H') (mOpt (dLenSet d) w1.z) → ∃ (l : Addr) (ks : List Key), v = .ref l ∧ (SqL X.K H1 l (ks.map kV) ∨ SqT X.K H1 l (ks.map kV)) ∧ ks.length < 4000 ∧ Q (.int (ddL ks).length) H1 := fun d hd r q => by
    obtain ⟨d', e, q⟩ := wnt_opt s1.sr q
    unfold dLenSet at e
    split at e
    · rw [Option.bind_eq_some_iff] at e
      obtain ⟨ks, e1, e2⟩ := e
      split at e2
      · rename_i hl
        cases e2
        obtain ⟨l, xs, rfl, h1, _, rr⟩ := r
        exact ⟨l, ks, rfl, .inl (by rw [← keys_kV (c := c) (H := H1) rr e1]; exact SqL.of h1), hl, q.int s1.sr⟩
      · cases e2
    · rw [Option.bind_eq_some_iff] at e
      obtain ⟨ks, e1, e2⟩ := e
      split at e2
      · rename_i hl
        cases e2
        obtain ⟨l, xs, rfl, h1, _, rr⟩ := r
        exact ⟨l, ks, rfl, .inr (by rw [← keys_kV (c := c) (H := H1) rr e1]; exact SqT.of h1.1), hl, q.int s1.sr⟩
      · cases e2
    · exact absurd rfl (hd _)
    · cases e
  cases d <;> first
    | exact False.elim q1
    | exact key _ (fun x z => by cases z) r q1⟩
end
end DL

set_option Elab.async false
set_option linter.all false
set_option maxRecDepth 100000
set_option maxHeartbeats 4000000
namespace DL
open PySem PySem.Spec PyProof.Rows L2 RZ EX

/-! ### a dict under a lock -/
section
variable {c : FC} {w : Wd} {σ : L2.St} {H : Hp} {a : Addr} {o : Obj} {xs : List (Key × V)}
theorem ne_kind {H : Hp} {a b : Addr} {u v : HO} (h1 : H a = some u) (h2 : H b = some v) (n : u ≠ v) : a ≠ b := fun e => by
  subst e
  rw [h1] at h2
  exact n (Option.some.inj h2)
theorem SR.lock (s : SR c w σ H) (hF : w.F a = some (.dK xs)) (hH : H a = some (.dK xs)) : SR c { w with lk := (a, o) :: w.lk } σ (upd H a (.frz o (.dK xs))) where
  sub := fun b u h => by
    have h : w.F b = some u := h
    by_cases e : b = a
    · subst e
      rw [hF] at h
      cases h
      exact .inr ⟨⟨xs, rfl⟩, o, upd_same⟩
    · rcases s.sub b u h with q | ⟨d, ob, q⟩
      · exact .inl (by rw [upd_ne e]; exact q)
      · exact .inr ⟨d, ob, by rw [upd_ne e]; exact q⟩
  keep := fun b ob h n => by
    by_cases e : b = a
    · subst e
      rcases s.keep b ob h n with q | ⟨o2, _, q⟩
      · rw [hH] at q
        cases q
        exact .inr ⟨o, List.mem_cons_self, upd_same⟩
      · rw [hH] at q
        cases q
    · rcases s.keep b ob h n with q | ⟨o2, m, q⟩
      · exact .inl (by rw [upd_ne e]; exact q)
      · exact .inr ⟨o2, List.mem_cons_of_mem _ m, by rw [upd_ne e]; exact q⟩
  slots := fun i x h => by
    have q := s.slots i x h
    cases x with
    | none => trivial
    | sh d => exact q
    | own d =>
      obtain ⟨b, q1, q2, q3, q4⟩ := q
      have ne : b ≠ a := fun e => by rw [e, hF] at q3; cases q3
      exact ⟨b, q1, OwnR.le (Le.refl _) (fun u h => by rw [upd_ne ne]; exact h) q2, q3, q4⟩
    | strm => exact q
    | slf cn fs =>
      obtain ⟨b, dx, C, gs, q1, q2, q3, q4, q5, q6⟩ := q
      exact ⟨b, dx, C, gs, q1, q2, q3, by rw [upd_ne (ne_kind q4 hH (fun z => by cases z))]; exact q4, by rw [upd_ne (ne_kind q5 hH (fun z => by cases z))]; exact q5, q6⟩
    | xcp cn fs => exact q
  dist := s.dist
  fmut := s.fmut
  chgd := fun b m => by
    obtain ⟨u, h⟩ := s.chgd b m
    by_cases e : b = a
    · exact ⟨_, by rw [e]; exact upd_same⟩
    · exact ⟨u, by rw [upd_ne e]; exact h⟩
  strm := fun sa la e => by
    obtain ⟨⟨h1, h2⟩, h3⟩ := s.strm sa la e
    exact ⟨⟨by rw [upd_ne (ne_kind h1 hH (fun z => by cases z))]; exact h1, by rw [upd_ne (ne_kind h2 hH (fun z => by cases z))]; exact h2⟩, h3⟩
  fz0 := s.fz0
  len := s.len
  lkd := fun p hp => by
    rcases List.mem_cons.mp hp with rfl | hp
    · exact ⟨_, hF, ⟨xs, rfl⟩, upd_same⟩
    · obtain ⟨u, e1, e2, e3⟩ := s.lkd p hp
      exact ⟨u, e1, e2, by rw [upd_ne (ne_kind e3 hH (fun z => by cases z))]; exact e3⟩
  lks := fun b u ob h d e => by
    by_cases z : b = a
    · subst z
      rw [upd_same] at e
      cases e
      exact List.mem_cons_self
    · rw [upd_ne z] at e
      exact List.mem_cons_of_mem _ (s.lks b u ob h d e)
theorem SR.unlock {lk0 : List (Addr × Obj)} (s : SR c w σ H) (hk : w.lk = (a, o) :: lk0) (hF : w.F a = some (.dK xs)) (hn : ∀ o', (a, o') ∉ lk0) (h0 : ∀ ob, c.H0 a = some ob → a ∉ c.chg → ob = .dK xs) : H a = some (.frz o (.dK xs)) ∧ SR c { w with lk := lk0 } σ (upd H a (.dK xs)) := by
  have hH : H a = some (.frz o (.dK xs)) := by
    obtain ⟨u, e1, e2, e3⟩ := s.lkd (a, o) (by rw [hk]; exact List.mem_cons_self)
    rw [hF] at e1
    cases e1
    exact e3
  refine ⟨hH, fun b u h => ?_, fun b ob h n => ?_, fun i x h => ?_, s.dist, s.fmut, fun b m => ?_, fun sa la e => ?_, s.fz0, s.len, fun p hp => ?_, fun b u ob h d e => ?_⟩
  · have h : w.F b = some u := h
    by_cases e : b = a
    · subst e
      rw [hF] at h
      cases h
      exact .inl upd_same
    · rcases s.sub b u h with q | ⟨d, ob, q⟩
      · exact .inl (by rw [upd_ne e]; exact q)
      · exact .inr ⟨d, ob, by rw [upd_ne e]; exact q⟩
  · by_cases e : b = a
    · subst e
      rcases s.keep b ob h n with q | ⟨o2, m, q⟩
      · rw [hH] at q
        have := h0 ob h n
        rw [this] at q
        cases q
      · rw [hH] at q
        cases q
        exact .inl upd_same
    · rcases s.keep b ob h n with q | ⟨o2, m, q⟩
      · exact .inl (by rw [upd_ne e]; exact q)
      · rw [hk] at m
        rcases List.mem_cons.mp m with z | m
        · cases z
          exact absurd rfl e
        · exact .inr ⟨o2, m, by rw [upd_ne e]; exact q⟩
  · have q := s.slots i x h
    cases x with
    | none => trivial
    | sh d => exact q
    | own d =>
      obtain ⟨b, q1, q2, q3, q4⟩ := q
      have ne : b ≠ a := fun e => by rw [e, hF] at q3; cases q3
      exact ⟨b, q1, OwnR.le (Le.refl _) (fun u h => by rw [upd_ne ne]; exact h) q2, q3, q4⟩
    | strm => exact q
    | slf cn fs =>
      obtain ⟨b, dx, C, gs, q1, q2, q3, q4, q5, q6⟩ := q
      exact ⟨b, dx, C, gs, q1, q2, q3, by rw [upd_ne (ne_kind q4 hH (fun z => by cases z))]; exact q4, by rw [upd_ne (ne_kind q5 hH (fun z => by cases z))]; exact q5, q6⟩
    | xcp cn fs => exact q
  · obtain ⟨u, h⟩ := s.chgd b m
    by_cases e : b = a
    · exact ⟨_, by rw [e]; exact upd_same⟩
    · exact ⟨u, by rw [upd_ne e]; exact h⟩
  · obtain ⟨⟨h1, h2⟩, h3⟩ := s.strm sa la e
    exact ⟨⟨by rw [upd_ne (ne_kind h1 hH (fun z => by cases z))]; exact h1, by rw [upd_ne (ne_kind h2 hH (fun z => by cases z))]; exact h2⟩, h3⟩
  · have hp : p ∈ lk0 := hp
    obtain ⟨u, e1, e2, e3⟩ := s.lkd p (by rw [hk]; exact List.mem_cons_of_mem _ hp)
    have ne : p.1 ≠ a := fun z => hn p.2 (by rw [← z]; exact hp)
    exact ⟨u, e1, e2, by rw [upd_ne ne]; exact e3⟩
  · by_cases z : b = a
    · subst z
      rw [upd_same] at e
      cases e
    · rw [upd_ne z] at e
      have m := s.lks b u ob h d e
      rw [hk] at m
      rcases List.mem_cons.mp m with q | q
      · cases q
        exact absurd rfl z
      · exact q
end
/-- the world while a dict is locked -/
structure Lkd (c : FC) (σ : L2.St) (w : Wd) (H : Hp) (a : Addr) (xs : List (Key × V)) : Prop where
  s : SR c w σ H
  f : w.F a = some (.dK xs)
  h : H a = some (.dK xs)
abbrev lkW (w : Wd) (a : Addr) (o : Obj) : Wd := { w with lk := (a, o) :: w.lk }
abbrev lkH (H : Hp) (a : Addr) (o : Obj) (xs : List (Key × V)) : Hp := upd H a (.frz o (.dK xs))
theorem lkH_ne {H : Hp} {a b : Addr} {o : Obj} {xs : List (Key × V)} (n : b ≠ a) : lkH H a o xs b = H b := upd_ne n
theorem lkH_same {H : Hp} {a : Addr} {o : Obj} {xs : List (Key × V)} : lkH H a o xs a = some (.frz o (.dK xs)) := upd_same
section
variable {c : FC} {w : Wd} {σ : L2.St} {H : Hp} {a : Addr} {o : Obj} {xs : List (Key × V)}
theorem Lkd.h0 (k : Lkd c σ w H a xs) : ∀ ob, c.H0 a = some ob → a ∉ c.chg → ob = .dK xs := fun ob h n => by
  rcases k.s.keep a ob h n with q | ⟨o2, _, q⟩
  · rw [k.h] at q
    exact (Option.some.inj q).symm
  · rw [k.h] at q
    cases q
theorem Lkd.hn (k : Lkd c σ w H a xs) : ∀ o', (a, o') ∉ w.lk := fun o' m => by
  obtain ⟨u, _, _, e⟩ := k.s.lkd _ m
  rw [k.h] at e
  cases e
theorem Lkd.sr (k : Lkd c σ w H a xs) : SR c (lkW w a o) σ (lkH H a o xs) := k.s.lock k.f k.h
/-- out of the lock, the slots may be others -/
theorem Lkd.out (k : Lkd c σ w H a xs) {σ1 : L2.St} {w1 : Wd} {H1 : Hp} (s1 : SR c w1 σ1 H1) (le : Le w.F w1.F) (lk : w1.lk = (a, o) :: w.lk) : H1 a = some (.frz o (.dK xs)) ∧ SR c { w1 with lk := w.lk } σ1 (upd H1 a (.dK xs)) :=
  s1.unlock lk (le _ _ k.f) k.hn k.h0
theorem Lkd.step (k : Lkd c σ w H a xs) {w1 : Wd} {H1 : Hp} (t : Step c σ (lkW w a o) (lkH H a o xs) w1 H1) : H1 a = some (.frz o (.dK xs)) ∧ Step c σ w H { w1 with lk := w.lk } (upd H1 a (.dK xs)) := by
  obtain ⟨e, s⟩ := k.out t.sr t.le t.lk
  refine ⟨e, s, t.le, fun b ob h n => ?_, rfl, t.sl, fun b ob h n => ?_, fun z b ob h => ?_⟩
  · by_cases q : b = a
    · subst q
      rw [k.h] at h
      rw [upd_same]; exact h
    · rw [upd_ne q]
      exact t.keep b ob (by rw [lkH_ne q]; exact h) n
  · have q : b ≠ a := fun q => by rw [q, k.f] at n; cases n
    exact t.fz b ob (by rw [lkH_ne q]; exact h) n
  · by_cases q : b = a
    · subst q
      rw [k.h] at h
      rw [upd_same]; exact h
    · rw [upd_ne q]
      exact t.all z b ob (by rw [lkH_ne q]; exact h)
theorem upd_swap {H : Hp} {a b : Addr} {u v : HO} (n : a ≠ b) : upd (upd H a u) b v = upd (upd H b v) a u := by
  funext x
  by_cases h1 : x = b
  · rw [h1, upd_same, upd_ne (Ne.symm n), upd_same]
  · rw [upd_ne h1]
    by_cases h2 : x = a
    · rw [h2, upd_same, upd_same]
    · rw [upd_ne h2, upd_ne h2, upd_ne h1]
/-- an object laid under the lock stands behind it -/
theorem Lkd.lay (k : Lkd c σ w H a xs) {W W' : WX} {Q : VK} {e : ER D} (he : ∀ cn fs z, e ≠ .exc cn fs z) (h : Wnt c W σ w H (fun w' H' d => ∀ o, NewR c.cl w'.F d o → ∀ p, H p = none → w'.F p = none → (∀ x, H' p ≠ some (.own x)) → Q (.ref p) (upd H' p o)) e) :
    Wnt c W' σ (lkW w a o) (lkH H a o xs) (fun w' H' d => ∀ u, NewR c.cl w'.F d u → ∀ p, lkH H a o xs p = none → w'.F p = none → (∀ x, H' p ≠ some (.own x)) → (fun v Hx => Hx a = some (.frz o (.dK xs)) ∧ Q v (upd Hx a (.dK xs))) (.ref p) (upd H' p u)) e := by
  cases e with
  | ok d z =>
    intro H1 w1 t ez u n p hp hF ho
    obtain ⟨e1, t1⟩ := k.step t
    have ne : p ≠ a := fun q => by rw [q, lkH_same] at hp; cases hp
    have hp' : H p = none := by rw [lkH_ne ne] at hp; exact hp
    refine ⟨by rw [upd_ne (Ne.symm ne)]; exact e1, ?_⟩
    rw [upd_swap ne]
    exact h _ _ t1 ez u n p hp' hF fun x => by rw [upd_ne ne]; exact ho x
  | exc cn fs z => exact absurd rfl (he _ _ _)
  | bad => exact h
end

/-! ### things whose place is known: a name, a field -/
theorem pe_either {X : Cx} {e : Expr} {t t' : TE} (h : PE X e t) (h' : PE X e t') : PE X e (fun σ H Q => t σ H Q ∨ t' σ H Q) := ⟨fun pins s σ H Q I hw => hw.elim (h.run pins s σ H Q I) (h'.run pins s σ H Q I)⟩
theorem ps_either {X : Cx} {st : Stmt} {t t' : TS} (h : PS X st t) (h' : PS X st t') : PS X st (fun D σ H => t D σ H ∨ t' D σ H) := ⟨fun pins s σ H D I hw => hw.elim (h.run pins s σ H D I) (h'.run pins s σ H D I)⟩
/-- what t reads is an object of F that stands at one place -/
structure LocE (c : FC) (m : M D) (t : TE) : Prop where
  at_ : ∀ {w : Wd} {σ : L2.St} {H : Hp} {kvs : List (Key × D)} {z : Z}, SR c w σ H → m w.sl w.z = .ok (.dic kvs) z → z = w.z ∧ ∃ a xs, w.F a = some (.dK xs) ∧ RepK c.cl w.F kvs xs ∧
    (∀ Q : VK, Q (.ref a) H → t σ H Q) ∧ (H a = some (.dK xs) → ∀ o (Q : VK), Q (.ref a) (lkH H a o xs) → t σ (lkH H a o xs) Q)
theorem loc_var {c : FC} {i : Nat} : LocE c (mVar i) (tVar i) := ⟨fun {w σ H kvs z} s e => by
  unfold mVar at e
  split at e
  · rename_i d hs
    cases e
    obtain ⟨v, e1, r⟩ := s.var hs
    simp only [Rep] at r
    obtain ⟨a, xs, rfl, f, r⟩ := r
    exact ⟨rfl, a, xs, f, r, fun Q q => ⟨_, e1, q⟩, fun _ o Q q => ⟨_, e1, q⟩⟩
  · cases e⟩

/-! ### the walks over a dict -/
def mKeysD (m : M D) : M (List D) := fun s z => match m s z with
  | .ok (.dic kvs) z => chkL (keyVs kvs) z
  | _ => .bad
def mItemsD (m : M D) : M (List D) := fun s z => match m s z with
  | .ok (.dic kvs) z => chkL (itemVs kvs) z
  | _ => .bad
def valVs (kvs : List (Key × D)) : List D := kvs.map (·.2)
def mValsD (m : M D) : M (List D) := fun s z => match m s z with
  | .ok (.dic kvs) z => chkL (valVs kvs) z
  | _ => .bad
theorem it_vals {c : FC} {F1 : Hp} {lk1 : List (Addr × Obj)} {a : Addr} {o : Obj} {xs : List (Key × V)} {kvs : List (Key × D)} (f : F1 a = some (.dK xs)) (hm : (a, o) ∈ lk1) (r : RepK c.cl F1 kvs xs) : ItD c F1 lk1 (Itd a o xs) (valVs kvs) := fun i σ w H s l hk => by
  have hH := lock_at s l hk f hm
  refine ⟨fun hi => ⟨hH, by unfold valVs at hi; rw [r.length]; simpa using hi⟩, fun d e => ?_⟩
  unfold valVs at e
  rw [List.getElem?_map, Option.map_eq_some_iff] at e
  obtain ⟨⟨k, d'⟩, e1, rfl⟩ := e
  obtain ⟨v, e2, r1⟩ := r.at e1
  refine ⟨⟨hH, (List.getElem?_eq_some_iff.mp e2).1⟩, fun x H' ⟨e3, k2, e4⟩ => ?_⟩
  rw [e2] at e4
  cases e4
  subst e3
  exact ⟨w, Step.refl s, rfl, Rep.le l r1⟩
/-- which walk -/
structure WalkK (mi : M (List D)) (m : M D) (t : TE) (tI : TI) : Prop where
  bad : ∀ s z, (∀ kvs z', m s z ≠ .ok (.dic kvs) z') → mi s z = .bad
  noexc : ∀ s z cn fs z', mi s z ≠ .exc cn fs z'
  go : ∀ {c : FC} {W : WX} {σ : L2.St} {w : Wd} {H : Hp} {R : It → Hp → Prop} {kvs : List (Key × D)} {a : Addr} {o : Obj} {xs : List (Key × V)}, SR c w σ H → m w.sl w.z = .ok (.dic kvs) w.z → w.F a = some (.dK xs) → RepK c.cl w.F kvs xs → H a = some (.frz o (.dK xs)) → (a, o) ∈ w.lk →
    (∀ Q : VK, Q (.ref a) H → t σ H Q) → Wnt c W σ w H (fun w1 H1 ds => ∀ J, ItD c w1.F w1.lk J ds → ds.length ≤ lim → R J H1) (mi w.sl w.z) → tI σ H R
theorem walk_bad {f : List (Key × D) → List D} {m : M D} {mi : M (List D)} (hmi : mi = fun s z => match m s z with | .ok (.dic kvs) z => chkL (f kvs) z | _ => .bad) : (∀ s z, (∀ kvs z', m s z ≠ .ok (.dic kvs) z') → mi s z = .bad) ∧ (∀ s z cn fs z', mi s z ≠ .exc cn fs z') := by
  subst hmi
  refine ⟨fun s z h => ?_, fun s z cn fs z' e => ?_⟩
  · dsimp only
    split
    · rename_i e
      exact absurd e (h _ _)
    · rfl
  · dsimp only at e
    split at e
    · unfold chkL at e
      split at e <;> cases e
    · cases e
theorem walk_keys {m : M D} {t : TE} : WalkK (mKeysD m) m t (iKeys t) where
  bad := (walk_bad (f := keyVs) rfl).1
  noexc := (walk_bad (f := keyVs) rfl).2
  go := fun {c W σ w H R kvs a o xs} s e f r h hm ht q => by
    unfold mKeysD at q
    rw [e] at q
    obtain ⟨hl, q⟩ := wnt_chk s q
    exact ht _ ⟨a, o, rfl, .inl ⟨xs, h, q _ (it_keys f hm r) hl⟩⟩
theorem walk_items {m : M D} {t : TE} : WalkK (mItemsD m) m t (iItems t) where
  bad := (walk_bad (f := itemVs) rfl).1
  noexc := (walk_bad (f := itemVs) rfl).2
  go := fun {c W σ w H R kvs a o xs} s e f r h hm ht q => by
    unfold mItemsD at q
    rw [e] at q
    obtain ⟨hl, q⟩ := wnt_chk s q
    exact ht _ ⟨a, o, xs, rfl, h, q _ (it_items f hm r) hl⟩
theorem walk_vals {m : M D} {t : TE} : WalkK (mValsD m) m t (iVals t) where
  bad := (walk_bad (f := valVs) rfl).1
  noexc := (walk_bad (f := valVs) rfl).2
  go := fun {c W σ w H R kvs a o xs} s e f r h hm ht q => by
    unfold mValsD at q
    rw [e] at q
    obtain ⟨hl, q⟩ := wnt_chk s q
    exact ht _ ⟨a, o, xs, rfl, h, q _ (it_vals f hm r) hl⟩
section
variable {X : Cx} {c : FC} {W : WX} {m : M D} {mi : M (List D)} {t0 : TE} {tI : TI} {t : Tg} {tt : M Bool} {te : M D}
theorem mut_dK {xs : List (Key × V)} : Mut (some (.dK xs)) := trivial
theorem mLc_noexc {vs : List Nat} {s : Sl} {z : Z} (h : ∀ cn fs z', mi s z ≠ .exc cn fs z') : ∀ cn fs z', mLc vs mi t tt te s z ≠ .exc cn fs z' := fun cn fs z' e => by
  unfold mLc at e
  cases hm : mi s z with
  | exc cn fs z' => exact h _ _ _ hm
  | bad => rw [hm] at e; cases e
  | ok ds z1 =>
    rw [hm] at e
    simp only [ER.bind] at e
    cases hl : lcGo t tt te (wipeS s vs) ds z1 <;> rw [hl] at e <;> cases e
theorem lcD_to {vs : List Nat} {σ : L2.St} {H : Hp} {Q : VK} (L : LocE c m t0) (K : WalkK mi m t0 tI) (q : tN c W (mLc vs mi t tt te) σ H Q) : tLockE (tLc tI (gD c vs t) (tT c W0 tt) (tF c W0 te) vs) σ H Q ∨ tLc tI (gD c vs t) (tT c W0 tt) (tF c W0 te) vs σ H Q := by
  obtain ⟨w, s, q⟩ := q
  by_cases hd : ∃ kvs z', m w.sl w.z = .ok (.dic kvs) z'
  · obtain ⟨kvs, z', em⟩ := hd
    obtain ⟨rfl, a, xs, f, r, t1, t2⟩ := L.at_ s em
    rcases s.sub _ _ f with h | ⟨_, o, h⟩
    · have k : Lkd c σ w H a xs := ⟨s, f, h⟩
      refine .inl ⟨a, _, h, mut_dK, fun od => lc_to0 (W := fun _ _ _ _ => True) (w := lkW w a od) k.sr (fun R hR => ?_) (k.lay (mLc_noexc (K.noexc _ _)) q)⟩
      exact K.go k.sr em f r upd_same List.mem_cons_self (fun Q q => t2 h od Q q) hR
    · exact .inr (lc_to0 s (fun R hR => K.go s em f r h (s.lks _ _ _ f ⟨xs, rfl⟩ h) t1 hR) q)
  · exfalso
    have : mi w.sl w.z = .bad := K.bad _ _ fun kvs z' e => hd ⟨kvs, z', e⟩
    unfold mLc at q
    rw [this] at q
    exact q
theorem dn_lcD {elt tg iter : Expr} {ifs : List Expr} {scope : Scope} {own : List (Str × Nat)} {pos : Pos} (L : LocE c m t0) (K : WalkK mi m t0 tI) (hc : X.calm = true) (hN : X.N.Nodup) (hi : PI X tg iter tI) (ok : BlkOk X.N X.env.scope scope own)
    (hg : ∀ (s : Shared) (H : Hp) (C : Addr) (cl : List (Str × Addr)) (fp : List Addr), PG (X.blk s H scope (compEnvC scope cl C X.env) fp) tg (gD c (own.map (·.2)) t)) (ht : ∀ (s : Shared) (H : Hp) (C : Addr) (cl : List (Str × Addr)) (fp : List Addr), PTs (X.blk s H scope (compEnvC scope cl C X.env) fp) ifs (tT c W0 tt))
    (he : ∀ (s : Shared) (H : Hp) (C : Addr) (cl : List (Str × Addr)) (fp : List Addr), PE (X.blk s H scope (compEnvC scope cl C X.env) fp) elt (tF c W0 te)) (hs : ∀ x, foldedSetIterable iter X.env x = pure x := by intro _; rfl) :
    PE X (.ListComp elt [⟨tg, iter, ifs, 0⟩] scope pos) (tN c W (mLc (own.map (·.2)) mi t tt te)) :=
  pe_imp (pe_either (pe_lock (pe_lc hc hN hi ok hg ht he hs)) (pe_lc hc hN hi ok hg ht he hs)) fun _ _ _ q => lcD_to L K q
end
/-! ### for over a dict: what is raised in its body leaves the lock -/
def tLockX (W : WX) (t : WX → TS) : TS := fun D σ H => ∃ d u, H d = some u ∧ Mut (some u) ∧ ∀ od, t (fun C dd σ' H' => H' d = some (.frz od u) ∧ W C dd σ' (upd H' d u))
  ⟨fun σ' H' => H' d = some (.frz od u) ∧ D.nx σ' (upd H' d u), fun v H' => H' d = some (.frz od u) ∧ D.rt v (upd H' d u), fun σ' H' => H' d = some (.frz od u) ∧ D.bk σ' (upd H' d u), fun σ' H' => H' d = some (.frz od u) ∧ D.ct σ' (upd H' d u)⟩ σ (upd H d (.frz od u))
theorem ps_lockX {X : Cx} {st : Stmt} {W : WX} {t : WX → TS} (tk : Takes X W) (h : ∀ W', Takes X W' → PS X st (t W')) : PS X st (tLockX W t) := ⟨fun pins s σ H D I hw => by
  obtain ⟨d, u, hd, mu, hw⟩ := hw
  obtain ⟨od, I1⟩ := I.lock hd mu
  have hn := I.nofrz hd mu
  refine thn ((h _ ?_).run pins s σ _ _ I1 (hw od)) fun f s1 q => ?_
  · rintro u' s' ⟨a, B, sI, pins', σ', H', cls, d', e, I', nb, up, sky, na, os, ag, w1, w2⟩
    refine tk u' s' ⟨a, B, sI, pins', σ', _, cls, d', e, I'.unlock w1 hn, nb, up, sky, ?_, os, ag, w2⟩
    rw [upd_ne fun z => by rw [z, w1] at na; cases na]
    exact na
  · cases f with
    | next => obtain ⟨σ', H', I2, e, q⟩ := q; exact ⟨σ', _, I2.unlock e hn, q⟩
    | brk => obtain ⟨σ', H', I2, e, q⟩ := q; exact ⟨σ', _, I2.unlock e hn, q⟩
    | cont => obtain ⟨σ', H', I2, e, q⟩ := q; exact ⟨σ', _, I2.unlock e hn, q⟩
    | ret v => obtain ⟨x, σ', H', I2, r, e, q⟩ := q; exact ⟨x, σ', _, I2.unlock e hn, r, q⟩⟩
section
variable {X : Cx} {c : FC} {W : WX} {m : M D} {mi : M (List D)} {t0 : TE} {tI : TI} {t : Tg} {body : SM}
theorem Lkd.wntS {w : Wd} {σ : L2.St} {H : Hp} {a : Addr} {od : Obj} {xs : List (Key × V)} (k : Lkd c σ w H a xs) {Dn : Ends} {e : FR} (h : WntS c W Dn w e) : WntS c (fun C dd σ' H' => H' a = some (.frz od (.dK xs)) ∧ W C dd σ' (upd H' a (.dK xs)))
    ⟨fun σ' H' => H' a = some (.frz od (.dK xs)) ∧ Dn.nx σ' (upd H' a (.dK xs)), fun v H' => H' a = some (.frz od (.dK xs)) ∧ Dn.rt v (upd H' a (.dK xs)), fun σ' H' => H' a = some (.frz od (.dK xs)) ∧ Dn.bk σ' (upd H' a (.dK xs)), fun σ' H' => H' a = some (.frz od (.dK xs)) ∧ Dn.ct σ' (upd H' a (.dK xs))⟩ (lkW w a od) e := by
  cases e with
  | nx s z =>
    intro σ' H' w' t l e1 e2
    obtain ⟨q1, q2⟩ := k.out t l.le l.lk
    exact ⟨q1, h _ _ _ q2 ⟨l.le, rfl⟩ e1 e2⟩
  | rt d s z =>
    intro σ' H' w' v t l e1 e2 r
    obtain ⟨q1, q2⟩ := k.out t l.le l.lk
    exact ⟨q1, h _ _ _ v q2 ⟨l.le, rfl⟩ e1 e2 r⟩
  | bk s z =>
    intro σ' H' w' t l e1 e2
    obtain ⟨q1, q2⟩ := k.out t l.le l.lk
    exact ⟨q1, h _ _ _ q2 ⟨l.le, rfl⟩ e1 e2⟩
  | ct s z =>
    intro σ' H' w' t l e1 e2
    obtain ⟨q1, q2⟩ := k.out t l.le l.lk
    exact ⟨q1, h _ _ _ q2 ⟨l.le, rfl⟩ e1 e2⟩
  | exc cn fs s z =>
    intro C dd σ' H' w' hc t l e1 e2 x
    obtain ⟨q1, q2⟩ := k.out t l.le l.lk
    exact ⟨q1, h C dd _ _ _ hc q2 ⟨l.le, rfl⟩ e1 e2 x⟩
  | bad => exact h
theorem forD_to {vs : List Nat} {tb : WX → TS} {g : TG} {Dn : Ends} {σ : L2.St} {H : Hp} (L : LocE c m t0) (K : WalkK mi m t0 tI) (hg : ∀ v σ H Q, gD c vs t v σ H Q → g v σ H Q) (hb : ∀ W' Dn σ H, tS c W' body Dn σ H → tb W' Dn σ H) (q : tS c W (mFor mi t body) Dn σ H) :
    tLockX W (fun W' => tFor tI g (tb W')) Dn σ H ∨ tFor tI g (tb W) Dn σ H := by
  obtain ⟨w, s, q⟩ := q
  by_cases hd : ∃ kvs z', m w.sl w.z = .ok (.dic kvs) z'
  · obtain ⟨kvs, z', em⟩ := hd
    obtain ⟨rfl, a, xs, f, r, t1, t2⟩ := L.at_ s em
    rcases s.sub _ _ f with h | ⟨_, o, h⟩
    · have k : Lkd c σ w H a xs := ⟨s, f, h⟩
      refine .inl ⟨a, _, h, mut_dK, fun od => for_to0 (w := lkW w a od) k.sr (fun R hR => ?_) hg (hb _) (k.wntS q)⟩
      exact K.go k.sr em f r upd_same List.mem_cons_self (fun Q q => t2 h od Q q) hR
    · exact .inr (for_to0 s (fun R hR => K.go s em f r h (s.lks _ _ _ f ⟨xs, rfl⟩ h) t1 hR) hg (hb _) q)
  · exfalso
    have : mi w.sl w.z = .bad := K.bad _ _ fun kvs z' e => hd ⟨kvs, z', e⟩
    unfold mFor at q
    rw [this] at q
    exact q
theorem ds_forD {vs : List Nat} {tb : WX → TS} {g : TG} {st : Stmt} (L : LocE c m t0) (K : WalkK mi m t0 tI) (tk : Takes X W) (h : ∀ W', Takes X W' → PS X st (tFor tI g (tb W'))) (hg : ∀ v σ H Q, gD c vs t v σ H Q → g v σ H Q) (hb : ∀ W' Dn σ H, tS c W' body Dn σ H → tb W' Dn σ H) :
    PS X st (tS c W (mFor mi t body)) := ps_imp (ps_either (ps_lockX tk h) (h W tk)) fun _ _ _ q => forD_to L K hg hb q

/-! ### dict comprehensions -/
def dcGo (t : Tg) (tt : M Bool) (tk tv : M D) (s0 : Sl) : List D → List (Key × D) → Z → ER (List (Key × D))
  | [], acc, z => .ok acc z
  | d :: ds, acc, z => match t d s0 with
    | none => .bad
    | some s => (tt s z).bind fun b z => if b = true then (tk s z).bind fun y z => (tv s z).bind fun x z => match keyD y with
      | some k => dcGo t tt tk tv s0 ds (setK acc k x) z
      | none => .bad
      else dcGo t tt tk tv s0 ds acc z
def mDc (vs : List Nat) (mi : M (List D)) (t : Tg) (tt : M Bool) (tk tv : M D) : M D := fun s z => (mi s z).bind fun ds z => (noX (dcGo t tt tk tv (wipeS s vs) ds [] z)).bind fun ys z => .ok (.dic ys) z
end
end DL

set_option Elab.async false
set_option linter.all false
set_option maxRecDepth 100000
set_option maxHeartbeats 4000000
namespace DL
open PySem PySem.Spec PyProof.Rows L2 RZ EX

/-! ### dict comprehensions: the walk -/
structure DcI (c : FC) (W : WX) (vs : List Nat) (t : Tg) (tt : M Bool) (tk tv : M D) (σ : L2.St) (w : Wd) (H : Hp) (w1 : Wd) (ds : List D) (D0 : Addr) (Q : VK) (i : Nat) (Hc : Hp) : Prop where
  ex : ∃ wi acc accV, Step c σ w H wi Hc ∧ Hc D0 = some (.dK accV) ∧ wi.F D0 = none ∧ Le w1.F wi.F ∧ RepK c.cl wi.F acc accV ∧ acc.length ≤ i ∧ i ≤ ds.length ∧
    Wnt c W σ w H (fun w' H' d => ∀ o, NewR c.cl w'.F d o → ∀ p, H p = none → w'.F p = none → (∀ x, H' p ≠ some (.own x)) → Q (.ref p) (upd H' p o)) ((noX (dcGo t tt tk tv (wipeS w.sl vs) (ds.drop i) acc wi.z)).bind fun ys z => .ok (.dic ys) z)
theorem setK_len {κ α : Type} [DecidableEq κ] (kvs : List (κ × α)) (k : κ) (d : α) : (setK kvs k d).length ≤ kvs.length + 1 := by
  unfold setK
  split <;> simp
section
variable {X : Cx} {c : FC} {W : WX} {mi : M (List D)} {t : Tg} {tt : M Bool} {tk tv : M D}
theorem dc_to0 {vs : List Nat} {σ : L2.St} {H : Hp} {Q : VK} {tI : TI} {w : Wd} (s : SR c w σ H) (hI : ∀ R : It → Hp → Prop, Wnt c W σ w H (fun w1 H1 ds => ∀ J, ItD c w1.F w1.lk J ds → ds.length ≤ lim → R J H1) (mi w.sl w.z) → tI σ H R)
    (q : Wnt c W σ w H (fun w' H' d => ∀ o, NewR c.cl w'.F d o → ∀ p, H p = none → w'.F p = none → (∀ x, H' p ≠ some (.own x)) → Q (.ref p) (upd H' p o)) (mDc vs mi t tt tk tv w.sl w.z)) : tDc tI (gD c vs t) (tT c W0 tt) (tF c W0 tk) (tF c W0 tv) vs σ H Q := by
  unfold mDc at q
  refine hI _ ?_
  cases hm : mi w.sl w.z with
  | exc cn fs z =>
    rw [hm] at q
    exact q
  | bad =>
    rw [hm] at q
    exact q
  | ok ds z1 =>
  rw [hm] at q
  replace q : Wnt c W σ w H (fun w' H' d => ∀ o, NewR c.cl w'.F d o → ∀ p, H p = none → w'.F p = none → (∀ x, H' p ≠ some (.own x)) → Q (.ref p) (upd H' p o)) ((noX (dcGo t tt tk tv (wipeS w.sl vs) ds [] z1)).bind fun ys z => .ok (.dic ys) z) := q
  intro H1 w1 s1 ez J hJ hl D0 hD
  subst ez
  have hD0 : H D0 = none := s1.wasnone hD
  refine ⟨fun i m Hc => m = ds.length - i ∧ DcI c W vs t tt tk tv σ w H w1 ds D0 Q i Hc, ⟨_, rfl, ?_⟩, ?_⟩
  · have s2 := (Step.lay (o' := .dK []) s hD0 s1 (s1.sr.fnone hD) (fun x z => by rw [hD] at z; cases z) (fun x z => by cases z)).1
    exact ⟨w1, [], [], s2, upd_same, s1.sr.fnone hD, Le.refl _, by simp [RepK], Nat.le_refl _, Nat.zero_le _, by simpa using q⟩
  rintro i m Hc ⟨rfl, wi, acc, accV, st, hDc, hF, l1, ra, hal, hil, q2⟩
  have hIt := hJ i σ wi Hc st.sr l1 (st.lk.trans s1.lk.symm)
  have hsl : wi.sl = w.sl := st.sl
  by_cases hi' : i < ds.length
  · obtain ⟨d, hd⟩ : ∃ d, ds[i]? = some d := ⟨_, List.getElem?_eq_getElem hi'⟩
    obtain ⟨hgo, hy⟩ := hIt.2 d hd
    have hdrop : ds.drop i = d :: ds.drop (i + 1) := by
      rw [List.drop_eq_getElem_cons hi']
      congr 1
      rw [List.getElem?_eq_getElem hi'] at hd
      exact Option.some.inj hd
    rw [hdrop] at q2
    refine .inr ⟨hgo, DcI c W vs t tt tk tv σ w H w1 ds D0 Q (i + 1), fun H' p => ⟨ds.length - (i + 1), by omega, rfl, p⟩, fun x H' y => ?_⟩
    obtain ⟨w', sy, ezy, rx⟩ := hy x H' y
    have sw := sy.sr.wipe vs
    have hsl' : w'.sl = w.sl := sy.sl.trans hsl
    unfold dcGo at q2
    cases htg : t d (wipeS w.sl vs) with
    | none =>
      rw [htg] at q2
      exact q2.elim
    | some s' =>
    simp only [htg] at q2
    refine ⟨{ w' with sl := wipeS w'.sl vs }, d, s', sw, rx, by show t d (wipeS w'.sl vs) = some s'; rw [hsl']; exact htg, fun σ2 sr2 h2 => ?_⟩
    refine ⟨h2.trans wipe_wipe, { w' with sl := s' }, sr2, ?_⟩
    show Wnt c W0 σ2 { w' with sl := s' } H' _ (tt s' w'.z)
    have ezz : w'.z = wi.z := ezy
    rw [← ezz] at q2
    cases htt : tt s' w'.z with
    | exc cn fs z =>
      rw [htt] at q2
      exact q2.elim
    | bad =>
      rw [htt] at q2
      exact q2.elim
    | ok b z2 =>
    rw [htt] at q2
    intro H3 w3 s3 ez3
    subst ez3
    have b3 : Step c σ w' H' { w3 with sl := w'.sl } H3 := Step.back (w2 := { w' with sl := s' }) sy.sr rfl rfl s3
    have st3 := (st.trans sy).trans b3
    have hD3 : H3 D0 = some (.dK accV) := b3.keep _ _ (sy.keep _ _ hDc (s.nochg hD0)) (s.nochg hD0)
    have hF3 : w3.F D0 = none := b3.fz D0 _ (sy.keep _ _ hDc (s.nochg hD0)) (sy.fz D0 _ hDc hF)
    have l3 : Le w1.F w3.F := (l1.trans sy.le).trans b3.le
    cases b with
    | false =>
      simp only [Bool.false_eq_true, if_false]
      exact ⟨{ w3 with sl := w'.sl }, acc, accV, st3, hD3, hF3, l3, RepK.le (sy.le.trans b3.le) ra, by omega, by omega, q2⟩
    | true =>
      simp only [if_true]
      replace q2 : Wnt c W σ w H _ ((noX ((tk s' w3.z).bind fun y z => (tv s' z).bind fun x z => match keyD y with
        | some k => dcGo t tt tk tv (wipeS w.sl vs) (ds.drop (i + 1)) (setK acc k x) z
        | none => .bad)).bind fun ys z => .ok (D.dic ys) z) := q2
      refine ⟨w3, s3.sr, ?_⟩
      rw [s3.sl]
      show Wnt c W0 σ2 w3 H3 _ (tk s' w3.z)
      cases hte : tk s' w3.z with
      | exc cn fs z =>
        rw [hte] at q2
        exact q2.elim
      | bad =>
        rw [hte] at q2
        exact q2.elim
      | ok y z4 =>
      rw [hte] at q2
      intro H4 w4 s4 ez4 v rv
      subst ez4
      have b4 : Step c σ { w3 with sl := w'.sl } H3 { w4 with sl := w'.sl } H4 := Step.back (w2 := w3) b3.sr rfl rfl s4
      refine ⟨w4, s4.sr, ?_⟩
      rw [s4.sl, s3.sl]
      show Wnt c W0 σ2 w4 H4 _ (tv s' w4.z)
      replace q2 : Wnt c W σ w H _ ((noX ((tv s' w4.z).bind fun x z => match keyD y with
        | some k => dcGo t tt tk tv (wipeS w.sl vs) (ds.drop (i + 1)) (setK acc k x) z
        | none => .bad)).bind fun ys z => .ok (D.dic ys) z) := q2
      cases hte2 : tv s' w4.z with
      | exc cn fs z =>
        rw [hte2] at q2
        exact q2.elim
      | bad =>
        rw [hte2] at q2
        exact q2.elim
      | ok x2 z5 =>
      rw [hte2] at q2
      intro H5 w5 s5 ez5 u ru
      subst ez5
      have b5 : Step c σ { w4 with sl := w'.sl } H4 { w5 with sl := w'.sl } H5 := Step.back (w2 := w4) b4.sr rfl rfl s5
      have st5 := (st3.trans b4).trans b5
      have hD5 : H5 D0 = some (.dK accV) := b5.keep _ _ (b4.keep _ _ hD3 (s.nochg hD0)) (s.nochg hD0)
      have hF5 : w5.F D0 = none := b5.fz D0 _ (b4.keep _ _ hD3 (s.nochg hD0)) (b4.fz D0 _ hD3 hF3)
      cases ek : keyD y with
      | none =>
        simp only [ER.bind, ek] at q2
        exact q2.elim
      | some k =>
      simp only [ER.bind, ek] at q2
      have hle : Le wi.F w5.F := ((sy.le.trans b3.le).trans b4.le).trans b5.le
      have ra5 : RepK c.cl w5.F acc accV := RepK.le hle ra
      refine ⟨accV, k, keyD_rep (c := c) (F := w4.F) (H := H4) ek (s4.sr.view rv), hD5, ?_, ?_⟩
      · rw [ra.length]
        have h2 : acc.length < lim := by omega
        have h3 : lim < sizeLine := by rw [sizeLine_eq]; decide
        omega
      · have s6 := (Step.lay (o' := .dK (putK accV k u)) s hD0 st5 hF5 (fun x z => by rw [hD5] at z; cases z) (fun x z => by cases z)).1
        exact ⟨{ w5 with sl := w'.sl }, setK acc k x2, putK accV k u, s6, upd_same, hF5, (l3.trans b4.le).trans b5.le, ra5.put ru, by have := setK_len acc k x2; omega, by omega, q2⟩
  · refine .inl ⟨hIt.1 (by omega), ?_⟩
    have e : ds.drop i = [] := List.drop_eq_nil_of_le (by omega)
    rw [e] at q2
    have := (show Wnt c W σ w H _ (.ok (D.dic acc) wi.z) from q2) _ _ st rfl (.dK accV) ⟨accV, rfl, ra⟩ D0 hD0 hF (fun x z => by rw [hDc] at z; cases z)
    rw [upd_self hDc] at this
    exact this
theorem mDc_noexc {vs : List Nat} {s : Sl} {z : Z} (h : ∀ cn fs z', mi s z ≠ .exc cn fs z') : ∀ cn fs z', mDc vs mi t tt tk tv s z ≠ .exc cn fs z' := fun cn fs z' e => by
  unfold mDc at e
  cases hm : mi s z with
  | exc cn fs z' => exact h _ _ _ hm
  | bad => rw [hm] at e; cases e
  | ok ds z1 =>
    rw [hm] at e
    simp only [ER.bind] at e
    cases hl : dcGo t tt tk tv (wipeS s vs) ds [] z1 <;> rw [hl] at e <;> cases e
theorem dcD_to {m : M D} {t0 : TE} {tI : TI} {vs : List Nat} {σ : L2.St} {H : Hp} {Q : VK} (L : LocE c m t0) (K : WalkK mi m t0 tI) (q : tN c W (mDc vs mi t tt tk tv) σ H Q) :
    tLockE (tDc tI (gD c vs t) (tT c W0 tt) (tF c W0 tk) (tF c W0 tv) vs) σ H Q ∨ tDc tI (gD c vs t) (tT c W0 tt) (tF c W0 tk) (tF c W0 tv) vs σ H Q := by
  obtain ⟨w, s, q⟩ := q
  by_cases hd : ∃ kvs z', m w.sl w.z = .ok (.dic kvs) z'
  · obtain ⟨kvs, z', em⟩ := hd
    obtain ⟨rfl, a, xs, f, r, t1, t2⟩ := L.at_ s em
    rcases s.sub _ _ f with h | ⟨_, o, h⟩
    · have k : Lkd c σ w H a xs := ⟨s, f, h⟩
      refine .inl ⟨a, _, h, mut_dK, fun od => dc_to0 (W := fun _ _ _ _ => True) (w := lkW w a od) k.sr (fun R hR => ?_) (k.lay (mDc_noexc (K.noexc _ _)) q)⟩
      exact K.go k.sr em f r upd_same List.mem_cons_self (fun Q q => t2 h od Q q) hR
    · exact .inr (dc_to0 s (fun R hR => K.go s em f r h (s.lks _ _ _ f ⟨xs, rfl⟩ h) t1 hR) q)
  · exfalso
    have : mi w.sl w.z = .bad := K.bad _ _ fun kvs z' e => hd ⟨kvs, z', e⟩
    unfold mDc at q
    rw [this] at q
    exact q
variable {kx vx tg iter : Expr} {ifs : List Expr} {scope : Scope} {own : List (Str × Nat)} {pos : Pos}
theorem dn_dc (hc : X.calm = true) (hN : X.N.Nodup) (hi : PI X tg iter (iD c W mi)) (ok : BlkOk X.N X.env.scope scope own)
    (hg : ∀ (s : Shared) (H : Hp) (C : Addr) (cl : List (Str × Addr)) (fp : List Addr), PG (X.blk s H scope (compEnvC scope cl C X.env) fp) tg (gD c (own.map (·.2)) t)) (ht : ∀ (s : Shared) (H : Hp) (C : Addr) (cl : List (Str × Addr)) (fp : List Addr), PTs (X.blk s H scope (compEnvC scope cl C X.env) fp) ifs (tT c W0 tt))
    (hk : ∀ (s : Shared) (H : Hp) (C : Addr) (cl : List (Str × Addr)) (fp : List Addr), PE (X.blk s H scope (compEnvC scope cl C X.env) fp) kx (tF c W0 tk)) (he : ∀ (s : Shared) (H : Hp) (C : Addr) (cl : List (Str × Addr)) (fp : List Addr), PE (X.blk s H scope (compEnvC scope cl C X.env) fp) vx (tF c W0 tv))
    (hs : ∀ x, foldedSetIterable iter X.env x = pure x := by intro _; rfl) : PE X (.DictComp kx vx [⟨tg, iter, ifs, 0⟩] scope pos) (tN c W (mDc (own.map (·.2)) mi t tt tk tv)) := pe_imp (pe_dc hc hN hi ok hg ht hk he hs) fun _ _ _ ⟨w, s, q⟩ => dc_to0 s (fun R h => ⟨w, s, h⟩) q
theorem dn_dcD {m : M D} {t0 : TE} {tI : TI} (L : LocE c m t0) (K : WalkK mi m t0 tI) (hc : X.calm = true) (hN : X.N.Nodup) (hi : PI X tg iter tI) (ok : BlkOk X.N X.env.scope scope own)
    (hg : ∀ (s : Shared) (H : Hp) (C : Addr) (cl : List (Str × Addr)) (fp : List Addr), PG (X.blk s H scope (compEnvC scope cl C X.env) fp) tg (gD c (own.map (·.2)) t)) (ht : ∀ (s : Shared) (H : Hp) (C : Addr) (cl : List (Str × Addr)) (fp : List Addr), PTs (X.blk s H scope (compEnvC scope cl C X.env) fp) ifs (tT c W0 tt))
    (hk : ∀ (s : Shared) (H : Hp) (C : Addr) (cl : List (Str × Addr)) (fp : List Addr), PE (X.blk s H scope (compEnvC scope cl C X.env) fp) kx (tF c W0 tk)) (he : ∀ (s : Shared) (H : Hp) (C : Addr) (cl : List (Str × Addr)) (fp : List Addr), PE (X.blk s H scope (compEnvC scope cl C X.env) fp) vx (tF c W0 tv))
    (hs : ∀ x, foldedSetIterable iter X.env x = pure x := by intro _; rfl) : PE X (.DictComp kx vx [⟨tg, iter, ifs, 0⟩] scope pos) (tN c W (mDc (own.map (·.2)) mi t tt tk tv)) :=
  pe_imp (pe_either (pe_lock (pe_dc hc hN hi ok hg ht hk he hs)) (pe_dc hc hN hi ok hg ht hk he hs)) fun _ _ _ q => dcD_to L K q
end
end DL

set_option Elab.async false
set_option linter.all false
set_option maxRecDepth 100000
set_option maxHeartbeats 4000000
namespace DL
open PySem PySem.Spec PyProof.Rows L2 RZ EX

/-! ### own classes: an __init__ with its self, new instances -/
def putD (f : Str) (d : D) : List (Str × D) → List (Str × D)
  | [] => [(f, d)]
  | (g, x) :: r => if g = f then (g, d) :: r else (g, x) :: putD f d r
theorem RepF.put {cl : Str → Option Addr} {F : Hp} {f : Str} {d : D} {v : V} (r : Rep cl F d v) : ∀ {fs : List (Str × D)} {gs : List (Str × V)}, RepF cl F fs gs → RepF cl F (putD f d fs) (putF f v gs)
  | [], gs, h => by
    simp only [RepF] at h
    subst h
    simp only [putD, putF, RepF]
    exact ⟨v, [], rfl, r, rfl⟩
  | (k, x) :: fs, gs, h => by
    simp only [RepF] at h
    obtain ⟨y, ys, rfl, ry, h⟩ := h
    unfold putD putF
    by_cases e : k = f
    · rw [if_pos e, if_pos e]
      simp only [RepF]
      exact ⟨v, ys, rfl, r, h⟩
    · rw [if_neg e, if_neg e]
      simp only [RepF]
      exact ⟨y, _, rfl, ry, RepF.put r h⟩
theorem putF_len (f : Str) (v : V) : ∀ gs : List (Str × V), (putF f v gs).length ≤ gs.length + 1
  | [] => by simp [putF]
  | (k, x) :: r => by
    unfold putF
    have := putF_len f v r
    split <;> simp <;> omega
theorem RepF.length {cl : Str → Option Addr} {F : Hp} : ∀ {fs : List (Str × D)} {gs : List (Str × V)}, RepF cl F fs gs → gs.length = fs.length
  | [], gs, h => by
    simp only [RepF] at h
    subst h; rfl
  | (k, x) :: fs, gs, h => by
    simp only [RepF] at h
    obtain ⟨y, ys, rfl, _, h⟩ := h
    simp [RepF.length h]
def noSlf (s : Sl) : Bool := s.all fun x => match x with
  | .slf _ _ => false
  | _ => true
theorem noSlf_at {s : Sl} (h : noSlf s = true) {i : Nat} {cn : Str} {fs : List (Str × D)} : s[i]? ≠ some (.slf cn fs) := fun e => by
  have := List.all_eq_true.mp h _ (List.mem_of_getElem? e)
  cases this
/-- self.f = e in an __init__ -/
def mSetF (i : Nat) (cn f : Str) (m : M D) : SM := fun s z => match s[i]? with
  | some (.slf cn' fs) => if cn' = cn then toFR s (m s z) fun d z => if fs.length < 800 ∧ noSlf (s.set i .none) = true then .nx (s.set i (.slf cn' (putD f d fs))) z else .bad else .bad
  | _ => .bad
theorem SR.slf_set {c : FC} {w : Wd} {σ : L2.St} {H : Hp} {i : Nat} {cn f : Str} {fs : List (Str × D)} {d : D} {a dx C : Addr} {gs : List (Str × V)} {v : V} (s : SR c w σ H) (hs : w.sl[i]? = some (.slf cn fs)) (e : σ[i]? = some (some (.ref a))) (hH : H a = some (.ins C dx gs)) (hD : H dx = some (.own a))
    (hC : c.cl cn = some C) (hch : c.chg = [a]) (hst : c.st = none) (r : RepF c.cl w.F fs gs) (hdx : w.F dx = none) (rv : Rep c.cl w.F d v) (hl : gs.length < 899) (hdx0 : c.dx = some dx) (hno : noSlf (w.sl.set i .none) = true) :
    SR c { w with sl := w.sl.set i (.slf cn (putD f d fs)) } σ (upd H a (.ins C dx (putF f v gs))) := by
  have ha : a ∈ c.chg := by rw [hch]; exact List.mem_cons_self
  have hF : w.F a = none := s.fmut a ha
  have ne : dx ≠ a := ne_kind hD hH (fun z => by cases z)
  refine ⟨fun b u h => ?_, fun b o h n => ?_, fun j x h => ?_, fun j k b hjk hj hk => ?_, s.fmut, fun b m => ?_, fun sa la q => (by rw [hst] at q; cases q), s.fz0, by rw [List.length_set]; exact s.len, fun p hp => ?_, fun b u o h q e => ?_⟩
  · have nb : b ≠ a := ne_of_none h hF
    rcases s.sub b u h with q | ⟨q1, o, q⟩
    · exact .inl (by rw [upd_ne nb]; exact q)
    · exact .inr ⟨q1, o, by rw [upd_ne nb]; exact q⟩
  · have nb : b ≠ a := fun z => n (by rw [z]; exact ha)
    rcases s.keep b o h n with q | ⟨ob, m, q⟩
    · exact .inl (by rw [upd_ne nb]; exact q)
    · exact .inr ⟨ob, m, by rw [upd_ne nb]; exact q⟩
  · have h : (w.sl.set i (.slf cn (putD f d fs)))[j]? = some x := h
    by_cases hj : i = j
    · subst hj
      by_cases hb : i < w.sl.length
      · rw [List.getElem?_set_self hb] at h
        cases h
        exact ⟨a, dx, C, _, e, hC, hch, upd_same, by rw [upd_ne ne]; exact hD, RepF.put rv r, hdx, by have := putF_len f v gs; omega, hdx0⟩
      · rw [List.getElem?_eq_none (by simpa using hb)] at h; cases h
    · rw [List.getElem?_set_ne hj] at h
      have q := s.slots j x h
      cases x with
      | none => trivial
      | sh d => exact q
      | own d =>
        obtain ⟨b, q1, q2, q3, q4, q5⟩ := q
        have nb : b ≠ a := fun z => q5 (by rw [z]; exact ha)
        exact ⟨b, q1, OwnR.le (Le.refl _) (fun u h => by rw [upd_ne nb]; exact h) q2, q3, q4, q5⟩
      | strm => exact q
      | slf cn2 fs2 =>
        exact absurd (show (w.sl.set i .none)[j]? = some (.slf cn2 fs2) by rw [List.getElem?_set_ne hj]; exact h) (noSlf_at hno)
      | xcp cn fs => exact q
  · have key : ∀ j, OwnS (w.sl.set i (.slf cn (putD f d fs))) j → OwnS w.sl j := fun j ⟨dj, hj⟩ => by
      by_cases z : i = j
      · subst z
        by_cases hb : i < w.sl.length
        · rw [List.getElem?_set_self hb] at hj; cases hj
        · rw [List.getElem?_eq_none (by simpa using hb)] at hj; cases hj
      · rw [List.getElem?_set_ne z] at hj
        exact ⟨dj, hj⟩
    exact s.dist j k b hjk (key j hj) (key k hk)
  · obtain ⟨o, h⟩ := s.chgd b m
    by_cases z : b = a
    · exact ⟨_, by rw [z]; exact upd_same⟩
    · exact ⟨o, by rw [upd_ne z]; exact h⟩
  · obtain ⟨u, e1, e2, e3⟩ := s.lkd p hp
    exact ⟨u, e1, e2, by rw [upd_ne (ne_of_none e1 hF)]; exact e3⟩
  · rw [upd_ne (ne_of_none h hF)] at e
    exact s.lks b u o h q e

section
variable {X : Cx} {c : FC} {W : WX} {m : M D} {mr : M (List D)} {e o : Expr} {es : List Expr} {pos apos p : Pos} {i n k j : Nat} {cn f : Str}
theorem setF_to {K : PySem.W.Frag} {Dn : Ends} {σ : L2.St} {H : Hp} (hst : c.st = none) (hcl : ∀ C, c.cl cn = some C → Cls K C ∧ NoAttr K C f) (q : tS c W (mSetF i cn f m) Dn σ H) : sFld K (tVar i) (tF c W m) f Dn σ H := by
  obtain ⟨w, s, q⟩ := q
  unfold mSetF at q
  split at q
  · rename_i cn' fs hs
    obtain ⟨ecn, q0⟩ := wntS_ite q
    clear q
    subst ecn
    refine ⟨w, s, toFR_wnt q0 fun H1 w1 d s1 q v rv => ?_⟩
    obtain ⟨⟨hl, hno⟩, q⟩ := wntS_ite q
    have hs1 : w1.sl[i]? = some (.slf cn' fs) := by rw [s1.sl]; exact hs
    obtain ⟨a, dx, C, gs, q1, q2, q3, q4, q5, q6, q7, q8⟩ := s1.sr.slots i _ hs1
    obtain ⟨k1, k2⟩ := hcl C q2
    have hlg := q6.length
    refine ⟨_, q1, a, C, dx, gs, rfl, q4, k1, k2, by omega, ?_⟩
    exact q _ _ _ (s1.sr.slf_set hs1 q1 q4 q5 q2 q3 hst q6 q7 rv (by omega) q8.2 (by rw [s1.sl]; exact hno)) ⟨Le.refl _, rfl⟩ (by show w1.sl.set i _ = _; rw [s1.sl]) rfl
  · exact q.elim
theorem ds_setF {pos' : Pos} {cl : Str → Option Addr} (hcl : c.cl = cl) (hst : c.st = none) (hc : ∀ C, cl cn = some C → Cls X.K C ∧ NoAttr X.K C f) (ho : PE X o (tVar i)) (he : PE X e (tF c W m)) (hs : swapsWith e (some (.Attribute o f pos')) pos.line X.env = pure false := by rfl) :
    PS X (.Assign [.Attribute o f pos'] e pos) (tS c W (mSetF i cn f m)) := ps_imp (ps_fld ho he hs) fun _ _ _ q => setF_to hst (by rw [hcl]; exact hc) q
/-! a field of data -/
def mFld (ok : Str → Bool) (f : Str) (m : M D) : M D := fun s z => (m s z).bind fun d z => match d with
  | .ins cn fs => if ok cn = true then mOpt (fs.lookup f) z else .bad
  | _ => .bad
theorem df_fld {ok : Str → Bool} {cl : Str → Option Addr} (hcl : c.cl = cl) (hc : ∀ cn C, ok cn = true → cl cn = some C → Cls X.K C ∧ NoAttr X.K C f) (he : PE X e (tF c W m)) (hb : attributeBase e f X.env (eval e X.env) = eval e X.env := by rfl) :
    PE X (.Attribute e f pos) (tF c W (mFld ok f m)) := pe_imp (pe_fld he hb) fun σ H Q ⟨w, s, q⟩ => ⟨w, s, (Wnt.bind q).imp fun w1 H1 d s1 q1 v r => by
  cases d with
  | ins cn fs =>
    obtain ⟨hok, q2⟩ := wnt_ite q1
    obtain ⟨a, dx, C, gs, rfl, h1, h2, h3, h4⟩ := r
    obtain ⟨k1, k2⟩ := hc cn C hok (by rw [← hcl]; exact h1)
    obtain ⟨d', e1, q3⟩ := wnt_opt s1.sr q2
    obtain ⟨u, hu, ru⟩ := h4.look e1
    exact ⟨a, C, dx, gs, u, rfl, (s1.sr.sub _ _ h2).ins, k1, k2, hu, q3.val s1.sr ru⟩
  | _ => exact q1.elim⟩
end

/-! ### a new instance -/
/-- what holds while an __init__ runs -/
def iniC (c : FC) (w : Wd) (H : Hp) (x dx : Addr) : FC := { cl := c.cl, H0 := H, F0 := w.F, st := none, chg := [x], dx := some dx }
def startI (n : Nat) (cn : Str) (ds : List D) : Sl := (.slf cn [] :: ds.map .sh) ++ List.replicate (n - (ds.length + 1)) .none
def mdH (H : Hp) (x dx C : Addr) : Hp := upd (upd H dx (.own x)) x (.ins C dx [])
section
variable {c : FC} {w : Wd} {σ : L2.St} {H : Hp} {x dx C : Addr} {cn : Str} {N : List Str} {ds : List D} {us : List V}
theorem mdH_old {a : Addr} {o : HO} (h : H a = some o) (hx : H x = none) (hd : H dx = none) : mdH H x dx C a = some o := by
  unfold mdH
  rw [upd_ne (ne_of_none h hx), upd_ne (ne_of_none h hd)]
  exact h
theorem mdH_x : mdH H x dx C x = some (.ins C dx []) := upd_same
theorem mdH_dx (ne : dx ≠ x) : mdH H x dx C dx = some (.own x) := by
  unfold mdH
  rw [upd_ne ne, upd_same]
theorem SR.callI (s : SR c w σ H) (r : Reps c.cl w.F ds us) (hn : ds.length + 1 ≤ N.length) (hx : H x = none) (hd : H dx = none) (ne : dx ≠ x) (hC : c.cl cn = some C) :
    SR (iniC c w (mdH H x dx C) x dx) { F := w.F, lk := w.lk, sl := startI N.length cn ds, z := zDum } (L2.start N (.ref x :: us)) (mdH H x dx C) where
  sub := fun a u h => by
    rcases s.sub a u h with q | ⟨q1, o, q⟩
    · exact .inl (mdH_old q hx hd)
    · exact .inr ⟨q1, o, mdH_old q hx hd⟩
  keep := fun a o h _ => .inl h
  slots := fun i y e => by
    have e : (startI N.length cn ds)[i]? = some y := e
    have lv : us.length = ds.length := r.length
    unfold startI at e
    cases i with
    | zero =>
      simp at e
      subst e
      refine ⟨x, dx, C, [], by unfold L2.start; simp, hC, rfl, mdH_x, mdH_dx ne, by simp [RepF], s.fnone hd, by simp, rfl⟩
    | succ i =>
      rw [List.cons_append, List.getElem?_cons_succ] at e
      by_cases hi : i < ds.length
      · rw [List.getElem?_append_left (by simpa using hi), List.getElem?_map, Option.map_eq_some_iff] at e
        obtain ⟨d, e1, rfl⟩ := e
        obtain ⟨v, e2, rv⟩ := r.get e1
        refine ⟨v, ?_, rv⟩
        unfold L2.start
        rw [List.map_cons, List.cons_append, List.getElem?_cons_succ, List.getElem?_append_left (by simpa [lv] using hi), List.getElem?_map, e2]
        rfl
      · rw [List.getElem?_append_right (by simpa using hi), List.getElem?_replicate] at e
        split at e <;> cases e
        trivial
  dist := fun i j a _ hi => by
    obtain ⟨d, hi⟩ := hi
    have : Slot.own d ∈ startI N.length cn ds := List.mem_of_getElem? hi
    unfold startI at this
    rw [List.mem_append, List.mem_cons, List.mem_map] at this
    rcases this with (z | ⟨_, _, z⟩) | h
    · cases z
    · cases z
    · cases List.eq_of_mem_replicate h
  fmut := fun a m => by
    have m : a ∈ [x] := m
    rw [List.mem_singleton.mp m]
    exact s.fnone hx
  chgd := fun a m => by
    have m : a ∈ [x] := m
    rw [List.mem_singleton.mp m]
    exact ⟨_, mdH_x⟩
  strm := fun sa la h => by cases h
  fz0 := fun a o _ h => h
  len := by
    have lv : us.length = ds.length := r.length
    show (startI N.length cn ds).length = (L2.start N (.ref x :: us)).length
    unfold startI L2.start
    simp [lv] <;> omega
  lkd := fun p hp => by
    obtain ⟨u, e1, e2, e3⟩ := s.lkd p hp
    exact ⟨u, e1, e2, mdH_old e3 hx hd⟩
  lks := fun a u o h d e => by
    rcases s.sub a u h with q | ⟨q1, ob, q⟩
    · obtain ⟨kvs, z⟩ := d
      rw [mdH_old q hx hd, z] at e
      cases e
    · rw [mdH_old q hx hd] at e
      cases e
      exact s.lks a u _ h d q

/-- back from an __init__: F' may hold the new instance and its dict -/
theorem SR.retI {σ' : L2.St} {w0 w' : Wd} {H' F' : Hp} (s : SR c w σ H) (hx : H x = none) (hd : H dx = none) (t : SR (iniC c w (mdH H x dx C) x dx) w' σ' H') (l : Lat w0 w') (hF : w0.F = w.F) (hk : w0.lk = w.lk)
    (hl : Le w'.F F') (hn : ∀ a u, F' a = some u → w'.F a = some u ∨ ((a = x ∨ a = dx) ∧ H' a = some u ∧ ¬ isD u)) : Step c σ w H { F := F', lk := w.lk, sl := w.sl, z := w.z } H' := by
  have le : Le w.F F' := (hF ▸ l.le : Le w.F w'.F).trans hl
  have lk : w'.lk = w.lk := l.lk.trans hk
  have nx : ∀ {a o}, H a = some o → a ≠ x ∧ a ≠ dx := fun h => ⟨ne_of_none h hx, ne_of_none h hd⟩
  have all : ∀ a o, H a = some o → H' a = some o := fun a o h => by
    have n : a ∉ (iniC c w (mdH H x dx C) x dx).chg := fun m => (nx h).1 (List.mem_singleton.mp (show a ∈ [x] from m))
    rcases t.keep a o (mdH_old h hx hd) n with q | ⟨ob, m, q⟩
    · exact q
    · rw [lk] at m
      obtain ⟨u, e1, e2, e3⟩ := s.lkd _ m
      rw [h] at e3
      cases e3
      obtain ⟨u2, f1, f2, f3⟩ := t.lkd (a, ob) (by rw [lk]; exact m)
      rw [q] at f3
      have f4 : HO.frz ob u = u2 := by
        have := Option.some.inj f3
        injection this
      obtain ⟨kvs, e⟩ := f2
      rw [e] at f4
      cases f4
  have fz' : ∀ a o, H a = some o → w.F a = none → w'.F a = none := fun a o h n => t.fz0 a o (mdH_old h hx hd) n
  have fz : ∀ a o, H a = some o → w.F a = none → F' a = none := fun a o h n => by
    cases e : F' a with
    | none => rfl
    | some u =>
      rcases hn a u e with q | ⟨q, _⟩
      · rw [fz' a o h n] at q; cases q
      · rcases q with q | q
        · exact absurd q (nx h).1
        · exact absurd q (nx h).2
  have there : ∀ a o, c.H0 a = some o → ∃ u, H a = some u := fun a o h => by
    by_cases m : a ∈ c.chg
    · exact s.chgd a m
    · rcases s.keep a o h m with q | ⟨ob, _, q⟩
      · exact ⟨_, q⟩
      · exact ⟨_, q⟩
  refine ⟨⟨fun a u h => ?_, fun a o h n => ?_, fun i y e => ?_, s.dist, fun a m => ?_, fun a m => ?_, fun sa la h => ?_, fun a o h n => ?_, s.len, fun p hp => ?_, fun a u o h d e => ?_⟩, le, fun a o h _ => all a o h, rfl, rfl, fz, fun _ => all⟩
  · rcases hn a u h with q | ⟨_, q, _⟩
    · exact t.sub a u q
    · exact .inl q
  · rcases s.keep a o h n with q | ⟨ob, m, q⟩
    · exact .inl (all _ _ q)
    · exact .inr ⟨ob, m, all _ _ q⟩
  · have q := s.slots i y e
    cases y with
    | none => trivial
    | sh d =>
      obtain ⟨v, q1, q2⟩ := q
      exact ⟨v, q1, Rep.le le q2⟩
    | own d =>
      obtain ⟨a, q1, q2, q3, q4, q5⟩ := q
      obtain ⟨o, ho⟩ := q2.some
      exact ⟨a, q1, OwnR.le le (fun o h => all a o h) q2, fz a o ho q3, q4, q5⟩
    | strm => exact q
    | slf cn2 fs2 =>
      obtain ⟨a, dx2, C2, gs2, q1, q2, q3, q4, q5, q6, q7, q8⟩ := q
      exact ⟨a, dx2, C2, gs2, q1, q2, q3, all _ _ q4, all _ _ q5, RepF.le le q6, fz dx2 _ q5 q7, q8⟩
    | xcp cn2 fs2 =>
      obtain ⟨a, C2, dd, e1, e2, e3, e4⟩ := q
      exact ⟨a, C2, dd, e1, e2, e3, e4.le le⟩
  · obtain ⟨o, ho⟩ := s.chgd a m
    exact fz a o ho (s.fmut a m)
  · obtain ⟨o, ho⟩ := s.chgd a m
    exact ⟨o, all a o ho⟩
  · obtain ⟨⟨h1, h2⟩, h3⟩ := s.strm sa la h
    exact ⟨⟨all _ _ h1, all _ _ h2⟩, h3⟩
  · obtain ⟨u, hu⟩ := there a o h
    exact fz a u hu (s.fz0 a o h n)
  · obtain ⟨u, e1, e2, e3⟩ := s.lkd p hp
    exact ⟨u, le _ _ e1, e2, all _ _ e3⟩
  · rcases hn a u h with q | ⟨_, _, q⟩
    · have := t.lks a u o q d e
      rw [lk] at this
      exact this
    · exact absurd d q
end

/-! ### what an __init__ promises -/
abbrev Gm := List D → ER (List (Str × D))
def slfOf (cn : Str) (s : Sl) (z : Z) : ER (List (Str × D)) := match (s[0]? : Option Slot) with
  | some (.slf cn' fs) => if cn' = cn then .ok fs z else .bad
  | _ => .bad
def iniM (n : Nat) (cn : Str) (m : SM) : Gm := fun ds => match m (startI n cn ds) zDum with
  | .nx s z => slfOf cn s z
  | .rt .non s z => slfOf cn s z
  | .exc c fs _ z => .exc c fs z
  | _ => .bad
def spI (cl : Str → Option Addr) (cn : Str) (n : Nat) (g : Gm) : Sp := fun vs H Q E => ∃ (c : FC) (σ : L2.St) (w : Wd) (Hc : Hp) (ds : List D) (us : List V) (x dx C : Addr), c.cl = cl ∧ SR c w σ Hc ∧ Hc x = none ∧ Hc dx = none ∧ dx ≠ x ∧ cl cn = some C ∧ H = mdH Hc x dx C ∧ Reps c.cl w.F ds us ∧ ds.length = n ∧ vs = .ref x :: us ∧
  Wnt c (fun C dd _ H' => E C dd H') σ w Hc (fun w' H' fs => Rep c.cl w'.F (.ins cn fs) (.ref x) → Q .non H') (reZ w.z (g ds))
theorem spI_len {cl : Str → Option Addr} {cn : Str} {n : Nat} {g : Gm} {vs : List V} {H : Hp} {Q : VK} {E : XK} (h : spI cl cn n g vs H Q E) : vs.length = n + 1 := by
  obtain ⟨c, σ, w, Hc, ds, us, x, dx, C, _, _, _, _, _, _, _, r, hl, rfl, _⟩ := h
  rw [List.length_cons, r.length, hl]
section
variable {P : Program} {w : World} {K : PySem.W.Frag} {mg : Str → Option Value} {base : Heap} {cl : Str → Option Addr}
theorem fn_ini {x cn qual : Str} {params : Arguments} {body : List Stmt} {scope : Scope} {f : Addr} {fd : FuncData} {N ps : List Str} {k n : Nat} {m : SM} (F : FunD K x qual params body scope [] [] f fd) (S : FnScope N ps scope) (hps : ps.length = n + 1)
    (hb : ∀ (cdv : Value) (A : Around) (outer : List Env) (s : Shared) (H : Hp) (E : XK) (c : FC) (W : WX), Room k (A.deeper (envOfC qual scope s.heap.objs.size f cdv)) → c.cl = cl → c.st = none → Takes (cxOf (L2.CX P w) P w K mg base N qual scope f cdv A outer s H E) W →
      PSs (cxOf (L2.CX P w) P w K mg base N qual scope f cdv A outer s H E) body (tS c W m)) : FnOk P w K mg base (L2.CX P w) (k + 1) f fd ps (spI cl cn n (iniM N.length cn m)) := by
  refine F.ok S (fun vs H Q E h => (spI_len h).trans hps.symm) fun cdv A outer s H vs Q E hr hsp => ?_
  obtain ⟨c, σ, w0, Hc, ds, us, xa, dx, C, rfl, sr, hx, hd, ne, hC, rfl, r, hl, rfl, q⟩ := hsp
  refine ⟨_, hb cdv A outer s _ E (iniC c w0 (mdH Hc xa dx C) xa dx) (fun cls d _ H' => E cls d H') hr rfl rfl (takes_of (E := E) rfl rfl rfl rfl), ?_⟩
  have hN : ps.length ≤ N.length := by have := congrArg List.length S.pre; rw [List.length_take] at this; omega
  have s1 := sr.callI (cn := cn) (N := N) r (by omega) hx hd ne hC
  refine ⟨_, s1, ?_⟩
  show WntS _ _ _ _ (m (startI N.length cn ds) zDum)
  unfold iniM at q
  have fin : ∀ (σ' : L2.St) (H' : Hp) (w' : Wd) (sl : Sl) (z : Z), SR (iniC c w0 (mdH Hc xa dx C) xa dx) w' σ' H' → Lat { F := w0.F, lk := w0.lk, sl := startI N.length cn ds, z := zDum } w' → w'.sl = sl →
      Wnt c (fun C dd _ H' => E C dd H') σ w0 Hc (fun w' H' fs => Rep c.cl w'.F (.ins cn fs) (.ref xa) → Q .non H') (reZ w0.z (slfOf cn sl z)) → Q .non H' := by
    intro σ' H' w' sl z t l e q
    unfold slfOf at q
    split at q
    · rename_i cn' fs hs
      by_cases ec : cn' = cn
      · rw [if_pos ec] at q
        subst ec e
        obtain ⟨a, dx', C', gs, q1, q2, q3, q4, q5, q6, q7, q8⟩ := t.slots 0 _ hs
        have ea : a = xa := by
          have q3 : [xa] = [a] := q3
          injection q3 with z1 _
          exact z1.symm
        subst ea
        have q2 : c.cl cn' = some C' := q2
        have edx : dx' = dx := by
          have z : some dx = some dx' := q8.2
          exact (Option.some.inj z).symm
        have hFx : w'.F a = none := t.fmut a (List.mem_singleton.mpr rfl)
        have ndx : dx' ≠ a := ne_kind q5 q4 (fun z => by cases z)
        have lle : Le w'.F (upd (upd w'.F dx' (.own a)) a (.ins C' dx' gs)) := fun b u h => by
          rw [upd_ne (ne_of_none h hFx), upd_ne (ne_of_none h q7)]; exact h
        have st := sr.retI (F' := upd (upd w'.F dx' (.own a)) a (.ins C' dx' gs)) hx hd t l rfl rfl lle (fun b u h => by
          by_cases e1 : b = a
          · subst e1
            rw [upd_same] at h
            cases h
            exact .inr ⟨.inl rfl, q4, fun ⟨_, z⟩ => by cases z⟩
          · rw [upd_ne e1] at h
            by_cases e2 : b = dx'
            · subst e2
              rw [upd_same] at h
              cases h
              exact .inr ⟨.inr edx, q5, fun ⟨_, z⟩ => by cases z⟩
            · rw [upd_ne e2] at h
              exact .inl h)
        refine q H' _ st rfl ?_
        simp only [Rep]
        exact ⟨a, dx', C', gs, rfl, q2, upd_same, by rw [upd_ne ndx, upd_same], RepF.le lle q6⟩
      · rw [if_neg ec] at q
        exact q.elim
    · exact q.elim
  have out : ∀ {σ' : L2.St} {H' : Hp} {w' : Wd}, SR (iniC c w0 (mdH Hc xa dx C) xa dx) w' σ' H' → Lat { F := w0.F, lk := w0.lk, sl := startI N.length cn ds, z := zDum } w' → Step c σ w0 Hc { F := w'.F, lk := w0.lk, sl := w0.sl, z := w0.z } H' :=
    fun t l => sr.retI hx hd t l rfl rfl (Le.refl _) fun a u h => .inl h
  cases hm : m (startI N.length cn ds) zDum with
  | nx s z =>
    rw [hm] at q
    intro σ' H' w' t l e1 e2
    exact fin σ' H' w' s z t l e1 q
  | rt d s z =>
    rw [hm] at q
    intro σ' H' w' v t l e1 e2 rv
    cases d with
    | non =>
      have ev : v = .non := by simpa [Rep] using rv
      subst ev
      exact fin σ' H' w' s z t l e1 q
    | _ => exact q.elim
  | exc cn2 fs s z =>
    rw [hm] at q
    intro C2 dd σ' H' w' hc t l e1 e2 xd
    exact q C2 dd H' _ hc (out t l) rfl xd
  | bk s z => rw [hm] at q; exact q.elim
  | ct s z => rw [hm] at q; exact q.elim
  | bad => rw [hm] at q; exact q.elim
end
end DL

set_option Elab.async false
set_option linter.all false
set_option maxRecDepth 100000
set_option maxHeartbeats 4000000
namespace DL
open PySem PySem.Spec PyProof.Rows L2 RZ EX

/-! ### C(..), o.m(..): what is raised is wished for at the caller's slots -/
section
variable {X : Cx} {CX : CXT} {k : Nat} {f C : Addr} {fd : FuncData} {ps : List Str} {sp : Sp} {E : L2.St → XK} {x m : Str} {p pos apos : Pos} {e o : Expr} {es : List Expr} {ta : TE} {t : TA}
def tMakeS (C : Addr) (sp : Sp) (E : L2.St → XK) (t : TA) : TE := fun σ H Q => t σ H fun vs H1 => ∀ x dx, H1 x = none → H1 dx = none → dx ≠ x → sp (.ref x :: vs) (mdH H1 x dx C) (fun v H2 => v = .non ∧ Q (.ref x) H2) (E σ)
theorem run_makeS {pins : List (Addr × Obj)} {σ : L2.St} {H : Hp} {s : Shared} {Q : VK} {us : List Value} {vs : List V} (M : Mk X.K C f) (F : FnOk X.prog X.w X.K X.mg X.base CX k f fd ps sp) (hr : Room (k + 1) X.A) (hb : L2.Binds X.K fd ps [])
    (hx : PassesAt CX X σ (E σ)) (I : Inv X pins σ H s) (r : Vals vs us) (h : ∀ x dx, H x = none → H dx = none → dx ≠ x → sp (.ref x :: vs) (mdH H x dx C) (fun v H2 => v = .non ∧ Q (.ref x) H2) (E σ)) :
    wpAny (model X.prog X.w) X.A (call (.ref C) us) (EP X pins σ Q) X.xe s := by
  have hq := h (s.heap.objs.size + 1) s.heap.objs.size (I.hok.fresh (Nat.le_succ _)) (I.hok.fresh (Nat.le_refl _)) (Nat.ne_of_lt (Nat.lt_succ_self _))
  have I2 := Inv.made (C := C) I
  have r2 : Vals (V.ref (s.heap.objs.size + 1) :: vs) (Value.ref (s.heap.objs.size + 1) :: us) := .cons rfl r
  have hl : (Value.ref (s.heap.objs.size + 1) :: us ++ []).length = ps.length := by
    have e := r2.length
    rw [F.len _ _ _ _ hq] at e
    rw [List.append_nil]
    exact e.symm
  have b := hb _ (Value.ref (s.heap.objs.size + 1) :: us) I2.kIn hl
  rw [List.append_nil] at b
  refine wpAny_call (make_map (f := f) I.kIn M.makes M.init (beq_iff_eq.mp M.fn) (codeAny_mono (F.run _ X.stack _ _ ⟨Value.ref (s.heap.objs.size + 1) :: us, []⟩ (Value.ref (s.heap.objs.size + 1) :: us) _ _ (E σ) (hr.make C us [])
    (I2.env0.make C us []) b r2 hq) fun r s' z => ?_))
  cases r with
  | error e => exact hx pins _ _ e s' I2 z
  | ok fl =>
    cases fl with
    | ret u =>
      obtain ⟨v, H', I3, rv, ev, q3⟩ := I2.after z
      subst ev
      exact ⟨rv, ⟨V.ref (s.heap.objs.size + 1), H', I3, rfl, q3⟩⟩
    | next => exact False.elim z
    | brk => exact False.elim z
    | cont => exact False.elim z
theorem pe_makeS (M : Mk X.K C f) (F : FnOk X.prog X.w X.K X.mg X.base CX k f fd ps sp) (hr : Room (k + 1) X.A) (hg : Gl X x) (hm : X.mg x = some (.ref C)) (hb : L2.Binds X.K fd ps []) (hx : ∀ σ, PassesAt CX X σ (E σ))
    (ha : PA X (e :: es) t) (hdb : (x == ("__debug__" : Str)) = false := by decide) (he : starEach (e :: es) X.env = (false, eval e X.env) :: starEach es X.env := by rfl) (hpl : (backTo pos (starEach es X.env)).any (·.1) = false := by rfl) :
    PE X (.Call (.Name x p) (e :: es) [] pos) (tMakeS C sp E t) := by
  refine ⟨fun pins s σ H Q I h => wpAny_Call_Name_kw (ld_glob I hg hm ?_ hdb)⟩
  refine PySem.W.callWith_K (h₀ := X.base) I.ok.mod.kin M.kp (thn (ha.run pos pins s σ H _ I h) fun us s1 ⟨vs, H1, I1, r, q⟩ => ⟨I1.kIn, ?_⟩) he hpl
  exact run_makeS M F hr hb (hx σ) I1 r q
def tMethS (C : Addr) (m : Str) (sp : Sp) (E : L2.St → XK) (ta : TE) (t : TA) : TE := fun σ H Q => ta σ H fun x H1 => ∃ a dx fs, x = .ref a ∧ H1 a = some (.ins C dx fs) ∧ fs.lookup m = none ∧ t σ H1 fun vs H2 => sp (x :: vs) H2 Q (E σ)
theorem pe_methS1 {pl : Sem Bool} (he : PE X o ta) (c : Cls X.K C) (hm : Meth X.K C m f) (F : FnOk X.prog X.w X.K X.mg X.base CX k f fd ps sp) (hr : Room k X.A) (hb : L2.Binds X.K fd ps []) (hx : ∀ σ, PassesAt CX X σ (E σ)) (ha : PA X (e :: es) t)
    (hst : starEach (e :: es) X.env = (false, eval e X.env) :: starEach es X.env := by rfl) (hpl : (backTo pos (starEach es X.env)).any (·.1) = false := by rfl)
    (ht : eval (.Call (.Attribute o m apos) (e :: es) [] pos) X.env = (do
      let ov ← eval o X.env
      standAt apos.atName
      let (g, first) ← holding [ov] (getMethod ov m pl)
      callWith pos g first (backTo pos (starEach (e :: es) X.env)) (backToKw pos (keywordEach [] X.env))) := by rfl) :
    PE X (.Call (.Attribute o m apos) (e :: es) [] pos) (tMethS C m sp E ta t) := by
  refine ⟨fun pins s σ H Q I h => PySem.W.methodCall_KW (pl := pl) (thn (he.run pins s σ H _ I h) fun u s1 ⟨x, H1, I1, rx, a, dx, fs, ex, ea, l, q⟩ => ?_) ht⟩
  subst ex
  obtain rfl : u = Value.ref a := rx
  refine getmeth_ok I1 ea c hm l (PySem.W.callWith_K (first := [.ref a]) (h₀ := X.base) I.ok.mod.kin hm.kp (thn (ha.run pos pins s1 σ H1 _ I1 q) fun us s2 ⟨vs, H2, I2, r, q2⟩ => ⟨I2.kIn, ?_⟩) hst hpl)
  exact run_fnS (us := .ref a :: us) (vs := .ref a :: vs) F hr hb (hx σ) I2 (.cons rfl r) q2
theorem pe_methS0 {pl : Sem Bool} (he : PE X o ta) (c : Cls X.K C) (hm : Meth X.K C m f) (F : FnOk X.prog X.w X.K X.mg X.base CX k f fd ps sp) (hr : Room k X.A) (hb : L2.Binds X.K fd ps []) (hx : ∀ σ, PassesAt CX X σ (E σ))
    (ht : eval (.Call (.Attribute o m apos) [] [] pos) X.env = (do
      let ov ← eval o X.env
      standAt apos.atName
      let (g, first) ← holding [ov] (getMethod ov m pl)
      callWith pos g first (backTo pos (starEach [] X.env)) (backToKw pos (keywordEach [] X.env))) := by rfl) :
    PE X (.Call (.Attribute o m apos) [] [] pos) (tMethS C m sp E ta tNil) := by
  refine ⟨fun pins s σ H Q I h => PySem.W.methodCall_KW (pl := pl) (thn (he.run pins s σ H _ I h) fun u s1 ⟨x, H1, I1, rx, a, dx, fs, ex, ea, l, q⟩ => ?_) ht⟩
  subst ex
  obtain rfl : u = Value.ref a := rx
  refine getmeth_ok I1 ea c hm l ?_
  exact PySem.W.callWith_K0 (first := [.ref a]) I1.kIn hm.kp (run_fnS (us := [.ref a]) (vs := [.ref a]) F hr hb (hx σ) I1 (.cons rfl .nil) q)
end
/-! ### classes by their names -/
structure ClsOk (P : Program) (w : World) (K : PySem.W.Frag) (mg : Str → Option Value) (base : Heap) (cl : Str → Option Addr) (x : Str) (k n : Nat) (g : Gm) : Prop where
  ex : ∃ C f fd ps, cl x = some C ∧ mg x = some (.ref C) ∧ Mk K C f ∧ L2.Binds K fd ps [] ∧ FnOk P w K mg base (L2.CX P w) k f fd ps (spI cl x n g)
/-- the method m of the class cn: n arguments behind the self -/
structure MethOk (P : Program) (w : World) (K : PySem.W.Frag) (mg : Str → Option Value) (base : Heap) (cl : Str → Option Addr) (cn m : Str) (k n : Nat) (g : Fm) : Prop where
  ex : ∃ C f fd ps, cl cn = some C ∧ Cls K C ∧ Meth K C m f ∧ L2.Binds K fd ps [] ∧ FnOk P w K mg base (L2.CX P w) k f fd ps (spM cl (n + 1) false g)
def mMkI (cn : Str) (n : Nat) (g : Gm) (mr : M (List D)) : M D := fun s z => (mr s z).bind fun ds z => if ds.length = n then (reZ z (g ds)).bind fun fs z => .ok (.ins cn fs) z else .bad
def mMeth (cn m : Str) (n : Nat) (g : Fm) (mo : M D) (mr : M (List D)) : M D := fun s z => (mo s z).bind fun d z => match d with
  | .ins cn' fs => if cn' = cn ∧ (fs.lookup m).isNone = true then (mr s z).bind fun ds z => if ds.length = n then runF false g (d :: ds) z else .bad else .bad
  | _ => .bad
theorem RepF.none {cl : Str → Option Addr} {F : Hp} {f : Str} : ∀ {fs : List (Str × D)} {gs : List (Str × V)}, RepF cl F fs gs → fs.lookup f = none → gs.lookup f = none
  | [], gs, h, e => by
    simp only [RepF] at h
    subst h; rfl
  | (k, d') :: fs, gs, h, e => by
    simp only [RepF] at h
    obtain ⟨y, ys, rfl, r, h⟩ := h
    rw [List.lookup_cons] at e ⊢
    cases q : f == k with
    | true => rw [q] at e; cases e
    | false => rw [q] at e; exact RepF.none h e
section
variable {X : Cx} {c : FC} {W : WX} {e o : Expr} {es : List Expr} {mo : M D} {mr : M (List D)} {p pos apos : Pos} {x m : Str} {k j n : Nat} {g : Gm} {gm : Fm} {cl : Str → Option Addr}
theorem mkI_to {C : Addr} {σ : L2.St} {H : Hp} {Q : VK} (hC : c.cl x = some C) (q : tF c W (mMkI x n g mr) σ H Q) : tMakeS C (spI c.cl x n g) (WE W) (tAF c W mr) σ H Q := by
  obtain ⟨w, s, q⟩ := q
  refine ⟨w, s, (Wnt.bind q).imp fun w1 H1 ds s1 q1 vs rs xa dx hx hd ne => ?_⟩
  obtain ⟨hn, q2⟩ := wnt_ite q1
  refine ⟨c, σ, w1, H1, ds, vs, xa, dx, C, rfl, s1.sr, hx, hd, ne, hC, rfl, rs, hn, rfl, ?_⟩
  exact wnt_W (fun _ _ _ h => h) ((Wnt.bind q2).imp fun w2 H2 fs s2 q3 r => ⟨rfl, Wnt.ok s2.sr q3 _ r⟩)
theorem df_mkI (D : ClsOk X.prog X.w X.K X.mg X.base cl x k n g) (hcl : c.cl = cl) (tk : L2.Takes X W) (hr : Room j X.A) (hkj : k + 1 ≤ j) (hg : Gl X x) (ha : PA X (e :: es) (tAF c W mr)) (hdb : (x == ("__debug__" : Str)) = false := by decide)
    (he : starEach (e :: es) X.env = (false, eval e X.env) :: starEach es X.env := by rfl) (hpl : (backTo pos (starEach es X.env)).any (·.1) = false := by rfl) : PE X (.Call (.Name x p) (e :: es) [] pos) (tF c W (mMkI x n g mr)) := by
  obtain ⟨C, f, fd, ps, h1, h2, h3, h4, h5⟩ := D.ex
  subst hcl
  exact pe_imp (pe_makeS h3 h5 (hr.mono hkj) hg h2 h4 (fun σ => passAt tk σ) ha hdb he hpl) fun _ _ _ q => mkI_to h1 q
theorem meth_to {C : Addr} {σ : L2.St} {H : Hp} {Q : VK} {t : TA} (hC : c.cl x = some C) (ht : ∀ σ H Q, tAF c W mr σ H Q → t σ H Q) (q : tF c W (mMeth x m n gm mo mr) σ H Q) : tMethS C m (spM c.cl (n + 1) false gm) (WE W) (tF c W mo) t σ H Q := by
  obtain ⟨w, s, q⟩ := q
  refine ⟨w, s, (Wnt.bind q).imp fun w1 H1 d s1 q1 v r => ?_⟩
  cases d with
  | ins cn fs =>
    obtain ⟨⟨rfl, hno⟩, q2⟩ := wnt_ite q1
    clear q1
    have r0 := r
    obtain ⟨a, dx, C', gs, rfl, h1, h2, h3, h4⟩ := r
    rw [hC] at h1
    cases h1
    refine ⟨a, dx, gs, rfl, (s1.sr.sub _ _ h2).ins, h4.none (by simpa using hno), ht _ _ _ ⟨w1, s1.sr, ?_⟩⟩
    rw [s1.sl]
    refine (Wnt.bind q2).imp fun w2 H2 ds s2 q3 vs rs => ?_
    obtain ⟨hn, q4⟩ := wnt_ite q3
    refine ⟨c, σ, w2, .ins cn fs :: ds, .ref a :: vs, rfl, s2.sr, ?_, by simp [hn], rfl, wnt_W (fun _ _ _ h => h) q4⟩
    exact .cons (Rep.le s2.le r0) rs
  | _ => exact q1.elim
theorem df_meth {pl : Sem Bool} (D : MethOk X.prog X.w X.K X.mg X.base cl x m k n gm) (hcl : c.cl = cl) (tk : L2.Takes X W) (hr : Room j X.A) (hkj : k ≤ j) (ho : PE X o (tF c W mo)) (ha : PA X (e :: es) (tAF c W mr))
    (hst : starEach (e :: es) X.env = (false, eval e X.env) :: starEach es X.env := by rfl) (hpl : (backTo pos (starEach es X.env)).any (·.1) = false := by rfl)
    (ht : eval (.Call (.Attribute o m apos) (e :: es) [] pos) X.env = (do
      let ov ← eval o X.env
      standAt apos.atName
      let (g, first) ← holding [ov] (getMethod ov m pl)
      callWith pos g first (backTo pos (starEach (e :: es) X.env)) (backToKw pos (keywordEach [] X.env))) := by rfl) : PE X (.Call (.Attribute o m apos) (e :: es) [] pos) (tF c W (mMeth x m n gm mo mr)) := by
  obtain ⟨C, f, fd, ps, h1, h2, h3, h4, h5⟩ := D.ex
  subst hcl
  exact pe_imp (pe_methS1 (pl := pl) ho h2 h3 h5 (hr.mono hkj) h4 (fun σ => passAt tk σ) ha hst hpl ht) fun _ _ _ q => meth_to h1 (fun _ _ _ h => h) q
theorem df_meth0 {pl : Sem Bool} (D : MethOk X.prog X.w X.K X.mg X.base cl x m k 0 gm) (hcl : c.cl = cl) (tk : L2.Takes X W) (hr : Room j X.A) (hkj : k ≤ j) (ho : PE X o (tF c W mo))
    (ht : eval (.Call (.Attribute o m apos) [] [] pos) X.env = (do
      let ov ← eval o X.env
      standAt apos.atName
      let (g, first) ← holding [ov] (getMethod ov m pl)
      callWith pos g first (backTo pos (starEach [] X.env)) (backToKw pos (keywordEach [] X.env))) := by rfl) : PE X (.Call (.Attribute o m apos) [] [] pos) (tF c W (mMeth x m 0 gm mo mNil)) := by
  obtain ⟨C, f, fd, ps, h1, h2, h3, h4, h5⟩ := D.ex
  subst hcl
  exact pe_imp (pe_methS0 (pl := pl) ho h2 h3 h5 (hr.mono hkj) h4 (fun σ => passAt tk σ) ht) fun _ _ _ q => meth_to h1 (fun _ _ _ ⟨w, s, h⟩ => Wnt.ok s h [] (by simp [Reps])) q
end
end DL

set_option Elab.async false
set_option linter.all false
set_option maxRecDepth 100000
set_option maxHeartbeats 4000000
namespace DL
open PySem PySem.Spec PyProof.Rows L2 RZ EX

/-! ### == of dicts: of unlike lengths, or alike -/
def dEqX : D → D → Option D
  | .dic ks, .dic ls => if ks.length = ls.length then (if sameK ks ls = true then some (.bl true) else none) else some (.bl false)
  | d, e => dEq d e
def rEqD2 : R2 := fun x y H Q => ∃ a b ks ls, x = .ref a ∧ y = .ref b ∧ Rd H a (.dK ks) ∧ Rd H b (.dK ls) ∧ ((ks.length ≠ ls.length ∧ Q (.bl false) H) ∨ (ks.length = ls.length ∧ (∀ p ∈ ks, valV ls p.1 = some p.2 ∧ flatB p.2 = true) ∧ Q (.bl true) H))
section
variable {X : Cx} {c : FC} {W : WX}
theorem op_eq_dicts (hu : X.A.units < cLine) : OpR X (compareOp .Eq) rEqD2 := by
  intro pins s σ H x y v u Q I rx ry ⟨a, b, ks, ls, ex, ey, ea, eb, q⟩
  subst ex ey
  obtain ⟨_, ya, va, ra, da⟩ := dk_rd I.hok ea
  obtain ⟨_, yb, vb, rb, db⟩ := dk_rd I.hok eb
  obtain rfl : v = Value.ref a := rx
  obtain rfl : u = Value.ref b := ry
  have h1 := ra.length
  have h2 := rb.length
  rcases q with ⟨hl, q⟩ | ⟨hl, hp, q⟩
  · exact PySem.W.keq_eq (knd := mixKind X.prog X.w) (r := false) ya yb da db hu (fun z => absurd (by omega) hl) (fin_bl I q (by simp))
  · exact PySem.W.keq_eq (knd := mixKind X.prog X.w) (r := true) ya yb da db hu (fun _ => hits_all rb ra hp) (fin_bl I q (by simp; omega))
theorem op_eqX_data (hu : X.A.units + 64 < cLine) : OpR X (compareOp .Eq) (R2D c dEqX) := by
  refine opR_imp ((op_eq_data (c := c) hu).or (op_eq_dicts (X := X) (by omega))) fun x y H Q h => ?_
  obtain ⟨w, σ, dx, dy, d, s, rx, ry, e, q⟩ := h
  by_cases hd : ∃ ks ls, dx = .dic ks ∧ dy = .dic ls
  · obtain ⟨ks, ls, rfl, rfl⟩ := hd
    simp only [dEqX] at e
    obtain ⟨a, xs, rfl, h1, _, r1⟩ := rx
    obtain ⟨b, ys, rfl, h2, _, r2⟩ := ry
    refine .inr ⟨a, b, xs, ys, rfl, rfl, h1, h2, ?_⟩
    split at e
    · rename_i hl
      split at e
      · rename_i hs
        cases e
        unfold sameK at hs
        rw [Bool.and_eq_true] at hs
        exact .inr ⟨by rw [r1.length, r2.length, hl], sameK_rep r2 r1 hs.2, q.bl s⟩
      · cases e
    · rename_i hl
      cases e
      exact .inl ⟨by rw [r1.length, r2.length]; exact hl, q.bl s⟩
  · refine .inl ⟨w, σ, dx, dy, d, s, rx, ry, ?_, q⟩
    unfold dEqX at e
    split at e
    · exact absurd ⟨_, _, rfl, rfl⟩ hd
    · exact e

/-! ### names of the module -/
theorem df_glob {x : Str} {v : V} {d : D} {u : Value} {pos : Pos} (hg : Gl X x) (hm : X.mg x = some u) (r : RelV v u) (h : ∀ F, Rep c.cl F d v) (hd : (x == ("__debug__" : Str)) = false := by decide) : PE X (.Name x pos) (tF c W (mC d)) := df_c (pe_glob hg hm r hd) h
theorem df_gstr {x y : Str} {pos : Pos} (hg : Gl X x) (hm : ∃ t, X.mg x = some (.str y t)) (hd : (x == ("__debug__" : Str)) = false := by decide) : PE X (.Name x pos) (tF c W (mC (.str y))) := by
  obtain ⟨t, hm⟩ := hm
  exact df_glob (v := .str y) hg hm ⟨t, rfl⟩ (fun _ => by simp [Rep]) hd
theorem df_gint {x : Str} {i : Int} {pos : Pos} (hg : Gl X x) (hm : ∃ t, X.mg x = some (.int i t)) (hd : (x == ("__debug__" : Str)) = false := by decide) : PE X (.Name x pos) (tF c W (mC (.int i))) := by
  obtain ⟨t, hm⟩ := hm
  exact df_glob (v := .int i) hg hm ⟨t, rfl⟩ (fun _ => by simp [Rep]) hd
theorem df_gfn {cl : Str → Option Addr} {x : Str} {a : Addr} {pos : Pos} (hcl : c.cl = cl) (hg : Gl X x) (hm : X.mg x = some (.ref a)) (hc : cl x = some a) (hd : (x == ("__debug__" : Str)) = false := by decide) : PE X (.Name x pos) (tF c W (mC (.fn x))) :=
  df_glob (v := .ref a) hg hm rfl (fun _ => by simp only [Rep]; exact ⟨a, by rw [hcl]; exact hc, rfl⟩) hd

/-! ### a call of a def that an expression hands back -/
structure HeldX (X : Cx) (k : Nat) (f : Addr) (sp : Sp) : Prop where
  ex : ∃ (fd : FuncData) (ps : List Str), FnOk X.prog X.w X.K X.mg X.base (L2.CX X.prog X.w) k f fd ps sp ∧ PySem.W.keepIn X.K (.ref f) = true ∧ L2.Binds X.K fd ps []
def tCallX (X : Cx) (k : Nat) (E : L2.St → XK) (tf : TE) (t : TA) : TE := fun σ H Q => tf σ H fun x H1 => ∃ f sp, x = .ref f ∧ HeldX X k f sp ∧ t σ H1 fun vs H2 => sp vs H2 Q (E σ)
theorem pe_callX {k : Nat} {E : L2.St → XK} {tf : TE} {t : TA} {fe e : Expr} {es : List Expr} {pos : Pos} (hr : Room k X.A) (hx : ∀ σ, PassesAt (L2.CX X.prog X.w) X σ (E σ)) (hf : PE X fe tf) (ha : PA X (e :: es) t)
    (he : starEach (e :: es) X.env = (false, eval e X.env) :: starEach es X.env := by rfl) (hpl : (backTo pos (starEach es X.env)).any (·.1) = false := by rfl)
    (ht : eval (.Call fe (e :: es) [] pos) X.env = (do callWith pos (← eval fe X.env) [] (backTo pos (starEach (e :: es) X.env)) (backToKw pos (keywordEach [] X.env))) := by rfl) : PE X (.Call fe (e :: es) [] pos) (tCallX X k E tf t) := by
  refine ⟨fun pins s σ H Q I h => Call_ (thn (hf.run pins s σ H _ I h) fun u s1 ⟨x, H1, I1, rx, f, sp, ex, hS, q⟩ => ?_) ht⟩
  subst ex
  obtain rfl : u = Value.ref f := rx
  obtain ⟨fd, ps, F, hk, hb⟩ := hS.ex
  refine PySem.W.callWith_K (h₀ := X.base) I.ok.mod.kin hk (thn (ha.run pos pins s1 σ H1 _ I1 q) fun us s2 ⟨vs, H2, I2, r, q2⟩ => ⟨I2.kIn, ?_⟩) he hpl
  exact run_fnS F hr hb (hx σ) I2 r q2
/-- the defs that may be meant: their names and what they do -/
def mCallV (n : Nat) (tab : List (Str × Fm)) (mf : M D) (mr : M (List D)) : M D := fun s z => (mf s z).bind fun d z => match d with
  | .fn x => match tab.lookup x with
    | some g => (mr s z).bind fun ds z => if ds.length = n then runF false g ds z else .bad
    | none => .bad
  | _ => .bad
theorem df_callV {cl : Str → Option Addr} {n k j : Nat} {tab : List (Str × Fm)} {mf : M D} {mr : M (List D)} {fe e : Expr} {es : List Expr} {pos : Pos}
    (D : ∀ x g, tab.lookup x = some g → DefOk X.prog X.w X.K X.mg X.base cl x k n false g) (hmg : ∀ x g, tab.lookup x = some g → X.mg x = (cl x).map .ref) (hcl : c.cl = cl) (tk : L2.Takes X W) (hr : Room j X.A) (hkj : k ≤ j)
    (hf : PE X fe (tF c W mf)) (ha : PA X (e :: es) (tAF c W mr)) (he : starEach (e :: es) X.env = (false, eval e X.env) :: starEach es X.env := by rfl) (hpl : (backTo pos (starEach es X.env)).any (·.1) = false := by rfl)
    (ht : eval (.Call fe (e :: es) [] pos) X.env = (do callWith pos (← eval fe X.env) [] (backTo pos (starEach (e :: es) X.env)) (backToKw pos (keywordEach [] X.env))) := by rfl) : PE X (.Call fe (e :: es) [] pos) (tF c W (mCallV n tab mf mr)) := by
  subst hcl
  refine pe_imp (pe_callX (k := k) (E := WE W) (hr.mono hkj) (fun σ => passAt tk σ) hf ha he hpl ht) fun σ H Q ⟨w, s, q⟩ => ⟨w, s, (Wnt.bind q).imp fun w1 H1 d s1 q1 v r => ?_⟩
  cases d with
  | fn x =>
    cases ex : tab.lookup x with
    | none =>
      simp only [ex] at q1
      exact q1.elim
    | some g =>
      simp only [ex] at q1
      obtain ⟨a, e1, rfl⟩ := r
      obtain ⟨f, fd, ps, h1, h2, h3, h4⟩ := (D x g ex).ex
      have e2 := hmg x g ex
      rw [h1, e1] at e2
      cases e2
      refine ⟨_, _, rfl, ⟨fd, ps, h4, h2, h3⟩, w1, s1.sr, ?_⟩
      rw [s1.sl]
      refine (Wnt.bind q1).imp fun w2 H2 ds s2 q2 vs rs => ?_
      obtain ⟨hn, q3⟩ := wnt_ite q2
      exact ⟨c, σ, w2, ds, vs, rfl, s2.sr, rs, hn, rfl, wnt_W (fun _ _ _ h => h) q3⟩
  | _ => exact q1.elim
end
end DL

set_option Elab.async false
set_option linter.all false
set_option maxRecDepth 100000
set_option maxHeartbeats 4000000
namespace DL
open PySem PySem.Spec PyProof.Rows L2 RZ EX

/-! ### a, b = e, f: some of the values new lists or dicts of the name's own -/
def isBox : D → Bool
  | .lst _ => true
  | .dic _ => true
  | _ => false
def mItms : List (Bool × M D) → M (List D)
  | [] => fun _ z => .ok [] z
  | (b, m) :: r => fun s z => (m s z).bind fun d z => if b = true ∧ isBox d = false then .bad else (mItms r s z).bind fun ds z => .ok (d :: ds) z
def setAll : List Nat → List Bool → List D → Sl → Sl
  | i :: is, b :: bs, d :: ds, s => setAll is bs ds (s.set i (if b = true then .own d else .sh d))
  | _, _, _, s => s
def mPar (is : List Nat) (its : List (Bool × M D)) : SM := fun s z => match mItms its s z with
  | .ok ds z => .nx (setAll is (its.map (·.1)) ds s) z
  | .exc cn fs z => .exc cn fs s z
  | .bad => .bad
def tItems (c : FC) (W : WX) : List (Bool × M D) → TA
  | [] => tNil
  | (false, m) :: r => tCons (tF c W m) (tItems c W r)
  | (true, m) :: r => tCons (tN c W m) (tItems c W r)
def ownA : List Bool → List V → List Addr
  | true :: bs, .ref p :: vs => p :: ownA bs vs
  | _ :: bs, _ :: vs => ownA bs vs
  | _, _ => []
def ParR (c : FC) (w : Wd) (σ : L2.St) (H : Hp) : List Bool → List D → List V → Prop
  | [], [], vs => vs = []
  | false :: bs, d :: ds, vs => ∃ v q, vs = v :: q ∧ Rep c.cl w.F d v ∧ ParR c w σ H bs ds q
  | true :: bs, d :: ds, vs => ∃ p q, vs = .ref p :: q ∧ OwnR c.cl w.F H p d ∧ w.F p = none ∧ c.H0 p = none ∧ p ∉ c.chg ∧ NoOwn w σ p ∧ p ∉ ownA bs q ∧ ParR c w σ H bs ds q
  | _, _, _ => False
section
variable {c : FC} {W : WX} {w : Wd} {σ : L2.St} {H : Hp}
theorem newR_ownR {cl : Str → Option Addr} {F H : Hp} {d : D} {o : HO} {p : Addr} (hb : isBox d = true) (n : NewR cl F d o) (h : H p = some o) : OwnR cl F H p d := by
  cases d <;> first
    | (obtain ⟨xs, rfl, r⟩ := n; exact ⟨xs, h, r⟩)
    | cases hb
theorem items_to : ∀ {its : List (Bool × M D)} {w : Wd} {H : Hp} {Q : List V → Hp → Prop}, SR c w σ H → Wnt c W σ w H (fun w' H' ds => ∀ vs, ParR c w' σ H' (its.map (·.1)) ds vs → (∀ a ∈ ownA (its.map (·.1)) vs, H a = none) → Q vs H') (mItms its w.sl w.z) → tItems c W its σ H Q
  | [], w, H, Q, s, q => Wnt.ok s q [] rfl (fun a h => by cases h)
  | (false, m) :: r, w, H, Q, s, q => by
    refine ⟨w, s, (Wnt.bind q).imp fun w1 H1 d s1 q1 v rv => ?_⟩
    rw [if_neg (fun z => by cases z.1)] at q1
    refine items_to (its := r) s1.sr ?_
    rw [s1.sl]
    refine (Wnt.bind q1).imp fun w2 H2 ds s2 q2 vs pr hn => Wnt.ok s2.sr q2 (v :: vs) ⟨v, vs, rfl, Rep.le s2.le rv, pr⟩ fun a ha => ?_
    refine s1.wasnone (hn a ?_)
    cases v <;> exact ha
  | (true, m) :: r, w, H, Q, s, q => by
    refine ⟨w, s, ?_⟩
    unfold mItms at q
    cases hm : m w.sl w.z with
    | exc cn fs z =>
      rw [hm] at q
      exact q
    | bad =>
      rw [hm] at q
      exact q
    | ok d z =>
    rw [hm] at q
    intro H1 w1 s1 ez o n p hp hF ho
    subst ez
    have q : Wnt c W σ w H (fun w' H' ds => ∀ vs, ParR c w' σ H' (((true, m) :: r).map (·.1)) ds vs → (∀ a ∈ ownA (((true, m) :: r).map (·.1)) vs, H a = none) → Q vs H') (if true = true ∧ isBox d = false then .bad else (mItms r w.sl w1.z).bind fun ds z => .ok (d :: ds) z) := q
    by_cases hb : isBox d = false
    · rw [if_pos ⟨rfl, hb⟩] at q
      exact q.elim
    · rw [if_neg (fun z => hb z.2)] at q
      have hb : isBox d = true := by simpa using hb
      have t1 : Step c σ w H w1 (upd H1 p o) := (Step.lay (o' := o) s hp s1 hF ho (newR_own n)).1
      refine items_to (its := r) t1.sr ?_
      rw [s1.sl]
      refine (Wnt.bind (Wnt.step t1 q)).imp fun w2 H2 ds s2 q2 vs pr hn => Wnt.ok s2.sr q2 (.ref p :: vs) ⟨p, vs, rfl, ?_, ?_, s.h0 hp, s.nochg hp, ?_, fun hm => ?_, pr⟩ fun a ha => ?_
      · exact newR_ownR hb (n.le s2.le) (s2.keep _ _ upd_same (s.nochg hp))
      · exact s2.fz p _ upd_same hF
      · exact fun j dj hj ej => s.noown hp j dj (by rw [← s1.sl, ← s2.sl]; exact hj) ej
      · have := hn p hm
        rw [upd_same] at this
        cases this
      · rcases List.mem_cons.mp ha with rfl | ha
        · exact hp
        · exact t1.wasnone (hn a ha)
theorem ParR.track {T : Addr} {u : HO} (hT : H T = none) : ∀ {bs : List Bool} {ds : List D} {vs : List V}, ParR c w σ H bs ds vs → ParR c w σ (upd H T u) bs ds vs
  | [], [], vs, h => h
  | false :: bs, d :: ds, vs, ⟨v, q, e, r, h⟩ => ⟨v, q, e, r, ParR.track hT h⟩
  | true :: bs, d :: ds, vs, ⟨p, q, e, o, h1, h2, h3, h4, h5, h⟩ => by
    obtain ⟨o', ho⟩ := o.some
    exact ⟨p, q, e, OwnR.le (Le.refl _) (fun o h => by rw [upd_ne (ne_of_none ho hT)]; exact h) o, h1, h2, h3, h4, h5, ParR.track hT h⟩
  | [], _ :: _, _, h => h.elim
  | true :: _, [], _, h => h.elim
  | false :: _, [], _, h => h.elim
/-- an object that nothing else names goes to a slot -/
theorem SR.put_own {i : Nat} {d : D} {p : Addr} (s : SR c w σ H) (o : OwnR c.cl w.F H p d) (hF : w.F p = none) (h0 : c.H0 p = none) (hc : p ∉ c.chg) (no : NoOwn w σ p) : SR c { w with sl := w.sl.set i (.own d) } (σ.set i (some (.ref p))) H := by
  have far : ∀ j, j ≠ i → (w.sl.set i (.own d))[j]? = w.sl[j]? := fun j h => List.getElem?_set_ne (Ne.symm h)
  have far2 : ∀ j, j ≠ i → (σ.set i (some (V.ref p)))[j]? = σ[j]? := fun j h => List.getElem?_set_ne (Ne.symm h)
  refine ⟨s.sub, s.keep, fun j x e => ?_, fun j k a hjk hj hk ej ek => ?_, s.fmut, s.chgd, s.strm, s.fz0, by rw [List.length_set, List.length_set]; exact s.len, s.lkd, s.lks⟩
  · have e : (w.sl.set i (.own d))[j]? = some x := e
    by_cases hj : j = i
    · subst hj
      by_cases hb : j < w.sl.length
      · rw [List.getElem?_set_self hb] at e
        cases e
        exact ⟨p, by rw [List.getElem?_set_self (by rw [← s.len]; exact hb)], o, hF, h0, hc⟩
      · rw [List.getElem?_eq_none (by simpa using hb)] at e; cases e
    · rw [far j hj] at e
      have q := s.slots j x e
      cases x with
      | none => trivial
      | sh d =>
        obtain ⟨v, q1, q2⟩ := q
        exact ⟨v, (far2 j hj).trans q1, q2⟩
      | own d =>
        obtain ⟨a, q1, q2⟩ := q
        exact ⟨a, (far2 j hj).trans q1, q2⟩
      | strm =>
        obtain ⟨sa, la, q1, q2⟩ := q
        exact ⟨sa, la, q1, (far2 j hj).trans q2⟩
      | slf cn fs =>
        obtain ⟨a, dx, C, gs, q1, q2⟩ := q
        exact ⟨a, dx, C, gs, (far2 j hj).trans q1, q2⟩
      | xcp cn fs =>
        obtain ⟨a, C, dd, q1, q2⟩ := q
        exact ⟨a, C, dd, (far2 j hj).trans q1, q2⟩
  · obtain ⟨dj, hj⟩ := hj
    obtain ⟨dk, hk⟩ := hk
    have hj : (w.sl.set i (.own d))[j]? = _ := hj
    have hk : (w.sl.set i (.own d))[k]? = _ := hk
    have hit : ∀ b, (σ.set i (some (V.ref p)))[i]? = some (some (.ref b)) → b = p := fun b e => by
      by_cases hb : i < σ.length
      · rw [List.getElem?_set_self hb] at e
        cases e; rfl
      · rw [List.getElem?_eq_none (by simpa using hb)] at e; cases e
    by_cases h1 : j = i
    · have h2 : k ≠ i := fun z => hjk (h1.trans z.symm)
      rw [far k h2] at hk
      rw [far2 k h2] at ek
      rw [h1] at ej
      rw [hit a ej] at ek
      exact no k _ hk ek
    · rw [far j h1] at hj
      rw [far2 j h1] at ej
      by_cases h2 : k = i
      · rw [h2] at ek
        rw [hit a ek] at ej
        exact no j _ hj ej
      · rw [far k h2] at hk
        rw [far2 k h2] at ek
        exact s.dist j k a hjk ⟨_, hj⟩ ⟨_, hk⟩ ej ek
def setV : List Nat → List V → L2.St → L2.St
  | i :: is, v :: vs, σ => setV is vs (σ.set i (some v))
  | _, _, σ => σ
theorem NoOwn.set_sh {i : Nat} {d : D} {v : V} {p : Addr} (h : NoOwn w σ p) : NoOwn { w with sl := w.sl.set i (.sh d) } (σ.set i (some v)) p := fun j dj hj ej => by
  have hj : (w.sl.set i (.sh d))[j]? = _ := hj
  by_cases z : i = j
  · subst z
    by_cases hb : i < w.sl.length
    · rw [List.getElem?_set_self hb] at hj; cases hj
    · rw [List.getElem?_eq_none (by simpa using hb)] at hj; cases hj
  · rw [List.getElem?_set_ne z] at hj ej
    exact h j dj hj ej
theorem NoOwn.set_own {i : Nat} {d : D} {p q : Addr} (h : NoOwn w σ p) (ne : p ≠ q) : NoOwn { w with sl := w.sl.set i (.own d) } (σ.set i (some (.ref q))) p := fun j dj hj ej => by
  have hj : (w.sl.set i (.own d))[j]? = _ := hj
  by_cases z : i = j
  · subst z
    by_cases hb : i < σ.length
    · rw [List.getElem?_set_self hb] at ej
      cases ej
      exact ne rfl
    · rw [List.getElem?_eq_none (by simpa using hb)] at ej; cases ej
  · rw [List.getElem?_set_ne z] at hj ej
    exact h j dj hj ej
theorem ParR.slots {w' : Wd} {σ' : L2.St} (hF : w'.F = w.F) : ∀ {bs : List Bool} {ds : List D} {vs : List V}, (∀ p ∈ ownA bs vs, NoOwn w σ p → NoOwn w' σ' p) → ParR c w σ H bs ds vs → ParR c w' σ' H bs ds vs
  | [], [], vs, _, h => h
  | false :: bs, d :: ds, vs, k, h => by
    obtain ⟨v, q, e, r, h⟩ := h
    subst e
    exact ⟨v, q, rfl, by rw [hF]; exact r, ParR.slots hF (fun p hp => k p (by cases v <;> exact hp)) h⟩
  | true :: bs, d :: ds, vs, k, h => by
    obtain ⟨p, q, e, o, h1, h2, h3, h4, h5, h⟩ := h
    subst e
    exact ⟨p, q, rfl, by rw [hF]; exact o, by rw [hF]; exact h1, h2, h3, k p List.mem_cons_self h4, h5, ParR.slots hF (fun p hp => k p (List.mem_cons_of_mem _ hp)) h⟩
  | [], _ :: _, _, _, h => h.elim
  | true :: _, [], _, _, h => h.elim
  | false :: _, [], _, _, h => h.elim
theorem SR.setAll : ∀ {is : List Nat} {bs : List Bool} {ds : List D} {vs : List V} {w : Wd} {σ : L2.St}, SR c w σ H → ParR c w σ H bs ds vs → is.length = bs.length → SR c { w with sl := DL.setAll is bs ds w.sl } (setV is vs σ) H
  | [], [], [], vs, w, σ, s, h, _ => s
  | i :: is, false :: bs, d :: ds, _, w, σ, s, ⟨v, q, rfl, r, h⟩, hl => by
    have s1 := s.set_sh (i := i) r
    have h1 : ParR c { w with sl := w.sl.set i (.sh d) } (σ.set i (some v)) H bs ds q := ParR.slots (w := w) (σ := σ) (w' := { w with sl := w.sl.set i (.sh d) }) (σ' := σ.set i (some v)) rfl (fun p _ n => n.set_sh) h
    exact SR.setAll (w := { w with sl := w.sl.set i (.sh d) }) s1 h1 (by simpa using hl)
  | i :: is, true :: bs, d :: ds, _, w, σ, s, ⟨p, q, rfl, o, h1, h2, h3, h4, h5, h⟩, hl => by
    have s1 := s.put_own (i := i) o h1 h2 h3 h4
    have h6 : ParR c { w with sl := w.sl.set i (.own d) } (σ.set i (some (.ref p))) H bs ds q := ParR.slots (w := w) (σ := σ) (w' := { w with sl := w.sl.set i (.own d) }) (σ' := σ.set i (some (.ref p))) rfl (fun b hb n => n.set_own fun z => h5 (by rw [← z]; exact hb)) h
    exact SR.setAll (w := { w with sl := w.sl.set i (.own d) }) s1 h6 (by simpa using hl)
  | _ :: _, [], [], _, _, _, _, _, hl => by cases hl
  | [], _ :: _, _, _, _, _, _, _, hl => by cases hl
  | _, [], _ :: _, _, _, _, _, h, _ => h.elim
  | _, true :: _, [], _, _, _, _, h, _ => h.elim
  | _, false :: _, [], _, _, _, _, h, _ => h.elim
def gNms : List Nat → TGs
  | [] => gNil
  | i :: is => gCons (gName i) (gNms is)
theorem gNms_to : ∀ {is : List Nat} {vs : List V} {σ : L2.St} {H : Hp} {Q : L2.St → Hp → Prop}, vs.length = is.length → Q (setV is vs σ) H → gNms is vs σ H Q
  | [], [], σ, H, Q, _, q => ⟨rfl, q⟩
  | i :: is, v :: vs, σ, H, Q, hl, q => ⟨v, vs, rfl, gNms_to (by simpa using hl) q⟩
  | [], _ :: _, _, _, _, hl, _ => by cases hl
  | _ :: _, [], _, _, _, hl, _ => by cases hl
theorem ParR.length : ∀ {bs : List Bool} {ds : List D} {vs : List V}, ParR c w σ H bs ds vs → vs.length = bs.length
  | [], [], vs, h => by rw [show vs = [] from h]; rfl
  | false :: bs, d :: ds, vs, h => by
    obtain ⟨v, q, rfl, _, h⟩ := h
    simp [ParR.length h]
  | true :: bs, d :: ds, vs, h => by
    obtain ⟨p, q, rfl, _, _, _, _, _, _, h⟩ := h
    simp [ParR.length h]
  | [], _ :: _, _, h => h.elim
  | true :: _, [], _, h => h.elim
  | false :: _, [], _, h => h.elim
theorem par_core {is : List Nat} {its : List (Bool × M D)} {Dn : Ends} {Q : List V → Hp → Prop} (hl : is.length = its.length) (s : SR c w σ H) (q : WntS c W Dn w (mPar is its w.sl w.z))
    (hQ : ∀ vs H1, vs.length = is.length → Dn.nx (setV is vs σ) H1 → (∀ T u, H1 T = none → Dn.nx (setV is vs σ) (upd H1 T u)) → Q vs H1) : tItems c W its σ H Q := by
  refine items_to s ?_
  unfold mPar at q
  cases hm : mItms its w.sl w.z with
  | exc cn fs z =>
    rw [hm] at q
    exact WntS.err q
  | bad =>
    rw [hm] at q
    exact q
  | ok ds z =>
    rw [hm] at q
    intro H1 w1 s1 ez vs pr _
    subst ez
    have hlv : vs.length = is.length := by rw [pr.length, hl, List.length_map]
    have hli : is.length = (its.map (·.1)).length := by rw [hl, List.length_map]
    have fin : ∀ H2, SR c { w1 with sl := DL.setAll is (its.map (·.1)) ds w1.sl } (setV is vs σ) H2 → Dn.nx (setV is vs σ) H2 := fun H2 t =>
      q _ _ _ t ⟨s1.le, s1.lk⟩ (by show DL.setAll is _ ds w1.sl = _; rw [s1.sl]) rfl
    have t0 := SR.setAll s1.sr pr hli
    refine hQ vs H1 hlv (fin _ t0) fun T u hT => fin _ ?_
    exact SR.setAll (s1.sr.track u hT).sr (pr.track hT) hli
end
section
variable {X : Cx} {c : FC} {W : WX} {its : List (Bool × M D)} {pos : Pos}
/-- two names -/
theorem ds_par2 {i j : Nat} {x y : Str} {a b : Expr} {px py pt : Pos} {kt k2 pt2} (hl : its.length = 2) (hc : X.calm = true) (hN : X.N.Nodup) (hi : X.N[i]? = some x) (hj : X.N[j]? = some y) (hij : i ≠ j) (hx : X.env.scope.names.lookup x = some .local) (hy : X.env.scope.names.lookup y = some .local)
    (ha : PA X [a, b] (tItems c W its)) (hw : swappedStores [.Tuple [.Name x px, .Name y py] kt pt] (.Tuple [a, b] k2 pt2) X.env = pure (some [x, y]) := by rfl) (hs : swapsWithSole [.Tuple [.Name x px, .Name y py] kt pt] (.Tuple [a, b] k2 pt2) pos.line X.env = pure false := by rfl) :
    PS X (.Assign [.Tuple [.Name x px, .Name y py] kt pt] (.Tuple [a, b] k2 pt2) pos) (tS c W (mPar [i, j] its)) := ps_imp (ps_par hc hN hi hj hij hx hy ha hw hs) fun Dn σ H ⟨w, s, q⟩ => by
  refine par_core (by rw [hl]; rfl) s q fun vs H1 h1 h2 _ => ?_
  match vs, h1, h2 with
  | [v, u], _, h2 => exact ⟨v, u, rfl, h2⟩
/-- three names -/
theorem ds_par3 {i j l : Nat} {x y z : Str} {a b d : Expr} {px py pz pt : Pos} {kt k2 pt2} (hl : its.length = 3) (hc : X.calm = true) (hN : X.N.Nodup) (hi : X.N[i]? = some x) (hj : X.N[j]? = some y) (hk : X.N[l]? = some z) (hij : i ≠ j) (hil : i ≠ l) (hjl : j ≠ l)
    (hx : X.env.scope.names.lookup x = some .local) (hy : X.env.scope.names.lookup y = some .local) (hz : X.env.scope.names.lookup z = some .local) (ha : PA X [a, b, d] (tItems c W its)) (hw : swappedStores [.Tuple [.Name x px, .Name y py, .Name z pz] kt pt] (.Tuple [a, b, d] k2 pt2) X.env = pure (some [x, y, z]) := by rfl)
    (hs : swapsWithSole [.Tuple [.Name x px, .Name y py, .Name z pz] kt pt] (.Tuple [a, b, d] k2 pt2) pos.line X.env = pure false := by rfl) : PS X (.Assign [.Tuple [.Name x px, .Name y py, .Name z pz] kt pt] (.Tuple [a, b, d] k2 pt2) pos) (tS c W (mPar [i, j, l] its)) :=
  ps_imp (ps_par3 hc hN hi hj hk hij hil hjl hx hy hz ha hw hs) fun Dn σ H ⟨w, s, q⟩ => by
  refine par_core (by rw [hl]; rfl) s q fun vs H1 h1 h2 _ => ?_
  match vs, h1, h2 with
  | [v, u, t], _, h2 => exact ⟨v, u, t, rfl, h2⟩
/-- names of which one is a cell, or more than three: by a tuple -/
theorem ds_parT {is : List Nat} {tg e : Expr} {n : Nat} (hl : is.length = its.length) (hn : is.length = n) (hsz : n ≤ lim) (h : PS X (.Assign [tg] e pos) (tAsg (tTup (tItems c W its)) (gTup X.K n (gNms is)))) : PS X (.Assign [tg] e pos) (tS c W (mPar is its)) := ps_imp h fun Dn σ H ⟨w, s, q⟩ => by
  refine par_core hl s q fun vs H1 h1 _ h3 => ⟨lim_line (by omega), fun T hT => ⟨T, vs, rfl, SqT.of upd_same, by omega, gNms_to h1 (h3 T _ hT)⟩⟩
end
end DL

set_option Elab.async false
set_option linter.all false
set_option maxRecDepth 100000
set_option maxHeartbeats 4000000
namespace DL
open PySem PySem.Spec PyProof.Rows L2 RZ EX

/-! ### a list's items in a drawn order: left = list(some); return [left.pop(draw(stream, len(left))) for k in range(len(left))] -/
def mixGo (g : Fm) : Nat → List D → Z → ER (List D)
  | 0, _, z => .ok [] z
  | n + 1, xs, z => (runF true g [.int xs.length] z).bind fun d z => match d with
    | .int i => if 0 ≤ i then (match xs[i.toNat]? with
      | some y => (mixGo g n (xs.eraseIdx i.toNat) z).bind fun ys z => .ok (y :: ys) z
      | none => .bad) else .bad
    | _ => .bad
def mixOf (g : Fm) (acc : List D) (s : Sl) (n : Nat) (rem : List D) (z : Z) : FR := match mixGo g n rem z with
  | .ok ys z => .rt (.lst (acc ++ ys)) s z
  | _ => .bad
def mMixed (g : Fm) : SM := fun s z => if 3 < s.length then (match (s[0]? : Option Slot), (s[1]? : Option Slot) with
  | some .strm, some (.sh (.lst xs)) => if xs.length < lim then mixOf g [] s xs.length xs z else .bad
  | some .strm, some (.sh (.tup xs)) => if xs.length < lim then mixOf g [] s xs.length xs z else .bad
  | _, _ => .bad) else .bad
abbrev rLenS (K : PySem.W.Frag) : List V → Hp → VK → Prop := fun xs H Q => ∃ p ys, xs = [V.ref p] ∧ (SqL K H p ys ∨ SqT K H p ys) ∧ Q (.int ys.length) H
abbrev rLstS (K : PySem.W.Frag) : List V → Hp → VK → Prop := fun xs H Q => ∃ p ys, xs = [V.ref p] ∧ (SqL K H p ys ∨ SqT K H p ys) ∧ ∀ l, H l = none → Q (.ref l) (upd H l (.lst ys))
def tMixed (K : PySem.W.Frag) (cl : Str → Option Addr) (g : Fm) : TS := tSeq (tAsg (tCB (rLstS K) (tCons (tVar 1) tNil)) (gName 2))
  (tRet (tLc (iRng1 (tCons (tCB (rLenS K) (tCons (tVar 2) tNil)) tNil)) (gName 3) tYes
    (tBM K "list" rPopAt (tVar 2) (tCons (tCallS (spM cl 1 true g) (WE W0) (tCons (tVar 0) (tCons (tCB (rLenS K) (tCons (tVar 2) tNil)) tNil))) tNil)) [3]))
structure MixI (c : FC) (W : WX) (g : Fm) (Dn : Ends) (σ : L2.St) (w : Wd) (H : Hp) (n : Nat) (l D0 : Addr) (i : Nat) (Hc : Hp) : Prop where
  ex : ∃ wi rem acc remV accV, Step c σ w H wi Hc ∧ Hc l = some (.lst remV) ∧ Hc D0 = some (.lst accV) ∧ wi.F l = none ∧ wi.F D0 = none ∧ Reps c.cl wi.F rem remV ∧ Reps c.cl wi.F acc accV ∧ rem.length = n - i ∧ acc.length = i ∧ i ≤ n ∧
    WntS c W Dn w (mixOf g acc w.sl (n - i) rem wi.z)
theorem Reps.erase {cl : Str → Option Addr} {F : Hp} : ∀ {ds : List D} {xs : List V} (k : Nat), Reps cl F ds xs → Reps cl F (ds.eraseIdx k) (xs.eraseIdx k)
  | [], xs, k, h => by
    simp only [Reps] at h
    subst h
    simp [Reps]
  | d :: ds, xs, 0, h => by
    simp only [Reps] at h
    obtain ⟨y, ys, rfl, r, h⟩ := h
    exact h
  | d :: ds, xs, k + 1, h => by
    simp only [Reps] at h
    obtain ⟨y, ys, rfl, r, h⟩ := h
    simp only [List.eraseIdx_cons_succ, Reps]
    exact ⟨y, _, rfl, r, Reps.erase k h⟩
theorem mixed_core {c : FC} {W : WX} {K : PySem.W.Frag} {g : Fm} {Dn : Ends} {σ : L2.St} {w : Wd} {H : Hp} {xs : List D} {xsV : List V} {l : Addr} (s : SR c w σ H) (hlen : 3 < w.sl.length) (h0 : w.sl[0]? = some .strm) (r : Reps c.cl w.F xs xsV) (hl : H l = none) (hx : xs.length < lim)
    (q : WntS c W Dn w (mixOf g [] w.sl xs.length xs w.z)) :
    tLc (iRng1 (tCons (tCB (rLenS K) (tCons (tVar 2) tNil)) tNil)) (gName 3) tYes (tBM K "list" rPopAt (tVar 2) (tCons (tCallS (spM c.cl 1 true g) (WE W0) (tCons (tVar 0) (tCons (tCB (rLenS K) (tCons (tVar 2) tNil)) tNil))) tNil)) [3] (σ.set 2 (some (.ref l))) (upd H l (.lst xsV)) Dn.rt := by
  have hσ : 3 < σ.length := by rw [← s.len]; exact hlen
  have hs2 : (σ.set 2 (some (V.ref l)))[2]? = some (some (.ref l)) := List.getElem?_set_self (by omega)
  obtain ⟨sa, la, e0, e1⟩ := s.slots 0 _ h0
  refine ⟨_, hs2, l, xsV, rfl, .inl (SqL.of upd_same), xsV.length, rfl, by omega, ?_, ?_⟩
  · have := lim_lt (n := xsV.length) (by rw [r.length]; exact hx)
    rw [sizeLine_eq] at this
    omega
  intro D0 hD
  have nD : D0 ≠ l := fun z => by rw [z, upd_same] at hD; cases hD
  have hD0 : H D0 = none := by rw [upd_ne nD] at hD; exact hD
  have hlim : ∀ {k : Nat}, k ≤ xs.length → k < sizeLine := fun {k} h => lim_lt (by omega)
  refine lc_range (lo := 0) (n := xsV.length) (fun i Hc => MixI c W g Dn σ w H xs.length l D0 i Hc) ?_ ?_ ?_
  · have st := (Step.lay (o' := .lst xsV) s hl (Step.refl s) (s.fnone hl) (fun x z => by rw [hl] at z; cases z) (fun x z => by cases z)).1
    have st2 := (Step.lay (o' := .lst []) s hD0 st (s.fnone hD0) (fun x z => by rw [upd_ne nD, hD0] at z; cases z) (fun x z => by cases z)).1
    exact ⟨w, xs, [], xsV, [], st2, by rw [upd_ne (Ne.symm nD), upd_same], upd_same, s.fnone hl, s.fnone hD0, r, by simp [Reps], by simp, rfl, Nat.zero_le _, q⟩
  · intro i Hc hi ⟨wi, rem, acc, remV, accV, st, el, eD, fl, fD, rr, ra, hr, ha, hin, q⟩
    rw [r.length] at hi
    refine ⟨?_, ?_⟩
    · rw [wipe_set (by simp), wipe_wipe]
    have w2 : ∀ j, j ≠ 3 → ((wipe (σ.set 2 (some (V.ref l))) [3]).set 3 (some (.int (0 + i))))[j]? = (σ.set 2 (some (V.ref l)))[j]? := fun j hj => by
      rw [List.getElem?_set_ne (Ne.symm hj), wipe_out (by simpa using hj)]
    have v0 : ((wipe (σ.set 2 (some (V.ref l))) [3]).set 3 (some (.int (0 + i))))[0]? = some (some (V.ref sa)) := by
      rw [w2 0 (by decide), List.getElem?_set_ne (by decide)]; exact e1
    have v2 : ((wipe (σ.set 2 (some (V.ref l))) [3]).set 3 (some (.int (0 + i))))[2]? = some (some (V.ref l)) := by rw [w2 2 (by decide)]; exact hs2
    unfold tYes
    dsimp only
    rw [if_pos rfl]
    refine ⟨_, v2, .inl ⟨rfl, _, SqL.of el⟩, ?_⟩
    refine ⟨_, v0, _, v2, l, remV, rfl, .inl (SqL.of el), ?_⟩
    obtain ⟨n', hn'⟩ : ∃ n', xs.length - i = n' + 1 := ⟨xs.length - i - 1, by omega⟩
    rw [hn'] at q hr
    unfold mixOf mixGo at q
    refine ⟨c, σ, wi, [.int rem.length], [.int remV.length], rfl, st.sr, ?_, rfl, ⟨sa, la, e0, rfl⟩, ?_⟩
    · simp only [Reps, Rep]
      exact ⟨_, _, rfl, by rw [rr.length], rfl⟩
    cases hg : runF true g [.int rem.length] wi.z with
    | exc cn fs z =>
      rw [hg] at q
      exact q.elim
    | bad =>
      rw [hg] at q
      exact q.elim
    | ok d z2 =>
    rw [hg] at q
    intro H' w' st2 ez v rv
    subst ez
    cases d with
    | int k =>
      simp only [ER.bind] at q
      by_cases hk : 0 ≤ k
      · rw [if_pos hk] at q
        cases hy : rem[k.toNat]? with
        | none =>
          simp only [hy] at q
          exact q.elim
        | some y =>
          simp only [hy] at q
          have ev : v = .int k := by simpa [Rep] using rv
          have kl : k.toNat < rem.length := (List.getElem?_eq_some_iff.mp hy).1
          obtain ⟨yV, hyV, ryV⟩ := rr.get hy
          have hlc : l ∉ c.chg := s.nochg hl
          have el' : H' l = some (.lst remV) := st2.keep _ _ el hlc
          have eD' : H' D0 = some (.lst accV) := st2.keep _ _ eD (s.nochg hD0)
          have fl' : w'.F l = none := st2.fz l _ el fl
          have fD' : w'.F D0 = none := st2.fz D0 _ eD fD
          have kb := hlim (k := k.toNat) (by omega)
          rw [sizeLine_eq] at kb
          refine ⟨l, remV, k, k.toNat, yV, rfl, by rw [ev], el', by omega, by omega, ?_, hyV, accV, by rw [upd_ne nD]; exact eD', by rw [ra.length]; exact hlim (by omega), ?_⟩
          · unfold seqIndex?
            rw [rr.length]
            simp [hk]
            omega
          · have s1 := st.trans st2
            have s2 := (Step.lay (o' := .lst (remV.eraseIdx k.toNat)) s hl s1 fl' (fun x z => by rw [el'] at z; cases z) (fun x z => by cases z)).1
            have s3 := (Step.lay (o' := .lst (accV ++ [yV])) s hD0 s2 fD' (fun x z => by rw [upd_ne nD, eD'] at z; cases z) (fun x z => by cases z)).1
            refine ⟨w', rem.eraseIdx k.toNat, acc ++ [y], _, _, s3, by rw [upd_ne (Ne.symm nD), upd_same], upd_same, fl', fD', (Reps.le st2.le rr).erase _, (Reps.le st2.le ra).snoc (Rep.le st2.le ryV), ?_, by simp [ha], by omega, ?_⟩
            · rw [List.length_eraseIdx, if_pos kl]; omega
            · rw [show xs.length - (i + 1) = n' by omega]
              unfold mixOf
              cases hgo : mixGo g n' (rem.eraseIdx k.toNat) w'.z with
              | ok ys z =>
                simp only [hgo] at q ⊢
                rw [show acc ++ [y] ++ ys = acc ++ y :: ys by simp]
                exact q
              | exc cn fs z => simp only [hgo] at q; exact q.elim
              | bad => simp only [hgo] at q; exact q.elim
      · rw [if_neg hk] at q
        exact q.elim
    | _ => exact q.elim
  · intro Hc ⟨wi, rem, acc, remV, accV, st, el, eD, fl, fD, rr, ra, hr, ha, hin, q⟩
    rw [show xs.length - xsV.length = 0 by rw [r.length]; omega] at q
    have q : WntS c W Dn w (.rt (.lst (acc ++ [])) w.sl wi.z) := q
    rw [List.append_nil] at q
    have s3 := (Step.lay (o' := .lst accV) s hD0 st fD (fun x z => by rw [eD] at z; cases z) (fun x z => by cases z)).2
    rw [upd_self eD] at s3
    refine q σ Hc _ (.ref D0) s3.sr s3.lat s3.sl rfl ?_
    simp only [Rep]
    exact ⟨D0, accV, rfl, upd_same, Reps.le (fun a u h => by rw [upd_ne (ne_of_none h fD)]; exact h) ra⟩
theorem mixed_to {c : FC} {W : WX} {K : PySem.W.Frag} {cl : Str → Option Addr} {g : Fm} {Dn : Ends} {σ : L2.St} {H : Hp} (hcl : c.cl = cl) (q : tS c W (mMixed g) Dn σ H) : tMixed K cl g Dn σ H := by
  subst hcl
  obtain ⟨w, s, q⟩ := q
  unfold mMixed at q
  obtain ⟨hlen, q⟩ := wntS_ite q
  split at q
  · rename_i xs h0 h1
    obtain ⟨hx, q⟩ := wntS_ite q
    obtain ⟨v, e1, p, ys, rfl, f, r⟩ := s.slots 1 _ h1
    exact ⟨_, e1, p, ys, rfl, .inl (SqL.of (s.sub _ _ f).lst), fun l hl => mixed_core s hlen h0 r hl hx q⟩
  · rename_i xs h0 h1
    obtain ⟨hx, q⟩ := wntS_ite q
    obtain ⟨v, e1, p, ys, rfl, f, r⟩ := s.slots 1 _ h1
    exact ⟨_, e1, p, ys, rfl, .inr (SqT.of (s.sub _ _ f).tup), fun l hl => mixed_core s hlen h0 r hl hx q⟩
  · exact q.elim
theorem pss_mixed {X : Cx} {sts : List Stmt} {c : FC} {W : WX} {cl : Str → Option Addr} {g : Fm} (hcl : c.cl = cl) (h : PSs X sts (tMixed X.K cl g)) : PSs X sts (tS c W (mMixed g)) := pss_imp h fun _ _ _ q => mixed_to hcl q
end DL

set_option Elab.async false
set_option linter.all false
set_option maxRecDepth 100000
set_option maxHeartbeats 4000000
namespace XH
open PySem PySem.Spec PySem.Calls PyProof.Rows L2 NdefX EX
theorem Fam.exm {K : PySem.W.Frag} {w : Str} {names : List Str} (F : Fam K w names) {x y : Str} (hx : x ∈ names) (hy : y ∈ names) : PySem.W.exmOne K (.ref (cAd K x)) (.ref (cAd K y)) = some (decide (x = y)) := by
  have hW : ∀ z ∈ names, cAd K z ≠ cAd K w := fun z hz e => by
    have := incB_lt F.inc _ (List.mem_map_of_mem (f := cAd K) hz)
    rw [e] at this
    exact absurd this (Nat.lt_irrefl _)
  have hi := incB_inj (f := cAd K) (incB_tail F.inc)
  have hB : PySem.W.subIn K (.ref (cAd K y)) (.type "BaseException") = some true := (F.exc y hy).1.exC
  have hs : (PySem.W.clsIn K (cAd K y)).isSome = true := by
    have := F.mro y hy
    rw [Option.map_eq_some_iff] at this
    obtain ⟨cd, h1, _⟩ := this
    rw [h1]; rfl
  unfold PySem.W.exmOne
  rw [hB, if_pos (by rfl)]
  show (if ((PySem.W.clsIn K (cAd K y)).isSome && PySem.W.typeIn K (.ref (cAd K y)) == some (.type "type")) = true then PySem.W.subIn K (.ref (cAd K x)) (.ref (cAd K y)) else none) = _
  rw [if_pos (by rw [hs, F.typ y hy]; rfl), sub_of (F.mro x hx)]
  congr 1
  simp only [List.contains_cons, He.veBase]
  by_cases e : x = y
  · subst e
    simp
  · have h1 : cAd K y ≠ cAd K x := fun z => e (hi x hx y hy z.symm)
    have h2 : cAd K y ≠ cAd K w := hW y hy
    simp [e, h1, h2]
end XH
namespace DL
open PySem PySem.Spec PyProof.Rows L2 RZ EX
/-! ### try: .. except C as e: .. -/
section
variable {X : Cx} {c : FC} {W : WX} {mb mh : SM} {i : Nat} {n x : Str} {cV : Value} {body suite : List Stmt} {b₀ : Stmt} {pos pos' np : Pos} {ctch : Str → Option Bool}
theorem ds_try (hx : ∀ cn C b, ctch cn = some b → c.cl cn = some C → PySem.W.exmOne X.K (.ref C) cV = some b) (hs : X.stack = X.env :: X.outer) (hf : X.env.frame = some X.env.locals) (hN : X.N.Nodup) (hi : X.N[i]? = some n) (hln : X.env.kindOf n = some .local) (hc : Names X x cV) (tk : L2.Takes X W)
    (hb : ∀ (W' : WX) (pn : List (Addr × Obj)) (xe : Value → Shared → Prop), L2.Takes (X.tr pn xe) W' → PassesOwn (model X.prog X.w) X.A X.env xe → PSs (X.tr pn xe) body (tS c W' mb))
    (hsu : ∀ (a : Addr) (oe : Obj) (cls : Value) (d : Option Addr) (pn : List (Addr × Obj)), Zc cls d oe → (∃ vs, oe.data = .fields vs) → PSs (X.suite a ((a, oe) :: pn)) (b₀ :: suite) (tS { c with xc := some (a, cls, d) } W0 mh)) :
    PS X (.Try body [.ExceptHandler (some (.Name x np)) (some n) (b₀ :: suite) pos'] [] [] pos) (tS c W (mTry i ctch mb mh)) :=
  ps_imp (ps_try_as (Wout := W) (tb := fun W' => tS c W' mb) (ts := fun a cls d => tS { c with xc := some (a, cls, d) } W0 mh) hs hf hN hi hln hc tk hb hsu) fun Dn σ H q => try_to (ts := fun a cls d => tS { c with xc := some (a, cls, d) } W0 mh) hx (fun _ _ _ _ _ _ h => h) q
theorem df_xf {cl : Str → Option Addr} {cn0 f : Str} {C a : Addr} {oe : Obj} {cls : Value} {d : Option Addr} {pn : List (Addr × Obj)} {e : Expr} (hcl : c.cl = cl) (hC : cl cn0 = some C) (T : XfC X.K C) (hno : PySem.W.findIn X.K (.ref C) f = some none) (hz : Zc cls d oe) (hf : ∃ vs, oe.data = .fields vs)
    (he : PE (X.suite a ((a, oe) :: pn)) e (tVar i)) (hb : attributeBase e f X.env (eval e X.env) = eval e X.env := by rfl) : PE (X.suite a ((a, oe) :: pn)) (.Attribute e f pos) (tF { c with xc := some (a, cls, d) } W0 (mXf i cn0 f)) :=
  pe_imp (pe_xf T hno hz hf he hb) fun σ H Q q => xf_to (c := { c with xc := some (a, cls, d) }) (by rw [← hcl] at hC; exact hC) rfl q
theorem ds_raiseD {cl : Str → Option Addr} {f1 : Str} {mr : M (List D)} {e : Expr} {es : List Expr} {p pos2 : Pos} (D : MkOk X.prog X.w X.K X.mg X.base cl x [f1] (fun C => spIni1 C f1)) (hcl : c.cl = cl) (hca : X.calm = true) (tk : L2.Takes X W) (hr : Room 2 X.A) (hg : Gl X x) (ha : PA X (e :: es) (tAF c W mr)) (hdb : (x == ("__debug__" : Str)) = false := by decide)
    (he : starEach (e :: es) X.env = (false, eval e X.env) :: starEach es X.env := by rfl) (hpl : (backTo pos (starEach es X.env)).any (·.1) = false := by rfl) : PS X (.Raise (some (.Call (.Name x p) (e :: es) [] pos)) none pos2) (tS c W (mRaise x (mk1 f1) mr)) := by
  obtain ⟨C, fI, fd, h1, h2, h3, h4, h5, h6, h7, h8, h9⟩ := D.ex
  exact ds_raise1 hca tk (by rw [hcl]; exact h1) (pmk_oex h3 h4 h5 h6 hr h7 .nil no_pass hg h2 ha hdb he hpl)
end
/-- a def that is never called -/
theorem fn_bad {P : Program} {w : World} {K : PySem.W.Frag} {mg : Str → Option Value} {base : Heap} {cl : Str → Option Addr} {f : Addr} {fd : FuncData} {ps : List Str} {k n : Nat} (hps : ps.length = n) : FnOk P w K mg base (L2.CX P w) k f fd ps (spM cl n false (fun _ _ => .bad)) :=
  ⟨fun vs H Q E h => (spM_len h).trans (by rw [hps]; rfl), fun A outer s H args us vs Q E hr e0 b r h => by
    obtain ⟨c, σ, w0, ds, us', _, _, _, _, _, q⟩ := h
    exact False.elim q⟩
end DL

set_option Elab.async false
set_option linter.all false
set_option maxRecDepth 100000
set_option maxHeartbeats 4000000
namespace DL
open PySem PySem.Spec PyProof.Rows L2 XH EX RZ NdefX
/-! ### from the head's facts -/
section
variable {P : Program} {w : World} {K : PySem.W.Frag} {mg : Str → Option Value} {base : Heap} {cl : Str → Option Addr}
theorem mk_of {d : IniD} {x : Str} {ks : List Str} {sp : Addr → Sp} (X : XCls P K d) (hx : d.cls = x) (hc : cl x = some (He.ga K x)) (hg : mg x = some (.ref (He.ga K x))) (htop : (P.main.scope.names.lookup ("super" : Str)).isSome = false)
    (hI : ∀ (oc kV doc pm ct : Value) (od an : Option Addr) (osl : Array (Option Value)) (cc cda : Addr), K.lookup (iAd K x) = some ⟨oc, od, .func (PySem.W.ksFn "__init__" d.qual d.params d.body d.scope .none kV doc pm an (.ref cda) ct cc), osl⟩ → PySem.W.codeIn K (.ref cda) d.qual = true → SupC P K (He.ga K x) cc cda (iAd K x) →
      FnOk P w K mg base (L2.CX P w) 1 (iAd K x) (PySem.W.ksFn "__init__" d.qual d.params d.body d.scope .none kV doc pm an (.ref cda) ct cc) (("self" : Str) :: ks) (sp (He.ga K x)))
    (hB : ∀ (kV doc pm ct : Value) (an : Option Addr) (cda cc : Addr) (us : List Value), us.length = (("self" : Str) :: ks).length → bindArgs (PySem.W.ksFn "__init__" d.qual d.params d.body d.scope .none kV doc pm an (.ref cda) ct cc) ⟨us, []⟩ = pure ((("self" : Str) :: ks).zip us))
    (hT : ∀ (kV doc pm ct : Value) (an : Option Addr) (cda cc : Addr) (u : Value) (ws : List Value), ws.length = ks.length → bindArgs (PySem.W.ksFn "__init__" d.qual d.params d.body d.scope .none kV doc pm an (.ref cda) ct cc) ⟨[u], ks.zip ws⟩ = pure ((("self" : Str) :: ks).zip (u :: ws)))
    (hl : ∀ C vs H Q E, sp C vs H Q E → vs.length = (("self" : Str) :: ks).length) : MkOk P w K mg base cl x ks sp := by
  subst hx
  obtain ⟨oc, kV, doc, pm, ct, od, an, osl, cc, cda, lk, hcd, hS⟩ := X.fn
  exact ⟨He.ga K d.cls, iAd K d.cls, _, hc, hg, X.oex, X.ini, X.typ, hI oc kV doc pm ct od an osl cc cda lk hcd (hS htop), .all (hB kV doc pm ct an cda cc), fun s u ws hw => .of_eq (hT kV doc pm ct an cda cc u ws hw), hl _⟩
theorem len_sp0 : ∀ C vs H Q E, spIni0 C vs H Q E → vs.length = [("self" : Str)].length := fun C vs H Q E ⟨a, e, _⟩ => by rw [e]; rfl
theorem len_sp1 {f : Str} : ∀ C vs H Q E, spIni1 C f vs H Q E → vs.length = [("self" : Str), f].length := fun C vs H Q E ⟨a, y, e, _⟩ => by rw [e]; rfl
theorem len_sp2 {f f2 : Str} : ∀ C vs H Q E, spIni2 C f f2 vs H Q E → vs.length = [("self" : Str), f, f2].length := fun C vs H Q E ⟨a, y, z, e, _⟩ => by rw [e]; rfl
theorem DefOk.mono {x : Str} {k k' n : Nat} {sm : Bool} {g : Fm} (D : DefOk P w K mg base cl x k n sm g) (h : k ≤ k') : DefOk P w K mg base cl x k' n sm g := by
  obtain ⟨f, fd, ps, h1, h2, h3, h4⟩ := D.ex
  exact ⟨f, fd, ps, h1, h2, h3, h4.mono h⟩
end
theorem look_or {α : Type} {x a : Str} {g b : α} {r : List (Str × α)} (h : ((a, b) :: r).lookup x = some g) : (x = a ∧ g = b) ∨ r.lookup x = some g := by
  rw [List.lookup_cons] at h
  cases q : x == a with
  | true =>
    rw [q] at h
    cases h
    exact .inl ⟨beq_iff_eq.mp q, rfl⟩
  | false =>
    rw [q] at h
    exact .inr h
end DL

set_option Elab.async false
set_option linter.all false
set_option maxRecDepth 100000
set_option maxHeartbeats 4000000
namespace DL
open PySem PySem.Spec L2 PyProof.Rows
/-! ### a string times an int -/
theorem op_smul {X : Cx} : OpR X (binaryOp .Mult) (fun x y H Q => ∃ (a : Str) (k : Int), x = .str a ∧ y = .int k ∧ MulOk a k ∧ Q (.str (Txt.mul a k)) H) := by
  intro pins s σ H x y v u Q I rx ry h
  obtain ⟨a, k, rfl, rfl, hk, q⟩ := h
  obtain ⟨t, rfl⟩ := rx
  obtain ⟨t', rfl⟩ := ry
  exact SB.mul hk fun t2 k2 => ⟨.str (Txt.mul a k), H, I.tok _, ⟨_, rfl⟩, q⟩
def mulOkB (x : Str) (n : Int) : Bool := decide (0 < x.length) && decide (0 ≤ n) && decide (n ≤ 1000000) && decide (x.length * n.toNat ≤ lim) && decide (x.length ≤ lim)
theorem mulOk_of {x : Str} {n : Int} (h : mulOkB x n = true) : MulOk x n := by
  simp only [mulOkB, Bool.and_eq_true, decide_eq_true_eq] at h
  obtain ⟨⟨⟨⟨h0, h1⟩, h2⟩, h3⟩, h4⟩ := h
  unfold lim at h3 h4
  have e63 : (2 : Int) ^ 63 = 9223372036854775808 := by decide +kernel
  refine ⟨?_, fun h5 _ => ?_, fun h5 _ => ?_⟩
  · rw [e63, decide_eq_false (by omega), decide_eq_false (by omega)]; rfl
  · have h6 : (0 : Int) < n := by omega
    rw [e63]
    have : (x.length : Int) ≤ (9223372036854775808 - 1) / n := by
      rw [Int.le_ediv_iff_mul_le h6]
      have e : ((x.length * n.toNat : Nat) : Int) = (x.length : Int) * n := by
        rw [Int.natCast_mul, Int.toNat_of_nonneg h1]
      have : ((x.length * n.toNat : Nat) : Int) ≤ 1000000 := Int.ofNat_le.mpr h3
      rw [e] at this
      omega
    omega
  · show decide (x.length * n.toNat > sizeLine) = false
    refine decide_eq_false ?_
    have : (1000000 : Nat) ≤ sizeLine := by decide
    omega
def dMulX : D → D → Option D
  | .str x, .int k => if mulOkB x k = true then some (.str (Txt.mul x k)) else none
  | a, b => dMul a b
theorem op_mulX_data {X : Cx} {c : FC} : OpR X (binaryOp .Mult) (R2D c dMulX) := by
  refine opR_imp ((op_smul (X := X)).or (op_mul_data (X := X) (c := c))) fun x y H Q h => ?_
  obtain ⟨w, σ, dx, dy, d, s, rx, ry, e, q⟩ := h
  by_cases hx : ∃ a k, dx = .str a ∧ dy = .int k
  · obtain ⟨a, k, rfl, rfl⟩ := hx
    simp only [dMulX] at e
    split at e
    · rename_i hc
      cases e
      exact .inl ⟨a, k, rx.str, ry.int, mulOk_of hc, q.str s⟩
    · cases e
  · refine .inr ⟨w, σ, dx, dy, d, s, rx, ry, ?_, q⟩
    cases dx <;> cases dy <;> first | exact e | exact absurd ⟨_, _, rfl, rfl⟩ hx
end DL

set_option Elab.async false
set_option linter.all false
set_option maxRecDepth 100000
set_option maxHeartbeats 4000000
namespace DL
open PySem PySem.Spec L2 PyProof.Rows TL
theorem beqd {α : Type} [BEq α] [LawfulBEq α] [DecidableEq α] (a b : α) : (a == b) = decide (a = b) := by
  by_cases h : a = b
  · subst h; simp
  · rw [decide_eq_false h]; exact beq_false_of_ne h
/-! ### plain laws of the mirrors -/
theorem chk_ok {ds : List D} {z : Z} (h : ds.length ≤ lim) : chkL ds z = .ok ds z := if_pos h
section
variable {α : Type} {l : List α} {e : α → D} {f : α → D} {p : α → Bool} {vs : List Nat} {mi : M (List D)} {t : Tg} {tt : M Bool} {te : M D} {s s0 : Sl} {z z' : Z}
theorem lcGo_yes : ∀ {l : List α}, (∀ x ∈ l, ∃ s', t (e x) s0 = some s' ∧ te s' z = .ok (f x) z) → lcGo t mYes te s0 (l.map e) z = .ok (l.map f) z
  | [], _ => rfl
  | x :: l, h => by
    obtain ⟨s', h1, h2⟩ := h x (List.mem_cons_self ..)
    have ih := lcGo_yes (l := l) fun y hy => h y (List.mem_cons_of_mem _ hy)
    simp only [List.map_cons, lcGo, h1, mYes, ER.bind, if_true, h2, ih]
theorem lc_yes (h : mi s z = .ok (l.map e) z') (hf : ∀ x ∈ l, ∃ s', t (e x) (wipeS s vs) = some s' ∧ te s' z' = .ok (f x) z') : mLc vs mi t mYes te s z = .ok (.lst (l.map f)) z' := by
  unfold mLc
  rw [h]
  simp only [ER.bind, lcGo_yes hf, noX]
theorem lcGo_if : ∀ {l : List α}, (∀ x ∈ l, ∃ s', t (e x) s0 = some s' ∧ tt s' z = .ok (p x) z ∧ (p x = true → te s' z = .ok (f x) z)) → lcGo t tt te s0 (l.map e) z = .ok ((l.filter p).map f) z
  | [], _ => rfl
  | x :: l, h => by
    obtain ⟨s', h1, h2, h3⟩ := h x (List.mem_cons_self ..)
    have ih := lcGo_if (l := l) fun y hy => h y (List.mem_cons_of_mem _ hy)
    cases hp : p x with
    | true => simp only [List.map_cons, lcGo, h1, ER.bind, h2, hp, if_true, h3 hp, ih, List.filter_cons]
    | false => simp only [List.map_cons, lcGo, h1, ER.bind, h2, hp, Bool.false_eq_true, if_false, ih, List.filter_cons]
theorem lc_if (h : mi s z = .ok (l.map e) z') (hf : ∀ x ∈ l, ∃ s', t (e x) (wipeS s vs) = some s' ∧ tt s' z' = .ok (p x) z' ∧ (p x = true → te s' z' = .ok (f x) z')) : mLc vs mi t tt te s z = .ok (.lst ((l.filter p).map f)) z' := by
  unfold mLc
  rw [h]
  simp only [ER.bind, lcGo_if hf, noX]
theorem bools_map : ∀ l : List α, bools (l.map fun x => D.bl (p x)) = some (l.map p)
  | [] => rfl
  | x :: l => by simp only [List.map_cons, bools, bools_map l, Option.map_some]
theorem dAll_map : dAll [.lst (l.map fun x => D.bl (p x))] = some (.bl (l.all p)) := by
  show (bools (l.map fun x => D.bl (p x))).map _ = _
  rw [bools_map, Option.map_some, List.all_map]
  rfl
theorem ev_all (h : mi s z = .ok (l.map e) z') (hf : ∀ x ∈ l, ∃ s', t (e x) (wipeS s vs) = some s' ∧ te s' z' = .ok (.bl (p x)) z') : mCall dAll (mCons (mLc vs mi t mYes te) mNil) s z = .ok (.bl (l.all p)) z' := by
  have k := lc_yes (f := fun x => D.bl (p x)) h hf
  simp only [mCall, mCons, mNil, k, ER.bind, mOpt, dAll_map]
end
/-! texts -/
theorem strsD_map : ∀ l : List Str, strsD (l.map D.str) = some l
  | [] => rfl
  | x :: l => by simp only [List.map_cons, strsD, strsD_map l, Option.map_some]
theorem dJoin_map {a : Str} {l : List Str} (h : (l.map (·.length)).sum + l.length * a.length ≤ lim) : dJoin a (.lst (l.map D.str)) = some (.str (Txt.join a l)) := by
  show (strsD (l.map D.str)).bind _ = _
  rw [strsD_map, Option.bind_some]
  exact if_pos (decide_eq_true h)
theorem keysD_map : ∀ l : List Str, keysD (l.map D.str) = some (l.map (Sum.inr : Str → Key))
  | [] => rfl
  | x :: l => by simp only [List.map_cons, keysD, keyD, keysD_map l, Option.bind_some, Option.map_some]
def distB (l : List Str) : Bool := decide ((ddL (l.map (Sum.inr : Str → Key))).length = l.length)
theorem lenSet_map {l : List Str} {z : Z} {s : Sl} {m : M D} {z' : Z} (h : m s z = .ok (.lst (l.map D.str)) z') (hl : l.length < 4000) : mLenSet m s z = .ok (.int (ddL (l.map (Sum.inr : Str → Key))).length) z' := by
  unfold mLenSet
  rw [h]
  simp only [ER.bind, mOpt, dLenSet, keysD_map, Option.bind_some, List.length_map, if_pos hl]
/-! one line of data -/
theorem eqN_str (n : Nat) (x y : Str) : eqN (n + 1) (.str x) (.str y) = some (decide (x = y)) := by
  simp [eqN, beqd]
theorem dEq_str (x y : Str) : dEq (.str x) (.str y) = some (.bl (decide (x = y))) := by simp only [dEq, eqN_str, Option.map_some]
theorem dNeX_str (x y : Str) : dNeX (.str x) (.str y) = some (.bl (!decide (x = y))) := by simp only [dNeX, dNe, eqN_str, Option.map_some]
theorem dEq_int (x y : Int) : dEq (.int x) (.int y) = some (.bl (decide (x = y))) := by
  simp only [dEq, eqN, Option.map_some, Option.some.injEq, D.bl.injEq]
  exact beqd ..
theorem dNeX_int (x y : Int) : dNeX (.int x) (.int y) = some (.bl (!decide (x = y))) := by
  simp only [dNeX, dNe, eqN, Option.map_some, Option.some.injEq, D.bl.injEq]
  rw [beqd]
theorem dIn_sign (c : Nat) (y : Str) : dIn (.str ⟨#[c]⟩) (.str y) = some (.bl (decide (c ∈ tl y))) := rfl
theorem signs_map (x : Str) : signs x = (tl x).map fun c => D.str ⟨#[c]⟩ := rfl
theorem dLen_str {x : Str} (h : x.length ≤ lim) : dLen [.str x] = some (.int (tl x).length) := by
  simp only [dLen, if_pos h]
  rfl
theorem items_str {x : Str} {m : M D} {s : Sl} {z z' : Z} (h : m s z = .ok (.str x) z') (hl : x.length ≤ lim) : mItems m s z = .ok ((tl x).map fun c => D.str ⟨#[c]⟩) z' := by
  unfold mItems
  rw [h]
  show chkL (signs x) z' = _
  rw [chk_ok (by rw [signs_map, List.length_map]; exact hl)]
  rfl
theorem items_lst {l : List D} {m : M D} {s : Sl} {z z' : Z} (h : m s z = .ok (.lst l) z') (hl : l.length ≤ lim) : mItems m s z = .ok l z' := by
  unfold mItems
  rw [h]
  exact chk_ok hl
/-! numbers in texts -/
end DL

set_option Elab.async false
set_option linter.all false
set_option maxRecDepth 100000
set_option maxHeartbeats 4000000
namespace DL
open PySem PySem.Spec L2 PyProof.Rows TL NumText
/-! ### texts of lines and words -/
theorem pre1 (s c : Nat) (r : List Nat) : pre [s] (c :: r) = decide (c = s) := by
  show ((c :: r).take 1 == [s]) = _
  simp [beqd]
theorem spl_ne (s : Nat) : ∀ (l acc : List Nat), spl [s] 0 acc l ≠ []
  | [], acc => by rw [spl_nil]; simp
  | c :: r, acc => by
    by_cases h : c = s
    · rw [spl_hit (by rw [pre1]; simpa using h)]; simp
    · rw [spl_miss (by rw [pre1]; simpa using h)]; exact spl_ne s r _
theorem spl_back (s : Nat) : ∀ (l acc : List Nat), joinL [s] (spl [s] 0 acc l) = acc ++ l
  | [], acc => by rw [spl_nil]; simp [joinL]
  | c :: r, acc => by
    by_cases h : c = s
    · rw [spl_hit (by rw [pre1]; simpa using h)]
      have ih := spl_back s r []
      show joinL [s] (acc :: spl [s] 0 [] r) = _
      cases hq : spl [s] 0 [] r with
      | nil => exact absurd hq (spl_ne s r [])
      | cons q qs =>
        rw [hq] at ih
        show acc ++ ([s] ++ joinL [s] (q :: qs)) = _
        rw [ih, h]
        simp
    · rw [spl_miss (by rw [pre1]; simpa using h), spl_back s r (acc ++ [c])]
      simp
theorem spl_free (s : Nat) : ∀ (l acc : List Nat), s ∉ acc → ∀ p ∈ spl [s] 0 acc l, s ∉ p
  | [], acc, ha, p, hp => by rw [spl_nil] at hp; simp at hp; rw [hp]; exact ha
  | c :: r, acc, ha, p, hp => by
    by_cases h : c = s
    · rw [spl_hit (by rw [pre1]; simpa using h)] at hp
      rcases List.mem_cons.mp hp with e | e
      · rw [e]; exact ha
      · exact spl_free s r [] (by simp) p e
    · rw [spl_miss (by rw [pre1]; simpa using h)] at hp
      refine spl_free s r (acc ++ [c]) ?_ p hp
      simp only [List.mem_append, List.mem_singleton, not_or]
      exact ⟨ha, fun e => h e.symm⟩
theorem spl_lines (s : Nat) : ∀ (l acc : List Nat), (acc ++ l = [] ∨ l.getLast? = some s) → (spl [s] 0 acc l).dropLast.flatMap (· ++ [s]) = acc ++ l
  | [], acc, h => by
    rcases h with h | h
    · rw [spl_nil, h]; rfl
    · simp at h
  | c :: r, acc, h => by
    have h : (c :: r).getLast? = some s := by
      rcases h with h | h
      · simp at h
      · exact h
    by_cases hc : c = s
    · rw [spl_hit (by rw [pre1]; simpa using hc)]
      have h2 : [] ++ r = [] ∨ r.getLast? = some s := by
        cases r with
        | nil => exact .inl rfl
        | cons d r => right; simpa [List.getLast?_cons_cons] using h
      have ih := spl_lines s r [] h2
      show (acc :: spl [s] 0 [] r).dropLast.flatMap _ = _
      rw [List.dropLast_cons_of_ne_nil (spl_ne s r []), List.flatMap_cons, ih, hc]
      simp
    · rw [spl_miss (by rw [pre1]; simpa using hc)]
      have h2 : r.getLast? = some s := by
        cases r with
        | nil => simp at h; exact absurd h hc
        | cons d r => simpa [List.getLast?_cons_cons] using h
      rw [spl_lines s r (acc ++ [c]) (.inr h2)]
      simp
theorem joinL_nil : ∀ ps : List (List Nat), joinL [] ps = ps.flatten
  | [] => rfl
  | [p] => by simp [joinL]
  | p :: q :: r => by
    show p ++ ([] ++ joinL [] (q :: r)) = _
    rw [joinL_nil (q :: r)]
    simp
theorem joinL_len (s : Nat) : ∀ ps : List (List Nat), ps ≠ [] → (joinL [s] ps).length + 1 = (ps.map (·.length)).sum + ps.length
  | [], h => absurd rfl h
  | [p], _ => by simp [joinL]
  | p :: q :: r, _ => by
    have ih := joinL_len s (q :: r) (by simp)
    show (p ++ ([s] ++ joinL [s] (q :: r))).length + 1 = _
    simp only [List.length_append, List.length_singleton, List.length_nil, List.map_cons, List.sum_cons, List.length_cons] at ih ⊢
    omega
abbrev nl : Str := "\n"
abbrev sp1 : Str := " "
abbrev em : Str := ""
theorem tl_nl : tl nl = [10] := rfl
theorem tl_sp : tl sp1 = [32] := rfl
theorem split_nl (x : Str) : (Txt.split x nl).map tl = spl [10] 0 [] (tl x) := split_spl x nl (by rw [tl_nl]; simp) (kind_ok (by decide +kernel))
theorem split_sp (x : Str) : (Txt.split x sp1).map tl = spl [32] 0 [] (tl x) := split_spl x sp1 (by rw [tl_sp]; simp) (kind_ok (by decide +kernel))
theorem split_sp_ne (x : Str) : Txt.split x sp1 ≠ [] := fun e => spl_ne 32 (tl x) [] (by rw [← split_sp, e]; rfl)
theorem split_nl_ne (x : Str) : Txt.split x nl ≠ [] := fun e => spl_ne 10 (tl x) [] (by rw [← split_nl, e]; rfl)
theorem join_split_sp (x : Str) : Txt.join sp1 (Txt.split x sp1) = x := by
  refine ext_tl ?_
  rw [join_eq, tl_join, split_sp, tl_sp, spl_back]
  rfl
theorem split_sp_free (x : Str) : ∀ p ∈ Txt.split x sp1, 32 ∉ tl p := fun p hp => spl_free 32 (tl x) [] (by simp) (tl p) (by rw [← split_sp]; exact List.mem_map_of_mem hp)
theorem sum_tl (l : List Str) : ((l.map tl).map (·.length)).sum = (l.map (·.length)).sum := by
  rw [List.map_map]
  congr 1
theorem split_sp_len (x : Str) : ((Txt.split x sp1).map (·.length)).sum + (Txt.split x sp1).length = x.length + 1 := by
  have h := joinL_len 32 ((Txt.split x sp1).map tl) (by intro e; exact split_sp_ne x (List.map_eq_nil_iff.mp e))
  rw [sum_tl, List.length_map, split_sp, spl_back] at h
  rw [← h]
  rfl
theorem split_nl_len (x : Str) : ((Txt.split x nl).map (·.length)).sum + (Txt.split x nl).length = x.length + 1 := by
  have h := joinL_len 10 ((Txt.split x nl).map tl) (by intro e; exact split_nl_ne x (List.map_eq_nil_iff.mp e))
  rw [sum_tl, List.length_map, split_nl, spl_back] at h
  rw [← h]
  rfl
theorem mem_sum {l : List Str} {p : Str} (h : p ∈ l) : p.length ≤ (l.map (·.length)).sum := by
  induction l with
  | nil => cases h
  | cons a l ih =>
    rw [List.map_cons, List.sum_cons]
    rcases List.mem_cons.mp h with e | e
    · rw [e]; omega
    · have := ih e; omega
/-- the lines of a text, in words -/
def lnsOf (x : Str) : List Str := (Txt.split x nl).dropLast
def wdsOf (x : Str) : List (List Str) := (lnsOf x).map fun l => Txt.split l sp1
def endB (x : Str) : Bool := decide (tl x = [] ∨ (tl x).getLast? = some 10)
def lineS (l : List Str) : Str := Txt.join sp1 l ++ nl
def textS (ls : List (List Str)) : Str := Txt.join em (ls.map lineS)
theorem text_back {x : Str} (h : endB x = true) : textS (wdsOf x) = x := by
  have h := of_decide_eq_true h
  refine ext_tl ?_
  have e0 : tl em = [] := rfl
  unfold textS
  rw [join_eq, tl_join, e0, joinL_nil]
  unfold wdsOf
  rw [List.map_map, List.map_map]
  have e : ∀ l : Str, tl (lineS (Txt.split l sp1)) = tl l ++ [10] := fun l => by
    unfold lineS
    rw [join_split_sp, tl_append, tl_nl]
  have e2 : (lnsOf x).map ((tl ∘ lineS) ∘ fun l => Txt.split l sp1) = ((lnsOf x).map tl).map (· ++ [10]) := by
    rw [List.map_map]
    exact List.map_congr_left fun l _ => e l
  rw [e2]
  unfold lnsOf
  rw [List.map_dropLast, split_nl, ← List.flatMap_def]
  rw [spl_lines 10 (tl x) [] (by simpa using h)]
  rfl
theorem lines_sum (x : Str) : ((lnsOf x).map (·.length)).sum + (lnsOf x).length ≤ x.length := by
  have h := split_nl_len x
  have e := List.dropLast_concat_getLast (split_nl_ne x)
  unfold lnsOf
  rw [← e] at h
  simp only [List.map_append, List.sum_append, List.length_append, List.map_cons, List.map_nil, List.sum_cons, List.sum_nil, List.length_cons, List.length_nil] at h
  omega
end DL

set_option Elab.async false
set_option linter.all false
set_option maxRecDepth 100000
set_option maxHeartbeats 4000000
namespace DL
open PySem PySem.Spec L2 PyProof.Rows TL NumText
/-! ### numbers in texts -/
theorem val_snoc (m : List Nat) (d : Nat) : digitsVal (m ++ [d]) = digitsVal m * 10 + (d - 48) := by
  unfold digitsVal
  rw [List.foldl_append]
  rfl
/-- digits without a leading 0 are the number's own -/
theorem numL_of : ∀ (k : Nat) (l : List Nat), l.length = k → AllDigits l → l ≠ [] → (l.length = 1 ∨ l.head? ≠ some 48) → numL (digitsVal l) = l := by
  intro k
  induction k with
  | zero => intro l hk _ hn; exact absurd (List.eq_nil_of_length_eq_zero hk) hn
  | succ k ih =>
    intro l hk hd hn hc
    have e := List.dropLast_concat_getLast hn
    generalize l.dropLast = m at e
    generalize l.getLast hn = d at e
    subst e
    have hd1 : 48 ≤ d ∧ d ≤ 57 := hd d (by simp)
    have hm : AllDigits m := fun c hc => hd c (List.mem_append_left _ hc)
    rw [val_snoc]
    cases m with
    | nil =>
      show numL (0 * 10 + (d - 48)) = [d]
      rw [numL_lt (by omega)]
      congr 1
      omega
    | cons c r =>
      have hc2 : (c :: r).head? ≠ some 48 := by
        rcases hc with hc | hc
        · simp at hc
        · simpa using hc
      have h1 : numL (digitsVal (c :: r)) = c :: r := ih (c :: r) (by simpa using hk) hm (by simp) (.inr hc2)
      have h2 : digitsVal (c :: r) ≠ 0 := fun z => by
        rw [z] at h1
        rw [← h1] at hc2
        exact hc2 rfl
      rw [numL_step (by omega)]
      have e1 : (digitsVal (c :: r) * 10 + (d - 48)) / 10 = digitsVal (c :: r) := by omega
      have e2 : (digitsVal (c :: r) * 10 + (d - 48)) % 10 = d - 48 := by omega
      rw [e1, e2, h1]
      congr 2
      omega
theorem tl_strN (n : Nat) : tl (strI (n : Int)) = numL n := tl_num n
theorem tl_strNeg {n : Nat} (h : 0 < n) : tl (strI (-(n : Int))) = 45 :: numL n := by
  obtain ⟨m, rfl⟩ : ∃ m, n = m + 1 := ⟨n - 1, by omega⟩
  have e : -((m + 1 : Nat) : Int) = Int.negSucc m := rfl
  rw [e]
  show tl (Str.ofString (toString (Int.negSucc m))) = _
  rw [tl_ofString]
  have e2 : toString (Int.negSucc m) = "-" ++ toString (m + 1) := rfl
  rw [e2, String.toList_append, List.map_append]
  have := tl_num (m + 1)
  rw [tl_ofString] at this
  have e3 : (toString ((m + 1 : Nat) : Int)) = toString (m + 1) := rfl
  rw [e3] at this
  rw [this]
  rfl
theorem val_le (l : List Nat) (h : AllDigits l) : digitsVal l < 10 ^ l.length := by
  have key : ∀ (k : Nat) (l : List Nat), l.length = k → AllDigits l → digitsVal l < 10 ^ l.length := by
    intro k
    induction k with
    | zero =>
      intro l hk _
      rw [List.eq_nil_of_length_eq_zero hk]
      decide
    | succ k ih =>
      intro l hk hd
      have hn : l ≠ [] := fun e => by rw [e] at hk; simp at hk
      have e := List.dropLast_concat_getLast hn
      generalize l.dropLast = m at e
      generalize l.getLast hn = d at e
      subst e
      have hd1 : 48 ≤ d ∧ d ≤ 57 := hd d (by simp)
      have := ih m (by simpa using hk) fun c hc => hd c (List.mem_append_left _ hc)
      rw [val_snoc, List.length_append, List.length_singleton, Nat.pow_succ]
      omega
  exact key _ l rfl h
def digB (l : List Nat) : Bool := l.all fun c => decide (c ∈ tl ("0123456789" : Str))
theorem digB_iff {l : List Nat} (h : digB l = true) : AllDigits l := fun c hc => by
  have := of_decide_eq_true (List.all_eq_true.mp h c hc)
  have e : tl ("0123456789" : Str) = [48, 49, 50, 51, 52, 53, 54, 55, 56, 57] := rfl
  rw [e] at this
  simp only [List.mem_cons, List.not_mem_nil, or_false] at this
  omega
/-- a canonical word of digits, or one with a minus ahead: the int, and its text again -/
theorem num_back {w : Str} {part : List Nat} (hp : (tl w = part ∧ True) ∨ tl w = 45 :: part) (h0 : part ≠ []) (h1 : part.length ≤ 15) (hd : digB part = true) (hc : w = "0" ∨ part.head? ≠ some 48) : ∃ n : Int, PySem.intText? w = some n ∧ n.natAbs < 2 ^ 1000 ∧ strI n = w ∧ w.length ≤ 600 := by
  have hD := digB_iff hd
  have hv := val_le part hD
  have hv2 : digitsVal part < 10 ^ 15 := Nat.lt_of_lt_of_le hv (Nat.pow_le_pow_right (by decide) h1)
  have hb : (10 : Nat) ^ 15 < 2 ^ 1000 := by decide +kernel
  rcases hp with ⟨hp, _⟩ | hp
  · have hcc : part.length = 1 ∨ part.head? ≠ some 48 := by
      rcases hc with hc | hc
      · left; rw [← hp, hc]; rfl
      · exact .inr hc
    have e := numL_of _ part rfl hD h0 hcc
    refine ⟨(digitsVal part : Int), ?_, by omega, ?_, by rw [len_tl, hp]; omega⟩
    · rw [intText_digits (x := w) (by rw [show w.cps.toList = part from hp]; exact hD) (by rw [show w.cps.toList = part from hp]; exact h0) (by rw [len_tl, hp]; omega)]
      rw [show w.cps.toList = part from hp]
    · exact ext_tl (by rw [tl_strN, e, hp])
  · have hc2 : part.head? ≠ some 48 := by
      rcases hc with hc | hc
      · rw [hc] at hp
        have : tl ("0" : Str) = [48] := rfl
        rw [this] at hp
        simp at hp
      · exact hc
    have e := numL_of _ part rfl hD h0 (.inr hc2)
    have hz : 0 < digitsVal part := by
      refine Nat.pos_of_ne_zero fun z => ?_
      rw [z] at e
      rw [← e] at hc2
      exact hc2 rfl
    refine ⟨-(digitsVal part : Int), ?_, by omega, ?_, by rw [len_tl, hp, List.length_cons]; omega⟩
    · exact intText_neg hp hD h0 (by rw [len_tl, hp, List.length_cons]; omega)
    · exact ext_tl (by rw [tl_strNeg hz, e, hp])
end DL

set_option Elab.async false
set_option linter.all false
set_option maxRecDepth 100000
set_option maxHeartbeats 4000000
namespace DL
open PySem PySem.Spec L2
structure Zok (z : Z) (B : Int) : Prop where
  m0 : 0 ≤ z.mix
  m1 : z.mix < 2147483647
  c0 : 0 ≤ z.count
  c1 : z.count ≤ B
  r0 : 0 ≤ z.rest
theorem pow_lim (a : Int) (h0 : 0 ≤ a) (h1 : a < 2 ^ 60) : a.natAbs < 2 ^ 60 := by omega
theorem dPow5 {a : Int} (h : a.natAbs < 2 ^ 60) : dPow (.int a) (.int 5) = some (.int (a ^ 5)) := by
  simp only [dPow]
  rw [if_pos ⟨by decide, by decide, h⟩]
  rfl
theorem dPow3 {a : Int} (h : a.natAbs < 2 ^ 60) : dPow (.int a) (.int 3) = some (.int (a ^ 3)) := by
  simp only [dPow]
  rw [if_pos ⟨by decide, by decide, h⟩]
  rfl
theorem dMod_pos {a b : Int} (h : 0 < b) : dMod (.int a) (.int b) = some (.int (a % b)) := by
  simp only [dMod]
  rw [if_pos h]
theorem dMulL {a b : Int} (h : smallI a = true) : dMulX (.int a) (.int b) = some (.int (a * b)) := by
  simp only [dMulX, dMul]
  rw [h, Bool.true_or, if_pos rfl]
theorem dMulR {a b : Int} (h : smallI b = true) : dMulX (.int a) (.int b) = some (.int (a * b)) := by
  simp only [dMulX, dMul]
  rw [h, Bool.or_true, if_pos rfl]
theorem dFdiv_pos {a b : Int} (h : 0 < b) (h1 : b < 1073741824) : dFdiv (.int a) (.int b) = some (.int (a / b)) := by
  simp only [dFdiv]
  rw [if_pos ⟨h, h1⟩]
def mD1 : SM := (mStrmSet 0 2 (mOp dAdd (mStrmI 0 2) (mC (.int 1))))
def mD2c : M Bool := (mAnd (mB (mOp dEq (mStrmI 0 1) (mC (.int 0)))) (mStrmNe 0))
def mD2 : SM := (mSeq (mStrmPop 0 3)
  (mSeq (mStrmSet 0 3 (mOp dMod (mCall dInt (mCons (mOp dAdd (mOp dAdd (mOp dMulX (mStrmI 0 3) (mC (.int 8191))) (mVar 3)) (mC (.int 3))) mNil)) (mC (.int 2147483647))))
  (mSeq (mStrmSet 0 1 (mIf (mB (mOp dGe (mVar 3) (mOp dPow (mC (.int 10)) (mC (.int 18))))) (mVar 3) (mC (.int 0))))
  mSkip)))
def mD3 : SM := (mIfS (mB (mOp dGt (mStrmI 0 1) (mC (.int 0)))) (mSeq (mAsg (tgN 4) (mOp dMod (mCall dInt (mCons (mStrmI 0 1) mNil)) (mVar 1))) (mSeq (mStrmSet 0 1 (mOp dFdiv (mStrmI 0 1) (mVar 1))) (mSeq (mRet (mVar 4)) mSkip))) mSkip)
def mD4 : SM := (mSeq (mAsg (tgN 2) (mOp dMod (mCall dInt (mCons (mOp dPow (mOp dAdd (mOp dAdd (mStrmI 0 3) (mOp dMulX (mC (.int 7919)) (mStrmI 0 2))) (mC (.int 104729))) (mC (.int 5))) mNil)) (mC (.int 2147483629))))
  (mSeq (mRet (mOp dMod (mOp dMod (mCall dInt (mCons (mOp dPow (mOp dAdd (mOp dAdd (mOp dMulX (mVar 2) (mC (.int 48271))) (mOp dMulX (mC (.int 30011)) (mStrmI 0 2))) (mC (.int 29))) (mC (.int 3))) mNil)) (mC (.int 1000000007))) (mVar 1)))
  mSkip))
def mDraw : SM := mSeq mD1 (mSeq (mIfS mD2c mD2 mSkip) (mSeq mD3 mD4))
def gDraw : Fm := fnM 5 true mDraw
theorem draw_is : mDraw = mSeq mD1 (mSeq (mIfS mD2c mD2 mSkip) (mSeq mD3 mD4)) := rfl
theorem draw_tail {cells : List Int} {count mix n B : Int} (h0 : 0 < n) (h1 : n < 1073741824) (hB : B < 2 ^ 40) (m0 : 0 ≤ mix) (m1 : mix < 2147483647) (c0 : 0 ≤ count) (c1 : count ≤ B + 1) (a b : Slot) :
    ∃ k z', mD4 [.strm, .sh (.int n), .none, a, b] ⟨cells, 0, count, mix⟩ = .rt (.int k) [.strm, .sh (.int n), .sh (.int ((mix + 7919 * count + 104729) ^ 5 % 2147483629)), a, b] z' ∧ 0 ≤ k ∧ k < n ∧ Zok z' (B + 1) := by
  have p1 : (mix + 7919 * count + 104729).natAbs < 2 ^ 60 := pow_lim _ (by omega) (by omega)
  generalize hm : (mix + 7919 * count + 104729) ^ 5 % 2147483629 = mh
  have e0 : 0 ≤ mh := by rw [← hm]; exact Int.emod_nonneg _ (by decide)
  have e1 : mh < 2147483629 := by rw [← hm]; exact Int.emod_lt_of_pos _ (by decide)
  have p2 : (mh * 48271 + 30011 * count + 29).natAbs < 2 ^ 60 := pow_lim _ (by omega) (by omega)
  have s1 : smallI 7919 = true := by decide
  have s2 : smallI 48271 = true := by decide
  have s3 : smallI 30011 = true := by decide
  refine ⟨((mh * 48271 + 30011 * count + 29) ^ 3 % 1000000007) % n, ⟨cells, 0, count, mix⟩, ?_, Int.emod_nonneg _ (by omega), Int.emod_lt_of_pos _ h0, ⟨m0, m1, c0, c1, by simp⟩⟩
  have k1 := dMulL (b := count) s1
  have k2 := dMulR (a := mh) s2
  have k3 := dMulL (b := count) s3
  have k4 := dPow5 p1
  have k5 := dPow3 p2
  have k6 := dMod_pos (a := (mix + 7919 * count + 104729) ^ 5) (b := 2147483629) (by decide)
  have k7 := dMod_pos (a := (mh * 48271 + 30011 * count + 29) ^ 3) (b := 1000000007) (by decide)
  have k8 := dMod_pos (a := (mh * 48271 + 30011 * count + 29) ^ 3 % 1000000007) (b := n) h0
  rw [hm] at k6
  unfold mD4
  simp only [mSeq, mAsg, mOp, mCall, mCons, mNil, mStrmI, mC, mVar, mRet, mSkip, toFR, ER.bind, mOpt, Z.get, List.getElem?_cons_zero, Option.map_some, dAdd, dInt, tgN, List.set, List.getElem?_cons_succ, k1, k2, k3, k4, k5, k6, k7, k8]
theorem dseq_nx {a b : SM} {s s1 : Sl} {z z1 : Z} (h : a s z = .nx s1 z1) : mSeq a b s z = b s1 z1 := by
  unfold mSeq
  rw [h]
theorem draw_two (cells : List Int) (rest count mix n : Int) (r0 : 0 ≤ rest) (m0 : 0 ≤ mix) (m1 : mix < 2147483647) : ∃ cells' rest' mix' a, (mIfS mD2c mD2 mSkip) [.strm, .sh (.int n), .none, .none, .none] ⟨cells, rest, count, mix⟩ = .nx [.strm, .sh (.int n), .none, a, .none] ⟨cells', rest', count, mix'⟩ ∧ 0 ≤ rest' ∧ 0 ≤ mix' ∧ mix' < 2147483647 := by
  by_cases hr : rest = 0
  · subst hr
    cases cells with
    | nil => exact ⟨[], 0, mix, .none, rfl, by omega, m0, m1⟩
    | cons x r =>
      have p : (10 : Int).natAbs < 2 ^ 60 := by decide
      have k1 : dMulX (.int mix) (.int 8191) = some (.int (mix * 8191)) := dMulR (by decide)
      have k2 := dMod_pos (a := mix * 8191 + x + 3) (b := 2147483647) (by decide)
      have k3 : dPow (.int 10) (.int 18) = some (.int 1000000000000000000) := by kernel_rfl
      have e1 : 0 ≤ (mix * 8191 + x + 3) % 2147483647 := Int.emod_nonneg _ (by decide)
      have e2 : (mix * 8191 + x + 3) % 2147483647 < 2147483647 := Int.emod_lt_of_pos _ (by decide)
      have hc : mD2c [.strm, .sh (.int n), .none, .none, .none] ⟨x :: r, 0, count, mix⟩ = .ok true ⟨x :: r, 0, count, mix⟩ := rfl
      by_cases hx : 1000000000000000000 ≤ x
      · refine ⟨r, x, (mix * 8191 + x + 3) % 2147483647, .sh (.int x), ?_, by omega, e1, e2⟩
        unfold mIfS
        rw [hc]
        simp only [if_true, mD2, mSeq, mStrmPop, mStrmSet, mOp, mCall, mCons, mNil, mStrmI, mC, mVar, mSkip, mIf, mB, toFR, ER.bind, mOpt, Z.get, Z.put, asB, List.getElem?_cons_zero, List.getElem?_cons_succ, Option.map_some, dAdd, dInt, dGe, List.set, k1, k2, k3, hx, decide_true]
      · refine ⟨r, 0, (mix * 8191 + x + 3) % 2147483647, .sh (.int x), ?_, by omega, e1, e2⟩
        unfold mIfS
        rw [hc]
        simp only [if_true, mD2, mSeq, mStrmPop, mStrmSet, mOp, mCall, mCons, mNil, mStrmI, mC, mVar, mSkip, mIf, mB, toFR, ER.bind, mOpt, Z.get, Z.put, asB, List.getElem?_cons_zero, List.getElem?_cons_succ, Option.map_some, dAdd, dInt, dGe, List.set, k1, k2, k3, hx, decide_false, Bool.false_eq_true, if_false]
  · have hc : mD2c [.strm, .sh (.int n), .none, .none, .none] ⟨cells, rest, count, mix⟩ = .ok false ⟨cells, rest, count, mix⟩ := by
      have : (rest == 0) = false := by simpa using hr
      simp [mD2c, mAnd, mB, mOp, mStrmI, mC, ER.bind, mOpt, Z.get, asB, dEq, eqN, hr]
    refine ⟨cells, rest, mix, .none, ?_, r0, m0, m1⟩
    unfold mIfS
    rw [hc]
    rfl
/-- a draw -/
theorem draw_ok (z : Z) (n B : Int) (hz : Zok z B) (hB : B < 2 ^ 40) (h0 : 0 < n) (h1 : n < 1073741824) : ∃ k z', gDraw [.int n] z = .ok (.int k) z' ∧ 0 ≤ k ∧ k < n ∧ Zok z' (B + 1) := by
  obtain ⟨cells, rest, count, mix⟩ := z
  obtain ⟨m0, m1, c0, c1, r0⟩ := hz
  dsimp only at m0 m1 c0 c1 r0
  have e : startSl 5 true [.int n] = [.strm, .sh (.int n), .none, .none, .none] := rfl
  have a1 : mD1 [.strm, .sh (.int n), .none, .none, .none] ⟨cells, rest, count, mix⟩ = .nx [.strm, .sh (.int n), .none, .none, .none] ⟨cells, rest, count + 1, mix⟩ := rfl
  obtain ⟨cells', rest', mix', a, e2, r0', m0', m1'⟩ := draw_two cells rest (count + 1) mix n r0 m0 m1
  unfold gDraw fnM
  rw [e, draw_is, dseq_nx a1, dseq_nx e2]
  by_cases hr : 0 < rest'
  · have k1 := dMod_pos (a := rest') (b := n) h0
    have k2 := dFdiv_pos (a := rest') h0 h1
    refine ⟨rest' % n, ⟨cells', rest' / n, count + 1, mix'⟩, ?_, Int.emod_nonneg _ (by omega), Int.emod_lt_of_pos _ h0, ⟨m0', m1', by show 0 ≤ count + 1; omega, by show count + 1 ≤ B + 1; omega, Int.ediv_nonneg r0' (by omega)⟩⟩
    have : mSeq mD3 mD4 [.strm, .sh (.int n), .none, a, .none] ⟨cells', rest', count + 1, mix'⟩ = .rt (.int (rest' % n)) [.strm, .sh (.int n), .none, a, .sh (.int (rest' % n))] ⟨cells', rest' / n, count + 1, mix'⟩ := by
      simp only [mD3, mSeq, mIfS, mStrmSet, mAsg, mRet, mOp, mCall, mCons, mNil, mStrmI, mC, mVar, mSkip, mB, toFR, ER.bind, mOpt, Z.get, Z.put, asB, tgN, List.getElem?_cons_zero, List.getElem?_cons_succ, Option.map_some, dGt, dInt, List.set, k1, k2, hr, decide_true, if_true]
    rw [this]
  · have hr0 : rest' = 0 := by omega
    subst hr0
    obtain ⟨k, z', e1, e2, e3, e4⟩ := draw_tail (cells := cells') (count := count + 1) (mix := mix') (B := B) h0 h1 hB m0' m1' (by omega) (by omega) a Slot.none
    have : mSeq mD3 mD4 [.strm, .sh (.int n), .none, a, .none] ⟨cells', 0, count + 1, mix'⟩ = mD4 [.strm, .sh (.int n), .none, a, .none] ⟨cells', 0, count + 1, mix'⟩ := dseq_nx rfl
    refine ⟨k, z', ?_, e2, e3, e4⟩
    rw [this, e1]
def mPick : SM := (mSeq (mRet (mOp dIx (mVar 1) (mCallS 0 1 gDraw (mCons (mCall dLen (mCons (mVar 1) mNil)) mNil))))
  mSkip)
def gPick : Fm := fnM 2 true mPick
theorem pick_ok (z : Z) (ds : List D) (B : Int) (hz : Zok z B) (hB : B < 2 ^ 40) (h0 : 0 < ds.length) (h1 : ds.length < 1000) : ∃ (k : Nat) (d : D) (z' : Z), k < ds.length ∧ ds[k]? = some d ∧ gPick [.lst ds] z = .ok d z' ∧ Zok z' (B + 1) := by
  obtain ⟨k, z', e, k0, k1, hz'⟩ := draw_ok z (ds.length : Int) B hz hB (by omega) (by omega)
  have hk : k.toNat < ds.length := by omega
  refine ⟨k.toNat, ds[k.toNat], z', hk, List.getElem?_eq_getElem hk, ?_, hz'⟩
  have e1 : startSl 2 true [.lst ds] = [.strm, .sh (.lst ds)] := rfl
  have ix : dIx (.lst ds) (.int k) = some ds[k.toNat] := by
    have hi : ixN ds.length k = some k.toNat := by
      unfold ixN
      rw [if_pos k0, if_pos k1]
    show atI ds k = _
    unfold L2.atI
    rw [hi]
    exact List.getElem?_eq_getElem hk
  unfold gPick fnM
  rw [e1]
  simp only [mPick, mSeq, mRet, mOp, mVar, mCallS, mCall, mCons, mNil, mOpt, dLen, toFR, ER.bind, List.getElem?_cons_zero, List.getElem?_cons_succ, List.length_cons, List.length_nil, if_true, runF, e, ix]
end DL

set_option Elab.async false
set_option linter.all false
set_option maxRecDepth 100000
set_option maxHeartbeats 4000000
namespace DL
open PySem PySem.Spec L2 PyProof.Rows TL
/-! ### the mirrors step by step -/
section
variable {s : Sl} {z z1 z2 z3 : Z} {a b c m : M D} {n n2 : M Bool} {x y d e : D} {k j : Bool} {r st : SM}
theorem v_at {i : Nat} (h : s[i]? = some (.sh d)) : mVar i s z = .ok d z := by unfold mVar; rw [h]
theorem e_op {g : D → D → Option D} (h1 : a s z = .ok x z1) (h2 : b s z1 = .ok y z2) (h3 : g x y = some d) : mOp g a b s z = .ok d z2 := by
  unfold mOp
  rw [h1]
  simp only [ER.bind, h2, h3]
theorem e_m1 {g : Str → D → Option D} {w : Str} (h1 : a s z = .ok (.str w) z1) (h2 : b s z1 = .ok y z2) (h3 : g w y = some d) : mM1 g a b s z = .ok d z2 := by
  unfold mM1
  rw [h1]
  simp only [ER.bind, h2, h3, mOpt]
theorem e_call {g : List D → Option D} {l : M (List D)} {ds : List D} (h1 : l s z = .ok ds z1) (h2 : g ds = some d) : mCall g l s z = .ok d z1 := by
  unfold mCall
  rw [h1]
  simp only [ER.bind, h2, mOpt]
theorem e_nil : mNil s z = .ok [] z := rfl
theorem e_cons {l : M (List D)} {ds : List D} (h1 : a s z = .ok x z1) (h2 : l s z1 = .ok ds z2) : mCons a l s z = .ok (x :: ds) z2 := by
  unfold mCons
  rw [h1]
  simp only [ER.bind, h2]
theorem e_call1 {g : List D → Option D} (h1 : a s z = .ok x z1) (h2 : g [x] = some d) : mCall g (mCons a mNil) s z = .ok d z1 := e_call (e_cons h1 e_nil) h2
theorem e_callF {l : M (List D)} {ds : List D} {f : Fm} {q : Nat} {z' : Z} (h1 : l s z = .ok ds z1) (hl : ds.length = q) (h2 : f ds zDum = .ok d z') : mCallF q f l s z = .ok d z1 := by
  unfold mCallF
  rw [h1]
  simp only [ER.bind, if_pos hl, runF, Bool.false_eq_true, if_false, h2, reZ]
theorem e_callFx {l : M (List D)} {ds : List D} {f : Fm} {q : Nat} {z' : Z} {cn : Str} {fs : List (Str × D)} (h1 : l s z = .ok ds z1) (hl : ds.length = q) (h2 : f ds zDum = .exc cn fs z') : mCallF q f l s z = .exc cn fs z1 := by
  unfold mCallF
  rw [h1]
  simp only [ER.bind, if_pos hl, runF, Bool.false_eq_true, if_false, h2, reZ]
theorem e_callF1 {f : Fm} {z' : Z} (h1 : a s z = .ok x z1) (h2 : f [x] zDum = .ok d z') : mCallF 1 f (mCons a mNil) s z = .ok d z1 := e_callF (e_cons h1 e_nil) rfl h2
theorem e_callF2 {f : Fm} {z' : Z} (h1 : a s z = .ok x z1) (h2 : b s z1 = .ok y z2) (h3 : f [x, y] zDum = .ok d z') : mCallF 2 f (mCons a (mCons b mNil)) s z = .ok d z2 := e_callF (e_cons h1 (e_cons h2 e_nil)) rfl h3
theorem e_callS {l : M (List D)} {ds : List D} {f : Fm} {q i : Nat} (hs : s[i]? = some .strm) (h1 : l s z = .ok ds z1) (hl : ds.length = q) (h2 : f ds z1 = .ok d z2) : mCallS i q f l s z = .ok d z2 := by
  unfold mCallS
  rw [hs]
  simp only [h1, ER.bind, if_pos hl, runF, if_true, h2]
theorem e_callS1 {f : Fm} {i : Nat} (hs : s[i]? = some .strm) (h1 : a s z = .ok x z1) (h2 : f [x] z1 = .ok d z2) : mCallS i 1 f (mCons a mNil) s z = .ok d z2 := e_callS hs (e_cons h1 e_nil) rfl h2
theorem e_callS2 {f : Fm} {i : Nat} (hs : s[i]? = some .strm) (h1 : a s z = .ok x z1) (h2 : b s z1 = .ok y z2) (h3 : f [x, y] z2 = .ok d z3) : mCallS i 2 f (mCons a (mCons b mNil)) s z = .ok d z3 := e_callS hs (e_cons h1 (e_cons h2 e_nil)) rfl h3
theorem e_andV (h1 : a s z = .ok (.bl k) z) (h2 : k = true → b s z = .ok (.bl j) z) : mAndV a b s z = .ok (.bl (k && j)) z := by
  unfold mAndV
  rw [h1]
  cases k with
  | false => rfl
  | true => exact h2 rfl
theorem e_orV (h1 : a s z = .ok (.bl k) z) (h2 : k = false → b s z = .ok (.bl j) z) : mOrV a b s z = .ok (.bl (k || j)) z := by
  unfold mOrV
  rw [h1]
  cases k with
  | true => rfl
  | false => exact h2 rfl
theorem e_notV (h1 : a s z = .ok (.bl k) z1) : mNotV a s z = .ok (.bl (!k)) z1 := by
  unfold mNotV
  rw [h1]
  rfl
theorem t_B (h1 : a s z = .ok (.bl k) z1) : mB a s z = .ok k z1 := by
  unfold mB
  rw [h1]
  rfl
theorem t_not (h1 : n s z = .ok k z1) : mNot n s z = .ok (!k) z1 := by
  unfold mNot
  rw [h1]
  rfl
theorem t_and (h1 : n s z = .ok k z) (h2 : k = true → n2 s z = .ok j z) : mAnd n n2 s z = .ok (k && j) z := by
  unfold mAnd
  rw [h1]
  cases k with
  | false => rfl
  | true => exact h2 rfl
theorem t_or (h1 : n s z = .ok k z) (h2 : k = false → n2 s z = .ok j z) : mOr n n2 s z = .ok (k || j) z := by
  unfold mOr
  rw [h1]
  cases k with
  | true => rfl
  | false => exact h2 rfl
theorem e_if (h1 : n s z = .ok k z) (h2 : k = true → a s z = .ok d z1) (h3 : k = false → b s z = .ok d z1) : mIf n a b s z = .ok d z1 := by
  unfold mIf
  rw [h1]
  cases k with
  | true => exact h2 rfl
  | false => exact h3 rfl
theorem e_ifT (h1 : n s z = .ok true z1) (h2 : a s z1 = .ok d z2) : mIf n a b s z = .ok d z2 := by
  unfold mIf
  rw [h1]
  exact h2
theorem e_ifF (h1 : n s z = .ok false z1) (h2 : b s z1 = .ok d z2) : mIf n a b s z = .ok d z2 := by
  unfold mIf
  rw [h1]
  exact h2
theorem e_chain {g g' : D → D → Option D} (h1 : a s z = .ok x z) (h2 : b s z = .ok y z) (h3 : g x y = some (.bl k)) (h4 : c s z = .ok e z) (h5 : g' y e = some (.bl j)) : mChain g g' a b c s z = .ok (.bl (k && j)) z := by
  unfold mChain
  rw [h1]
  simp only [ER.bind, h2, h3]
  cases k with
  | false => rfl
  | true => simp only [h4, h5, Bool.true_and]
theorem e_disp {mk : List D → D} {l : M (List D)} {ds : List D} (h1 : l s z = .ok ds z1) (h2 : ds.length ≤ lim) : mDisp mk l s z = .ok (mk ds) z1 := by
  unfold mDisp
  rw [h1]
  exact if_pos h2
theorem e_sl {lo hi : M (Option Int)} {l h : Option Int} (h1 : a s z = .ok x z1) (h2 : lo s z1 = .ok l z2) (h3 : hi s z2 = .ok h z3) (h4 : dSl x l h = some d) : mSl a lo hi s z = .ok d z3 := by
  unfold mSl
  rw [h1]
  simp only [ER.bind, h2, h3, h4]
theorem p_int {i : Int} (h1 : a s z = .ok (.int i) z1) : mPart a s z = .ok (some i) z1 := by
  unfold mPart
  rw [h1]
  rfl
theorem e_isi {ts : List Ty} (h1 : a s z = .ok x z1) (h2 : isTys x ts = some k) : mIsi ts a s z = .ok (.bl k) z1 := by
  unfold mIsi
  rw [h1]
  simp only [ER.bind, h2, Option.map_some, mOpt]
/-! statements -/
theorem s_asg {i : Nat} (h : m s z = .ok d z1) : mSeq (mAsg (tgN i) m) r s z = r (s.set i (.sh d)) z1 := by
  unfold mSeq mAsg
  rw [h]
  rfl
theorem s_ret (h : m s z = .ok d z1) : mSeq (mRet m) r s z = .rt d s z1 := by
  unfold mSeq mRet
  rw [h]
  rfl
theorem s_retx {cn : Str} {fs : List (Str × D)} (h : m s z = .exc cn fs z1) : mSeq (mRet m) r s z = .exc cn fs s z1 := by
  unfold mSeq mRet
  rw [h]
  rfl
theorem s_guard (h : n s z = .ok k z) (h2 : k = true → m s z = .ok d z) : mSeq (mIfS n (mSeq (mRet m) mSkip) mSkip) r s z = if k = true then .rt d s z else r s z := by
  unfold mSeq mIfS
  rw [h]
  cases k with
  | false => rfl
  | true =>
    simp only [if_true, mRet, h2 rfl, toFR]
theorem s_raise {cn : Str} {fl : Str} (h : n s z = .ok k z) (h2 : k = true → m s z = .ok d z) : mSeq (mIfS n (mSeq (mRaise cn (mk1 fl) (mCons m mNil)) mSkip) mSkip) r s z = if k = true then .exc cn [(fl, d)] s z else r s z := by
  unfold mSeq mIfS
  rw [h]
  cases k with
  | false => rfl
  | true =>
    simp only [if_true, mRaise, mCons, mNil, h2 rfl, ER.bind, mk1]
theorem s_own {i : Nat} {ds : List D} (h : m s z = .ok (.lst ds) z1) : mSeq (mOwn i m) r s z = r (s.set i (.own (.lst ds))) z1 := by
  unfold mSeq mOwn
  rw [h]
  rfl
theorem s_ownD {i : Nat} {ds : List (Key × D)} (h : m s z = .ok (.dic ds) z1) : mSeq (mOwn i m) r s z = r (s.set i (.own (.dic ds))) z1 := by
  unfold mSeq mOwn
  rw [h]
  rfl
theorem s_app {i : Nat} {ds : List D} (hs : s[i]? = some (.own (.lst ds))) (h : m s z = .ok d z1) (hl : ds.length < lim) : mSeq (mApp i m) r s z = r (s.set i (.own (.lst (ds ++ [d])))) z1 := by
  unfold mSeq mApp
  rw [hs]
  simp only [h, toFR, if_pos hl]
theorem s_ext {i : Nat} {ds es : List D} (hs : s[i]? = some (.own (.lst ds))) (h : m s z = .ok (.lst es) z1) (hl : ds.length + es.length ≤ lim) : mSeq (mExt i m) r s z = r (s.set i (.own (.lst (ds ++ es)))) z1 := by
  unfold mSeq mExt
  rw [hs]
  simp only [h, toFR, if_pos hl]
theorem s_put {i : Nat} {ks : List (Key × D)} {q : Key} {mk : M D} (hs : s[i]? = some (.own (.dic ks))) (h : m s z = .ok d z1) (h2 : mk s z1 = .ok e z2) (hk : keyD e = some q) (hl : ks.length < lim) : mSeq (mPut i m mk) r s z = r (s.set i (.own (.dic (setK ks q d)))) z2 := by
  unfold mSeq mPut
  rw [hs]
  simp only [h, toFR, h2, hk, if_pos hl]
theorem s_seq {s1 : Sl} (h : st s z = .nx s1 z1) : mSeq st r s z = r s1 z1 := by
  unfold mSeq
  rw [h]
theorem s_rt {s1 : Sl} (h : st s z = .rt d s1 z1) : mSeq st r s z = .rt d s1 z1 := by
  unfold mSeq
  rw [h]
theorem s_exc {s1 : Sl} {cn : Str} {fs : List (Str × D)} (h : st s z = .exc cn fs s1 z1) : mSeq st r s z = .exc cn fs s1 z1 := by
  unfold mSeq
  rw [h]
theorem s_for {t : Tg} {mi : M (List D)} {ds : List D} (h : mi s z = .ok ds z1) : mFor mi t st s z = mForG t st ds s z1 := by
  unfold mFor
  rw [h]
theorem f_ret {q : Nat} {sm : Bool} {ds : List D} {s0 s1 : Sl} (e : startSl q sm ds = s0) (h : st s0 z = .rt d s1 z1) : fnM q sm st ds z = .ok d z1 := by
  unfold fnM
  rw [e, h]
theorem f_retE {q : Nat} {sm : Bool} {ds : List D} {s0 : Sl} (e : startSl q sm ds = s0) (h : ∃ s1, st s0 z = .rt d s1 z1) : fnM q sm st ds z = .ok d z1 := by
  obtain ⟨s1, h⟩ := h
  exact f_ret e h
theorem f_excE {q : Nat} {sm : Bool} {ds : List D} {s0 : Sl} {cn : Str} {fs : List (Str × D)} (e : startSl q sm ds = s0) (h : ∃ s1, st s0 z = .exc cn fs s1 z1) : fnM q sm st ds z = .exc cn fs z1 := by
  obtain ⟨s1, h⟩ := h
  unfold fnM
  rw [e, h]
theorem ex_eq {t u : FR} {p : Sl → FR} (h : t = u) (h2 : ∃ s, u = p s) : ∃ s, t = p s := by rw [h]; exact h2
theorem rt_of {d' : D} (h : d = d') : ∃ s1, FR.rt d s z = .rt d' s1 z := ⟨s, by rw [h]⟩
theorem rt_ret (h : m s z = .ok d z1) : ∃ s1, mSeq (mRet m) r s z = .rt d s1 z1 := ⟨s, s_ret h⟩
theorem ite_rt {p : Prop} [Decidable p] {t u : FR} (h1 : p → ∃ s1, t = .rt d s1 z1) (h2 : ¬ p → ∃ s1, u = .rt d s1 z1) : ∃ s1, (if p then t else u) = .rt d s1 z1 := by
  by_cases h : p
  · rw [if_pos h]; exact h1 h
  · rw [if_neg h]; exact h2 h
theorem f_exc {q : Nat} {sm : Bool} {ds : List D} {s0 s1 : Sl} {cn : Str} {fs : List (Str × D)} (e : startSl q sm ds = s0) (h : st s0 z = .exc cn fs s1 z1) : fnM q sm st ds z = .exc cn fs z1 := by
  unfold fnM
  rw [e, h]
theorem g_nx {t : Tg} {ds : List D} {s1 s2 : Sl} (h1 : t d s = some s1) (h2 : st s1 z = .nx s2 z1) : mForG t st (d :: ds) s z = mForG t st ds s2 z1 := by
  simp only [mForG, h1, h2]
theorem g_rt {t : Tg} {ds : List D} {s1 s2 : Sl} (h1 : t d s = some s1) (h2 : st s1 z = .rt e s2 z1) : mForG t st (d :: ds) s z = .rt e s2 z1 := by
  simp only [mForG, h1, h2]
theorem g_exc {t : Tg} {ds : List D} {s1 s2 : Sl} {cn : Str} {fs : List (Str × D)} (h1 : t d s = some s1) (h2 : st s1 z = .exc cn fs s2 z1) : mForG t st (d :: ds) s z = .exc cn fs s2 z1 := by
  simp only [mForG, h1, h2]
end
end DL

set_option Elab.async false
set_option linter.all false
set_option maxRecDepth 100000
set_option maxHeartbeats 4000000
namespace DL
open PySem PySem.Spec L2 PyProof.Rows TL
/-! ### small facts on data -/
theorem ix0 (x : D) (xs : List D) : dIx (.lst (x :: xs)) (.int 0) = some x := by
  show atI (x :: xs) 0 = _
  unfold atI
  rw [show ixN (x :: xs).length 0 = some 0 from by unfold ixN; rw [if_pos (by decide), if_pos (by simp; try omega)]; rfl]
  rfl
theorem ix1 (x y : D) (xs : List D) : dIx (.lst (x :: y :: xs)) (.int 1) = some y := by
  show atI (x :: y :: xs) 1 = _
  unfold atI
  rw [show ixN (x :: y :: xs).length 1 = some 1 from by unfold ixN; rw [if_pos (by decide), if_pos (by simp; try omega)]; rfl]
  rfl
theorem cut1 (x : D) (xs : List D) : dSl (.lst (x :: xs)) (some 1) none = some (.lst xs) := by
  show some (D.lst (((x :: xs).drop (HT.sIx (x :: xs).length 0 (some ((1 : Nat) : Int)))).take (HT.sIx (x :: xs).length (x :: xs).length none - HT.sIx (x :: xs).length 0 (some ((1 : Nat) : Int))))) = _
  rw [HT.sIx_nat, HT.sIx_none, show min 1 (x :: xs).length = 1 from by simp]
  simp
theorem cut2 (x y : D) (xs : List D) : dSl (.lst (x :: y :: xs)) (some 2) none = some (.lst xs) := by
  show some (D.lst (((x :: y :: xs).drop (HT.sIx (x :: y :: xs).length 0 (some ((2 : Nat) : Int)))).take (HT.sIx (x :: y :: xs).length (x :: y :: xs).length none - HT.sIx (x :: y :: xs).length 0 (some ((2 : Nat) : Int))))) = _
  rw [HT.sIx_nat, HT.sIx_none, show min 2 (x :: y :: xs).length = 2 from by simp; try omega]
  simp
theorem cutN2 (xs : List D) : dSl (.lst xs) (some 2) none = some (.lst (xs.drop 2)) := by
  show some (D.lst ((xs.drop (HT.sIx xs.length 0 (some ((2 : Nat) : Int)))).take (HT.sIx xs.length xs.length none - HT.sIx xs.length 0 (some ((2 : Nat) : Int))))) = _
  rw [HT.sIx_nat, HT.sIx_none]
  congr 2
  by_cases h : 2 ≤ xs.length
  · rw [Nat.min_eq_left h, List.take_of_length_le (by rw [List.length_drop]; omega)]
  · rw [Nat.min_eq_right (by omega), List.drop_of_length_le (Nat.le_refl _), List.drop_of_length_le (by omega), List.take_nil]
theorem cutL (xs : List D) (h : xs ≠ []) : dSl (.lst xs) none (some (-1)) = some (.lst xs.dropLast) := by
  show some (D.lst ((xs.drop (HT.sIx xs.length 0 none)).take (HT.sIx xs.length xs.length (some (-1)) - HT.sIx xs.length 0 none))) = _
  have e : HT.sIx xs.length xs.length (some (-1)) = xs.length - 1 := by
    show (if (-1 : Int) < 0 then ((-1 : Int) + (xs.length : Int)).toNat else min (-1 : Int).toNat xs.length) = _
    rw [if_pos (by decide)]
    omega
  rw [HT.sIx_none, e, List.drop_zero, Nat.sub_zero, List.dropLast_eq_take]
/-- keys that are all there once -/
theorem dd_len {κ : Type} [DecidableEq κ] : ∀ (xs acc : List κ), (xs.foldl dd1 acc).length = acc.length + xs.length → xs.Nodup ∧ ∀ x ∈ xs, x ∉ acc
  | [], acc, _ => ⟨List.nodup_nil, fun x h => by cases h⟩
  | x :: xs, acc, h => by
    rw [List.foldl_cons] at h
    have hle := ddL_le xs (dd1 acc x)
    by_cases hm : x ∈ acc
    · rw [show dd1 acc x = acc from if_pos hm] at h hle
      rw [List.length_cons] at h
      omega
    · have e : dd1 acc x = acc ++ [x] := if_neg hm
      rw [e] at h
      have ih := dd_len xs (acc ++ [x]) (by rw [h, List.length_append, List.length_cons, List.length_singleton]; omega)
      refine ⟨List.nodup_cons.mpr ⟨fun hx => ih.2 x hx (by simp), ih.1⟩, fun y hy => ?_⟩
      rcases List.mem_cons.mp hy with e2 | e2
      · rw [e2]; exact hm
      · exact fun hy2 => ih.2 y e2 (List.mem_append_left _ hy2)
theorem dd_nodup {κ : Type} [DecidableEq κ] : ∀ (xs acc : List κ), xs.Nodup → (∀ x ∈ xs, x ∉ acc) → xs.foldl dd1 acc = acc ++ xs
  | [], acc, _, _ => by simp
  | x :: xs, acc, hn, hd => by
    have e : dd1 acc x = acc ++ [x] := if_neg (hd x (List.mem_cons_self ..))
    rw [List.foldl_cons, e, dd_nodup xs (acc ++ [x]) (List.nodup_cons.mp hn).2 fun y hy hm => ?_]
    · simp
    · rcases List.mem_append.mp hm with h | h
      · exact hd y (List.mem_cons_of_mem _ hy) h
      · rw [List.mem_singleton.mp h] at hy
        exact (List.nodup_cons.mp hn).1 hy
theorem ddL_iff {κ : Type} [DecidableEq κ] (xs : List κ) : (ddL xs).length = xs.length ↔ xs.Nodup :=
  ⟨fun h => (dd_len xs [] (by rw [List.length_nil, Nat.zero_add]; exact h)).1, fun h => by
    show (xs.foldl dd1 []).length = _
    rw [dd_nodup xs [] h (by simp), List.nil_append]⟩
theorem nodup_map {α β : Type} {f : α → β} (hf : ∀ x y, f x = f y → x = y) (l : List α) : (l.map f).Nodup ↔ l.Nodup := by
  induction l with
  | nil => simp
  | cons a l ih =>
    rw [List.map_cons, List.nodup_cons, List.nodup_cons, ih]
    refine and_congr (not_congr ⟨fun h => ?_, List.mem_map_of_mem⟩) Iff.rfl
    obtain ⟨b, hb, e⟩ := List.mem_map.mp h
    rw [← hf b a e]
    exact hb
theorem inr_inj (x y : Str) (h : (Sum.inr x : Key) = Sum.inr y) : x = y := Sum.inr.inj h
theorem distB_iff (l : List Str) : distB l = true ↔ l.Nodup := by
  unfold distB
  rw [decide_eq_true_eq]
  have e := ddL_iff (l.map (Sum.inr : Str → Key))
  rw [List.length_map, nodup_map inr_inj] at e
  exact e
/-- the keys of a dict -/
def ksOf (kvs : List (Key × D)) : List Key := kvs.map (·.1)
theorem setK_new {kvs : List (Key × D)} {k : Key} {d : D} (h : k ∉ ksOf kvs) : setK kvs k d = kvs ++ [(k, d)] := by
  unfold setK
  rw [if_neg]
  intro z
  obtain ⟨kv, h1, h2⟩ := List.any_eq_true.mp z
  rw [← of_decide_eq_true h2] at h
  exact h (List.mem_map_of_mem h1)
theorem getK_map {α : Type} {nm : α → Str} {f : α → D} : ∀ {ls : List α} {l : α}, (ls.map nm).Nodup → l ∈ ls → getK (ls.map fun l => ((Sum.inr (nm l) : Key), f l)) (Sum.inr (nm l)) = some (f l)
  | [], n, _, h => by cases h
  | m :: ls, l, hd, h => by
    rw [List.map_cons, List.nodup_cons] at hd
    unfold getK
    rw [List.map_cons, List.find?_cons]
    by_cases e : nm m = nm l
    · have : m = l := by
        rcases List.mem_cons.mp h with q | q
        · exact q.symm
        · exact absurd (by rw [e]; exact List.mem_map_of_mem q) hd.1
      subst this
      simp
    · have e2 : decide ((Sum.inr (nm m) : Key) = Sum.inr (nm l)) = false := decide_eq_false fun q => e (Sum.inr.inj q)
      simp only [e2]
      rcases List.mem_cons.mp h with q | q
      · exact absurd (by rw [q]) e
      · exact getK_map hd.2 q
theorem getK_none {α : Type} {nm : α → Str} {f : α → D} {n : Str} : ∀ {ls : List α}, n ∉ ls.map nm → getK (ls.map fun l => ((Sum.inr (nm l) : Key), f l)) (Sum.inr n) = none
  | [], _ => rfl
  | m :: ls, h => by
    rw [List.map_cons, List.mem_cons, not_or] at h
    unfold getK
    rw [List.map_cons, List.find?_cons]
    have e2 : decide ((Sum.inr (nm m) : Key) = Sum.inr n) = false := decide_eq_false fun q => h.1 (Sum.inr.inj q).symm
    simp only [e2]
    exact getK_none h.2
theorem getK_some {α : Type} {nm : α → Str} {f : α → D} {n : Str} {ls : List α} : (getK (ls.map fun l => ((Sum.inr (nm l) : Key), f l)) (Sum.inr n)).isSome = decide (n ∈ ls.map nm) := by
  induction ls with
  | nil => simp [getK]
  | cons m ls ih =>
    unfold getK at ih ⊢
    rw [List.map_cons, List.find?_cons]
    by_cases e : nm m = n
    · subst e
      simp
    · have e2 : decide ((Sum.inr (nm m) : Key) = Sum.inr n) = false := decide_eq_false fun q => e (Sum.inr.inj q)
      simp only [e2]
      rw [ih]
      refine decide_eq_decide.mpr ?_
      rw [List.map_cons, List.mem_cons]
      exact ⟨.inr, fun h => h.elim (fun q => absurd q.symm e) id⟩
theorem ksOf_map {α : Type} {nm : α → Str} {f : α → D} {ls : List α} : ksOf (ls.map fun l => ((Sum.inr (nm l) : Key), f l)) = (ls.map nm).map (Sum.inr : Str → Key) := by
  unfold ksOf
  rw [List.map_map, List.map_map]
  rfl
theorem setK_map {α : Type} {nm : α → Str} {f : α → D} {ls : List α} {l : α} (h : nm l ∉ ls.map nm) : setK (ls.map fun l => ((Sum.inr (nm l) : Key), f l)) (Sum.inr (nm l)) (f l) = (ls ++ [l]).map fun l => ((Sum.inr (nm l) : Key), f l) := by
  rw [setK_new, List.map_append]
  · rfl
  · rw [ksOf_map]
    intro q
    obtain ⟨n, hn, e⟩ := List.mem_map.mp q
    rw [Sum.inr.inj e] at hn
    exact h hn
/-- a dict comprehension whose keys are all unlike -/
theorem dcGo_yes {α : Type} {e : α → D} {nm : α → Str} {f : α → D} {t : Tg} {tk tv : M D} {s0 : Sl} {z : Z} : ∀ (ls acc : List α), (∀ x ∈ ls, ∃ s', t (e x) s0 = some s' ∧ tk s' z = .ok (.str (nm x)) z ∧ tv s' z = .ok (f x) z) → ((acc ++ ls).map nm).Nodup → dcGo t mYes tk tv s0 (ls.map e) (acc.map fun l => ((Sum.inr (nm l) : Key), f l)) z = .ok ((acc ++ ls).map fun l => ((Sum.inr (nm l) : Key), f l)) z
  | [], acc, _, _ => by simp [dcGo]
  | x :: ls, acc, h, hd => by
    obtain ⟨s', h1, h2, h3⟩ := h x (List.mem_cons_self ..)
    have hm : nm x ∉ acc.map nm := fun q => by
      rw [List.map_append, List.map_cons] at hd
      exact (List.nodup_append.mp hd).2.2 _ q _ (List.mem_cons_self ..) rfl
    have ih := dcGo_yes ls (acc ++ [x]) (fun y hy => h y (List.mem_cons_of_mem _ hy)) (by rw [List.append_assoc]; exact hd)
    simp only [List.map_cons, dcGo, h1, mYes, ER.bind, if_true, h2, h3, keyD]
    rw [setK_map hm, ih, List.append_assoc]
    rfl
theorem dc_yes {α : Type} {l : List α} {e : α → D} {nm : α → Str} {f : α → D} {vs : List Nat} {mi : M (List D)} {t : Tg} {tk tv : M D} {s : Sl} {z z' : Z} (h : mi s z = .ok (l.map e) z') (hf : ∀ x ∈ l, ∃ s', t (e x) (wipeS s vs) = some s' ∧ tk s' z' = .ok (.str (nm x)) z' ∧ tv s' z' = .ok (f x) z') (hd : (l.map nm).Nodup) : mDc vs mi t mYes tk tv s z = .ok (.dic (l.map fun l => ((Sum.inr (nm l) : Key), f l))) z' := by
  unfold mDc
  rw [h]
  have k := dcGo_yes (e := e) (nm := nm) (f := f) (t := t) (tk := tk) (tv := tv) (s0 := wipeS s vs) (z := z') l [] hf hd
  simp only [ER.bind]
  rw [show ([] : List (Key × D)) = ([] : List α).map (fun l => ((Sum.inr (nm l) : Key), f l)) from rfl, k]
  rfl
theorem keys_ev {α : Type} {nm : α → Str} {f : α → D} {ls : List α} {m : M D} {s : Sl} {z z' : Z} (h : m s z = .ok (.dic (ls.map fun l => ((Sum.inr (nm l) : Key), f l))) z') (hl : ls.length ≤ lim) : mKeysD m s z = .ok (ls.map fun l => D.str (nm l)) z' := by
  unfold mKeysD
  rw [h]
  show chkL (keyVs _) z' = _
  have e : keyVs (ls.map fun l => ((Sum.inr (nm l) : Key), f l)) = ls.map fun l => D.str (nm l) := by
    unfold keyVs
    rw [List.map_map]
    rfl
  rw [e, chk_ok (by rw [List.length_map]; exact hl)]
theorem getK_zip {f : Str → D} : ∀ {ns : List Str} {n : Str}, n ∈ ns → getK (ns.map fun n => ((Sum.inr n : Key), f n)) (Sum.inr n) = some (f n)
  | [], n, h => by cases h
  | m :: ns, n, h => by
    unfold getK
    rw [List.map_cons, List.find?_cons]
    by_cases e : m = n
    · subst e
      simp
    · have e2 : decide ((Sum.inr m : Key) = Sum.inr n) = false := decide_eq_false fun q => e (Sum.inr.inj q)
      simp only [e2]
      rcases List.mem_cons.mp h with q | q
      · exact absurd q.symm e
      · exact getK_zip q
/-- tuples of texts -/
abbrev tupS (l : List Str) : D := .tup (l.map D.str)
theorem eqZ_strs (n : Nat) : ∀ a b : List Str, (eqZ (eqN (n + 1)) (a.map D.str) (b.map D.str)).map (fun k => k && ((a.map D.str).length == (b.map D.str).length)) = some (decide (a = b))
  | [], [] => rfl
  | [], b :: bs => by simp [eqZ]
  | a :: as, [] => by simp [eqZ]
  | a :: as, b :: bs => by
    have ih := eqZ_strs n as bs
    rw [Option.map_eq_some_iff] at ih
    obtain ⟨k, h1, h2⟩ := ih
    simp only [List.map_cons, eqZ, eqN_str, Option.bind_some, h1, Option.map_some, Option.some.injEq]
    simp only [List.length_map] at h2
    simp only [List.length_cons, List.length_map, List.cons.injEq]
    by_cases e : a = b
    · simp only [e, true_and, decide_true, Bool.true_and]
      rw [← h2]
      congr 1
      rw [beqd, beqd]
      exact decide_eq_decide.mpr (by omega)
    · simp [e]
theorem eqN_tup (n : Nat) (a b : List Str) : eqN (n + 2) (tupS a) (tupS b) = some (decide (a = b)) := eqZ_strs n a b
theorem inZ_tup (a : List Str) : ∀ l : List (List Str), inZ (tupS a) (l.map tupS) = some (decide (a ∈ l))
  | [] => by simp [inZ]
  | b :: l => by
    simp only [List.map_cons, inZ, eqN_tup 57, Option.bind_some, inZ_tup a l, Option.map_some, Option.some.injEq]
    rw [← Bool.decide_or]
    refine decide_eq_decide.mpr ?_
    rw [List.mem_cons]
    exact or_congr ⟨fun h => h.symm, fun h => h.symm⟩ Iff.rfl
theorem dIn_tup (a : List Str) (l : List (List Str)) : dIn (tupS a) (.lst (l.map tupS)) = some (.bl (decide (a ∈ l))) := by
  show (inZ (tupS a) (l.map tupS)).map D.bl = _
  rw [inZ_tup]
  rfl
theorem lenSet_tup {l : List Str} {z : Z} {s : Sl} {m : M D} {z' : Z} (h : m s z = .ok (tupS l) z') (hl : l.length < 4000) : mLenSet m s z = .ok (.int (ddL (l.map (Sum.inr : Str → Key))).length) z' := by
  unfold mLenSet
  rw [h]
  simp only [ER.bind, mOpt, dLenSet, keysD_map, Option.bind_some, List.length_map, if_pos hl]
theorem items_tup {l : List D} {m : M D} {s : Sl} {z z' : Z} (h : m s z = .ok (.tup l) z') (hl : l.length ≤ lim) : mItems m s z = .ok l z' := by
  unfold mItems
  rw [h]
  exact chk_ok hl
theorem v_view {s : Sl} {z : Z} {i : Nat} {d : D} (h : s[i]? = some (.own d)) : mView i s z = .ok d z := by unfold mView; rw [h]
theorem joinOk_of {a : Str} {l : List Str} (h : (l.map (·.length)).sum + l.length * a.length ≤ lim) : joinOk a l = true := decide_eq_true h
end DL

set_option Elab.async false
set_option linter.all false
set_option maxRecDepth 100000
set_option maxHeartbeats 0
namespace K88
open PySem PySem.Spec PyProof.Rows L2 XH EX DL RZ NdefX
/-! ### words of the mirrors -/
def clK (K : PySem.W.Frag) : PySem.Str → Option Addr := fun x => if x ∈ known then some (He.ga K x) else none
def catch_ (y : PySem.Str) : PySem.Str → Option Bool := fun cn => if cn ∈ excs then some (decide (cn = y)) else none
def okf_own_names : PySem.Str → Bool := fun cn => decide (cn ∈ (["Table"] : List PySem.Str))
def okf_own_rows : PySem.Str → Bool := fun cn => decide (cn ∈ (["Table"] : List PySem.Str))
def m__law_draw : SM := (mSeq (mStrmSet 0 2 (mOp dAdd (mStrmI 0 2) (mC (.int 1))))
  (mSeq (mIfS (mAnd (mB (mOp dEq (mStrmI 0 1) (mC (.int 0)))) (mStrmNe 0)) (mSeq (mStrmPop 0 3)
  (mSeq (mStrmSet 0 3 (mOp dMod (mCall dInt (mCons (mOp dAdd (mOp dAdd (mOp dMulX (mStrmI 0 3) (mC (.int 8191))) (mVar 3)) (mC (.int 3))) mNil)) (mC (.int 2147483647))))
  (mSeq (mStrmSet 0 1 (mIf (mB (mOp dGe (mVar 3) (mOp dPow (mC (.int 10)) (mC (.int 18))))) (mVar 3) (mC (.int 0))))
  mSkip))) mSkip)
  (mSeq (mIfS (mB (mOp dGt (mStrmI 0 1) (mC (.int 0)))) (mSeq (mAsg (tgN 4) (mOp dMod (mCall dInt (mCons (mStrmI 0 1) mNil)) (mVar 1)))
  (mSeq (mStrmSet 0 1 (mOp dFdiv (mStrmI 0 1) (mVar 1)))
  (mSeq (mRet (mVar 4))
  mSkip))) mSkip)
  (mSeq (mAsg (tgN 2) (mOp dMod (mCall dInt (mCons (mOp dPow (mOp dAdd (mOp dAdd (mStrmI 0 3) (mOp dMulX (mC (.int 7919)) (mStrmI 0 2))) (mC (.int 104729))) (mC (.int 5))) mNil)) (mC (.int 2147483629))))
  (mSeq (mRet (mOp dMod (mOp dMod (mCall dInt (mCons (mOp dPow (mOp dAdd (mOp dAdd (mOp dMulX (mVar 2) (mC (.int 48271))) (mOp dMulX (mC (.int 30011)) (mStrmI 0 2))) (mC (.int 29))) (mC (.int 3))) mNil)) (mC (.int 1000000007))) (mVar 1)))
  mSkip)))))
def g__law_draw : Fm := fnM 5 true m__law_draw
def m__law_pick : SM := (mSeq (mRet (mOp dIx (mVar 1) (mCallS 0 1 g__law_draw (mCons (mCall dLen (mCons (mVar 1) mNil)) mNil))))
  mSkip)
def g__law_pick : Fm := fnM 2 true m__law_pick
def m__law_name : SM := (mSeq (mAsg (tgN 1) (mOp dIx (mDisp .lst (mCons (mC (.int 1)) (mCons (mC (.int 1)) (mCons (mC (.int 2)) (mCons (mC (.int 3)) (mCons (mC (.int 5)) (mCons (mC (.int 8)) mNil))))))) (mCallS 0 1 g__law_draw (mCons (mC (.int 6)) mNil))))
  (mSeq (mRet (mM1 dJoin (mC (.str "")) (mLc [2] (mRange1 (mVar 1)) (tgN 2) mYes (mCallS 0 1 g__law_pick (mCons (mC (.str "abcdefghijklmnopqrstuvwxyz")) mNil)))))
  mSkip))
def g__law_name : Fm := fnM 3 true m__law_name
def m__law_names : SM := (mSeq (mOwn 2 (mDisp .lst mNil))
  (mSeq (mFor (mRange1 (mVar 1)) (tgN 3) (mSeq (mAsg (tgN 4) (mOp dAdd (mDisp .lst (mCons (mCallS 0 0 g__law_name mNil) mNil)) (mLc [5] (mItems (mC (.str "abcdefghijklmnop"))) (tgN 5) mYes (mOp dAdd (mVar 5) (mC (.str "jq"))))))
  (mSeq (mApp 2 (mOp dIx (mLc [6] (mItems (mVar 4)) (tgN 6) (mB (mOp dNotIn (mVar 6) (mView 2))) (mVar 6)) (mC (.int 0))))
  mSkip)))
  (mSeq (mFz 2 (mRet (mVar 2)))
  mSkip)))
def g__law_names : Fm := fnM 7 true m__law_names
def m__law_mixed : SM := mMixed g__law_draw
def g__law_mixed : Fm := fnM 4 true m__law_mixed
def m__law_d_hands : SM := (mSeq (mOwn 3 (mC (.dic [])))
  (mSeq (mFor (mItems (mCallS 0 1 g__law_names (mCons (mVar 2) mNil))) (tgN 4) (mSeq (mPut 3 (mSl (mCallS 0 1 g__law_mixed (mCons (mVar 1) mNil)) mNoPart (mPart (mCallS 0 1 g__law_draw (mCons (mC (.int 3)) mNil)))) (mVar 4))
  mSkip))
  (mSeq (mFz 3 (mRet (mVar 3)))
  mSkip)))
def g__law_d_hands : Fm := fnM 5 true m__law_d_hands
def m__law_d_table_lines : SM := (mSeq (mAsg (tgN 1) (mCall dList1 (mCons (mOp dIx (mVar 0) (mC (.int 0))) mNil)))
  (mSeq (mRet (mOp dAdd (mDisp .lst (mCons (mM1 dJoin (mC (.str " ")) (mOp dAdd (mDisp .lst (mCons (mC (.str "asks")) mNil)) (mVar 1))) mNil)) (mLc [2] (mItems (mVar 0)) (tgN 2) mYes (mM1 dJoin (mC (.str " ")) (mOp dAdd (mDisp .lst (mCons (mC (.str "row")) mNil)) (mLc [3] (mItems (mVar 1)) (tgN 3) mYes (mCall dStr (mCons (mOp dIx (mVar 2) (mVar 3)) mNil))))))))
  mSkip))
def g__law_d_table_lines : Fm := fnM 4 false m__law_d_table_lines
def m__law_d_hands_lines : SM := (mSeq (mRet (mLc [1] (mKeysD (mVar 0)) (tgN 1) mYes (mM1 dJoin (mC (.str " ")) (mOp dAdd (mDisp .lst (mCons (mC (.str "hand")) (mCons (mVar 1) mNil))) (mCall dList1 (mCons (mOp dIx (mVar 0) (mVar 1)) mNil))))))
  mSkip)
def g__law_d_hands_lines : Fm := fnM 2 false m__law_d_hands_lines
def m__law_d_links_lines : SM := (mSeq (mRet (mLc [1, 2] (mItems (mVar 0)) (tgT [(tgN 1), (tgN 2)]) mYes (mOp dAdd (mOp dAdd (mOp dAdd (mC (.str "link ")) (mVar 1)) (mC (.str " "))) (mVar 2))))
  mSkip)
def g__law_d_links_lines : Fm := fnM 3 false m__law_d_links_lines
def m__law_bent_line : SM := (mSeq (mPar [4, 5] [(false, (mM1 dSplit (mVar 1) (mC (.str " ")))), (false, (mCallS 0 1 g__law_draw (mCons (mC (.int 5)) mNil)))])
  (mSeq (mAsg (tgN 2) (mCallS 0 1 g__law_draw (mCons (mCall dLen (mCons (mVar 4) mNil)) mNil)))
  (mSeq (mAsg (tgN 3) (mDisp .lst (mCons (mC (.str "")) (mCons (mC (.str "0")) (mCons (mC (.str "00")) (mCons (mC (.str "-0")) (mCons (mC (.str "-1")) (mCons (mC (.str "07")) (mCons (mC (.str "+1")) (mCons (mC (.str "1.0")) (mCons (mOp dMulX (mC (.str "9")) (mC (.int 15))) (mCons (mOp dMulX (mC (.str "9")) (mC (.int 16))) (mCons (mC (.str "a")) (mCons (mC (.str "A")) (mCons (mC (.str "row")) (mCons (mC (.str "asks")) (mCons (mC (.str "hand")) (mCons (mOp dMulX (mC (.str "z")) (mC (.int 41))) mNil))))))))))))))))))
  (mSeq (mIfS (mB (mOp dEq (mVar 5) (mC (.int 0)))) (mSeq (mRet (mM1 dJoin (mC (.str " ")) (mOp dAdd (mOp dAdd (mSl (mVar 4) mNoPart (mPart (mVar 2))) (mDisp .lst (mCons (mCallS 0 1 g__law_pick (mCons (mVar 3) mNil)) mNil))) (mSl (mVar 4) (mPart (mOp dAdd (mVar 2) (mC (.int 1)))) mNoPart))))
  mSkip) mSkip)
  (mSeq (mIfS (mB (mOp dEq (mVar 5) (mC (.int 1)))) (mSeq (mRet (mM1 dJoin (mC (.str " ")) (mOp dAdd (mSl (mVar 4) mNoPart (mPart (mVar 2))) (mSl (mVar 4) (mPart (mOp dAdd (mVar 2) (mC (.int 1)))) mNoPart))))
  mSkip) mSkip)
  (mSeq (mIfS (mB (mOp dEq (mVar 5) (mC (.int 2)))) (mSeq (mRet (mM1 dJoin (mC (.str " ")) (mOp dAdd (mOp dAdd (mSl (mVar 4) mNoPart (mPart (mVar 2))) (mDisp .lst (mCons (mOp dIx (mVar 4) (mVar 2)) (mCons (mOp dIx (mVar 4) (mVar 2)) mNil)))) (mSl (mVar 4) (mPart (mOp dAdd (mVar 2) (mC (.int 1)))) mNoPart))))
  mSkip) mSkip)
  (mSeq (mIfS (mB (mOp dEq (mVar 5) (mC (.int 3)))) (mSeq (mRet (mM1 dJoin (mC (.str " ")) (mOp dAdd (mOp dAdd (mSl (mVar 4) mNoPart (mPart (mVar 2))) (mDisp .lst (mCons (mCallS 0 1 g__law_pick (mCons (mVar 4) mNil)) mNil))) (mSl (mVar 4) (mPart (mOp dAdd (mVar 2) (mC (.int 1)))) mNoPart))))
  mSkip) mSkip)
  (mSeq (mPar [6, 7] [(false, (mCallS 0 1 g__law_draw (mCons (mOp dAdd (mCall dLen (mCons (mVar 1) mNil)) (mC (.int 1))) mNil))), (false, (mCallS 0 1 g__law_pick (mCons (mDisp .lst (mCons (mC (.str " ")) (mCons (mC (.str "-")) (mCons (mC (.str "0")) (mCons (mC (.str "a")) (mCons (mC (.str ".")) (mCons (mC (.str "\t")) (mCons (mC (.str "_")) (mCons (mC (.str "1")) mNil))))))))) mNil)))])
  (mSeq (mRet (mOp dAdd (mOp dAdd (mSl (mVar 1) mNoPart (mPart (mVar 6))) (mVar 7)) (mSl (mVar 1) (mPart (mOp dAdd (mVar 6) (mCallS 0 1 g__law_draw (mCons (mC (.int 2)) mNil)))) mNoPart)))
  mSkip)))))))))
def g__law_bent_line : Fm := fnM 8 true m__law_bent_line
def m__law_bent : SM := (mSeq (mPar [3, 4] [(false, (mCallS 0 1 g__law_draw (mCons (mOp dAdd (mCall dLen (mCons (mVar 1) mNil)) (mC (.int 1))) mNil))), (false, (mCallS 0 1 g__law_draw (mCons (mC (.int 6)) mNil)))])
  (mSeq (mAsg (tgN 2) (mDisp .lst (mCons (mC (.str "")) (mCons (mC (.str "asks a")) (mCons (mC (.str "row 1")) (mCons (mC (.str "hand a")) (mCons (mC (.str "link a b")) (mCons (mC (.str "row")) (mCons (mC (.str "hand")) (mCons (mC (.str "link a")) (mCons (mC (.str "asks")) (mCons (mC (.str " ")) (mCons (mC (.str "link a a")) mNil)))))))))))))
  (mSeq (mIfS (mOr (mB (mOp dEq (mVar 4) (mC (.int 0)))) (mB (mOp dEq (mVar 3) (mCall dLen (mCons (mVar 1) mNil))))) (mSeq (mRet (mOp dAdd (mOp dAdd (mSl (mVar 1) mNoPart (mPart (mVar 3))) (mDisp .lst (mCons (mCallS 0 1 g__law_pick (mCons (mVar 2) mNil)) mNil))) (mSl (mVar 1) (mPart (mVar 3)) mNoPart)))
  mSkip) mSkip)
  (mSeq (mIfS (mB (mOp dEq (mVar 4) (mC (.int 1)))) (mSeq (mRet (mOp dAdd (mSl (mVar 1) mNoPart (mPart (mVar 3))) (mSl (mVar 1) (mPart (mOp dAdd (mVar 3) (mC (.int 1)))) mNoPart)))
  mSkip) mSkip)
  (mSeq (mIfS (mB (mOp dEq (mVar 4) (mC (.int 2)))) (mSeq (mRet (mOp dAdd (mOp dAdd (mSl (mVar 1) mNoPart (mPart (mVar 3))) (mSl (mVar 1) (mPart (mVar 3)) (mPart (mOp dAdd (mVar 3) (mC (.int 1)))))) (mSl (mVar 1) (mPart (mVar 3)) mNoPart)))
  mSkip) mSkip)
  (mSeq (mRet (mOp dAdd (mOp dAdd (mSl (mVar 1) mNoPart (mPart (mVar 3))) (mDisp .lst (mCons (mCallS 0 1 g__law_bent_line (mCons (mOp dIx (mVar 1) (mVar 3)) mNil)) mNil))) (mSl (mVar 1) (mPart (mOp dAdd (mVar 3) (mC (.int 1)))) mNoPart)))
  mSkip))))))
def g__law_bent : Fm := fnM 5 true m__law_bent
def m__law_d_text : SM := (mSeq (mRet (mM1 dJoin (mC (.str "")) (mLc [1] (mItems (mVar 0)) (tgN 1) mYes (mOp dAdd (mVar 1) (mC (.str "\n"))))))
  mSkip)
def g__law_d_text : Fm := fnM 2 false m__law_d_text
def m__law_is_name_word : SM := (mSeq (mAsg (tgN 1) (mC (.str "abcdefghijklmnopqrstuvwxyz0123456789.")))
  (mSeq (mRet (mAndV (mChain dLt dLe (mC (.int 0)) (mCall dLen (mCons (mVar 0) mNil)) (mC (.int 40))) (mCall dAll (mCons (mLc [2] (mItems (mVar 0)) (tgN 2) mYes (mOp dIn (mVar 2) (mVar 1))) mNil))))
  mSkip))
def g__law_is_name_word : Fm := fnM 3 false m__law_is_name_word
def m__law_are_names : SM := (mSeq (mRet (mAndV (mCall dAll (mCons (mLc [1] (mItems (mVar 0)) (tgN 1) mYes (mCallF 1 g__law_is_name_word (mCons (mVar 1) mNil))) mNil)) (mOp dEq (mLenSet (mVar 0)) (mCall dLen (mCons (mVar 0) mNil)))))
  mSkip)
def g__law_are_names : Fm := fnM 2 false m__law_are_names
def m__law_is_number_word : SM := (mSeq (mAsg (tgN 1) (mIf (mB (mOp dEq (mSl (mVar 0) mNoPart (mPart (mC (.int 1)))) (mC (.str "-")))) (mSl (mVar 0) (mPart (mC (.int 1))) mNoPart) (mVar 0)))
  (mSeq (mIfS (mOr (mNot (mB (mChain dLt dLt (mC (.int 0)) (mCall dLen (mCons (mVar 1) mNil)) (mC (.int 16))))) (mNot (mB (mCall dAll (mCons (mLc [2] (mItems (mVar 1)) (tgN 2) mYes (mOp dIn (mVar 2) (mC (.str "0123456789")))) mNil))))) (mSeq (mRet (mC (.bl false)))
  mSkip) mSkip)
  (mSeq (mRet (mOrV (mOp dEq (mVar 0) (mC (.str "0"))) (mOp dNeX (mOp dIx (mVar 1) (mC (.int 0))) (mC (.str "0")))))
  mSkip)))
def g__law_is_number_word : Fm := fnM 3 false m__law_is_number_word
def m__law_is_table : SM := (mSeq (mIfS (mOr (mB (mOp dLt (mCall dLen (mCons (mVar 0) mNil)) (mC (.int 2)))) (mOr (mB (mOp dNeX (mOp dIx (mOp dIx (mVar 0) (mC (.int 0))) (mC (.int 0))) (mC (.str "asks")))) (mOr (mB (mOp dLt (mCall dLen (mCons (mOp dIx (mVar 0) (mC (.int 0))) mNil)) (mC (.int 2)))) (mNot (mB (mCallF 1 g__law_are_names (mCons (mSl (mOp dIx (mVar 0) (mC (.int 0))) (mPart (mC (.int 1))) mNoPart) mNil))))))) (mSeq (mRet (mC (.bl false)))
  mSkip) mSkip)
  (mSeq (mFor (mItems (mSl (mVar 0) (mPart (mC (.int 1))) mNoPart)) (tgN 1) (mSeq (mIfS (mOr (mB (mOp dNeX (mOp dIx (mVar 1) (mC (.int 0))) (mC (.str "row")))) (mOr (mB (mOp dNeX (mCall dLen (mCons (mVar 1) mNil)) (mCall dLen (mCons (mOp dIx (mVar 0) (mC (.int 0))) mNil)))) (mNot (mB (mCall dAll (mCons (mLc [2] (mItems (mSl (mVar 1) (mPart (mC (.int 1))) mNoPart)) (tgN 2) mYes (mCallF 1 g__law_is_number_word (mCons (mVar 2) mNil))) mNil)))))) (mSeq (mRet (mC (.bl false)))
  mSkip) mSkip)
  mSkip))
  (mSeq (mRet (mC (.bl true)))
  mSkip)))
def g__law_is_table : Fm := fnM 3 false m__law_is_table
def m__law_are_hands : SM := (mSeq (mAsg (tgN 1) (mLc [2] (mItems (mVar 0)) (tgN 2) (mB (mOp dGt (mCall dLen (mCons (mVar 2) mNil)) (mC (.int 1)))) (mOp dIx (mVar 2) (mC (.int 1)))))
  (mSeq (mIfS (mOr (mB (mOp dEq (mVar 0) (mDisp .lst mNil))) (mOr (mB (mOp dNeX (mCall dLen (mCons (mVar 1) mNil)) (mCall dLen (mCons (mVar 0) mNil)))) (mNot (mB (mCallF 1 g__law_are_names (mCons (mVar 1) mNil)))))) (mSeq (mRet (mC (.bl false)))
  mSkip) mSkip)
  (mSeq (mRet (mCall dAll (mCons (mLc [2] (mItems (mVar 0)) (tgN 2) mYes (mAndV (mOp dEq (mOp dIx (mVar 2) (mC (.int 0))) (mC (.str "hand"))) (mCallF 1 g__law_are_names (mCons (mSl (mVar 2) (mPart (mC (.int 2))) mNoPart) mNil)))) mNil)))
  mSkip)))
def g__law_are_hands : Fm := fnM 3 false m__law_are_hands
def m__law_are_links : SM := (mSeq (mIfS (mB (mOp dNeX (mLenSet (mLc [1] (mItems (mVar 0)) (tgN 1) mYes (mM1 dJoin (mC (.str " ")) (mVar 1)))) (mCall dLen (mCons (mVar 0) mNil)))) (mSeq (mRet (mC (.bl false)))
  mSkip) mSkip)
  (mSeq (mRet (mCall dAll (mCons (mLc [1] (mItems (mVar 0)) (tgN 1) mYes (mAndV (mOp dEq (mOp dIx (mVar 1) (mC (.int 0))) (mC (.str "link"))) (mAndV (mOp dEq (mCall dLen (mCons (mVar 1) mNil)) (mC (.int 3))) (mCallF 1 g__law_are_names (mCons (mSl (mVar 1) (mPart (mC (.int 1))) mNoPart) mNil))))) mNil)))
  mSkip))
def g__law_are_links : Fm := fnM 2 false m__law_are_links
def m__law_is_text : SM := (mSeq (mIfS (mAnd (mB (mOp dNeX (mVar 1) (mC (.str "")))) (mB (mOp dNeX (mOp dIx (mVar 1) (mNeg (mC (.int 1)))) (mC (.str "\n"))))) (mSeq (mRet (mC (.bl false)))
  mSkip) mSkip)
  (mSeq (mAsg (tgN 2) (mLc [3] (mItems (mSl (mM1 dSplit (mVar 1) (mC (.str "\n"))) mNoPart (mPart (mNeg (mC (.int 1)))))) (tgN 3) mYes (mM1 dSplit (mVar 3) (mC (.str " ")))))
  (mSeq (mIfS (mNot (mB (mCall dAll (mCons (mLc [4] (mItems (mVar 2)) (tgN 4) mYes (mCall dAll (mCons (mLc [5] (mItems (mVar 4)) (tgN 5) mYes (mOp dNeX (mVar 5) (mC (.str "")))) mNil))) mNil)))) (mSeq (mRet (mC (.bl false)))
  mSkip) mSkip)
  (mSeq (mRet (mCallV 1 [("_law_is_table", g__law_is_table), ("_law_are_hands", g__law_are_hands), ("_law_are_links", g__law_are_links)] (mOp dIx (mDisp .lst (mCons (mC (.fn "_law_is_table")) (mCons (mC (.fn "_law_are_hands")) (mCons (mC (.fn "_law_are_links")) mNil)))) (mVar 0)) (mCons (mVar 2) mNil)))
  mSkip))))
def g__law_is_text : Fm := fnM 6 false m__law_is_text
def m_Table_questions : SM := (mSeq (mRet (mCall dList1 (mCons (mFld okf_own_names "own_names" (mVar 0)) mNil)))
  mSkip)
def g_Table_questions : Fm := fnM 1 false m_Table_questions
def m_Table_rows : SM := (mSeq (mRet (mLc [1] (mItems (mFld okf_own_rows "own_rows" (mVar 0))) (tgN 1) mYes (mCall dDict1 (mCons (mVar 1) mNil))))
  mSkip)
def g_Table_rows : Fm := fnM 2 false m_Table_rows
def m_joined : SM := (mSeq (mRet (mM1 dJoin (mC (.str "")) (mLc [1] (mItems (mVar 0)) (tgN 1) mYes (mOp dAdd (mM1 dJoin (mC (.str " ")) (mVar 1)) (mC (.str "\n"))))))
  mSkip)
def g_joined : Fm := fnM 2 false m_joined
def m_write_table : SM := (mSeq (mAsg (tgN 1) (mMeth "Table" "questions" 0 g_Table_questions (mVar 0) mNil))
  (mSeq (mOwn 2 (mDisp .lst (mCons (mOp dAdd (mDisp .lst (mCons (mC (.str "asks")) mNil)) (mVar 1)) mNil)))
  (mSeq (mFor (mItems (mMeth "Table" "rows" 0 g_Table_rows (mVar 0) mNil)) (tgN 3) (mSeq (mApp 2 (mOp dAdd (mDisp .lst (mCons (mC (.str "row")) mNil)) (mLc [4] (mItems (mVar 1)) (tgN 4) mYes (mCall dStr (mCons (mOp dIx (mVar 3) (mVar 4)) mNil)))))
  mSkip))
  (mSeq (mFz 2 (mRet (mCallF 1 g_joined (mCons (mVar 2) mNil))))
  mSkip))))
def g_write_table : Fm := fnM 5 false m_write_table
def m_words_of : SM := (mSeq (mIfS (mOr (mNot (mB (mIsi [.str] (mVar 0)))) (mAnd (mB (mOp dNeX (mVar 0) (mC (.str "")))) (mB (mOp dNeX (mOp dIx (mVar 0) (mNeg (mC (.int 1)))) (mC (.str "\n")))))) (mSeq (mRaise "BadText" (mk1 "thing") (mCons (mVar 0) mNil))
  mSkip) mSkip)
  (mSeq (mAsg (tgN 1) (mLc [2] (mItems (mSl (mM1 dSplit (mVar 0) (mC (.str "\n"))) mNoPart (mPart (mNeg (mC (.int 1)))))) (tgN 2) mYes (mM1 dSplit (mVar 2) (mC (.str " ")))))
  (mSeq (mIfS (mNot (mB (mCall dAll (mCons (mLc [3] (mItems (mVar 1)) (tgN 3) mYes (mCall dAll (mCons (mLc [4] (mItems (mVar 3)) (tgN 4) mYes (mOp dNeX (mVar 4) (mC (.str "")))) mNil))) mNil)))) (mSeq (mRaise "BadText" (mk1 "thing") (mCons (mVar 0) mNil))
  mSkip) mSkip)
  (mSeq (mRet (mVar 1))
  mSkip))))
def g_words_of : Fm := fnM 5 false m_words_of
def m_is_name : SM := (mSeq (mIfS (mOr (mNot (mB (mIsi [.str] (mVar 0)))) (mNot (mB (mChain dLt dLe (mC (.int 0)) (mCall dLen (mCons (mVar 0) mNil)) (mC (.int 40)))))) (mSeq (mRet (mC (.bl false)))
  mSkip) mSkip)
  (mSeq (mRet (mCall dAll (mCons (mLc [1] (mItems (mVar 0)) (tgN 1) mYes (mOp dIn (mVar 1) (mC (.str "abcdefghijklmnopqrstuvwxyz0123456789.")))) mNil)))
  mSkip))
def g_is_name : Fm := fnM 2 false m_is_name
def m_names_of : SM := (mSeq (mIfS (mOr (mNot (mB (mIsi [.dict] (mVar 0)))) (mNot (mB (mCall dAll (mCons (mLc [1] (mKeysD (mVar 0)) (tgN 1) mYes (mCallF 1 g_is_name (mCons (mVar 1) mNil))) mNil))))) (mSeq (mRet (mDisp .lst mNil))
  mSkip) mSkip)
  (mSeq (mRet (mCall dList1 (mCons (mVar 0) mNil)))
  mSkip))
def g_names_of : Fm := fnM 2 false m_names_of
def m_is_list : SM := (mSeq (mRet (mIsi [.list, .tuple] (mVar 0)))
  mSkip)
def g_is_list : Fm := fnM 1 false m_is_list
def m_is_integer : SM := (mSeq (mRet (mAndV (mIsi [.int] (mVar 0)) (mNotV (mIsi [.bool] (mVar 0)))))
  mSkip)
def g_is_integer : Fm := fnM 1 false m_is_integer
def m_is_row : SM := (mSeq (mIfS (mOr (mNot (mB (mIsi [.dict] (mVar 0)))) (mB (mOp dNeX (mCall dLen (mCons (mVar 0) mNil)) (mCall dLen (mCons (mVar 1) mNil))))) (mSeq (mRet (mC (.bl false)))
  mSkip) mSkip)
  (mSeq (mRet (mCall dAll (mCons (mLc [2] (mItems (mVar 1)) (tgN 2) mYes (mAndV (mOp dIn (mVar 2) (mVar 0)) (mCallF 1 g_is_integer (mCons (mOp dIx (mVar 0) (mVar 2)) mNil)))) mNil)))
  mSkip))
def g_is_row : Fm := fnM 3 false m_is_row
def m_Table_init : SM := (mSeq (mIfS (mOr (mNot (mB (mCallF 1 g_is_list (mCons (mVar 1) mNil)))) (mB (mOp dEq (mCall dLen (mCons (mVar 1) mNil)) (mC (.int 0))))) (mSeq (mRaise "BadRow" (mk1 "index") (mCons (mC (.int 0)) mNil))
  mSkip) mSkip)
  (mSeq (mAsg (tgN 2) (mCallF 1 g_names_of (mCons (mOp dIx (mVar 1) (mC (.int 0))) mNil)))
  (mSeq (mFor (mEnum (mVar 1)) (tgT [(tgN 3), (tgN 4)]) (mSeq (mIfS (mOr (mB (mOp dEq (mVar 2) (mDisp .lst mNil))) (mNot (mB (mCallF 2 g_is_row (mCons (mVar 4) (mCons (mVar 2) mNil)))))) (mSeq (mRaise "BadRow" (mk1 "index") (mCons (mVar 3) mNil))
  mSkip) mSkip)
  mSkip))
  (mSeq (mSetF 0 "Table" "own_names" (mVar 2))
  (mSeq (mSetF 0 "Table" "own_rows" (mLc [4] (mItems (mVar 1)) (tgN 4) mYes (mDc [5] (mItems (mVar 2)) (tgN 5) mYes (mVar 5) (mOp dIx (mVar 4) (mVar 5)))))
  mSkip)))))
def g_Table_init : Gm := iniM 6 "Table" m_Table_init
def m_is_name_list : SM := (mSeq (mIfS (mOr (mNot (mB (mCallF 1 g_is_list (mCons (mVar 0) mNil)))) (mNot (mB (mCall dAll (mCons (mLc [1] (mItems (mVar 0)) (tgN 1) mYes (mCallF 1 g_is_name (mCons (mVar 1) mNil))) mNil))))) (mSeq (mRet (mC (.bl false)))
  mSkip) mSkip)
  (mSeq (mRet (mOp dEq (mLenSet (mVar 0)) (mCall dLen (mCons (mVar 0) mNil))))
  mSkip))
def g_is_name_list : Fm := fnM 2 false m_is_name_list
def m_is_number_word : SM := (mSeq (mAsg (tgN 1) (mIf (mB (mOp dEq (mSl (mVar 0) mNoPart (mPart (mC (.int 1)))) (mC (.str "-")))) (mSl (mVar 0) (mPart (mC (.int 1))) mNoPart) (mVar 0)))
  (mSeq (mIfS (mOr (mNot (mB (mChain dLt dLe (mC (.int 0)) (mCall dLen (mCons (mVar 1) mNil)) (mC (.int 15))))) (mNot (mB (mCall dAll (mCons (mLc [2] (mItems (mVar 1)) (tgN 2) mYes (mOp dIn (mVar 2) (mC (.str "0123456789")))) mNil))))) (mSeq (mRet (mC (.bl false)))
  mSkip) mSkip)
  (mSeq (mRet (mOrV (mOp dEq (mVar 0) (mC (.str "0"))) (mOp dNeX (mOp dIx (mVar 1) (mC (.int 0))) (mC (.str "0")))))
  mSkip)))
def g_is_number_word : Fm := fnM 3 false m_is_number_word
def m_read_table : SM := (mSeq (mAsg (tgN 1) (mCallF 1 g_words_of (mCons (mVar 0) mNil)))
  (mSeq (mIfS (mOr (mB (mOp dLt (mCall dLen (mCons (mVar 1) mNil)) (mC (.int 2)))) (mOr (mB (mOp dNeX (mOp dIx (mOp dIx (mVar 1) (mC (.int 0))) (mC (.int 0))) (mC (.str "asks")))) (mOr (mNot (mB (mCallF 1 g_is_name_list (mCons (mSl (mOp dIx (mVar 1) (mC (.int 0))) (mPart (mC (.int 1))) mNoPart) mNil)))) (mB (mOp dLt (mCall dLen (mCons (mOp dIx (mVar 1) (mC (.int 0))) mNil)) (mC (.int 2))))))) (mSeq (mRaise "BadText" (mk1 "thing") (mCons (mVar 0) mNil))
  mSkip) mSkip)
  (mSeq (mPar [3, 4] [(false, (mSl (mOp dIx (mVar 1) (mC (.int 0))) (mPart (mC (.int 1))) mNoPart)), (true, (mDisp .lst mNil))])
  (mSeq (mFor (mItems (mSl (mVar 1) (mPart (mC (.int 1))) mNoPart)) (tgN 2) (mSeq (mIfS (mOr (mB (mOp dNeX (mOp dIx (mVar 2) (mC (.int 0))) (mC (.str "row")))) (mOr (mB (mOp dNeX (mCall dLen (mCons (mVar 2) mNil)) (mCall dLen (mCons (mOp dIx (mVar 1) (mC (.int 0))) mNil)))) (mNot (mB (mCall dAll (mCons (mLc [6] (mItems (mSl (mVar 2) (mPart (mC (.int 1))) mNoPart)) (tgN 6) mYes (mCallF 1 g_is_number_word (mCons (mVar 6) mNil))) mNil)))))) (mSeq (mRaise "BadText" (mk1 "thing") (mCons (mVar 0) mNil))
  mSkip) mSkip)
  (mSeq (mApp 4 (mDc [5, 6] (mZip (mVar 3) (mSl (mVar 2) (mPart (mC (.int 1))) mNoPart)) (tgT [(tgN 5), (tgN 6)]) mYes (mVar 5) (mCall dInt (mCons (mVar 6) mNil))))
  mSkip)))
  (mSeq (mFz 4 (mRet (mMkI "Table" 1 g_Table_init (mCons (mVar 4) mNil))))
  mSkip)))))
def g_read_table : Fm := fnM 7 false m_read_table
def m_plain_hands : SM := (mSeq (mIfS (mOr (mNot (mB (mIsi [.dict] (mVar 0)))) (mB (mOp dEqX (mVar 0) (mC (.dic []))))) (mSeq (mRaise "BadHands" (mk1 "name") (mCons (mC .non) mNil))
  mSkip) mSkip)
  (mSeq (mFor (mKeysD (mVar 0)) (tgN 1) (mSeq (mIfS (mOr (mNot (mB (mCallF 1 g_is_name (mCons (mVar 1) mNil)))) (mNot (mB (mCallF 1 g_is_name_list (mCons (mOp dIx (mVar 0) (mVar 1)) mNil))))) (mSeq (mRaise "BadHands" (mk1 "name") (mCons (mVar 1) mNil))
  mSkip) mSkip)
  mSkip))
  (mSeq (mRet (mDc [1] (mKeysD (mVar 0)) (tgN 1) mYes (mVar 1) (mCall dList1 (mCons (mOp dIx (mVar 0) (mVar 1)) mNil))))
  mSkip)))
def g_plain_hands : Fm := fnM 2 false m_plain_hands
def m_write_hands : SM := (mSeq (mAsg (tgN 1) (mCallF 1 g_plain_hands (mCons (mVar 0) mNil)))
  (mSeq (mRet (mCallF 1 g_joined (mCons (mLc [2] (mKeysD (mVar 1)) (tgN 2) mYes (mOp dAdd (mDisp .lst (mCons (mC (.str "hand")) (mCons (mVar 2) mNil))) (mOp dIx (mVar 1) (mVar 2)))) mNil)))
  mSkip))
def g_write_hands : Fm := fnM 3 false m_write_hands
def m_plain_links : SM := (mSeq (mIfS (mNot (mB (mCallF 1 g_is_list (mCons (mVar 0) mNil)))) (mSeq (mRaise "BadLinks" (mk1 "index") (mCons (mC (.int 0)) mNil))
  mSkip) mSkip)
  (mSeq (mOwn 1 (mDisp .lst mNil))
  (mSeq (mFor (mEnum (mVar 0)) (tgT [(tgN 2), (tgN 3)]) (mSeq (mIfS (mOr (mNot (mB (mCallF 1 g_is_list (mCons (mVar 3) mNil)))) (mOr (mB (mOp dNeX (mCall dLen (mCons (mVar 3) mNil)) (mC (.int 2)))) (mOr (mNot (mB (mCallF 1 g_is_name_list (mCons (mVar 3) mNil)))) (mB (mOp dIn (mCall dTuple (mCons (mVar 3) mNil)) (mView 1)))))) (mSeq (mRaise "BadLinks" (mk1 "index") (mCons (mVar 2) mNil))
  mSkip) mSkip)
  (mSeq (mApp 1 (mCall dTuple (mCons (mVar 3) mNil)))
  mSkip)))
  (mSeq (mFz 1 (mRet (mVar 1)))
  mSkip))))
def g_plain_links : Fm := fnM 4 false m_plain_links
def m_write_links : SM := (mSeq (mRet (mCallF 1 g_joined (mCons (mLc [1, 2] (mItems (mCallF 1 g_plain_links (mCons (mVar 0) mNil))) (tgT [(tgN 1), (tgN 2)]) mYes (mDisp .lst (mCons (mC (.str "link")) (mCons (mVar 1) (mCons (mVar 2) mNil))))) mNil)))
  mSkip)
def g_write_links : Fm := fnM 3 false m_write_links
def m_read_hands : SM := (mSeq (mOwn 1 (mC (.dic [])))
  (mSeq (mFor (mItems (mCallF 1 g_words_of (mCons (mVar 0) mNil))) (tgN 2) (mSeq (mIfS (mOr (mB (mOp dNeX (mOp dIx (mVar 2) (mC (.int 0))) (mC (.str "hand")))) (mOr (mB (mOp dLt (mCall dLen (mCons (mVar 2) mNil)) (mC (.int 2)))) (mOr (mNot (mB (mCallF 1 g_is_name (mCons (mOp dIx (mVar 2) (mC (.int 1))) mNil)))) (mOr (mB (mOp dIn (mOp dIx (mVar 2) (mC (.int 1))) (mView 1))) (mNot (mB (mCallF 1 g_is_name_list (mCons (mSl (mVar 2) (mPart (mC (.int 2))) mNoPart) mNil)))))))) (mSeq (mRaise "BadText" (mk1 "thing") (mCons (mVar 0) mNil))
  mSkip) mSkip)
  (mSeq (mPut 1 (mSl (mVar 2) (mPart (mC (.int 2))) mNoPart) (mOp dIx (mVar 2) (mC (.int 1))))
  mSkip)))
  (mSeq (mIfS (mB (mOp dEqX (mView 1) (mC (.dic [])))) (mSeq (mRaise "BadText" (mk1 "thing") (mCons (mVar 0) mNil))
  mSkip) mSkip)
  (mSeq (mFz 1 (mRet (mVar 1)))
  mSkip))))
def g_read_hands : Fm := fnM 3 false m_read_hands
def m_read_links : SM := (mSeq (mOwn 1 (mDisp .lst mNil))
  (mSeq (mFor (mItems (mCallF 1 g_words_of (mCons (mVar 0) mNil))) (tgN 2) (mSeq (mIfS (mOr (mB (mOp dNeX (mOp dIx (mVar 2) (mC (.int 0))) (mC (.str "link")))) (mOr (mB (mOp dNeX (mCall dLen (mCons (mVar 2) mNil)) (mC (.int 3)))) (mOr (mNot (mB (mCallF 1 g_is_name_list (mCons (mSl (mVar 2) (mPart (mC (.int 1))) mNoPart) mNil)))) (mB (mOp dIn (mCall dTuple (mCons (mSl (mVar 2) (mPart (mC (.int 1))) mNoPart) mNil)) (mView 1)))))) (mSeq (mRaise "BadText" (mk1 "thing") (mCons (mVar 0) mNil))
  mSkip) mSkip)
  (mSeq (mApp 1 (mCall dTuple (mCons (mSl (mVar 2) (mPart (mC (.int 1))) mNoPart) mNil)))
  mSkip)))
  (mSeq (mFz 1 (mRet (mVar 1)))
  mSkip)))
def g_read_links : Fm := fnM 3 false m_read_links
def m__law_tried : SM := (mSeq (mTry 2 (catch_ "BadText") (mSeq (mIfS (mB (mOp dEq (mVar 0) (mC (.int 0)))) (mSeq (mAsg (tgN 3) (mDisp .tup (mCons (mC (.str "read")) (mCons (mCallF 1 g_write_table (mCons (mCallF 1 g_read_table (mCons (mVar 1) mNil)) mNil)) mNil))))
  mSkip) (mSeq (mAsg (tgN 3) (mDisp .tup (mCons (mC (.str "read")) (mCons (mIf (mB (mOp dEq (mVar 0) (mC (.int 1)))) (mCallF 1 g_write_hands (mCons (mCallF 1 g_read_hands (mCons (mVar 1) mNil)) mNil)) (mCallF 1 g_write_links (mCons (mCallF 1 g_read_links (mCons (mVar 1) mNil)) mNil))) mNil))))
  mSkip))
  mSkip)
  (mSeq (mAsg (tgN 3) (mDisp .tup (mCons (mC (.str "bad")) (mCons (mXf 2 "BadText" "thing") mNil))))
  mSkip))
  (mSeq (mRet (mVar 3))
  mSkip))
def g__law_tried : Fm := fnM 4 false m__law_tried
def m__law_same (gself : Fm) : SM := (mSeq (mIfS (mB (mIsi [.list, .tuple] (mVar 1))) (mSeq (mIfS (mOr (mB (mOp dNeX (mIsi [.list] (mVar 0)) (mIsi [.list] (mVar 1)))) (mB (mOp dNeX (mIsi [.tuple] (mVar 0)) (mIsi [.tuple] (mVar 1))))) (mSeq (mRet (mC (.bl false)))
  mSkip) mSkip)
  (mSeq (mRet (mAndV (mOp dEq (mCall dLen (mCons (mVar 0) mNil)) (mCall dLen (mCons (mVar 1) mNil))) (mCall dAll (mCons (mLc [2, 3] (mZip (mVar 0) (mVar 1)) (tgT [(tgN 2), (tgN 3)]) mYes (mCallF 2 gself (mCons (mVar 2) (mCons (mVar 3) mNil)))) mNil))))
  mSkip)) mSkip)
  (mSeq (mIfS (mB (mIsi [.int] (mVar 1))) (mSeq (mRet (mAndV (mIsi [.int] (mVar 0)) (mAndV (mOp dEq (mIsi [.bool] (mVar 0)) (mIsi [.bool] (mVar 1))) (mOp dEqX (mVar 0) (mVar 1)))))
  mSkip) mSkip)
  (mSeq (mRet (mAndV (mOp dIs (mIsi [.int, .list, .tuple] (mVar 0)) (mC (.bl false))) (mOp dEqX (mVar 0) (mVar 1))))
  mSkip)))
def g__law_same : Nat → Fm
  | 0 => fun _ _ => .bad
  | n + 1 => fnM 4 false (m__law_same (g__law_same n))
def m__law_d_rows : SM := (mSeq (mAsg (tgN 3) (mOp dAdd (mC (.int 1)) (mCallS 0 1 g__law_draw (mCons (mC (.int 3)) mNil))))
  (mSeq (mPar [4, 5] [(false, (mOp dAdd (mC (.int 1)) (mCallS 0 1 g__law_draw (mCons (mVar 2) mNil)))), (false, (mOp dIx (mDisp .lst (mCons (mC (.int 0)) (mCons (mC (.int 0)) (mCons (mNeg (mC (.int 1))) (mCons (mOp dPow (mC (.int 10)) (mC (.int 14))) mNil))))) (mCallS 0 1 g__law_draw (mCons (mC (.int 4)) mNil))))])
  (mSeq (mRet (mLc [6] (mRange1 (mVar 4)) (tgN 6) mYes (mCall dDict1 (mCons (mLc [7] (mItems (mVar 1)) (tgN 7) mYes (mDisp .tup (mCons (mVar 7) (mCons (mOp dAdd (mVar 5) (mCallS 0 1 g__law_draw (mCons (mOp dAdd (mC (.int 1)) (mVar 3)) mNil))) mNil)))) mNil))))
  mSkip)))
def g__law_d_rows : Fm := fnM 8 true m__law_d_rows
def m__law_d_links : SM := (mSeq (mOwn 3 (mDisp .lst mNil))
  (mSeq (mFor (mItems (mVar 1)) (tgN 4) (mSeq (mExt 3 (mLc [5] (mItems (mVar 1)) (tgN 5) (mB (mOp dNeX (mVar 5) (mVar 4))) (mDisp .tup (mCons (mVar 4) (mCons (mVar 5) mNil)))))
  mSkip))
  (mSeq (mFz 3 (mRet (mSl (mCallS 0 1 g__law_mixed (mCons (mVar 3) mNil)) mNoPart (mPart (mCallS 0 1 g__law_draw (mCons (mOp dAdd (mVar 2) (mC (.int 1))) mNil))))))
  mSkip)))
def g__law_d_links : Fm := fnM 6 true m__law_d_links
def m_law : SM := (mSeq (mFor (mRange1 (mC (.int 8))) (tgN 2) (mSeq (mPar [9, 10] [(false, (mCallS 1 1 g__law_draw (mCons (mC (.int 3)) mNil))), (false, (mCallS 1 1 g__law_names (mCons (mOp dAdd (mC (.int 1)) (mCallS 1 1 g__law_draw (mCons (mC (.int 3)) mNil))) mNil)))])
  (mSeq (mAsg (tgN 4) (mCallS 1 2 g__law_d_hands (mCons (mVar 10) (mCons (mOp dAdd (mC (.int 1)) (mCallS 1 1 g__law_draw (mCons (mC (.int 3)) mNil))) mNil))))
  (mSeq (mAsg (tgN 5) (mIf (mB (mOp dEq (mVar 9) (mC (.int 0)))) (mCallF 1 g__law_d_table_lines (mCons (mCallS 1 2 g__law_d_rows (mCons (mVar 10) (mCons (mC (.int 4)) mNil))) mNil)) (mCallF 1 g__law_d_hands_lines (mCons (mVar 4) mNil))))
  (mSeq (mAsg (tgN 5) (mIf (mB (mOp dEq (mVar 9) (mC (.int 2)))) (mCallF 1 g__law_d_links_lines (mCons (mCallS 1 2 g__law_d_links (mCons (mCall dList1 (mCons (mVar 4) mNil)) (mCons (mC (.int 4)) mNil))) mNil)) (mVar 5)))
  (mSeq (mFor (mRange1 (mCallS 1 1 g__law_draw (mCons (mC (.int 3)) mNil))) (tgN 6) (mSeq (mAsg (tgN 5) (mCallS 1 1 g__law_bent (mCons (mVar 5) mNil)))
  mSkip))
  (mSeq (mAsg (tgN 7) (mOp dAdd (mCallF 1 g__law_d_text (mCons (mVar 5) mNil)) (mCallS 1 1 g__law_pick (mCons (mDisp .lst (mCons (mC (.str "")) (mCons (mC (.str "")) (mCons (mC (.str "")) (mCons (mC (.str "x")) (mCons (mC (.str "link a b")) (mCons (mC (.str " ")) mNil))))))) mNil))))
  (mSeq (mAsg (tgN 8) (mIf (mB (mCallF 2 g__law_is_text (mCons (mVar 9) (mCons (mVar 7) mNil)))) (mDisp .tup (mCons (mC (.str "read")) (mCons (mVar 7) mNil))) (mDisp .tup (mCons (mC (.str "bad")) (mCons (mVar 7) mNil)))))
  (mSeq (mIfS (mB (mOp dNeX (mCallF 2 g__law_tried (mCons (mVar 9) (mCons (mVar 7) mNil))) (mVar 8))) (mSeq (mRet (mC (.bl false)))
  mSkip) mSkip)
  mSkip)))))))))
  (mSeq (mFor (mItems (mDisp .lst (mCons (mC .non) (mCons (mC (.int 5)) (mCons (mDisp .lst (mCons (mC (.str "link a b")) mNil)) (mCons (mC (.bl true)) (mCons (mC (.dic [])) (mCons (mDisp .tup (mCons (mC (.str "asks a")) (mCons (mC (.str "row 1")) mNil))) mNil)))))))) (tgN 3) (mSeq (mIfS (mNot (mB (mCallF 2 (g__law_same 6) (mCons (mLc [9] (mRange1 (mC (.int 3))) (tgN 9) mYes (mCallF 2 g__law_tried (mCons (mVar 9) (mCons (mVar 3) mNil)))) (mCons (mOp dMulX (mDisp .lst (mCons (mDisp .tup (mCons (mC (.str "bad")) (mCons (mVar 3) mNil))) mNil)) (mC (.int 3))) mNil))))) (mSeq (mRet (mC (.bl false)))
  mSkip) mSkip)
  mSkip))
  (mSeq (mRet (mOp dEq (mLc [9] (mRange1 (mC (.int 3))) (tgN 9) mYes (mCallF 2 g__law_tried (mCons (mVar 9) (mCons (mC (.str "")) mNil)))) (mDisp .lst (mCons (mDisp .tup (mCons (mC (.str "bad")) (mCons (mC (.str "")) mNil))) (mCons (mDisp .tup (mCons (mC (.str "bad")) (mCons (mC (.str "")) mNil))) (mCons (mDisp .tup (mCons (mC (.str "read")) (mCons (mC (.str "")) mNil))) mNil))))))
  mSkip)))
end K88

set_option Elab.async false
set_option linter.all false
set_option maxRecDepth 100000
set_option maxHeartbeats 0
namespace K88
open PySem PySem.Spec PyProof.Rows L2 XH EX DL RZ NdefX
theorem bt_len : bootBuiltins ("len" : PySem.Str) = some (.builtin "len") := by decide +kernel
theorem bt_any : bootBuiltins ("any" : PySem.Str) = some (.builtin "any") := by decide +kernel
theorem bt_all : bootBuiltins ("all" : PySem.Str) = some (.builtin "all") := by decide +kernel
theorem bt_isinstance : bootBuiltins ("isinstance" : PySem.Str) = some (.builtin "isinstance") := by decide +kernel
theorem bt_int : bootBuiltins ("int" : PySem.Str) = some (.type "int") := by decide +kernel
theorem bt_list : bootBuiltins ("list" : PySem.Str) = some (.type "list") := by decide +kernel
theorem bt_bool : bootBuiltins ("bool" : PySem.Str) = some (.type "bool") := by decide +kernel
theorem bt_str : bootBuiltins ("str" : PySem.Str) = some (.type "str") := by decide +kernel
theorem bt_tuple : bootBuiltins ("tuple" : PySem.Str) = some (.type "tuple") := by decide +kernel
theorem bt_dict : bootBuiltins ("dict" : PySem.Str) = some (.type "dict") := by decide +kernel
/-! ### what holds of the written part -/
structure Fx (P : Program) (w : World) (K : PySem.W.Frag) (mg : PySem.Str → Option Value) (base : Heap) : Prop where
  gl__law_draw : mg "_law_draw" = some (.ref (He.ga K "_law_draw"))
  gl__law_pick : mg "_law_pick" = some (.ref (He.ga K "_law_pick"))
  gl__law_name : mg "_law_name" = some (.ref (He.ga K "_law_name"))
  gl__law_names : mg "_law_names" = some (.ref (He.ga K "_law_names"))
  gl__law_mixed : mg "_law_mixed" = some (.ref (He.ga K "_law_mixed"))
  gl__law_d_hands : mg "_law_d_hands" = some (.ref (He.ga K "_law_d_hands"))
  gl__law_d_table_lines : mg "_law_d_table_lines" = some (.ref (He.ga K "_law_d_table_lines"))
  gl__law_d_hands_lines : mg "_law_d_hands_lines" = some (.ref (He.ga K "_law_d_hands_lines"))
  gl__law_d_links_lines : mg "_law_d_links_lines" = some (.ref (He.ga K "_law_d_links_lines"))
  gl__law_bent_line : mg "_law_bent_line" = some (.ref (He.ga K "_law_bent_line"))
  gl__law_bent : mg "_law_bent" = some (.ref (He.ga K "_law_bent"))
  gl__law_d_text : mg "_law_d_text" = some (.ref (He.ga K "_law_d_text"))
  gl__law_is_name_word : mg "_law_is_name_word" = some (.ref (He.ga K "_law_is_name_word"))
  gl__law_are_names : mg "_law_are_names" = some (.ref (He.ga K "_law_are_names"))
  gl__law_is_number_word : mg "_law_is_number_word" = some (.ref (He.ga K "_law_is_number_word"))
  gl__law_is_table : mg "_law_is_table" = some (.ref (He.ga K "_law_is_table"))
  gl__law_are_hands : mg "_law_are_hands" = some (.ref (He.ga K "_law_are_hands"))
  gl__law_are_links : mg "_law_are_links" = some (.ref (He.ga K "_law_are_links"))
  gl__law_is_text : mg "_law_is_text" = some (.ref (He.ga K "_law_is_text"))
  gl_joined : mg "joined" = some (.ref (He.ga K "joined"))
  gl_write_table : mg "write_table" = some (.ref (He.ga K "write_table"))
  gl_words_of : mg "words_of" = some (.ref (He.ga K "words_of"))
  gl_is_name : mg "is_name" = some (.ref (He.ga K "is_name"))
  gl_names_of : mg "names_of" = some (.ref (He.ga K "names_of"))
  gl_is_list : mg "is_list" = some (.ref (He.ga K "is_list"))
  gl_is_integer : mg "is_integer" = some (.ref (He.ga K "is_integer"))
  gl_is_row : mg "is_row" = some (.ref (He.ga K "is_row"))
  gl_is_name_list : mg "is_name_list" = some (.ref (He.ga K "is_name_list"))
  gl_is_number_word : mg "is_number_word" = some (.ref (He.ga K "is_number_word"))
  gl_read_table : mg "read_table" = some (.ref (He.ga K "read_table"))
  gl_plain_hands : mg "plain_hands" = some (.ref (He.ga K "plain_hands"))
  gl_write_hands : mg "write_hands" = some (.ref (He.ga K "write_hands"))
  gl_plain_links : mg "plain_links" = some (.ref (He.ga K "plain_links"))
  gl_write_links : mg "write_links" = some (.ref (He.ga K "write_links"))
  gl_read_hands : mg "read_hands" = some (.ref (He.ga K "read_hands"))
  gl_read_links : mg "read_links" = some (.ref (He.ga K "read_links"))
  gl__law_tried : mg "_law_tried" = some (.ref (He.ga K "_law_tried"))
  gl__law_same : mg "_law_same" = some (.ref (He.ga K "_law_same"))
  gl__law_d_rows : mg "_law_d_rows" = some (.ref (He.ga K "_law_d_rows"))
  gl__law_d_links : mg "_law_d_links" = some (.ref (He.ga K "_law_d_links"))
  gl__law_start : mg "_law_start" = some (.ref (He.ga K "_law_start"))
  gl_law : mg "law" = some (.ref (He.ga K "law"))
  gl_Table : mg "Table" = some (.ref (He.ga K "Table"))
  gl_BadHands : mg "BadHands" = some (.ref (He.ga K "BadHands"))
  gl_BadRow : mg "BadRow" = some (.ref (He.ga K "BadRow"))
  gl_BadLinks : mg "BadLinks" = some (.ref (He.ga K "BadLinks"))
  gl_BadText : mg "BadText" = some (.ref (He.ga K "BadText"))
  gl_WorldError : mg "WorldError" = some (.ref (He.ga K "WorldError"))
  g_ValueError : mg "ValueError" = none
  g_all : mg "all" = none
  g_bool : mg "bool" = none
  g_dict : mg "dict" = none
  g_enumerate : mg "enumerate" = none
  g_int : mg "int" = none
  g_isinstance : mg "isinstance" = none
  g_len : mg "len" = none
  g_list : mg "list" = none
  g_range : mg "range" = none
  g_set : mg "set" = none
  g_str : mg "str" = none
  g_super : mg "super" = none
  g_tuple : mg "tuple" = none
  g_zip : mg "zip" = none
  c_FIGURES : ∃ t, mg "FIGURES" = some (.str "0123456789" t)
  c_MOST_FIGURES : ∃ t, mg "MOST_FIGURES" = some (.int 15 t)
  c_NAME_SIGNS : ∃ t, mg "NAME_SIGNS" = some (.str "abcdefghijklmnopqrstuvwxyz0123456789." t)
  cls_Table : Cls K (He.ga K "Table")
  mkr_Table : Mk K (He.ga K "Table") (He.ma K (He.ga K "Table") "__init__")
  me_Table_questions : Meth K (He.ga K "Table") "questions" (He.ma K (He.ga K "Table") "questions")
  me_Table_rows : Meth K (He.ga K "Table") "rows" (He.ma K (He.ga K "Table") "rows")
  na_Table_own_names : NoAttr K (He.ga K "Table") "own_names"
  na_Table_own_rows : NoAttr K (He.ga K "Table") "own_rows"
  fam : Fam K "WorldError" excs
  mk_BadHands : MkOk P w K mg base (clK K) "BadHands" ["name"] (fun C => spIni1 C "name")
  mk_BadRow : MkOk P w K mg base (clK K) "BadRow" ["index"] (fun C => spIni1 C "index")
  mk_BadLinks : MkOk P w K mg base (clK K) "BadLinks" ["index"] (fun C => spIni1 C "index")
  mk_BadText : MkOk P w K mg base (clK K) "BadText" ["thing"] (fun C => spIni1 C "thing")
  xf_BadText_thing : PySem.W.findIn K (.ref (He.ga K "BadText")) "thing" = some none
theorem clK_in {K : PySem.W.Frag} {x : PySem.Str} (h : x ∈ known) : clK K x = some (He.ga K x) := if_pos h
theorem clK_exc {K : PySem.W.Frag} {x : PySem.Str} (h : x ∈ known) : clK K x = some (He.ga K x) := if_pos h
theorem clK_fn {K : PySem.W.Frag} (x : PySem.Str) (h : x ∈ known) : clK K x = some (He.ga K x) := if_pos h
theorem clK_at {K : PySem.W.Frag} {cn : PySem.Str} {C : Addr} (h : clK K cn = some C) : C = He.ga K cn := by
  unfold clK at h
  split at h
  · exact (Option.some.inj h).symm
  · cases h
section
variable {P : Program} {w : World} {K : PySem.W.Frag} {mg : PySem.Str → Option Value} {base : Heap} (fx : Fx P w K mg base)
include fx
theorem Fx.fl_own_names : ∀ cn C, okf_own_names cn = true → clK K cn = some C → Cls K C ∧ NoAttr K C "own_names" := fun cn C h e => by
  have h := of_decide_eq_true h
  obtain rfl := clK_at e
  obtain rfl := List.mem_singleton.mp h
  exact ⟨fx.cls_Table, fx.na_Table_own_names⟩
theorem Fx.fl_own_rows : ∀ cn C, okf_own_rows cn = true → clK K cn = some C → Cls K C ∧ NoAttr K C "own_rows" := fun cn C h e => by
  have h := of_decide_eq_true h
  obtain rfl := clK_at e
  obtain rfl := List.mem_singleton.mp h
  exact ⟨fx.cls_Table, fx.na_Table_own_rows⟩
theorem Fx.catches {c : FC} (hcl : c.cl = clK K) {y : PySem.Str} (hy : y ∈ excs) : ∀ cn C b, catch_ y cn = some b → c.cl cn = some C → PySem.W.exmOne K (.ref C) (.ref (He.ga K y)) = some b := fun cn C b h e => by
  rw [hcl] at e
  obtain rfl := clK_at e
  unfold catch_ at h
  split at h
  · rename_i hc
    cases h
    exact fx.fam.exm hc hy
  · cases h
end
end K88

set_option Elab.async false
set_option linter.all false
set_option maxRecDepth 100000
set_option maxHeartbeats 0
namespace K88
open PySem PySem.Spec PyProof.Rows L2 XH EX DL RZ NdefX
theorem S__law_draw : FnScope ["_law_stream", "_law_many", "_law_mixed_here", "_law_cell", "_law_digit"] ["_law_stream", "_law_many"] (defScope (top 52)) := ⟨rfl, rfl, rfl, by decide +kernel, rfl, by decide +kernel, by decide +kernel⟩
theorem ok__law_draw {P : Program} {w : World} {K : PySem.W.Frag} {mg : PySem.Str → Option Value} {base : Heap} (fx : Fx P w K mg base)  {fd : FuncData} (F : FunD K "_law_draw" "_law_draw" (defArgs (top 52)) (defBody (top 52)) (defScope (top 52)) [] [] (He.ga K "_law_draw") fd) : DefOk P w K mg base (clK K) "_law_draw" 1 1 true g__law_draw := by
  refine ⟨_, fd, ["_law_stream", "_law_many"], fx.gl__law_draw, F.kp, F.bindsN (fun _ _ _ _ _ _ us hl => match us, hl with | [_, _], _ => rfl), fn_dl (k := 0) F S__law_draw rfl fun cdv A outer s H E c W hr hcl tk => ?_⟩
  have nd := (S__law_draw).nd
  have hu := hu64_of hr
  have hu1 := hu01_of hr
  have hp : PassesOwn (model P w) (cxOf (L2.CX P w) P w K mg base ["_law_stream", "_law_many", "_law_mixed_here", "_law_cell", "_law_digit"] "_law_draw" (defScope (top 52)) (He.ga K "_law_draw") cdv A outer s H E).A (cxOf (L2.CX P w) P w K mg base ["_law_stream", "_law_many", "_law_mixed_here", "_law_cell", "_law_digit"] "_law_draw" (defScope (top 52)) (He.ga K "_law_draw") cdv A outer s H E).env (cxOf (L2.CX P w) P w K mg base ["_law_stream", "_law_many", "_law_mixed_here", "_law_cell", "_law_digit"] "_law_draw" (defScope (top 52)) (He.ga K "_law_draw") cdv A outer s H E).xe := passes_of rfl
  exact (ds_cons (ps_imp (ps_asg (df_op op_add_data (dv (df_strmI (pv 0) pe_int (fun _ _ => rfl))) (dv df_int)) (pg_sub (pv 0) pe_int set_list)) fun _ _ _ q => strmSet_to q)
  (ds_cons (ds_if (dt_pw (dw_and (dt_cmp (op_eq_data hu) (dv (df_strmI (pv 0) pe_int (fun _ _ => rfl))) (dv df_int) (nomark _)) (dw_and1 (dt_strmNe hu (pv 0) pe_int (fun _ _ => rfl) (pe_lst pa_nil) (nomark _))))) (ds_cons (ps_imp (ps_set (i := 3) nd rfl (by first | exact .inl rfl | exact .inr rfl) (pe_bm PySem.F.plainAttrs_list PySem.F.slot_list_pop PySem.F.type_list_pop mt_popAt (pe_ix ix_list (pv 0) pe_int (fun _ _ => rfl)) (pa_cons pe_int pa_nil))) fun _ _ _ q => strmPop_to q)
  (ds_cons (ps_imp (ps_asg (df_op op_mod_data (dv (df_callTy c_int rfl fx.g_int bt_int (dav_cons (dv (df_op op_add_data (dv (df_op op_add_data (dv (df_op op_mulX_data (dv (df_strmI (pv 0) pe_int (fun _ _ => rfl))) (dv df_int))) (dv (df_var (pv 3))))) (dv df_int))) dav_nil))) (dv df_int)) (pg_sub (pv 0) pe_int set_list)) fun _ _ _ q => strmSet_to q)
  (ds_cons (ps_imp (ps_asg (df_if (dt_cmp op_ge_data (dv (df_var (pv 3))) (dv (df_op op_pow_data (dv df_int) (dv df_int))) (nomark _)) (df_var (pv 3)) df_int) (pg_sub (pv 0) pe_int set_list)) fun _ _ _ q => strmSet_to q)
  ds_nil))) ds_nil)
  (ds_cons (ds_if (dt_cmp op_gt_data (dv (df_strmI (pv 0) pe_int (fun _ _ => rfl))) (dv df_int) (nomark _)) (ds_cons (ds_set (ps_set (i := 4) nd rfl (by first | exact .inl rfl | exact .inr rfl) (df_op op_mod_data (dv (df_callTy c_int rfl fx.g_int bt_int (dav_cons (dv (df_strmI (pv 0) pe_int (fun _ _ => rfl))) dav_nil))) (dv (df_var (pv 1))))) fun _ _ _ q => q)
  (ds_cons (ps_imp (ps_asg (df_op op_fdiv_data (dv (df_strmI (pv 0) pe_int (fun _ _ => rfl))) (dv (df_var (pv 1)))) (pg_sub (pv 0) pe_int set_list)) fun _ _ _ q => strmSet_to q)
  (ds_cons (ds_ret (df_var (pv 4)))
  ds_nil))) ds_nil)
  (ds_cons (ds_set (ps_set (i := 2) nd rfl (by first | exact .inl rfl | exact .inr rfl) (df_op op_mod_data (dv (df_callTy c_int rfl fx.g_int bt_int (dav_cons (dv (df_op op_pow_data (dv (df_op op_add_data (dv (df_op op_add_data (dv (df_strmI (pv 0) pe_int (fun _ _ => rfl))) (dv (df_op op_mulX_data (dv df_int) (dv (df_strmI (pv 0) pe_int (fun _ _ => rfl))))))) (dv df_int))) (dv df_int))) dav_nil))) (dv df_int))) fun _ _ _ q => q)
  (ds_cons (ds_ret (df_op op_mod_data (dv (df_op op_mod_data (dv (df_callTy c_int rfl fx.g_int bt_int (dav_cons (dv (df_op op_pow_data (dv (df_op op_add_data (dv (df_op op_add_data (dv (df_op op_mulX_data (dv (df_var (pv 2))) (dv df_int))) (dv (df_op op_mulX_data (dv df_int) (dv (df_strmI (pv 0) pe_int (fun _ _ => rfl))))))) (dv df_int))) (dv df_int))) dav_nil))) (dv df_int))) (dv (df_var (pv 1)))))
  ds_nil)))))
theorem S__law_pick : FnScope ["_law_stream", "_law_some"] ["_law_stream", "_law_some"] (defScope (top 53)) := ⟨rfl, rfl, rfl, by decide +kernel, rfl, by decide +kernel, by decide +kernel⟩
theorem ok__law_pick {P : Program} {w : World} {K : PySem.W.Frag} {mg : PySem.Str → Option Value} {base : Heap} (fx : Fx P w K mg base) (D__law_draw : DefOk P w K mg base (clK K) "_law_draw" 1 1 true g__law_draw) {fd : FuncData} (F : FunD K "_law_pick" "_law_pick" (defArgs (top 53)) (defBody (top 53)) (defScope (top 53)) [] [] (He.ga K "_law_pick") fd) : DefOk P w K mg base (clK K) "_law_pick" 2 1 true g__law_pick := by
  refine ⟨_, fd, ["_law_stream", "_law_some"], fx.gl__law_pick, F.kp, F.bindsN (fun _ _ _ _ _ _ us hl => match us, hl with | [_, _], _ => rfl), fn_dl (k := 1) F S__law_pick rfl fun cdv A outer s H E c W hr hcl tk => ?_⟩
  have nd := (S__law_pick).nd
  have hu := hu64_of hr
  have hu1 := hu01_of hr
  have hp : PassesOwn (model P w) (cxOf (L2.CX P w) P w K mg base ["_law_stream", "_law_some"] "_law_pick" (defScope (top 53)) (He.ga K "_law_pick") cdv A outer s H E).A (cxOf (L2.CX P w) P w K mg base ["_law_stream", "_law_some"] "_law_pick" (defScope (top 53)) (He.ga K "_law_pick") cdv A outer s H E).env (cxOf (L2.CX P w) P w K mg base ["_law_stream", "_law_some"] "_law_pick" (defScope (top 53)) (He.ga K "_law_pick") cdv A outer s H E).xe := passes_of rfl
  exact (ds_cons (ds_ret (df_ix (ix_data hu1) (dv (df_var (pv 1))) (dv (df_callSD D__law_draw hcl tk hr (by omega) rfl (pv 0) (daf_cons (df_callB c_len rfl fx.g_len bt_len (dav_cons (dv (df_var (pv 1))) dav_nil)) daf_nil))) (fun _ _ => rfl)))
  ds_nil)
theorem S__law_name : FnScope ["_law_stream", "_law_width", "_law_k"] ["_law_stream"] (defScope (top 56)) := ⟨rfl, rfl, rfl, by decide +kernel, rfl, by decide +kernel, by decide +kernel⟩
theorem ok__law_name {P : Program} {w : World} {K : PySem.W.Frag} {mg : PySem.Str → Option Value} {base : Heap} (fx : Fx P w K mg base) (D__law_draw : DefOk P w K mg base (clK K) "_law_draw" 1 1 true g__law_draw) (D__law_pick : DefOk P w K mg base (clK K) "_law_pick" 2 1 true g__law_pick) {fd : FuncData} (F : FunD K "_law_name" "_law_name" (defArgs (top 56)) (defBody (top 56)) (defScope (top 56)) [] [] (He.ga K "_law_name") fd) : DefOk P w K mg base (clK K) "_law_name" 3 0 true g__law_name := by
  refine ⟨_, fd, ["_law_stream"], fx.gl__law_name, F.kp, F.bindsN (fun _ _ _ _ _ _ us hl => match us, hl with | [_], _ => rfl), fn_dl (k := 2) F S__law_name rfl fun cdv A outer s H E c W hr hcl tk => ?_⟩
  have nd := (S__law_name).nd
  have hu := hu64_of hr
  have hu1 := hu01_of hr
  have hp : PassesOwn (model P w) (cxOf (L2.CX P w) P w K mg base ["_law_stream", "_law_width", "_law_k"] "_law_name" (defScope (top 56)) (He.ga K "_law_name") cdv A outer s H E).A (cxOf (L2.CX P w) P w K mg base ["_law_stream", "_law_width", "_law_k"] "_law_name" (defScope (top 56)) (He.ga K "_law_name") cdv A outer s H E).env (cxOf (L2.CX P w) P w K mg base ["_law_stream", "_law_width", "_law_k"] "_law_name" (defScope (top 56)) (He.ga K "_law_name") cdv A outer s H E).xe := passes_of rfl
  exact (ds_cons (ds_set (ps_set (i := 1) nd rfl (by first | exact .inl rfl | exact .inr rfl) (df_ix (ix_data hu1) (dv (dn (dn_lst (daf_cons df_int (daf_cons df_int (daf_cons df_int (daf_cons df_int (daf_cons df_int (daf_cons df_int daf_nil))))))))) (dv (df_callSD D__law_draw hcl tk hr (by omega) rfl (pv 0) (daf_cons df_int daf_nil))) (fun _ _ => rfl))) fun _ _ _ q => q)
  (ds_cons (ds_ret (df_join df_str (dv (dn (dn_lc (own := [("_law_k", 2)]) rfl nd (di_range1 rfl fx.g_range (dv (df_var (pv 1)))) (blkOk_by (by kernel_rfl)) (fun _ _ _ _ _ => (dg_name (vs := [2]) (by decide) (pg_name (i := 2) nd rfl (by first | exact .inl rfl | exact .inr rfl)))) (fun _ _ _ _ _ => dts_nil) (fun _ _ _ _ _ => (df_callSD D__law_pick hcl takes0 hr (by omega) rfl (pv 0) (daf_cons df_str daf_nil))))))))
  ds_nil))
theorem S__law_names : FnScope ["_law_stream", "_law_many", "_law_found", "_law_k", "_law_spare", "_law_letter", "_law_x"] ["_law_stream", "_law_many"] (defScope (top 57)) := ⟨rfl, rfl, rfl, by decide +kernel, rfl, by decide +kernel, by decide +kernel⟩
theorem ok__law_names {P : Program} {w : World} {K : PySem.W.Frag} {mg : PySem.Str → Option Value} {base : Heap} (fx : Fx P w K mg base) (D__law_name : DefOk P w K mg base (clK K) "_law_name" 3 0 true g__law_name) {fd : FuncData} (F : FunD K "_law_names" "_law_names" (defArgs (top 57)) (defBody (top 57)) (defScope (top 57)) [] [] (He.ga K "_law_names") fd) : DefOk P w K mg base (clK K) "_law_names" 4 1 true g__law_names := by
  refine ⟨_, fd, ["_law_stream", "_law_many"], fx.gl__law_names, F.kp, F.bindsN (fun _ _ _ _ _ _ us hl => match us, hl with | [_, _], _ => rfl), fn_dl (k := 3) F S__law_names rfl fun cdv A outer s H E c W hr hcl tk => ?_⟩
  have nd := (S__law_names).nd
  have hu := hu64_of hr
  have hu1 := hu01_of hr
  have hp : PassesOwn (model P w) (cxOf (L2.CX P w) P w K mg base ["_law_stream", "_law_many", "_law_found", "_law_k", "_law_spare", "_law_letter", "_law_x"] "_law_names" (defScope (top 57)) (He.ga K "_law_names") cdv A outer s H E).A (cxOf (L2.CX P w) P w K mg base ["_law_stream", "_law_many", "_law_found", "_law_k", "_law_spare", "_law_letter", "_law_x"] "_law_names" (defScope (top 57)) (He.ga K "_law_names") cdv A outer s H E).env (cxOf (L2.CX P w) P w K mg base ["_law_stream", "_law_many", "_law_found", "_law_k", "_law_spare", "_law_letter", "_law_x"] "_law_names" (defScope (top 57)) (He.ga K "_law_names") cdv A outer s H E).xe := passes_of rfl
  exact (ds_cons (ds_own (ps_set (i := 2) nd rfl (by first | exact .inl rfl | exact .inr rfl) (dn_lst daf_nil)) fun _ _ _ q => q)
  (ds_cons (ds_for (ps_for hp rfl (di_range1 rfl fx.g_range (dv (df_var (pv 1)))) (dg_name (vs := [3]) (by decide) (pg_name (i := 3) nd rfl (by first | exact .inl rfl | exact .inr rfl))) (ds_cons (ds_set (ps_set (i := 4) nd rfl (by first | exact .inl rfl | exact .inr rfl) (df_op op_add_data (dv (dn (dn_lst (daf_cons (df_callSD D__law_name hcl tk hr (by omega) rfl (pv 0) daf_nil) daf_nil)))) (dv (dn (dn_lc (own := [("_law_letter", 5)]) rfl nd (di_any df_str) (blkOk_by (by kernel_rfl)) (fun _ _ _ _ _ => (dg_name (vs := [5]) (by decide) (pg_name (i := 5) nd rfl (by first | exact .inl rfl | exact .inr rfl)))) (fun _ _ _ _ _ => dts_nil) (fun _ _ _ _ _ => (df_op op_add_data (dv (df_var (pv 5))) (dv df_str)))))))) fun _ _ _ q => q)
  (ds_cons (ds_app (ps_expr (pe_bm PySem.F.plainAttrs_list PySem.F.slot_list_append PySem.F.type_list_append mt_append (pv 2) (pa_cons (df_ix (ix_data hu1) (dv (dn (dn_lc (own := [("_law_x", 6)]) rfl nd (di_any (df_var (pv 4))) (blkOk_by (by kernel_rfl)) (fun _ _ _ _ _ => (dg_name (vs := [6]) (by decide) (pg_name (i := 6) nd rfl (by first | exact .inl rfl | exact .inr rfl)))) (fun _ _ _ _ _ => (dts_one (dt_cmp (op_notin_data hu) (dv (df_var (pv 6))) (dv_var (pv 2)) (by with_unfolding_all rfl)))) (fun _ _ _ _ _ => (df_var (pv 6)))))) (dv df_int) (fun _ _ => rfl)) pa_nil))))
  ds_nil))) (fun _ _ _ _ q => q) (fun _ _ _ q => q))
  (ds_cons (ds_fz (ds_ret (df_var (pv 2))))
  ds_nil)))
theorem S__law_mixed : FnScope ["_law_stream", "_law_some", "_law_left", "_law_k"] ["_law_stream", "_law_some"] (defScope (top 54)) := ⟨rfl, rfl, rfl, by decide +kernel, rfl, by decide +kernel, by decide +kernel⟩
theorem ok__law_mixed {P : Program} {w : World} {K : PySem.W.Frag} {mg : PySem.Str → Option Value} {base : Heap} (fx : Fx P w K mg base) (D__law_draw : DefOk P w K mg base (clK K) "_law_draw" 1 1 true g__law_draw) {fd : FuncData} (F : FunD K "_law_mixed" "_law_mixed" (defArgs (top 54)) (defBody (top 54)) (defScope (top 54)) [] [] (He.ga K "_law_mixed") fd) : DefOk P w K mg base (clK K) "_law_mixed" 2 1 true g__law_mixed := by
  refine ⟨_, fd, ["_law_stream", "_law_some"], fx.gl__law_mixed, F.kp, F.bindsN (fun _ _ _ _ _ _ us hl => match us, hl with | [_, _], _ => rfl), fn_dl (k := 1) F S__law_mixed rfl fun cdv A outer s H E c W hr hcl tk => ?_⟩
  have nd := (S__law_mixed).nd
  obtain ⟨f, fd2, ps2, h1, h2, h3, h4⟩ := D__law_draw.ex
  exact pss_mixed hcl (pss_cons (ps_set (i := 2) nd rfl (by first | exact .inl rfl | exact .inr rfl) (pe_callTy call_list_of rfl fx.g_list bt_list (pa_cons (pv 1) pa_nil))) (pss_one (ps_ret (pe_lc (own := [("_law_k", 3)]) rfl nd (pi_range1 rfl fx.g_range (pa_cons (pe_callB call_len_seq rfl fx.g_len bt_len (pa_cons (pv 2) pa_nil)) pa_nil)) (blkOk_by (by kernel_rfl)) (fun _ _ _ _ _ => pg_name (i := 3) nd rfl (by first | exact .inl rfl | exact .inr rfl)) (fun _ _ _ _ _ => pts_nil)
    (fun _ _ _ _ _ => pe_bm PySem.F.plainAttrs_list PySem.F.slot_list_pop PySem.F.type_list_pop mt_popAt (pv 2) (pa_cons (pe_callS h4 (hr.mono (by decide)) rfl h1 h2 h3 (fun σ => passAt takes0 σ) (pa_cons (pv 0) (pa_cons (pe_callB call_len_seq rfl fx.g_len bt_len (pa_cons (pv 2) pa_nil)) pa_nil))) pa_nil))))))
theorem S__law_d_hands : FnScope ["_law_stream", "_law_names_here", "_law_many", "_law_found", "_law_hand"] ["_law_stream", "_law_names_here", "_law_many"] (defScope (top 45)) := ⟨rfl, rfl, rfl, by decide +kernel, rfl, by decide +kernel, by decide +kernel⟩
theorem ok__law_d_hands {P : Program} {w : World} {K : PySem.W.Frag} {mg : PySem.Str → Option Value} {base : Heap} (fx : Fx P w K mg base) (D__law_names : DefOk P w K mg base (clK K) "_law_names" 4 1 true g__law_names) (D__law_mixed : DefOk P w K mg base (clK K) "_law_mixed" 2 1 true g__law_mixed) (D__law_draw : DefOk P w K mg base (clK K) "_law_draw" 1 1 true g__law_draw) {fd : FuncData} (F : FunD K "_law_d_hands" "_law_d_hands" (defArgs (top 45)) (defBody (top 45)) (defScope (top 45)) [] [] (He.ga K "_law_d_hands") fd) : DefOk P w K mg base (clK K) "_law_d_hands" 5 2 true g__law_d_hands := by
  refine ⟨_, fd, ["_law_stream", "_law_names_here", "_law_many"], fx.gl__law_d_hands, F.kp, F.bindsN (fun _ _ _ _ _ _ us hl => match us, hl with | [_, _, _], _ => rfl), fn_dl (k := 4) F S__law_d_hands rfl fun cdv A outer s H E c W hr hcl tk => ?_⟩
  have nd := (S__law_d_hands).nd
  have hu := hu64_of hr
  have hu1 := hu01_of hr
  have hp : PassesOwn (model P w) (cxOf (L2.CX P w) P w K mg base ["_law_stream", "_law_names_here", "_law_many", "_law_found", "_law_hand"] "_law_d_hands" (defScope (top 45)) (He.ga K "_law_d_hands") cdv A outer s H E).A (cxOf (L2.CX P w) P w K mg base ["_law_stream", "_law_names_here", "_law_many", "_law_found", "_law_hand"] "_law_d_hands" (defScope (top 45)) (He.ga K "_law_d_hands") cdv A outer s H E).env (cxOf (L2.CX P w) P w K mg base ["_law_stream", "_law_names_here", "_law_many", "_law_found", "_law_hand"] "_law_d_hands" (defScope (top 45)) (He.ga K "_law_d_hands") cdv A outer s H E).xe := passes_of rfl
  exact (ds_cons (ds_own (ps_set (i := 3) nd rfl (by first | exact .inl rfl | exact .inr rfl) dn_dic0) fun _ _ _ q => q)
  (ds_cons (ds_for (ps_for hp rfl (di_any (df_callSD D__law_names hcl tk hr (by omega) rfl (pv 0) (daf_cons (df_var (pv 2)) daf_nil))) (dg_name (vs := [4]) (by decide) (pg_name (i := 4) nd rfl (by first | exact .inl rfl | exact .inr rfl))) (ds_cons (ds_put (ps_dput hu1 (pv 3) (dv (df_var (pv 4))) (df_sl (dv (df_callSD D__law_mixed hcl tk hr (by omega) rfl (pv 0) (daf_cons (df_var (pv 1)) daf_nil))) do_none (do_some (dv (df_callSD D__law_draw hcl tk hr (by omega) rfl (pv 0) (daf_cons df_int daf_nil))))) rfl))
  ds_nil)) (fun _ _ _ _ q => q) (fun _ _ _ q => q))
  (ds_cons (ds_fz (ds_ret (df_var (pv 3))))
  ds_nil)))
end K88

set_option Elab.async false
set_option linter.all false
set_option maxRecDepth 100000
set_option maxHeartbeats 0
namespace K88
open PySem PySem.Spec PyProof.Rows L2 XH EX DL RZ NdefX
theorem S__law_d_table_lines : FnScope ["_law_rows", "_law_names_here", "_law_row", "_law_name_here"] ["_law_rows"] (defScope (top 47)) := ⟨rfl, rfl, rfl, by decide +kernel, rfl, by decide +kernel, by decide +kernel⟩
theorem ok__law_d_table_lines {P : Program} {w : World} {K : PySem.W.Frag} {mg : PySem.Str → Option Value} {base : Heap} (fx : Fx P w K mg base)  {fd : FuncData} (F : FunD K "_law_d_table_lines" "_law_d_table_lines" (defArgs (top 47)) (defBody (top 47)) (defScope (top 47)) [] [] (He.ga K "_law_d_table_lines") fd) : DefOk P w K mg base (clK K) "_law_d_table_lines" 1 1 false g__law_d_table_lines := by
  refine ⟨_, fd, ["_law_rows"], fx.gl__law_d_table_lines, F.kp, F.bindsN (fun _ _ _ _ _ _ us hl => match us, hl with | [_], _ => rfl), fn_dl (k := 0) F S__law_d_table_lines rfl fun cdv A outer s H E c W hr hcl tk => ?_⟩
  have nd := (S__law_d_table_lines).nd
  have hu := hu64_of hr
  have hu1 := hu01_of hr
  have hp : PassesOwn (model P w) (cxOf (L2.CX P w) P w K mg base ["_law_rows", "_law_names_here", "_law_row", "_law_name_here"] "_law_d_table_lines" (defScope (top 47)) (He.ga K "_law_d_table_lines") cdv A outer s H E).A (cxOf (L2.CX P w) P w K mg base ["_law_rows", "_law_names_here", "_law_row", "_law_name_here"] "_law_d_table_lines" (defScope (top 47)) (He.ga K "_law_d_table_lines") cdv A outer s H E).env (cxOf (L2.CX P w) P w K mg base ["_law_rows", "_law_names_here", "_law_row", "_law_name_here"] "_law_d_table_lines" (defScope (top 47)) (He.ga K "_law_d_table_lines") cdv A outer s H E).xe := passes_of rfl
  exact (ds_cons (ds_set (ps_set (i := 1) nd rfl (by first | exact .inl rfl | exact .inr rfl) (df_callTy (c_list1 rfl) rfl fx.g_list bt_list (dav_cons (dv (df_ix (ix_data hu1) (dv (df_var (pv 0))) (dv df_int) (fun _ _ => rfl))) dav_nil))) fun _ _ _ q => q)
  (ds_cons (ds_ret (df_op op_add_data (dv (dn (dn_lst (daf_cons (df_join df_str (dv (df_op op_add_data (dv (dn (dn_lst (daf_cons df_str daf_nil)))) (dv (df_var (pv 1)))))) daf_nil)))) (dv (dn (dn_lc (own := [("_law_row", 2)]) rfl nd (di_any (df_var (pv 0))) (blkOk_by (by kernel_rfl)) (fun _ _ _ _ _ => (dg_name (vs := [2]) (by decide) (pg_name (i := 2) nd rfl (by first | exact .inl rfl | exact .inr rfl)))) (fun _ _ _ _ _ => dts_nil) (fun _ _ _ _ _ => (df_join df_str (dv (df_op op_add_data (dv (dn (dn_lst (daf_cons df_str daf_nil)))) (dv (dn (dn_lc (own := [("_law_name_here", 3)]) rfl nd (di_any (df_var (pv 1))) (blkOk_by (by kernel_rfl)) (fun _ _ _ _ _ => (dg_name (vs := [3]) (by decide) (pg_name (i := 3) nd rfl (by first | exact .inl rfl | exact .inr rfl)))) (fun _ _ _ _ _ => dts_nil) (fun _ _ _ _ _ => (df_callTy c_str rfl fx.g_str bt_str (dav_cons (dv (df_ix (ix_data hu1) (dv (df_var (pv 2))) (dv (df_var (pv 3))) (fun _ _ => rfl))) dav_nil)))))))))))))))
  ds_nil))
theorem S__law_d_hands_lines : FnScope ["_law_hands", "_law_name_here"] ["_law_hands"] (defScope (top 48)) := ⟨rfl, rfl, rfl, by decide +kernel, rfl, by decide +kernel, by decide +kernel⟩
theorem ok__law_d_hands_lines {P : Program} {w : World} {K : PySem.W.Frag} {mg : PySem.Str → Option Value} {base : Heap} (fx : Fx P w K mg base)  {fd : FuncData} (F : FunD K "_law_d_hands_lines" "_law_d_hands_lines" (defArgs (top 48)) (defBody (top 48)) (defScope (top 48)) [] [] (He.ga K "_law_d_hands_lines") fd) : DefOk P w K mg base (clK K) "_law_d_hands_lines" 1 1 false g__law_d_hands_lines := by
  refine ⟨_, fd, ["_law_hands"], fx.gl__law_d_hands_lines, F.kp, F.bindsN (fun _ _ _ _ _ _ us hl => match us, hl with | [_], _ => rfl), fn_dl (k := 0) F S__law_d_hands_lines rfl fun cdv A outer s H E c W hr hcl tk => ?_⟩
  have nd := (S__law_d_hands_lines).nd
  have hu := hu64_of hr
  have hu1 := hu01_of hr
  have hp : PassesOwn (model P w) (cxOf (L2.CX P w) P w K mg base ["_law_hands", "_law_name_here"] "_law_d_hands_lines" (defScope (top 48)) (He.ga K "_law_d_hands_lines") cdv A outer s H E).A (cxOf (L2.CX P w) P w K mg base ["_law_hands", "_law_name_here"] "_law_d_hands_lines" (defScope (top 48)) (He.ga K "_law_d_hands_lines") cdv A outer s H E).env (cxOf (L2.CX P w) P w K mg base ["_law_hands", "_law_name_here"] "_law_d_hands_lines" (defScope (top 48)) (He.ga K "_law_d_hands_lines") cdv A outer s H E).xe := passes_of rfl
  exact (ds_cons (ds_ret (dn (dn_lcD (own := [("_law_name_here", 1)]) loc_var walk_keys rfl nd (pi_keys (pv 0)) (blkOk_by (by kernel_rfl)) (fun _ _ _ _ _ => (dg_name (vs := [1]) (by decide) (pg_name (i := 1) nd rfl (by first | exact .inl rfl | exact .inr rfl)))) (fun _ _ _ _ _ => dts_nil) (fun _ _ _ _ _ => (df_join df_str (dv (df_op op_add_data (dv (dn (dn_lst (daf_cons df_str (daf_cons (df_var (pv 1)) daf_nil))))) (dv (df_callTy (c_list1 rfl) rfl fx.g_list bt_list (dav_cons (dv (df_ix (ix_data hu1) (dv (df_var (pv 0))) (dv (df_var (pv 1))) (fun _ _ => rfl))) dav_nil))))))))))
  ds_nil)
theorem S__law_d_links_lines : FnScope ["_law_links", "_law_one", "_law_other"] ["_law_links"] (defScope (top 49)) := ⟨rfl, rfl, rfl, by decide +kernel, rfl, by decide +kernel, by decide +kernel⟩
theorem ok__law_d_links_lines {P : Program} {w : World} {K : PySem.W.Frag} {mg : PySem.Str → Option Value} {base : Heap} (fx : Fx P w K mg base)  {fd : FuncData} (F : FunD K "_law_d_links_lines" "_law_d_links_lines" (defArgs (top 49)) (defBody (top 49)) (defScope (top 49)) [] [] (He.ga K "_law_d_links_lines") fd) : DefOk P w K mg base (clK K) "_law_d_links_lines" 1 1 false g__law_d_links_lines := by
  refine ⟨_, fd, ["_law_links"], fx.gl__law_d_links_lines, F.kp, F.bindsN (fun _ _ _ _ _ _ us hl => match us, hl with | [_], _ => rfl), fn_dl (k := 0) F S__law_d_links_lines rfl fun cdv A outer s H E c W hr hcl tk => ?_⟩
  have nd := (S__law_d_links_lines).nd
  have hu := hu64_of hr
  have hu1 := hu01_of hr
  have hp : PassesOwn (model P w) (cxOf (L2.CX P w) P w K mg base ["_law_links", "_law_one", "_law_other"] "_law_d_links_lines" (defScope (top 49)) (He.ga K "_law_d_links_lines") cdv A outer s H E).A (cxOf (L2.CX P w) P w K mg base ["_law_links", "_law_one", "_law_other"] "_law_d_links_lines" (defScope (top 49)) (He.ga K "_law_d_links_lines") cdv A outer s H E).env (cxOf (L2.CX P w) P w K mg base ["_law_links", "_law_one", "_law_other"] "_law_d_links_lines" (defScope (top 49)) (He.ga K "_law_d_links_lines") cdv A outer s H E).xe := passes_of rfl
  exact (ds_cons (ds_ret (dn (dn_lc (own := [("_law_one", 1), ("_law_other", 2)]) rfl nd (di_any (df_var (pv 0))) (blkOk_by (by kernel_rfl)) (fun _ _ _ _ _ => (dg_tup (n := 2) rfl rfl (dgs_cons (dg_name (vs := [1, 2]) (by decide) (pg_name (i := 1) nd rfl (by first | exact .inl rfl | exact .inr rfl))) (dgs_cons (dg_name (vs := [1, 2]) (by decide) (pg_name (i := 2) nd rfl (by first | exact .inl rfl | exact .inr rfl))) dgs_nil)))) (fun _ _ _ _ _ => dts_nil) (fun _ _ _ _ _ => (df_op op_add_data (dv (df_op op_add_data (dv (df_op op_add_data (dv df_str) (dv (df_var (pv 1))))) (dv df_str))) (dv (df_var (pv 2))))))))
  ds_nil)
theorem S__law_bent_line : FnScope ["_law_stream", "_law_line", "_law_at", "_law_some", "_law_words", "_law_way", "_law_place", "_law_sign"] ["_law_stream", "_law_line"] (defScope (top 66)) := ⟨rfl, rfl, rfl, by decide +kernel, rfl, by decide +kernel, by decide +kernel⟩
theorem ok__law_bent_line {P : Program} {w : World} {K : PySem.W.Frag} {mg : PySem.Str → Option Value} {base : Heap} (fx : Fx P w K mg base) (D__law_draw : DefOk P w K mg base (clK K) "_law_draw" 1 1 true g__law_draw) (D__law_pick : DefOk P w K mg base (clK K) "_law_pick" 2 1 true g__law_pick) {fd : FuncData} (F : FunD K "_law_bent_line" "_law_bent_line" (defArgs (top 66)) (defBody (top 66)) (defScope (top 66)) [] [] (He.ga K "_law_bent_line") fd) : DefOk P w K mg base (clK K) "_law_bent_line" 3 1 true g__law_bent_line := by
  refine ⟨_, fd, ["_law_stream", "_law_line"], fx.gl__law_bent_line, F.kp, F.bindsN (fun _ _ _ _ _ _ us hl => match us, hl with | [_, _], _ => rfl), fn_dl (k := 2) F S__law_bent_line rfl fun cdv A outer s H E c W hr hcl tk => ?_⟩
  have nd := (S__law_bent_line).nd
  have hu := hu64_of hr
  have hu1 := hu01_of hr
  have hp : PassesOwn (model P w) (cxOf (L2.CX P w) P w K mg base ["_law_stream", "_law_line", "_law_at", "_law_some", "_law_words", "_law_way", "_law_place", "_law_sign"] "_law_bent_line" (defScope (top 66)) (He.ga K "_law_bent_line") cdv A outer s H E).A (cxOf (L2.CX P w) P w K mg base ["_law_stream", "_law_line", "_law_at", "_law_some", "_law_words", "_law_way", "_law_place", "_law_sign"] "_law_bent_line" (defScope (top 66)) (He.ga K "_law_bent_line") cdv A outer s H E).env (cxOf (L2.CX P w) P w K mg base ["_law_stream", "_law_line", "_law_at", "_law_some", "_law_words", "_law_way", "_law_place", "_law_sign"] "_law_bent_line" (defScope (top 66)) (He.ga K "_law_bent_line") cdv A outer s H E).xe := passes_of rfl
  exact (ds_cons (ds_par2 rfl rfl nd rfl rfl (by decide) rfl rfl (pa_cons (df_split (df_var (pv 1)) (dv df_str)) (pa_cons (df_callSD D__law_draw hcl tk hr (by omega) rfl (pv 0) (daf_cons df_int daf_nil)) pa_nil)))
  (ds_cons (ds_set (ps_set (i := 2) nd rfl (by first | exact .inl rfl | exact .inr rfl) (df_callSD D__law_draw hcl tk hr (by omega) rfl (pv 0) (daf_cons (df_callB c_len rfl fx.g_len bt_len (dav_cons (dv (df_var (pv 4))) dav_nil)) daf_nil))) fun _ _ _ q => q)
  (ds_cons (ds_set (ps_set (i := 3) nd rfl (by first | exact .inl rfl | exact .inr rfl) (dn (dn_lst (daf_cons df_str (daf_cons df_str (daf_cons df_str (daf_cons df_str (daf_cons df_str (daf_cons df_str (daf_cons df_str (daf_cons df_str (daf_cons (df_op op_mulX_data (dv df_str) (dv df_int)) (daf_cons (df_op op_mulX_data (dv df_str) (dv df_int)) (daf_cons df_str (daf_cons df_str (daf_cons df_str (daf_cons df_str (daf_cons df_str (daf_cons (df_op op_mulX_data (dv df_str) (dv df_int)) daf_nil))))))))))))))))))) fun _ _ _ q => q)
  (ds_cons (ds_if (dt_cmp (op_eq_data hu) (dv (df_var (pv 5))) (dv df_int) (nomark _)) (ds_cons (ds_ret (df_join df_str (dv (df_op op_add_data (dv (df_op op_add_data (dv (df_sl (dv (df_var (pv 4))) do_none (do_some (dv (df_var (pv 2)))))) (dv (dn (dn_lst (daf_cons (df_callSD D__law_pick hcl tk hr (by omega) rfl (pv 0) (daf_cons (df_var (pv 3)) daf_nil)) daf_nil)))))) (dv (df_sl (dv (df_var (pv 4))) (do_some (dv (df_op op_add_data (dv (df_var (pv 2))) (dv df_int)))) do_none))))))
  ds_nil) ds_nil)
  (ds_cons (ds_if (dt_cmp (op_eq_data hu) (dv (df_var (pv 5))) (dv df_int) (nomark _)) (ds_cons (ds_ret (df_join df_str (dv (df_op op_add_data (dv (df_sl (dv (df_var (pv 4))) do_none (do_some (dv (df_var (pv 2)))))) (dv (df_sl (dv (df_var (pv 4))) (do_some (dv (df_op op_add_data (dv (df_var (pv 2))) (dv df_int)))) do_none))))))
  ds_nil) ds_nil)
  (ds_cons (ds_if (dt_cmp (op_eq_data hu) (dv (df_var (pv 5))) (dv df_int) (nomark _)) (ds_cons (ds_ret (df_join df_str (dv (df_op op_add_data (dv (df_op op_add_data (dv (df_sl (dv (df_var (pv 4))) do_none (do_some (dv (df_var (pv 2)))))) (dv (dn (dn_lst (daf_cons (df_ix (ix_data hu1) (dv (df_var (pv 4))) (dv (df_var (pv 2))) (fun _ _ => rfl)) (daf_cons (df_ix (ix_data hu1) (dv (df_var (pv 4))) (dv (df_var (pv 2))) (fun _ _ => rfl)) daf_nil))))))) (dv (df_sl (dv (df_var (pv 4))) (do_some (dv (df_op op_add_data (dv (df_var (pv 2))) (dv df_int)))) do_none))))))
  ds_nil) ds_nil)
  (ds_cons (ds_if (dt_cmp (op_eq_data hu) (dv (df_var (pv 5))) (dv df_int) (nomark _)) (ds_cons (ds_ret (df_join df_str (dv (df_op op_add_data (dv (df_op op_add_data (dv (df_sl (dv (df_var (pv 4))) do_none (do_some (dv (df_var (pv 2)))))) (dv (dn (dn_lst (daf_cons (df_callSD D__law_pick hcl tk hr (by omega) rfl (pv 0) (daf_cons (df_var (pv 4)) daf_nil)) daf_nil)))))) (dv (df_sl (dv (df_var (pv 4))) (do_some (dv (df_op op_add_data (dv (df_var (pv 2))) (dv df_int)))) do_none))))))
  ds_nil) ds_nil)
  (ds_cons (ds_par2 rfl rfl nd rfl rfl (by decide) rfl rfl (pa_cons (df_callSD D__law_draw hcl tk hr (by omega) rfl (pv 0) (daf_cons (df_op op_add_data (dv (df_callB c_len rfl fx.g_len bt_len (dav_cons (dv (df_var (pv 1))) dav_nil))) (dv df_int)) daf_nil)) (pa_cons (df_callSD D__law_pick hcl tk hr (by omega) rfl (pv 0) (daf_cons (dn (dn_lst (daf_cons df_str (daf_cons df_str (daf_cons df_str (daf_cons df_str (daf_cons df_str (daf_cons df_str (daf_cons df_str (daf_cons df_str daf_nil)))))))))) daf_nil)) pa_nil)))
  (ds_cons (ds_ret (df_op op_add_data (dv (df_op op_add_data (dv (df_sl (dv (df_var (pv 1))) do_none (do_some (dv (df_var (pv 6)))))) (dv (df_var (pv 7))))) (dv (df_sl (dv (df_var (pv 1))) (do_some (dv (df_op op_add_data (dv (df_var (pv 6))) (dv (df_callSD D__law_draw hcl tk hr (by omega) rfl (pv 0) (daf_cons df_int daf_nil)))))) do_none))))
  ds_nil)))))))))
theorem S__law_bent : FnScope ["_law_stream", "_law_lines", "_law_some", "_law_at", "_law_way"] ["_law_stream", "_law_lines"] (defScope (top 67)) := ⟨rfl, rfl, rfl, by decide +kernel, rfl, by decide +kernel, by decide +kernel⟩
theorem ok__law_bent {P : Program} {w : World} {K : PySem.W.Frag} {mg : PySem.Str → Option Value} {base : Heap} (fx : Fx P w K mg base) (D__law_draw : DefOk P w K mg base (clK K) "_law_draw" 1 1 true g__law_draw) (D__law_bent_line : DefOk P w K mg base (clK K) "_law_bent_line" 3 1 true g__law_bent_line) (D__law_pick : DefOk P w K mg base (clK K) "_law_pick" 2 1 true g__law_pick) {fd : FuncData} (F : FunD K "_law_bent" "_law_bent" (defArgs (top 67)) (defBody (top 67)) (defScope (top 67)) [] [] (He.ga K "_law_bent") fd) : DefOk P w K mg base (clK K) "_law_bent" 4 1 true g__law_bent := by
  refine ⟨_, fd, ["_law_stream", "_law_lines"], fx.gl__law_bent, F.kp, F.bindsN (fun _ _ _ _ _ _ us hl => match us, hl with | [_, _], _ => rfl), fn_dl (k := 3) F S__law_bent rfl fun cdv A outer s H E c W hr hcl tk => ?_⟩
  have nd := (S__law_bent).nd
  have hu := hu64_of hr
  have hu1 := hu01_of hr
  have hp : PassesOwn (model P w) (cxOf (L2.CX P w) P w K mg base ["_law_stream", "_law_lines", "_law_some", "_law_at", "_law_way"] "_law_bent" (defScope (top 67)) (He.ga K "_law_bent") cdv A outer s H E).A (cxOf (L2.CX P w) P w K mg base ["_law_stream", "_law_lines", "_law_some", "_law_at", "_law_way"] "_law_bent" (defScope (top 67)) (He.ga K "_law_bent") cdv A outer s H E).env (cxOf (L2.CX P w) P w K mg base ["_law_stream", "_law_lines", "_law_some", "_law_at", "_law_way"] "_law_bent" (defScope (top 67)) (He.ga K "_law_bent") cdv A outer s H E).xe := passes_of rfl
  exact (ds_cons (ds_par2 rfl rfl nd rfl rfl (by decide) rfl rfl (pa_cons (df_callSD D__law_draw hcl tk hr (by omega) rfl (pv 0) (daf_cons (df_op op_add_data (dv (df_callB c_len rfl fx.g_len bt_len (dav_cons (dv (df_var (pv 1))) dav_nil))) (dv df_int)) daf_nil)) (pa_cons (df_callSD D__law_draw hcl tk hr (by omega) rfl (pv 0) (daf_cons df_int daf_nil)) pa_nil)))
  (ds_cons (ds_set (ps_set (i := 2) nd rfl (by first | exact .inl rfl | exact .inr rfl) (dn (dn_lst (daf_cons df_str (daf_cons df_str (daf_cons df_str (daf_cons df_str (daf_cons df_str (daf_cons df_str (daf_cons df_str (daf_cons df_str (daf_cons df_str (daf_cons df_str (daf_cons df_str daf_nil)))))))))))))) fun _ _ _ q => q)
  (ds_cons (ds_if (dt_pw (dw_or (dt_cmp (op_eq_data hu) (dv (df_var (pv 4))) (dv df_int) (nomark _)) (dw_or1 (dt_cmp (op_eq_data hu) (dv (df_var (pv 3))) (dv (df_callB c_len rfl fx.g_len bt_len (dav_cons (dv (df_var (pv 1))) dav_nil))) (nomark _))))) (ds_cons (ds_ret (df_op op_add_data (dv (df_op op_add_data (dv (df_sl (dv (df_var (pv 1))) do_none (do_some (dv (df_var (pv 3)))))) (dv (dn (dn_lst (daf_cons (df_callSD D__law_pick hcl tk hr (by omega) rfl (pv 0) (daf_cons (df_var (pv 2)) daf_nil)) daf_nil)))))) (dv (df_sl (dv (df_var (pv 1))) (do_some (dv (df_var (pv 3)))) do_none))))
  ds_nil) ds_nil)
  (ds_cons (ds_if (dt_cmp (op_eq_data hu) (dv (df_var (pv 4))) (dv df_int) (nomark _)) (ds_cons (ds_ret (df_op op_add_data (dv (df_sl (dv (df_var (pv 1))) do_none (do_some (dv (df_var (pv 3)))))) (dv (df_sl (dv (df_var (pv 1))) (do_some (dv (df_op op_add_data (dv (df_var (pv 3))) (dv df_int)))) do_none))))
  ds_nil) ds_nil)
  (ds_cons (ds_if (dt_cmp (op_eq_data hu) (dv (df_var (pv 4))) (dv df_int) (nomark _)) (ds_cons (ds_ret (df_op op_add_data (dv (df_op op_add_data (dv (df_sl (dv (df_var (pv 1))) do_none (do_some (dv (df_var (pv 3)))))) (dv (df_sl (dv (df_var (pv 1))) (do_some (dv (df_var (pv 3)))) (do_some (dv (df_op op_add_data (dv (df_var (pv 3))) (dv df_int)))))))) (dv (df_sl (dv (df_var (pv 1))) (do_some (dv (df_var (pv 3)))) do_none))))
  ds_nil) ds_nil)
  (ds_cons (ds_ret (df_op op_add_data (dv (df_op op_add_data (dv (df_sl (dv (df_var (pv 1))) do_none (do_some (dv (df_var (pv 3)))))) (dv (dn (dn_lst (daf_cons (df_callSD D__law_bent_line hcl tk hr (by omega) rfl (pv 0) (daf_cons (df_ix (ix_data hu1) (dv (df_var (pv 1))) (dv (df_var (pv 3))) (fun _ _ => rfl)) daf_nil)) daf_nil)))))) (dv (df_sl (dv (df_var (pv 1))) (do_some (dv (df_op op_add_data (dv (df_var (pv 3))) (dv df_int)))) do_none))))
  ds_nil))))))
theorem S__law_d_text : FnScope ["_law_lines", "_law_line"] ["_law_lines"] (defScope (top 50)) := ⟨rfl, rfl, rfl, by decide +kernel, rfl, by decide +kernel, by decide +kernel⟩
theorem ok__law_d_text {P : Program} {w : World} {K : PySem.W.Frag} {mg : PySem.Str → Option Value} {base : Heap} (fx : Fx P w K mg base)  {fd : FuncData} (F : FunD K "_law_d_text" "_law_d_text" (defArgs (top 50)) (defBody (top 50)) (defScope (top 50)) [] [] (He.ga K "_law_d_text") fd) : DefOk P w K mg base (clK K) "_law_d_text" 1 1 false g__law_d_text := by
  refine ⟨_, fd, ["_law_lines"], fx.gl__law_d_text, F.kp, F.bindsN (fun _ _ _ _ _ _ us hl => match us, hl with | [_], _ => rfl), fn_dl (k := 0) F S__law_d_text rfl fun cdv A outer s H E c W hr hcl tk => ?_⟩
  have nd := (S__law_d_text).nd
  have hu := hu64_of hr
  have hu1 := hu01_of hr
  have hp : PassesOwn (model P w) (cxOf (L2.CX P w) P w K mg base ["_law_lines", "_law_line"] "_law_d_text" (defScope (top 50)) (He.ga K "_law_d_text") cdv A outer s H E).A (cxOf (L2.CX P w) P w K mg base ["_law_lines", "_law_line"] "_law_d_text" (defScope (top 50)) (He.ga K "_law_d_text") cdv A outer s H E).env (cxOf (L2.CX P w) P w K mg base ["_law_lines", "_law_line"] "_law_d_text" (defScope (top 50)) (He.ga K "_law_d_text") cdv A outer s H E).xe := passes_of rfl
  exact (ds_cons (ds_ret (df_join df_str (dv (dn (dn_lc (own := [("_law_line", 1)]) rfl nd (di_any (df_var (pv 0))) (blkOk_by (by kernel_rfl)) (fun _ _ _ _ _ => (dg_name (vs := [1]) (by decide) (pg_name (i := 1) nd rfl (by first | exact .inl rfl | exact .inr rfl)))) (fun _ _ _ _ _ => dts_nil) (fun _ _ _ _ _ => (df_op op_add_data (dv (df_var (pv 1))) (dv df_str))))))))
  ds_nil)
end K88

set_option Elab.async false
set_option linter.all false
set_option maxRecDepth 100000
set_option maxHeartbeats 0
namespace K88
open PySem PySem.Spec PyProof.Rows L2 XH EX DL RZ NdefX
theorem S__law_is_name_word : FnScope ["_law_word", "_law_signs", "_law_sign"] ["_law_word"] (defScope (top 58)) := ⟨rfl, rfl, rfl, by decide +kernel, rfl, by decide +kernel, by decide +kernel⟩
theorem ok__law_is_name_word {P : Program} {w : World} {K : PySem.W.Frag} {mg : PySem.Str → Option Value} {base : Heap} (fx : Fx P w K mg base)  {fd : FuncData} (F : FunD K "_law_is_name_word" "_law_is_name_word" (defArgs (top 58)) (defBody (top 58)) (defScope (top 58)) [] [] (He.ga K "_law_is_name_word") fd) : DefOk P w K mg base (clK K) "_law_is_name_word" 1 1 false g__law_is_name_word := by
  refine ⟨_, fd, ["_law_word"], fx.gl__law_is_name_word, F.kp, F.bindsN (fun _ _ _ _ _ _ us hl => match us, hl with | [_], _ => rfl), fn_dl (k := 0) F S__law_is_name_word rfl fun cdv A outer s H E c W hr hcl tk => ?_⟩
  have nd := (S__law_is_name_word).nd
  have hu := hu64_of hr
  have hu1 := hu01_of hr
  have hp : PassesOwn (model P w) (cxOf (L2.CX P w) P w K mg base ["_law_word", "_law_signs", "_law_sign"] "_law_is_name_word" (defScope (top 58)) (He.ga K "_law_is_name_word") cdv A outer s H E).A (cxOf (L2.CX P w) P w K mg base ["_law_word", "_law_signs", "_law_sign"] "_law_is_name_word" (defScope (top 58)) (He.ga K "_law_is_name_word") cdv A outer s H E).env (cxOf (L2.CX P w) P w K mg base ["_law_word", "_law_signs", "_law_sign"] "_law_is_name_word" (defScope (top 58)) (He.ga K "_law_is_name_word") cdv A outer s H E).xe := passes_of rfl
  exact (ds_cons (ds_set (ps_set (i := 1) nd rfl (by first | exact .inl rfl | exact .inr rfl) df_str) fun _ _ _ q => q)
  (ds_cons (ds_ret (df_and (dv (df_chain op_lt_data op_le_data (dv df_int) (dv (df_callB c_len rfl fx.g_len bt_len (dav_cons (dv (df_var (pv 0))) dav_nil))) (dv df_int))) (df_one (df_callB (c_all rfl) rfl fx.g_all bt_all (dav_cons (dv (dn (dn_lc (own := [("_law_sign", 2)]) rfl nd (di_any (df_var (pv 0))) (blkOk_by (by kernel_rfl)) (fun _ _ _ _ _ => (dg_name (vs := [2]) (by decide) (pg_name (i := 2) nd rfl (by first | exact .inl rfl | exact .inr rfl)))) (fun _ _ _ _ _ => dts_nil) (fun _ _ _ _ _ => (df_cmp (op_in_data hu) (dv (df_var (pv 2))) (dv (df_var (pv 1))) (by with_unfolding_all rfl)))))) dav_nil)))))
  ds_nil))
theorem S__law_are_names : FnScope ["_law_words", "_law_word"] ["_law_words"] (defScope (top 60)) := ⟨rfl, rfl, rfl, by decide +kernel, rfl, by decide +kernel, by decide +kernel⟩
theorem ok__law_are_names {P : Program} {w : World} {K : PySem.W.Frag} {mg : PySem.Str → Option Value} {base : Heap} (fx : Fx P w K mg base) (D__law_is_name_word : DefOk P w K mg base (clK K) "_law_is_name_word" 1 1 false g__law_is_name_word) {fd : FuncData} (F : FunD K "_law_are_names" "_law_are_names" (defArgs (top 60)) (defBody (top 60)) (defScope (top 60)) [] [] (He.ga K "_law_are_names") fd) : DefOk P w K mg base (clK K) "_law_are_names" 2 1 false g__law_are_names := by
  refine ⟨_, fd, ["_law_words"], fx.gl__law_are_names, F.kp, F.bindsN (fun _ _ _ _ _ _ us hl => match us, hl with | [_], _ => rfl), fn_dl (k := 1) F S__law_are_names rfl fun cdv A outer s H E c W hr hcl tk => ?_⟩
  have nd := (S__law_are_names).nd
  have hu := hu64_of hr
  have hu1 := hu01_of hr
  have hp : PassesOwn (model P w) (cxOf (L2.CX P w) P w K mg base ["_law_words", "_law_word"] "_law_are_names" (defScope (top 60)) (He.ga K "_law_are_names") cdv A outer s H E).A (cxOf (L2.CX P w) P w K mg base ["_law_words", "_law_word"] "_law_are_names" (defScope (top 60)) (He.ga K "_law_are_names") cdv A outer s H E).env (cxOf (L2.CX P w) P w K mg base ["_law_words", "_law_word"] "_law_are_names" (defScope (top 60)) (He.ga K "_law_are_names") cdv A outer s H E).xe := passes_of rfl
  exact (ds_cons (ds_ret (df_and (dv (df_callB (c_all rfl) rfl fx.g_all bt_all (dav_cons (dv (dn (dn_lc (own := [("_law_word", 1)]) rfl nd (di_any (df_var (pv 0))) (blkOk_by (by kernel_rfl)) (fun _ _ _ _ _ => (dg_name (vs := [1]) (by decide) (pg_name (i := 1) nd rfl (by first | exact .inl rfl | exact .inr rfl)))) (fun _ _ _ _ _ => dts_nil) (fun _ _ _ _ _ => (df_callD D__law_is_name_word hcl takes0 hr (by omega) rfl (daf_cons (df_var (pv 1)) daf_nil)))))) dav_nil))) (df_one (df_cmp (op_eq_data hu) (dv (df_lenSet rfl rfl fx.g_len rfl fx.g_set (dv (df_var (pv 0))))) (dv (df_callB c_len rfl fx.g_len bt_len (dav_cons (dv (df_var (pv 0))) dav_nil))) (nomark _)))))
  ds_nil)
theorem S__law_is_number_word : FnScope ["_law_word", "_law_figures", "_law_sign"] ["_law_word"] (defScope (top 59)) := ⟨rfl, rfl, rfl, by decide +kernel, rfl, by decide +kernel, by decide +kernel⟩
theorem ok__law_is_number_word {P : Program} {w : World} {K : PySem.W.Frag} {mg : PySem.Str → Option Value} {base : Heap} (fx : Fx P w K mg base)  {fd : FuncData} (F : FunD K "_law_is_number_word" "_law_is_number_word" (defArgs (top 59)) (defBody (top 59)) (defScope (top 59)) [] [] (He.ga K "_law_is_number_word") fd) : DefOk P w K mg base (clK K) "_law_is_number_word" 1 1 false g__law_is_number_word := by
  refine ⟨_, fd, ["_law_word"], fx.gl__law_is_number_word, F.kp, F.bindsN (fun _ _ _ _ _ _ us hl => match us, hl with | [_], _ => rfl), fn_dl (k := 0) F S__law_is_number_word rfl fun cdv A outer s H E c W hr hcl tk => ?_⟩
  have nd := (S__law_is_number_word).nd
  have hu := hu64_of hr
  have hu1 := hu01_of hr
  have hp : PassesOwn (model P w) (cxOf (L2.CX P w) P w K mg base ["_law_word", "_law_figures", "_law_sign"] "_law_is_number_word" (defScope (top 59)) (He.ga K "_law_is_number_word") cdv A outer s H E).A (cxOf (L2.CX P w) P w K mg base ["_law_word", "_law_figures", "_law_sign"] "_law_is_number_word" (defScope (top 59)) (He.ga K "_law_is_number_word") cdv A outer s H E).env (cxOf (L2.CX P w) P w K mg base ["_law_word", "_law_figures", "_law_sign"] "_law_is_number_word" (defScope (top 59)) (He.ga K "_law_is_number_word") cdv A outer s H E).xe := passes_of rfl
  exact (ds_cons (ds_set (ps_set (i := 1) nd rfl (by first | exact .inl rfl | exact .inr rfl) (df_if (dt_cmp (op_eq_data hu) (dv (df_sl (dv (df_var (pv 0))) do_none (do_some (dv df_int)))) (dv df_str) (nomark _)) (df_sl (dv (df_var (pv 0))) (do_some (dv df_int)) do_none) (df_var (pv 0)))) fun _ _ _ q => q)
  (ds_cons (ds_if (dt_pw (dw_or (dt_not (dt_chain op_lt_data op_lt_data (dv df_int) (dv (df_callB c_len rfl fx.g_len bt_len (dav_cons (dv (df_var (pv 1))) dav_nil))) (dv df_int))) (dw_or1 (dt_not (dt_val (dv (df_callB (c_all rfl) rfl fx.g_all bt_all (dav_cons (dv (dn (dn_lc (own := [("_law_sign", 2)]) rfl nd (di_any (df_var (pv 1))) (blkOk_by (by kernel_rfl)) (fun _ _ _ _ _ => (dg_name (vs := [2]) (by decide) (pg_name (i := 2) nd rfl (by first | exact .inl rfl | exact .inr rfl)))) (fun _ _ _ _ _ => dts_nil) (fun _ _ _ _ _ => (df_cmp (op_in_data hu) (dv (df_var (pv 2))) (dv df_str) (by with_unfolding_all rfl)))))) dav_nil)))))))) (ds_cons (ds_ret df_bl)
  ds_nil) ds_nil)
  (ds_cons (ds_ret (df_or (dv (df_cmp (op_eq_data hu) (dv (df_var (pv 0))) (dv df_str) (nomark _))) (df_one (df_cmp (op_neX_data hu) (dv (df_ix (ix_data hu1) (dv (df_var (pv 1))) (dv df_int) (fun _ _ => rfl))) (dv df_str) (nomark _)))))
  ds_nil)))
theorem S__law_is_table : FnScope ["_law_rows", "_law_row", "_law_word"] ["_law_rows"] (defScope (top 61)) := ⟨rfl, rfl, rfl, by decide +kernel, rfl, by decide +kernel, by decide +kernel⟩
theorem ok__law_is_table {P : Program} {w : World} {K : PySem.W.Frag} {mg : PySem.Str → Option Value} {base : Heap} (fx : Fx P w K mg base) (D__law_are_names : DefOk P w K mg base (clK K) "_law_are_names" 2 1 false g__law_are_names) (D__law_is_number_word : DefOk P w K mg base (clK K) "_law_is_number_word" 1 1 false g__law_is_number_word) {fd : FuncData} (F : FunD K "_law_is_table" "_law_is_table" (defArgs (top 61)) (defBody (top 61)) (defScope (top 61)) [] [] (He.ga K "_law_is_table") fd) : DefOk P w K mg base (clK K) "_law_is_table" 3 1 false g__law_is_table := by
  refine ⟨_, fd, ["_law_rows"], fx.gl__law_is_table, F.kp, F.bindsN (fun _ _ _ _ _ _ us hl => match us, hl with | [_], _ => rfl), fn_dl (k := 2) F S__law_is_table rfl fun cdv A outer s H E c W hr hcl tk => ?_⟩
  have nd := (S__law_is_table).nd
  have hu := hu64_of hr
  have hu1 := hu01_of hr
  have hp : PassesOwn (model P w) (cxOf (L2.CX P w) P w K mg base ["_law_rows", "_law_row", "_law_word"] "_law_is_table" (defScope (top 61)) (He.ga K "_law_is_table") cdv A outer s H E).A (cxOf (L2.CX P w) P w K mg base ["_law_rows", "_law_row", "_law_word"] "_law_is_table" (defScope (top 61)) (He.ga K "_law_is_table") cdv A outer s H E).env (cxOf (L2.CX P w) P w K mg base ["_law_rows", "_law_row", "_law_word"] "_law_is_table" (defScope (top 61)) (He.ga K "_law_is_table") cdv A outer s H E).xe := passes_of rfl
  exact (ds_cons (ds_if (dt_pw (dw_or (dt_cmp op_lt_data (dv (df_callB c_len rfl fx.g_len bt_len (dav_cons (dv (df_var (pv 0))) dav_nil))) (dv df_int) (nomark _)) (dw_or (dt_cmp (op_neX_data hu) (dv (df_ix (ix_data hu1) (dv (df_ix (ix_data hu1) (dv (df_var (pv 0))) (dv df_int) (fun _ _ => rfl))) (dv df_int) (fun _ _ => rfl))) (dv df_str) (nomark _)) (dw_or (dt_cmp op_lt_data (dv (df_callB c_len rfl fx.g_len bt_len (dav_cons (dv (df_ix (ix_data hu1) (dv (df_var (pv 0))) (dv df_int) (fun _ _ => rfl))) dav_nil))) (dv df_int) (nomark _)) (dw_or1 (dt_not (dt_val (dv (df_callD D__law_are_names hcl tk hr (by omega) rfl (daf_cons (df_sl (dv (df_ix (ix_data hu1) (dv (df_var (pv 0))) (dv df_int) (fun _ _ => rfl))) (do_some (dv df_int)) do_none) daf_nil)))))))))) (ds_cons (ds_ret df_bl)
  ds_nil) ds_nil)
  (ds_cons (ds_for (ps_for hp rfl (di_any (df_sl (dv (df_var (pv 0))) (do_some (dv df_int)) do_none)) (dg_name (vs := [1]) (by decide) (pg_name (i := 1) nd rfl (by first | exact .inl rfl | exact .inr rfl))) (ds_cons (ds_if (dt_pw (dw_or (dt_cmp (op_neX_data hu) (dv (df_ix (ix_data hu1) (dv (df_var (pv 1))) (dv df_int) (fun _ _ => rfl))) (dv df_str) (nomark _)) (dw_or (dt_cmp (op_neX_data hu) (dv (df_callB c_len rfl fx.g_len bt_len (dav_cons (dv (df_var (pv 1))) dav_nil))) (dv (df_callB c_len rfl fx.g_len bt_len (dav_cons (dv (df_ix (ix_data hu1) (dv (df_var (pv 0))) (dv df_int) (fun _ _ => rfl))) dav_nil))) (nomark _)) (dw_or1 (dt_not (dt_val (dv (df_callB (c_all rfl) rfl fx.g_all bt_all (dav_cons (dv (dn (dn_lc (own := [("_law_word", 2)]) rfl nd (di_any (df_sl (dv (df_var (pv 1))) (do_some (dv df_int)) do_none)) (blkOk_by (by kernel_rfl)) (fun _ _ _ _ _ => (dg_name (vs := [2]) (by decide) (pg_name (i := 2) nd rfl (by first | exact .inl rfl | exact .inr rfl)))) (fun _ _ _ _ _ => dts_nil) (fun _ _ _ _ _ => (df_callD D__law_is_number_word hcl takes0 hr (by omega) rfl (daf_cons (df_var (pv 2)) daf_nil)))))) dav_nil))))))))) (ds_cons (ds_ret df_bl)
  ds_nil) ds_nil)
  ds_nil)) (fun _ _ _ _ q => q) (fun _ _ _ q => q))
  (ds_cons (ds_ret df_bl)
  ds_nil)))
theorem S__law_are_hands : FnScope ["_law_rows", "_law_names_here", "_law_row"] ["_law_rows"] (defScope (top 62)) := ⟨rfl, rfl, rfl, by decide +kernel, rfl, by decide +kernel, by decide +kernel⟩
theorem ok__law_are_hands {P : Program} {w : World} {K : PySem.W.Frag} {mg : PySem.Str → Option Value} {base : Heap} (fx : Fx P w K mg base) (D__law_are_names : DefOk P w K mg base (clK K) "_law_are_names" 2 1 false g__law_are_names) {fd : FuncData} (F : FunD K "_law_are_hands" "_law_are_hands" (defArgs (top 62)) (defBody (top 62)) (defScope (top 62)) [] [] (He.ga K "_law_are_hands") fd) : DefOk P w K mg base (clK K) "_law_are_hands" 3 1 false g__law_are_hands := by
  refine ⟨_, fd, ["_law_rows"], fx.gl__law_are_hands, F.kp, F.bindsN (fun _ _ _ _ _ _ us hl => match us, hl with | [_], _ => rfl), fn_dl (k := 2) F S__law_are_hands rfl fun cdv A outer s H E c W hr hcl tk => ?_⟩
  have nd := (S__law_are_hands).nd
  have hu := hu64_of hr
  have hu1 := hu01_of hr
  have hp : PassesOwn (model P w) (cxOf (L2.CX P w) P w K mg base ["_law_rows", "_law_names_here", "_law_row"] "_law_are_hands" (defScope (top 62)) (He.ga K "_law_are_hands") cdv A outer s H E).A (cxOf (L2.CX P w) P w K mg base ["_law_rows", "_law_names_here", "_law_row"] "_law_are_hands" (defScope (top 62)) (He.ga K "_law_are_hands") cdv A outer s H E).env (cxOf (L2.CX P w) P w K mg base ["_law_rows", "_law_names_here", "_law_row"] "_law_are_hands" (defScope (top 62)) (He.ga K "_law_are_hands") cdv A outer s H E).xe := passes_of rfl
  exact (ds_cons (ds_set (ps_setLc (i := 1) (own := [("_law_row", 2)]) rfl nd rfl rfl (sw_true rfl rfl rfl rfl) (di_any (df_var (pv 0))) (blkOk_by (by kernel_rfl)) (fun _ _ _ _ _ => (dg_name (vs := [2]) (by decide) (pg_name (i := 2) nd rfl (by first | exact .inl rfl | exact .inr rfl)))) (fun _ _ _ _ _ => (dts_one (dt_cmp op_gt_data (dv (df_callB c_len rfl fx.g_len bt_len (dav_cons (dv (df_var (pv 2))) dav_nil))) (dv df_int) (nomark _)))) (fun _ _ _ _ _ => (df_ix (ix_data hu1) (dv (df_var (pv 2))) (dv df_int) (fun _ _ => rfl)))) fun _ _ _ q => lc_to (tn_tf q))
  (ds_cons (ds_if (dt_pw (dw_or (dt_cmp (op_eq_data hu) (dv (df_var (pv 0))) (dv (dn (dn_lst daf_nil))) (nomark _)) (dw_or (dt_cmp (op_neX_data hu) (dv (df_callB c_len rfl fx.g_len bt_len (dav_cons (dv (df_var (pv 1))) dav_nil))) (dv (df_callB c_len rfl fx.g_len bt_len (dav_cons (dv (df_var (pv 0))) dav_nil))) (nomark _)) (dw_or1 (dt_not (dt_val (dv (df_callD D__law_are_names hcl tk hr (by omega) rfl (daf_cons (df_var (pv 1)) daf_nil))))))))) (ds_cons (ds_ret df_bl)
  ds_nil) ds_nil)
  (ds_cons (ds_ret (df_callB (c_all rfl) rfl fx.g_all bt_all (dav_cons (dv (dn (dn_lc (own := [("_law_row", 2)]) rfl nd (di_any (df_var (pv 0))) (blkOk_by (by kernel_rfl)) (fun _ _ _ _ _ => (dg_name (vs := [2]) (by decide) (pg_name (i := 2) nd rfl (by first | exact .inl rfl | exact .inr rfl)))) (fun _ _ _ _ _ => dts_nil) (fun _ _ _ _ _ => (df_and (dv (df_cmp (op_eq_data hu) (dv (df_ix (ix_data hu1) (dv (df_var (pv 2))) (dv df_int) (fun _ _ => rfl))) (dv df_str) (nomark _))) (df_one (df_callD D__law_are_names hcl takes0 hr (by omega) rfl (daf_cons (df_sl (dv (df_var (pv 2))) (do_some (dv df_int)) do_none) daf_nil)))))))) dav_nil)))
  ds_nil)))
theorem S__law_are_links : FnScope ["_law_rows", "_law_row"] ["_law_rows"] (defScope (top 63)) := ⟨rfl, rfl, rfl, by decide +kernel, rfl, by decide +kernel, by decide +kernel⟩
theorem ok__law_are_links {P : Program} {w : World} {K : PySem.W.Frag} {mg : PySem.Str → Option Value} {base : Heap} (fx : Fx P w K mg base) (D__law_are_names : DefOk P w K mg base (clK K) "_law_are_names" 2 1 false g__law_are_names) {fd : FuncData} (F : FunD K "_law_are_links" "_law_are_links" (defArgs (top 63)) (defBody (top 63)) (defScope (top 63)) [] [] (He.ga K "_law_are_links") fd) : DefOk P w K mg base (clK K) "_law_are_links" 3 1 false g__law_are_links := by
  refine ⟨_, fd, ["_law_rows"], fx.gl__law_are_links, F.kp, F.bindsN (fun _ _ _ _ _ _ us hl => match us, hl with | [_], _ => rfl), fn_dl (k := 2) F S__law_are_links rfl fun cdv A outer s H E c W hr hcl tk => ?_⟩
  have nd := (S__law_are_links).nd
  have hu := hu64_of hr
  have hu1 := hu01_of hr
  have hp : PassesOwn (model P w) (cxOf (L2.CX P w) P w K mg base ["_law_rows", "_law_row"] "_law_are_links" (defScope (top 63)) (He.ga K "_law_are_links") cdv A outer s H E).A (cxOf (L2.CX P w) P w K mg base ["_law_rows", "_law_row"] "_law_are_links" (defScope (top 63)) (He.ga K "_law_are_links") cdv A outer s H E).env (cxOf (L2.CX P w) P w K mg base ["_law_rows", "_law_row"] "_law_are_links" (defScope (top 63)) (He.ga K "_law_are_links") cdv A outer s H E).xe := passes_of rfl
  exact (ds_cons (ds_if (dt_cmp (op_neX_data hu) (dv (df_lenSet rfl rfl fx.g_len rfl fx.g_set (dv (dn (dn_lc (own := [("_law_row", 1)]) rfl nd (di_any (df_var (pv 0))) (blkOk_by (by kernel_rfl)) (fun _ _ _ _ _ => (dg_name (vs := [1]) (by decide) (pg_name (i := 1) nd rfl (by first | exact .inl rfl | exact .inr rfl)))) (fun _ _ _ _ _ => dts_nil) (fun _ _ _ _ _ => (df_join df_str (dv (df_var (pv 1)))))))))) (dv (df_callB c_len rfl fx.g_len bt_len (dav_cons (dv (df_var (pv 0))) dav_nil))) (nomark _)) (ds_cons (ds_ret df_bl)
  ds_nil) ds_nil)
  (ds_cons (ds_ret (df_callB (c_all rfl) rfl fx.g_all bt_all (dav_cons (dv (dn (dn_lc (own := [("_law_row", 1)]) rfl nd (di_any (df_var (pv 0))) (blkOk_by (by kernel_rfl)) (fun _ _ _ _ _ => (dg_name (vs := [1]) (by decide) (pg_name (i := 1) nd rfl (by first | exact .inl rfl | exact .inr rfl)))) (fun _ _ _ _ _ => dts_nil) (fun _ _ _ _ _ => (df_and (dv (df_cmp (op_eq_data hu) (dv (df_ix (ix_data hu1) (dv (df_var (pv 1))) (dv df_int) (fun _ _ => rfl))) (dv df_str) (nomark _))) (df_and (dv (df_cmp (op_eq_data hu) (dv (df_callB c_len rfl fx.g_len bt_len (dav_cons (dv (df_var (pv 1))) dav_nil))) (dv df_int) (nomark _))) (df_one (df_callD D__law_are_names hcl takes0 hr (by omega) rfl (daf_cons (df_sl (dv (df_var (pv 1))) (do_some (dv df_int)) do_none) daf_nil))))))))) dav_nil)))
  ds_nil))
end K88

set_option Elab.async false
set_option linter.all false
set_option maxRecDepth 100000
set_option maxHeartbeats 0
namespace K88
open PySem PySem.Spec PyProof.Rows L2 XH EX DL RZ NdefX
theorem S__law_is_text : FnScope ["_law_kind", "_law_text", "_law_rows", "_law_line", "_law_row", "_law_word"] ["_law_kind", "_law_text"] (defScope (top 64)) := ⟨rfl, rfl, rfl, by decide +kernel, rfl, by decide +kernel, by decide +kernel⟩
theorem ok__law_is_text {P : Program} {w : World} {K : PySem.W.Frag} {mg : PySem.Str → Option Value} {base : Heap} (fx : Fx P w K mg base) (D__law_is_table : DefOk P w K mg base (clK K) "_law_is_table" 3 1 false g__law_is_table) (D__law_are_hands : DefOk P w K mg base (clK K) "_law_are_hands" 3 1 false g__law_are_hands) (D__law_are_links : DefOk P w K mg base (clK K) "_law_are_links" 3 1 false g__law_are_links) {fd : FuncData} (F : FunD K "_law_is_text" "_law_is_text" (defArgs (top 64)) (defBody (top 64)) (defScope (top 64)) [] [] (He.ga K "_law_is_text") fd) : DefOk P w K mg base (clK K) "_law_is_text" 4 2 false g__law_is_text := by
  refine ⟨_, fd, ["_law_kind", "_law_text"], fx.gl__law_is_text, F.kp, F.bindsN (fun _ _ _ _ _ _ us hl => match us, hl with | [_, _], _ => rfl), fn_dl (k := 3) F S__law_is_text rfl fun cdv A outer s H E c W hr hcl tk => ?_⟩
  have nd := (S__law_is_text).nd
  have hu := hu64_of hr
  have hu1 := hu01_of hr
  have hp : PassesOwn (model P w) (cxOf (L2.CX P w) P w K mg base ["_law_kind", "_law_text", "_law_rows", "_law_line", "_law_row", "_law_word"] "_law_is_text" (defScope (top 64)) (He.ga K "_law_is_text") cdv A outer s H E).A (cxOf (L2.CX P w) P w K mg base ["_law_kind", "_law_text", "_law_rows", "_law_line", "_law_row", "_law_word"] "_law_is_text" (defScope (top 64)) (He.ga K "_law_is_text") cdv A outer s H E).env (cxOf (L2.CX P w) P w K mg base ["_law_kind", "_law_text", "_law_rows", "_law_line", "_law_row", "_law_word"] "_law_is_text" (defScope (top 64)) (He.ga K "_law_is_text") cdv A outer s H E).xe := passes_of rfl
  have hD0 : ∀ x g, ([("_law_is_table", g__law_is_table), ("_law_are_hands", g__law_are_hands), ("_law_are_links", g__law_are_links)] : List (PySem.Str × Fm)).lookup x = some g → DefOk P w K mg base (clK K) x 3 1 false g := fun x g h => by
    rcases look_or h with ⟨rfl, rfl⟩ | h
    · exact D__law_is_table.mono (by decide)
    rcases look_or h with ⟨rfl, rfl⟩ | h
    · exact D__law_are_hands.mono (by decide)
    rcases look_or h with ⟨rfl, rfl⟩ | h
    · exact D__law_are_links.mono (by decide)
    cases h
  have hM0 : ∀ x g, ([("_law_is_table", g__law_is_table), ("_law_are_hands", g__law_are_hands), ("_law_are_links", g__law_are_links)] : List (PySem.Str × Fm)).lookup x = some g → mg x = (clK K x).map .ref := fun x g h => by
    rcases look_or h with ⟨rfl, rfl⟩ | h
    · rw [clK_fn "_law_is_table" (by decide +kernel)]; exact fx.gl__law_is_table
    rcases look_or h with ⟨rfl, rfl⟩ | h
    · rw [clK_fn "_law_are_hands" (by decide +kernel)]; exact fx.gl__law_are_hands
    rcases look_or h with ⟨rfl, rfl⟩ | h
    · rw [clK_fn "_law_are_links" (by decide +kernel)]; exact fx.gl__law_are_links
    cases h
  exact (ds_cons (ds_if (dt_pw (dw_and (dt_cmp (op_neX_data hu) (dv (df_var (pv 1))) (dv df_str) (nomark _)) (dw_and1 (dt_cmp (op_neX_data hu) (dv (df_ix (ix_data hu1) (dv (df_var (pv 1))) (dv (df_neg (dv df_int))) (fun _ _ => rfl))) (dv df_str) (nomark _))))) (ds_cons (ds_ret df_bl)
  ds_nil) ds_nil)
  (ds_cons (ds_set (ps_setLc (i := 2) (own := [("_law_line", 3)]) rfl nd rfl rfl (sw_true rfl rfl rfl rfl) (di_any (df_sl (dv (df_split (df_var (pv 1)) (dv df_str))) do_none (do_some (dv (df_neg (dv df_int)))))) (blkOk_by (by kernel_rfl)) (fun _ _ _ _ _ => (dg_name (vs := [3]) (by decide) (pg_name (i := 3) nd rfl (by first | exact .inl rfl | exact .inr rfl)))) (fun _ _ _ _ _ => dts_nil) (fun _ _ _ _ _ => (df_split (df_var (pv 3)) (dv df_str)))) fun _ _ _ q => lc_to (tn_tf q))
  (ds_cons (ds_if (dt_not (dt_val (dv (df_callB (c_all rfl) rfl fx.g_all bt_all (dav_cons (dv (dn (dn_lc (own := [("_law_row", 4)]) rfl nd (di_any (df_var (pv 2))) (blkOk_by (by kernel_rfl)) (fun _ _ _ _ _ => (dg_name (vs := [4]) (by decide) (pg_name (i := 4) nd rfl (by first | exact .inl rfl | exact .inr rfl)))) (fun _ _ _ _ _ => dts_nil) (fun _ _ _ _ _ => (df_callB (c_all rfl) rfl fx.g_all bt_all (dav_cons (dv (dn (dn_lc (own := [("_law_word", 5)]) rfl nd (di_any (df_var (pv 4))) (blkOk_by (by kernel_rfl)) (fun _ _ _ _ _ => (dg_name (vs := [5]) (by decide) (pg_name (i := 5) nd rfl (by first | exact .inl rfl | exact .inr rfl)))) (fun _ _ _ _ _ => dts_nil) (fun _ _ _ _ _ => (df_cmp (op_neX_data hu) (dv (df_var (pv 5))) (dv df_str) (nomark _)))))) dav_nil)))))) dav_nil))))) (ds_cons (ds_ret df_bl)
  ds_nil) ds_nil)
  (ds_cons (ds_ret (df_callV (k := 3) hD0 hM0 hcl tk hr (by omega) (df_ix (ix_data hu1) (dv (dn (dn_lst (daf_cons (df_gfn hcl rfl fx.gl__law_is_table (clK_fn "_law_is_table" (by decide +kernel))) (daf_cons (df_gfn hcl rfl fx.gl__law_are_hands (clK_fn "_law_are_hands" (by decide +kernel))) (daf_cons (df_gfn hcl rfl fx.gl__law_are_links (clK_fn "_law_are_links" (by decide +kernel))) daf_nil)))))) (dv (df_var (pv 0))) (fun _ _ => rfl)) (daf_cons (df_var (pv 2)) daf_nil)))
  ds_nil))))
theorem S_Table_questions : FnScope ["self"] ["self"] (defScope (mth 27 4)) := ⟨rfl, rfl, rfl, by decide +kernel, rfl, by decide +kernel, by decide +kernel⟩
theorem ok_Table_questions {P : Program} {w : World} {K : PySem.W.Frag} {mg : PySem.Str → Option Value} {base : Heap} (fx : Fx P w K mg base)  {fd : FuncData} (F : FunD K "questions" "Table.questions" (defArgs (mth 27 4)) (defBody (mth 27 4)) (defScope (mth 27 4)) [] [] (He.ma K (He.ga K "Table") "questions") fd) : MethOk P w K mg base (clK K) "Table" "questions" 1 0 g_Table_questions := by
  refine ⟨_, _, fd, ["self"], clK_in (by decide +kernel), fx.cls_Table, fx.me_Table_questions, F.bindsN (fun _ _ _ _ _ _ us hl => match us, hl with | [_], _ => rfl), fn_dl (k := 0) F S_Table_questions rfl fun cdv A outer s H E c W hr hcl tk => ?_⟩
  have nd := (S_Table_questions).nd
  have hu := hu64_of hr
  have hu1 := hu01_of hr
  have hp : PassesOwn (model P w) (cxOf (L2.CX P w) P w K mg base ["self"] "Table.questions" (defScope (mth 27 4)) (He.ma K (He.ga K "Table") "questions") cdv A outer s H E).A (cxOf (L2.CX P w) P w K mg base ["self"] "Table.questions" (defScope (mth 27 4)) (He.ma K (He.ga K "Table") "questions") cdv A outer s H E).env (cxOf (L2.CX P w) P w K mg base ["self"] "Table.questions" (defScope (mth 27 4)) (He.ma K (He.ga K "Table") "questions") cdv A outer s H E).xe := passes_of rfl
  exact (ds_cons (ds_ret (df_callTy (c_list1 rfl) rfl fx.g_list bt_list (dav_cons (dv (df_fld hcl fx.fl_own_names (df_var (pv 0)) (by rfl))) dav_nil)))
  ds_nil)
theorem S_Table_rows : FnScope ["self", "row"] ["self"] (defScope (mth 27 5)) := ⟨rfl, rfl, rfl, by decide +kernel, rfl, by decide +kernel, by decide +kernel⟩
theorem ok_Table_rows {P : Program} {w : World} {K : PySem.W.Frag} {mg : PySem.Str → Option Value} {base : Heap} (fx : Fx P w K mg base)  {fd : FuncData} (F : FunD K "rows" "Table.rows" (defArgs (mth 27 5)) (defBody (mth 27 5)) (defScope (mth 27 5)) [] [] (He.ma K (He.ga K "Table") "rows") fd) : MethOk P w K mg base (clK K) "Table" "rows" 1 0 g_Table_rows := by
  refine ⟨_, _, fd, ["self"], clK_in (by decide +kernel), fx.cls_Table, fx.me_Table_rows, F.bindsN (fun _ _ _ _ _ _ us hl => match us, hl with | [_], _ => rfl), fn_dl (k := 0) F S_Table_rows rfl fun cdv A outer s H E c W hr hcl tk => ?_⟩
  have nd := (S_Table_rows).nd
  have hu := hu64_of hr
  have hu1 := hu01_of hr
  have hp : PassesOwn (model P w) (cxOf (L2.CX P w) P w K mg base ["self", "row"] "Table.rows" (defScope (mth 27 5)) (He.ma K (He.ga K "Table") "rows") cdv A outer s H E).A (cxOf (L2.CX P w) P w K mg base ["self", "row"] "Table.rows" (defScope (mth 27 5)) (He.ma K (He.ga K "Table") "rows") cdv A outer s H E).env (cxOf (L2.CX P w) P w K mg base ["self", "row"] "Table.rows" (defScope (mth 27 5)) (He.ma K (He.ga K "Table") "rows") cdv A outer s H E).xe := passes_of rfl
  exact (ds_cons (ds_ret (dn (dn_lc (own := [("row", 1)]) rfl nd (di_any (df_fld hcl fx.fl_own_rows (df_var (pv 0)) (by rfl))) (blkOk_by (by kernel_rfl)) (fun _ _ _ _ _ => (dg_name (vs := [1]) (by decide) (pg_name (i := 1) nd rfl (by first | exact .inl rfl | exact .inr rfl)))) (fun _ _ _ _ _ => dts_nil) (fun _ _ _ _ _ => (df_callTy (c_dict1 rfl) rfl fx.g_dict bt_dict (dav_cons (dv (df_var (pv 1))) dav_nil))))))
  ds_nil)
theorem S_joined : FnScope ["rows", "row"] ["rows"] (defScope (top 31)) := ⟨rfl, rfl, rfl, by decide +kernel, rfl, by decide +kernel, by decide +kernel⟩
theorem ok_joined {P : Program} {w : World} {K : PySem.W.Frag} {mg : PySem.Str → Option Value} {base : Heap} (fx : Fx P w K mg base)  {fd : FuncData} (F : FunD K "joined" "joined" (defArgs (top 31)) (defBody (top 31)) (defScope (top 31)) [] [] (He.ga K "joined") fd) : DefOk P w K mg base (clK K) "joined" 1 1 false g_joined := by
  refine ⟨_, fd, ["rows"], fx.gl_joined, F.kp, F.bindsN (fun _ _ _ _ _ _ us hl => match us, hl with | [_], _ => rfl), fn_dl (k := 0) F S_joined rfl fun cdv A outer s H E c W hr hcl tk => ?_⟩
  have nd := (S_joined).nd
  have hu := hu64_of hr
  have hu1 := hu01_of hr
  have hp : PassesOwn (model P w) (cxOf (L2.CX P w) P w K mg base ["rows", "row"] "joined" (defScope (top 31)) (He.ga K "joined") cdv A outer s H E).A (cxOf (L2.CX P w) P w K mg base ["rows", "row"] "joined" (defScope (top 31)) (He.ga K "joined") cdv A outer s H E).env (cxOf (L2.CX P w) P w K mg base ["rows", "row"] "joined" (defScope (top 31)) (He.ga K "joined") cdv A outer s H E).xe := passes_of rfl
  exact (ds_cons (ds_ret (df_join df_str (dv (dn (dn_lc (own := [("row", 1)]) rfl nd (di_any (df_var (pv 0))) (blkOk_by (by kernel_rfl)) (fun _ _ _ _ _ => (dg_name (vs := [1]) (by decide) (pg_name (i := 1) nd rfl (by first | exact .inl rfl | exact .inr rfl)))) (fun _ _ _ _ _ => dts_nil) (fun _ _ _ _ _ => (df_op op_add_data (dv (df_join df_str (dv (df_var (pv 1))))) (dv df_str))))))))
  ds_nil)
theorem S_write_table : FnScope ["table", "names", "rows", "row", "name"] ["table"] (defScope (top 34)) := ⟨rfl, rfl, rfl, by decide +kernel, rfl, by decide +kernel, by decide +kernel⟩
theorem ok_write_table {P : Program} {w : World} {K : PySem.W.Frag} {mg : PySem.Str → Option Value} {base : Heap} (fx : Fx P w K mg base) (D_Table_questions : MethOk P w K mg base (clK K) "Table" "questions" 1 0 g_Table_questions) (D_Table_rows : MethOk P w K mg base (clK K) "Table" "rows" 1 0 g_Table_rows) (D_joined : DefOk P w K mg base (clK K) "joined" 1 1 false g_joined) {fd : FuncData} (F : FunD K "write_table" "write_table" (defArgs (top 34)) (defBody (top 34)) (defScope (top 34)) [] [] (He.ga K "write_table") fd) : DefOk P w K mg base (clK K) "write_table" 2 1 false g_write_table := by
  refine ⟨_, fd, ["table"], fx.gl_write_table, F.kp, F.bindsN (fun _ _ _ _ _ _ us hl => match us, hl with | [_], _ => rfl), fn_dl (k := 1) F S_write_table rfl fun cdv A outer s H E c W hr hcl tk => ?_⟩
  have nd := (S_write_table).nd
  have hu := hu64_of hr
  have hu1 := hu01_of hr
  have hp : PassesOwn (model P w) (cxOf (L2.CX P w) P w K mg base ["table", "names", "rows", "row", "name"] "write_table" (defScope (top 34)) (He.ga K "write_table") cdv A outer s H E).A (cxOf (L2.CX P w) P w K mg base ["table", "names", "rows", "row", "name"] "write_table" (defScope (top 34)) (He.ga K "write_table") cdv A outer s H E).env (cxOf (L2.CX P w) P w K mg base ["table", "names", "rows", "row", "name"] "write_table" (defScope (top 34)) (He.ga K "write_table") cdv A outer s H E).xe := passes_of rfl
  exact (ds_cons (ds_set (ps_set (i := 1) nd rfl (by first | exact .inl rfl | exact .inr rfl) (df_meth0 D_Table_questions hcl tk hr (by omega) (df_var (pv 0)))) fun _ _ _ q => q)
  (ds_cons (ds_own (ps_set (i := 2) nd rfl (by first | exact .inl rfl | exact .inr rfl) (dn_lst (daf_cons (df_op op_add_data (dv (dn (dn_lst (daf_cons df_str daf_nil)))) (dv (df_var (pv 1)))) daf_nil))) fun _ _ _ q => q)
  (ds_cons (ds_for (ps_for hp rfl (di_any (df_meth0 D_Table_rows hcl tk hr (by omega) (df_var (pv 0)))) (dg_name (vs := [3]) (by decide) (pg_name (i := 3) nd rfl (by first | exact .inl rfl | exact .inr rfl))) (ds_cons (ds_app (ps_expr (pe_bm PySem.F.plainAttrs_list PySem.F.slot_list_append PySem.F.type_list_append mt_append (pv 2) (pa_cons (df_op op_add_data (dv (dn (dn_lst (daf_cons df_str daf_nil)))) (dv (dn (dn_lc (own := [("name", 4)]) rfl nd (di_any (df_var (pv 1))) (blkOk_by (by kernel_rfl)) (fun _ _ _ _ _ => (dg_name (vs := [4]) (by decide) (pg_name (i := 4) nd rfl (by first | exact .inl rfl | exact .inr rfl)))) (fun _ _ _ _ _ => dts_nil) (fun _ _ _ _ _ => (df_callTy c_str rfl fx.g_str bt_str (dav_cons (dv (df_ix (ix_data hu1) (dv (df_var (pv 3))) (dv (df_var (pv 4))) (fun _ _ => rfl))) dav_nil))))))) pa_nil))))
  ds_nil)) (fun _ _ _ _ q => q) (fun _ _ _ q => q))
  (ds_cons (ds_fz (ds_ret (df_callD D_joined hcl tk hr (by omega) rfl (daf_cons (df_var (pv 2)) daf_nil))))
  ds_nil))))
theorem S_words_of : FnScope ["text", "rows", "line", "row", "word"] ["text"] (defScope (top 32)) := ⟨rfl, rfl, rfl, by decide +kernel, rfl, by decide +kernel, by decide +kernel⟩
theorem ok_words_of {P : Program} {w : World} {K : PySem.W.Frag} {mg : PySem.Str → Option Value} {base : Heap} (fx : Fx P w K mg base)  {fd : FuncData} (F : FunD K "words_of" "words_of" (defArgs (top 32)) (defBody (top 32)) (defScope (top 32)) [] [] (He.ga K "words_of") fd) : DefOk P w K mg base (clK K) "words_of" 3 1 false g_words_of := by
  refine ⟨_, fd, ["text"], fx.gl_words_of, F.kp, F.bindsN (fun _ _ _ _ _ _ us hl => match us, hl with | [_], _ => rfl), fn_dl (k := 2) F S_words_of rfl fun cdv A outer s H E c W hr hcl tk => ?_⟩
  have nd := (S_words_of).nd
  have hu := hu64_of hr
  have hu1 := hu01_of hr
  have hp : PassesOwn (model P w) (cxOf (L2.CX P w) P w K mg base ["text", "rows", "line", "row", "word"] "words_of" (defScope (top 32)) (He.ga K "words_of") cdv A outer s H E).A (cxOf (L2.CX P w) P w K mg base ["text", "rows", "line", "row", "word"] "words_of" (defScope (top 32)) (He.ga K "words_of") cdv A outer s H E).env (cxOf (L2.CX P w) P w K mg base ["text", "rows", "line", "row", "word"] "words_of" (defScope (top 32)) (He.ga K "words_of") cdv A outer s H E).xe := passes_of rfl
  exact (ds_cons (ds_if (dt_pw (dw_or (dt_not (dt_val (dv (df_isi (t := .str) rfl fx.g_isinstance (dv (df_var (pv 0))) (pe_bltn rfl fx.g_str bt_str rfl))))) (dw_or1 (dt_pw (dw_and (dt_cmp (op_neX_data hu) (dv (df_var (pv 0))) (dv df_str) (nomark _)) (dw_and1 (dt_cmp (op_neX_data hu) (dv (df_ix (ix_data hu1) (dv (df_var (pv 0))) (dv (df_neg (dv df_int))) (fun _ _ => rfl))) (dv df_str) (nomark _)))))))) (ds_cons (ds_raiseD fx.mk_BadText hcl rfl tk (hr.mono (by omega)) rfl (daf_cons (df_var (pv 0)) daf_nil))
  ds_nil) ds_nil)
  (ds_cons (ds_set (ps_setLc (i := 1) (own := [("line", 2)]) rfl nd rfl rfl (sw_true rfl rfl rfl rfl) (di_any (df_sl (dv (df_split (df_var (pv 0)) (dv df_str))) do_none (do_some (dv (df_neg (dv df_int)))))) (blkOk_by (by kernel_rfl)) (fun _ _ _ _ _ => (dg_name (vs := [2]) (by decide) (pg_name (i := 2) nd rfl (by first | exact .inl rfl | exact .inr rfl)))) (fun _ _ _ _ _ => dts_nil) (fun _ _ _ _ _ => (df_split (df_var (pv 2)) (dv df_str)))) fun _ _ _ q => lc_to (tn_tf q))
  (ds_cons (ds_if (dt_not (dt_val (dv (df_callB (c_all rfl) rfl fx.g_all bt_all (dav_cons (dv (dn (dn_lc (own := [("row", 3)]) rfl nd (di_any (df_var (pv 1))) (blkOk_by (by kernel_rfl)) (fun _ _ _ _ _ => (dg_name (vs := [3]) (by decide) (pg_name (i := 3) nd rfl (by first | exact .inl rfl | exact .inr rfl)))) (fun _ _ _ _ _ => dts_nil) (fun _ _ _ _ _ => (df_callB (c_all rfl) rfl fx.g_all bt_all (dav_cons (dv (dn (dn_lc (own := [("word", 4)]) rfl nd (di_any (df_var (pv 3))) (blkOk_by (by kernel_rfl)) (fun _ _ _ _ _ => (dg_name (vs := [4]) (by decide) (pg_name (i := 4) nd rfl (by first | exact .inl rfl | exact .inr rfl)))) (fun _ _ _ _ _ => dts_nil) (fun _ _ _ _ _ => (df_cmp (op_neX_data hu) (dv (df_var (pv 4))) (dv df_str) (nomark _)))))) dav_nil)))))) dav_nil))))) (ds_cons (ds_raiseD fx.mk_BadText hcl rfl tk (hr.mono (by omega)) rfl (daf_cons (df_var (pv 0)) daf_nil))
  ds_nil) ds_nil)
  (ds_cons (ds_ret (df_var (pv 1)))
  ds_nil))))
end K88

set_option Elab.async false
set_option linter.all false
set_option maxRecDepth 100000
set_option maxHeartbeats 0
namespace K88
open PySem PySem.Spec PyProof.Rows L2 XH EX DL RZ NdefX
theorem S_is_name : FnScope ["thing", "sign"] ["thing"] (defScope (top 17)) := ⟨rfl, rfl, rfl, by decide +kernel, rfl, by decide +kernel, by decide +kernel⟩
theorem ok_is_name {P : Program} {w : World} {K : PySem.W.Frag} {mg : PySem.Str → Option Value} {base : Heap} (fx : Fx P w K mg base)  {fd : FuncData} (F : FunD K "is_name" "is_name" (defArgs (top 17)) (defBody (top 17)) (defScope (top 17)) [] [] (He.ga K "is_name") fd) : DefOk P w K mg base (clK K) "is_name" 1 1 false g_is_name := by
  refine ⟨_, fd, ["thing"], fx.gl_is_name, F.kp, F.bindsN (fun _ _ _ _ _ _ us hl => match us, hl with | [_], _ => rfl), fn_dl (k := 0) F S_is_name rfl fun cdv A outer s H E c W hr hcl tk => ?_⟩
  have nd := (S_is_name).nd
  have hu := hu64_of hr
  have hu1 := hu01_of hr
  have hp : PassesOwn (model P w) (cxOf (L2.CX P w) P w K mg base ["thing", "sign"] "is_name" (defScope (top 17)) (He.ga K "is_name") cdv A outer s H E).A (cxOf (L2.CX P w) P w K mg base ["thing", "sign"] "is_name" (defScope (top 17)) (He.ga K "is_name") cdv A outer s H E).env (cxOf (L2.CX P w) P w K mg base ["thing", "sign"] "is_name" (defScope (top 17)) (He.ga K "is_name") cdv A outer s H E).xe := passes_of rfl
  exact (ds_cons (ds_if (dt_pw (dw_or (dt_not (dt_val (dv (df_isi (t := .str) rfl fx.g_isinstance (dv (df_var (pv 0))) (pe_bltn rfl fx.g_str bt_str rfl))))) (dw_or1 (dt_not (dt_chain op_lt_data op_le_data (dv df_int) (dv (df_callB c_len rfl fx.g_len bt_len (dav_cons (dv (df_var (pv 0))) dav_nil))) (dv df_int)))))) (ds_cons (ds_ret df_bl)
  ds_nil) ds_nil)
  (ds_cons (ds_ret (df_callB (c_all rfl) rfl fx.g_all bt_all (dav_cons (dv (dn (dn_lc (own := [("sign", 1)]) rfl nd (di_any (df_var (pv 0))) (blkOk_by (by kernel_rfl)) (fun _ _ _ _ _ => (dg_name (vs := [1]) (by decide) (pg_name (i := 1) nd rfl (by first | exact .inl rfl | exact .inr rfl)))) (fun _ _ _ _ _ => dts_nil) (fun _ _ _ _ _ => (df_cmp (op_in_data hu) (dv (df_var (pv 1))) (dv (df_gstr rfl fx.c_NAME_SIGNS)) (by with_unfolding_all rfl)))))) dav_nil)))
  ds_nil))
theorem S_names_of : FnScope ["thing", "name"] ["thing"] (defScope (top 24)) := ⟨rfl, rfl, rfl, by decide +kernel, rfl, by decide +kernel, by decide +kernel⟩
theorem ok_names_of {P : Program} {w : World} {K : PySem.W.Frag} {mg : PySem.Str → Option Value} {base : Heap} (fx : Fx P w K mg base) (D_is_name : DefOk P w K mg base (clK K) "is_name" 1 1 false g_is_name) {fd : FuncData} (F : FunD K "names_of" "names_of" (defArgs (top 24)) (defBody (top 24)) (defScope (top 24)) [] [] (He.ga K "names_of") fd) : DefOk P w K mg base (clK K) "names_of" 2 1 false g_names_of := by
  refine ⟨_, fd, ["thing"], fx.gl_names_of, F.kp, F.bindsN (fun _ _ _ _ _ _ us hl => match us, hl with | [_], _ => rfl), fn_dl (k := 1) F S_names_of rfl fun cdv A outer s H E c W hr hcl tk => ?_⟩
  have nd := (S_names_of).nd
  have hu := hu64_of hr
  have hu1 := hu01_of hr
  have hp : PassesOwn (model P w) (cxOf (L2.CX P w) P w K mg base ["thing", "name"] "names_of" (defScope (top 24)) (He.ga K "names_of") cdv A outer s H E).A (cxOf (L2.CX P w) P w K mg base ["thing", "name"] "names_of" (defScope (top 24)) (He.ga K "names_of") cdv A outer s H E).env (cxOf (L2.CX P w) P w K mg base ["thing", "name"] "names_of" (defScope (top 24)) (He.ga K "names_of") cdv A outer s H E).xe := passes_of rfl
  exact (ds_cons (ds_if (dt_pw (dw_or (dt_not (dt_val (dv (df_isi (t := .dict) rfl fx.g_isinstance (dv (df_var (pv 0))) (pe_bltn rfl fx.g_dict bt_dict rfl))))) (dw_or1 (dt_not (dt_val (dv (df_callB (c_all rfl) rfl fx.g_all bt_all (dav_cons (dv (dn (dn_lcD (own := [("name", 1)]) loc_var walk_keys rfl nd (pi_keys (pv 0)) (blkOk_by (by kernel_rfl)) (fun _ _ _ _ _ => (dg_name (vs := [1]) (by decide) (pg_name (i := 1) nd rfl (by first | exact .inl rfl | exact .inr rfl)))) (fun _ _ _ _ _ => dts_nil) (fun _ _ _ _ _ => (df_callD D_is_name hcl takes0 hr (by omega) rfl (daf_cons (df_var (pv 1)) daf_nil)))))) dav_nil)))))))) (ds_cons (ds_ret (dn (dn_lst daf_nil)))
  ds_nil) ds_nil)
  (ds_cons (ds_ret (df_callTy (c_list1 rfl) rfl fx.g_list bt_list (dav_cons (dv (df_var (pv 0))) dav_nil)))
  ds_nil))
theorem S_is_list : FnScope ["thing"] ["thing"] (defScope (top 16)) := ⟨rfl, rfl, rfl, by decide +kernel, rfl, by decide +kernel, by decide +kernel⟩
theorem ok_is_list {P : Program} {w : World} {K : PySem.W.Frag} {mg : PySem.Str → Option Value} {base : Heap} (fx : Fx P w K mg base)  {fd : FuncData} (F : FunD K "is_list" "is_list" (defArgs (top 16)) (defBody (top 16)) (defScope (top 16)) [] [] (He.ga K "is_list") fd) : DefOk P w K mg base (clK K) "is_list" 1 1 false g_is_list := by
  refine ⟨_, fd, ["thing"], fx.gl_is_list, F.kp, F.bindsN (fun _ _ _ _ _ _ us hl => match us, hl with | [_], _ => rfl), fn_dl (k := 0) F S_is_list rfl fun cdv A outer s H E c W hr hcl tk => ?_⟩
  have nd := (S_is_list).nd
  have hu := hu64_of hr
  have hu1 := hu01_of hr
  have hp : PassesOwn (model P w) (cxOf (L2.CX P w) P w K mg base ["thing"] "is_list" (defScope (top 16)) (He.ga K "is_list") cdv A outer s H E).A (cxOf (L2.CX P w) P w K mg base ["thing"] "is_list" (defScope (top 16)) (He.ga K "is_list") cdv A outer s H E).env (cxOf (L2.CX P w) P w K mg base ["thing"] "is_list" (defScope (top 16)) (He.ga K "is_list") cdv A outer s H E).xe := passes_of rfl
  exact (ds_cons (ds_ret (df_isiT (t := .list) (ts := [.tuple]) rfl fx.g_isinstance (dv (df_var (pv 0))) (pa_imp (pa_cons (pe_bltn (v := .ty "list") rfl fx.g_list bt_list rfl) (pa_cons (pe_bltn (v := .ty "tuple") rfl fx.g_tuple bt_tuple rfl) pa_nil)) fun _ _ _ q => q) (by decide)))
  ds_nil)
theorem S_is_integer : FnScope ["thing"] ["thing"] (defScope (top 15)) := ⟨rfl, rfl, rfl, by decide +kernel, rfl, by decide +kernel, by decide +kernel⟩
theorem ok_is_integer {P : Program} {w : World} {K : PySem.W.Frag} {mg : PySem.Str → Option Value} {base : Heap} (fx : Fx P w K mg base)  {fd : FuncData} (F : FunD K "is_integer" "is_integer" (defArgs (top 15)) (defBody (top 15)) (defScope (top 15)) [] [] (He.ga K "is_integer") fd) : DefOk P w K mg base (clK K) "is_integer" 1 1 false g_is_integer := by
  refine ⟨_, fd, ["thing"], fx.gl_is_integer, F.kp, F.bindsN (fun _ _ _ _ _ _ us hl => match us, hl with | [_], _ => rfl), fn_dl (k := 0) F S_is_integer rfl fun cdv A outer s H E c W hr hcl tk => ?_⟩
  have nd := (S_is_integer).nd
  have hu := hu64_of hr
  have hu1 := hu01_of hr
  have hp : PassesOwn (model P w) (cxOf (L2.CX P w) P w K mg base ["thing"] "is_integer" (defScope (top 15)) (He.ga K "is_integer") cdv A outer s H E).A (cxOf (L2.CX P w) P w K mg base ["thing"] "is_integer" (defScope (top 15)) (He.ga K "is_integer") cdv A outer s H E).env (cxOf (L2.CX P w) P w K mg base ["thing"] "is_integer" (defScope (top 15)) (He.ga K "is_integer") cdv A outer s H E).xe := passes_of rfl
  exact (ds_cons (ds_ret (df_and (dv (df_isi (t := .int) rfl fx.g_isinstance (dv (df_var (pv 0))) (pe_bltn rfl fx.g_int bt_int rfl))) (df_one (df_not (dv (df_isi (t := .bool) rfl fx.g_isinstance (dv (df_var (pv 0))) (pe_bltn rfl fx.g_bool bt_bool rfl)))))))
  ds_nil)
theorem S_is_row : FnScope ["thing", "names", "name"] ["thing", "names"] (defScope (top 23)) := ⟨rfl, rfl, rfl, by decide +kernel, rfl, by decide +kernel, by decide +kernel⟩
theorem ok_is_row {P : Program} {w : World} {K : PySem.W.Frag} {mg : PySem.Str → Option Value} {base : Heap} (fx : Fx P w K mg base) (D_is_integer : DefOk P w K mg base (clK K) "is_integer" 1 1 false g_is_integer) {fd : FuncData} (F : FunD K "is_row" "is_row" (defArgs (top 23)) (defBody (top 23)) (defScope (top 23)) [] [] (He.ga K "is_row") fd) : DefOk P w K mg base (clK K) "is_row" 2 2 false g_is_row := by
  refine ⟨_, fd, ["thing", "names"], fx.gl_is_row, F.kp, F.bindsN (fun _ _ _ _ _ _ us hl => match us, hl with | [_, _], _ => rfl), fn_dl (k := 1) F S_is_row rfl fun cdv A outer s H E c W hr hcl tk => ?_⟩
  have nd := (S_is_row).nd
  have hu := hu64_of hr
  have hu1 := hu01_of hr
  have hp : PassesOwn (model P w) (cxOf (L2.CX P w) P w K mg base ["thing", "names", "name"] "is_row" (defScope (top 23)) (He.ga K "is_row") cdv A outer s H E).A (cxOf (L2.CX P w) P w K mg base ["thing", "names", "name"] "is_row" (defScope (top 23)) (He.ga K "is_row") cdv A outer s H E).env (cxOf (L2.CX P w) P w K mg base ["thing", "names", "name"] "is_row" (defScope (top 23)) (He.ga K "is_row") cdv A outer s H E).xe := passes_of rfl
  exact (ds_cons (ds_if (dt_pw (dw_or (dt_not (dt_val (dv (df_isi (t := .dict) rfl fx.g_isinstance (dv (df_var (pv 0))) (pe_bltn rfl fx.g_dict bt_dict rfl))))) (dw_or1 (dt_cmp (op_neX_data hu) (dv (df_callB c_len rfl fx.g_len bt_len (dav_cons (dv (df_var (pv 0))) dav_nil))) (dv (df_callB c_len rfl fx.g_len bt_len (dav_cons (dv (df_var (pv 1))) dav_nil))) (nomark _))))) (ds_cons (ds_ret df_bl)
  ds_nil) ds_nil)
  (ds_cons (ds_ret (df_callB (c_all rfl) rfl fx.g_all bt_all (dav_cons (dv (dn (dn_lc (own := [("name", 2)]) rfl nd (di_any (df_var (pv 1))) (blkOk_by (by kernel_rfl)) (fun _ _ _ _ _ => (dg_name (vs := [2]) (by decide) (pg_name (i := 2) nd rfl (by first | exact .inl rfl | exact .inr rfl)))) (fun _ _ _ _ _ => dts_nil) (fun _ _ _ _ _ => (df_and (dv (df_cmp (op_in_data hu) (dv (df_var (pv 2))) (dv (df_var (pv 0))) (by with_unfolding_all rfl))) (df_one (df_callD D_is_integer hcl takes0 hr (by omega) rfl (daf_cons (df_ix (ix_data hu1) (dv (df_var (pv 0))) (dv (df_var (pv 2))) (fun _ _ => rfl)) daf_nil)))))))) dav_nil)))
  ds_nil))
theorem S_Table_init : FnScope ["self", "rows", "names", "index", "row", "name"] ["self", "rows"] (defScope (mth 27 0)) := ⟨rfl, rfl, rfl, by decide +kernel, rfl, by decide +kernel, by decide +kernel⟩
theorem ok_Table_init {P : Program} {w : World} {K : PySem.W.Frag} {mg : PySem.Str → Option Value} {base : Heap} (fx : Fx P w K mg base) (D_names_of : DefOk P w K mg base (clK K) "names_of" 2 1 false g_names_of) (D_is_list : DefOk P w K mg base (clK K) "is_list" 1 1 false g_is_list) (D_is_row : DefOk P w K mg base (clK K) "is_row" 2 2 false g_is_row) {fd : FuncData} (F : FunD K "__init__" "Table.__init__" (defArgs (mth 27 0)) (defBody (mth 27 0)) (defScope (mth 27 0)) [] [] (He.ma K (He.ga K "Table") "__init__") fd) : ClsOk P w K mg base (clK K) "Table" 3 1 g_Table_init := by
  refine ⟨_, _, fd, ["self", "rows"], clK_in (by decide +kernel), fx.gl_Table, fx.mkr_Table, F.bindsN (fun _ _ _ _ _ _ us hl => match us, hl with | [_, _], _ => rfl), fn_ini (k := 2) F S_Table_init rfl fun cdv A outer s H E c W hr hcl hst tk => ?_⟩
  have nd := (S_Table_init).nd
  have hu := hu64_of hr
  have hu1 := hu01_of hr
  have hp : PassesOwn (model P w) (cxOf (L2.CX P w) P w K mg base ["self", "rows", "names", "index", "row", "name"] "Table.__init__" (defScope (mth 27 0)) (He.ma K (He.ga K "Table") "__init__") cdv A outer s H E).A (cxOf (L2.CX P w) P w K mg base ["self", "rows", "names", "index", "row", "name"] "Table.__init__" (defScope (mth 27 0)) (He.ma K (He.ga K "Table") "__init__") cdv A outer s H E).env (cxOf (L2.CX P w) P w K mg base ["self", "rows", "names", "index", "row", "name"] "Table.__init__" (defScope (mth 27 0)) (He.ma K (He.ga K "Table") "__init__") cdv A outer s H E).xe := passes_of rfl
  exact (ds_cons (ds_if (dt_pw (dw_or (dt_not (dt_val (dv (df_callD D_is_list hcl tk hr (by omega) rfl (daf_cons (df_var (pv 1)) daf_nil))))) (dw_or1 (dt_cmp (op_eq_data hu) (dv (df_callB c_len rfl fx.g_len bt_len (dav_cons (dv (df_var (pv 1))) dav_nil))) (dv df_int) (nomark _))))) (ds_cons (ds_raiseD fx.mk_BadRow hcl rfl tk (hr.mono (by omega)) rfl (daf_cons df_int daf_nil))
  ds_nil) ds_nil)
  (ds_cons (ds_set (ps_set (i := 2) nd rfl (by first | exact .inl rfl | exact .inr rfl) (df_callD D_names_of hcl tk hr (by omega) rfl (daf_cons (df_ix (ix_data hu1) (dv (df_var (pv 1))) (dv df_int) (fun _ _ => rfl)) daf_nil))) fun _ _ _ q => q)
  (ds_cons (ds_for (ps_for hp rfl (di_enum rfl fx.g_enumerate (df_var (pv 1))) (dg_tup (n := 2) rfl rfl (dgs_cons (dg_name (vs := [3, 4]) (by decide) (pg_name (i := 3) nd rfl (by first | exact .inl rfl | exact .inr rfl))) (dgs_cons (dg_name (vs := [3, 4]) (by decide) (pg_name (i := 4) nd rfl (by first | exact .inl rfl | exact .inr rfl))) dgs_nil))) (ds_cons (ds_if (dt_pw (dw_or (dt_cmp (op_eq_data hu) (dv (df_var (pv 2))) (dv (dn (dn_lst daf_nil))) (nomark _)) (dw_or1 (dt_not (dt_val (dv (df_callD D_is_row hcl tk hr (by omega) rfl (daf_cons (df_var (pv 4)) (daf_cons (df_var (pv 2)) daf_nil))))))))) (ds_cons (ds_raiseD fx.mk_BadRow hcl rfl tk (hr.mono (by omega)) rfl (daf_cons (df_var (pv 3)) daf_nil))
  ds_nil) ds_nil)
  ds_nil)) (fun _ _ _ _ q => q) (fun _ _ _ q => q))
  (ds_cons (ds_setF hcl hst (fun C h => fx.fl_own_names _ C (by decide +kernel) h) (pv 0) (df_var (pv 2)))
  (ds_cons (ds_setF hcl hst (fun C h => fx.fl_own_rows _ C (by decide +kernel) h) (pv 0) (dn (dn_lc (own := [("row", 4)]) rfl nd (di_any (df_var (pv 1))) (blkOk_by (by kernel_rfl)) (fun _ _ _ _ _ => (dg_name (vs := [4]) (by decide) (pg_name (i := 4) nd rfl (by first | exact .inl rfl | exact .inr rfl)))) (fun _ _ _ _ _ => dts_nil) (fun _ _ _ _ _ => (dn (dn_dc (own := [("name", 5)]) rfl nd (di_any (df_var (pv 2))) (blkOk_by (by kernel_rfl)) (fun _ _ _ _ _ => (dg_name (vs := [5]) (by decide) (pg_name (i := 5) nd rfl (by first | exact .inl rfl | exact .inr rfl)))) (fun _ _ _ _ _ => dts_nil) (fun _ _ _ _ _ => (df_var (pv 5))) (fun _ _ _ _ _ => (df_ix (ix_data hu1) (dv (df_var (pv 4))) (dv (df_var (pv 5))) (fun _ _ => rfl)))))))))
  ds_nil)))))
end K88

set_option Elab.async false
set_option linter.all false
set_option maxRecDepth 100000
set_option maxHeartbeats 0
namespace K88
open PySem PySem.Spec PyProof.Rows L2 XH EX DL RZ NdefX
theorem S_is_name_list : FnScope ["thing", "one"] ["thing"] (defScope (top 36)) := ⟨rfl, rfl, rfl, by decide +kernel, rfl, by decide +kernel, by decide +kernel⟩
theorem ok_is_name_list {P : Program} {w : World} {K : PySem.W.Frag} {mg : PySem.Str → Option Value} {base : Heap} (fx : Fx P w K mg base) (D_is_list : DefOk P w K mg base (clK K) "is_list" 1 1 false g_is_list) (D_is_name : DefOk P w K mg base (clK K) "is_name" 1 1 false g_is_name) {fd : FuncData} (F : FunD K "is_name_list" "is_name_list" (defArgs (top 36)) (defBody (top 36)) (defScope (top 36)) [] [] (He.ga K "is_name_list") fd) : DefOk P w K mg base (clK K) "is_name_list" 2 1 false g_is_name_list := by
  refine ⟨_, fd, ["thing"], fx.gl_is_name_list, F.kp, F.bindsN (fun _ _ _ _ _ _ us hl => match us, hl with | [_], _ => rfl), fn_dl (k := 1) F S_is_name_list rfl fun cdv A outer s H E c W hr hcl tk => ?_⟩
  have nd := (S_is_name_list).nd
  have hu := hu64_of hr
  have hu1 := hu01_of hr
  have hp : PassesOwn (model P w) (cxOf (L2.CX P w) P w K mg base ["thing", "one"] "is_name_list" (defScope (top 36)) (He.ga K "is_name_list") cdv A outer s H E).A (cxOf (L2.CX P w) P w K mg base ["thing", "one"] "is_name_list" (defScope (top 36)) (He.ga K "is_name_list") cdv A outer s H E).env (cxOf (L2.CX P w) P w K mg base ["thing", "one"] "is_name_list" (defScope (top 36)) (He.ga K "is_name_list") cdv A outer s H E).xe := passes_of rfl
  exact (ds_cons (ds_if (dt_pw (dw_or (dt_not (dt_val (dv (df_callD D_is_list hcl tk hr (by omega) rfl (daf_cons (df_var (pv 0)) daf_nil))))) (dw_or1 (dt_not (dt_val (dv (df_callB (c_all rfl) rfl fx.g_all bt_all (dav_cons (dv (dn (dn_lc (own := [("one", 1)]) rfl nd (di_any (df_var (pv 0))) (blkOk_by (by kernel_rfl)) (fun _ _ _ _ _ => (dg_name (vs := [1]) (by decide) (pg_name (i := 1) nd rfl (by first | exact .inl rfl | exact .inr rfl)))) (fun _ _ _ _ _ => dts_nil) (fun _ _ _ _ _ => (df_callD D_is_name hcl takes0 hr (by omega) rfl (daf_cons (df_var (pv 1)) daf_nil)))))) dav_nil)))))))) (ds_cons (ds_ret df_bl)
  ds_nil) ds_nil)
  (ds_cons (ds_ret (df_cmp (op_eq_data hu) (dv (df_lenSet rfl rfl fx.g_len rfl fx.g_set (dv (df_var (pv 0))))) (dv (df_callB c_len rfl fx.g_len bt_len (dav_cons (dv (df_var (pv 0))) dav_nil))) (nomark _)))
  ds_nil))
theorem S_is_number_word : FnScope ["word", "figures", "sign"] ["word"] (defScope (top 33)) := ⟨rfl, rfl, rfl, by decide +kernel, rfl, by decide +kernel, by decide +kernel⟩
theorem ok_is_number_word {P : Program} {w : World} {K : PySem.W.Frag} {mg : PySem.Str → Option Value} {base : Heap} (fx : Fx P w K mg base)  {fd : FuncData} (F : FunD K "is_number_word" "is_number_word" (defArgs (top 33)) (defBody (top 33)) (defScope (top 33)) [] [] (He.ga K "is_number_word") fd) : DefOk P w K mg base (clK K) "is_number_word" 1 1 false g_is_number_word := by
  refine ⟨_, fd, ["word"], fx.gl_is_number_word, F.kp, F.bindsN (fun _ _ _ _ _ _ us hl => match us, hl with | [_], _ => rfl), fn_dl (k := 0) F S_is_number_word rfl fun cdv A outer s H E c W hr hcl tk => ?_⟩
  have nd := (S_is_number_word).nd
  have hu := hu64_of hr
  have hu1 := hu01_of hr
  have hp : PassesOwn (model P w) (cxOf (L2.CX P w) P w K mg base ["word", "figures", "sign"] "is_number_word" (defScope (top 33)) (He.ga K "is_number_word") cdv A outer s H E).A (cxOf (L2.CX P w) P w K mg base ["word", "figures", "sign"] "is_number_word" (defScope (top 33)) (He.ga K "is_number_word") cdv A outer s H E).env (cxOf (L2.CX P w) P w K mg base ["word", "figures", "sign"] "is_number_word" (defScope (top 33)) (He.ga K "is_number_word") cdv A outer s H E).xe := passes_of rfl
  exact (ds_cons (ds_set (ps_set (i := 1) nd rfl (by first | exact .inl rfl | exact .inr rfl) (df_if (dt_cmp (op_eq_data hu) (dv (df_sl (dv (df_var (pv 0))) do_none (do_some (dv df_int)))) (dv df_str) (nomark _)) (df_sl (dv (df_var (pv 0))) (do_some (dv df_int)) do_none) (df_var (pv 0)))) fun _ _ _ q => q)
  (ds_cons (ds_if (dt_pw (dw_or (dt_not (dt_chain op_lt_data op_le_data (dv df_int) (dv (df_callB c_len rfl fx.g_len bt_len (dav_cons (dv (df_var (pv 1))) dav_nil))) (dv (df_gint rfl fx.c_MOST_FIGURES)))) (dw_or1 (dt_not (dt_val (dv (df_callB (c_all rfl) rfl fx.g_all bt_all (dav_cons (dv (dn (dn_lc (own := [("sign", 2)]) rfl nd (di_any (df_var (pv 1))) (blkOk_by (by kernel_rfl)) (fun _ _ _ _ _ => (dg_name (vs := [2]) (by decide) (pg_name (i := 2) nd rfl (by first | exact .inl rfl | exact .inr rfl)))) (fun _ _ _ _ _ => dts_nil) (fun _ _ _ _ _ => (df_cmp (op_in_data hu) (dv (df_var (pv 2))) (dv (df_gstr rfl fx.c_FIGURES)) (by with_unfolding_all rfl)))))) dav_nil)))))))) (ds_cons (ds_ret df_bl)
  ds_nil) ds_nil)
  (ds_cons (ds_ret (df_or (dv (df_cmp (op_eq_data hu) (dv (df_var (pv 0))) (dv df_str) (nomark _))) (df_one (df_cmp (op_neX_data hu) (dv (df_ix (ix_data hu1) (dv (df_var (pv 1))) (dv df_int) (fun _ _ => rfl))) (dv df_str) (nomark _)))))
  ds_nil)))
theorem S_read_table : FnScope ["text", "rows", "row", "names", "found", "name", "word"] ["text"] (defScope (top 35)) := ⟨rfl, rfl, rfl, by decide +kernel, rfl, by decide +kernel, by decide +kernel⟩
theorem ok_read_table {P : Program} {w : World} {K : PySem.W.Frag} {mg : PySem.Str → Option Value} {base : Heap} (fx : Fx P w K mg base) (D_words_of : DefOk P w K mg base (clK K) "words_of" 3 1 false g_words_of) (D_Table_init : ClsOk P w K mg base (clK K) "Table" 3 1 g_Table_init) (D_is_name_list : DefOk P w K mg base (clK K) "is_name_list" 2 1 false g_is_name_list) (D_is_number_word : DefOk P w K mg base (clK K) "is_number_word" 1 1 false g_is_number_word) {fd : FuncData} (F : FunD K "read_table" "read_table" (defArgs (top 35)) (defBody (top 35)) (defScope (top 35)) [] [] (He.ga K "read_table") fd) : DefOk P w K mg base (clK K) "read_table" 5 1 false g_read_table := by
  refine ⟨_, fd, ["text"], fx.gl_read_table, F.kp, F.bindsN (fun _ _ _ _ _ _ us hl => match us, hl with | [_], _ => rfl), fn_dl (k := 4) F S_read_table rfl fun cdv A outer s H E c W hr hcl tk => ?_⟩
  have nd := (S_read_table).nd
  have hu := hu64_of hr
  have hu1 := hu01_of hr
  have hp : PassesOwn (model P w) (cxOf (L2.CX P w) P w K mg base ["text", "rows", "row", "names", "found", "name", "word"] "read_table" (defScope (top 35)) (He.ga K "read_table") cdv A outer s H E).A (cxOf (L2.CX P w) P w K mg base ["text", "rows", "row", "names", "found", "name", "word"] "read_table" (defScope (top 35)) (He.ga K "read_table") cdv A outer s H E).env (cxOf (L2.CX P w) P w K mg base ["text", "rows", "row", "names", "found", "name", "word"] "read_table" (defScope (top 35)) (He.ga K "read_table") cdv A outer s H E).xe := passes_of rfl
  exact (ds_cons (ds_set (ps_set (i := 1) nd rfl (by first | exact .inl rfl | exact .inr rfl) (df_callD D_words_of hcl tk hr (by omega) rfl (daf_cons (df_var (pv 0)) daf_nil))) fun _ _ _ q => q)
  (ds_cons (ds_if (dt_pw (dw_or (dt_cmp op_lt_data (dv (df_callB c_len rfl fx.g_len bt_len (dav_cons (dv (df_var (pv 1))) dav_nil))) (dv df_int) (nomark _)) (dw_or (dt_cmp (op_neX_data hu) (dv (df_ix (ix_data hu1) (dv (df_ix (ix_data hu1) (dv (df_var (pv 1))) (dv df_int) (fun _ _ => rfl))) (dv df_int) (fun _ _ => rfl))) (dv df_str) (nomark _)) (dw_or (dt_not (dt_val (dv (df_callD D_is_name_list hcl tk hr (by omega) rfl (daf_cons (df_sl (dv (df_ix (ix_data hu1) (dv (df_var (pv 1))) (dv df_int) (fun _ _ => rfl))) (do_some (dv df_int)) do_none) daf_nil))))) (dw_or1 (dt_cmp op_lt_data (dv (df_callB c_len rfl fx.g_len bt_len (dav_cons (dv (df_ix (ix_data hu1) (dv (df_var (pv 1))) (dv df_int) (fun _ _ => rfl))) dav_nil))) (dv df_int) (nomark _))))))) (ds_cons (ds_raiseD fx.mk_BadText hcl rfl tk (hr.mono (by omega)) rfl (daf_cons (df_var (pv 0)) daf_nil))
  ds_nil) ds_nil)
  (ds_cons (ds_par2 rfl rfl nd rfl rfl (by decide) rfl rfl (pa_cons (df_sl (dv (df_ix (ix_data hu1) (dv (df_var (pv 1))) (dv df_int) (fun _ _ => rfl))) (do_some (dv df_int)) do_none) (pa_cons (dn_lst daf_nil) pa_nil)))
  (ds_cons (ds_for (ps_for hp rfl (di_any (df_sl (dv (df_var (pv 1))) (do_some (dv df_int)) do_none)) (dg_name (vs := [2]) (by decide) (pg_name (i := 2) nd rfl (by first | exact .inl rfl | exact .inr rfl))) (ds_cons (ds_if (dt_pw (dw_or (dt_cmp (op_neX_data hu) (dv (df_ix (ix_data hu1) (dv (df_var (pv 2))) (dv df_int) (fun _ _ => rfl))) (dv df_str) (nomark _)) (dw_or (dt_cmp (op_neX_data hu) (dv (df_callB c_len rfl fx.g_len bt_len (dav_cons (dv (df_var (pv 2))) dav_nil))) (dv (df_callB c_len rfl fx.g_len bt_len (dav_cons (dv (df_ix (ix_data hu1) (dv (df_var (pv 1))) (dv df_int) (fun _ _ => rfl))) dav_nil))) (nomark _)) (dw_or1 (dt_not (dt_val (dv (df_callB (c_all rfl) rfl fx.g_all bt_all (dav_cons (dv (dn (dn_lc (own := [("word", 6)]) rfl nd (di_any (df_sl (dv (df_var (pv 2))) (do_some (dv df_int)) do_none)) (blkOk_by (by kernel_rfl)) (fun _ _ _ _ _ => (dg_name (vs := [6]) (by decide) (pg_name (i := 6) nd rfl (by first | exact .inl rfl | exact .inr rfl)))) (fun _ _ _ _ _ => dts_nil) (fun _ _ _ _ _ => (df_callD D_is_number_word hcl takes0 hr (by omega) rfl (daf_cons (df_var (pv 6)) daf_nil)))))) dav_nil))))))))) (ds_cons (ds_raiseD fx.mk_BadText hcl rfl tk (hr.mono (by omega)) rfl (daf_cons (df_var (pv 0)) daf_nil))
  ds_nil) ds_nil)
  (ds_cons (ds_app (ps_expr (pe_bm PySem.F.plainAttrs_list PySem.F.slot_list_append PySem.F.type_list_append mt_append (pv 4) (pa_cons (dn (dn_dc (own := [("name", 5), ("word", 6)]) rfl nd (di_zip rfl fx.g_zip (df_var (pv 3)) (df_sl (dv (df_var (pv 2))) (do_some (dv df_int)) do_none)) (blkOk_by (by kernel_rfl)) (fun _ _ _ _ _ => (dg_tup (n := 2) rfl rfl (dgs_cons (dg_name (vs := [5, 6]) (by decide) (pg_name (i := 5) nd rfl (by first | exact .inl rfl | exact .inr rfl))) (dgs_cons (dg_name (vs := [5, 6]) (by decide) (pg_name (i := 6) nd rfl (by first | exact .inl rfl | exact .inr rfl))) dgs_nil)))) (fun _ _ _ _ _ => dts_nil) (fun _ _ _ _ _ => (df_var (pv 5))) (fun _ _ _ _ _ => (df_callTy c_int rfl fx.g_int bt_int (dav_cons (dv (df_var (pv 6))) dav_nil))))) pa_nil))))
  ds_nil))) (fun _ _ _ _ q => q) (fun _ _ _ q => q))
  (ds_cons (ds_fz (ds_ret (df_mkI D_Table_init hcl tk hr (by omega) rfl (daf_cons (df_var (pv 4)) daf_nil))))
  ds_nil)))))
theorem S_plain_hands : FnScope ["hands", "name"] ["hands"] (defScope (top 37)) := ⟨rfl, rfl, rfl, by decide +kernel, rfl, by decide +kernel, by decide +kernel⟩
theorem ok_plain_hands {P : Program} {w : World} {K : PySem.W.Frag} {mg : PySem.Str → Option Value} {base : Heap} (fx : Fx P w K mg base) (D_is_name : DefOk P w K mg base (clK K) "is_name" 1 1 false g_is_name) (D_is_name_list : DefOk P w K mg base (clK K) "is_name_list" 2 1 false g_is_name_list) {fd : FuncData} (F : FunD K "plain_hands" "plain_hands" (defArgs (top 37)) (defBody (top 37)) (defScope (top 37)) [] [] (He.ga K "plain_hands") fd) : DefOk P w K mg base (clK K) "plain_hands" 3 1 false g_plain_hands := by
  refine ⟨_, fd, ["hands"], fx.gl_plain_hands, F.kp, F.bindsN (fun _ _ _ _ _ _ us hl => match us, hl with | [_], _ => rfl), fn_dl (k := 2) F S_plain_hands rfl fun cdv A outer s H E c W hr hcl tk => ?_⟩
  have nd := (S_plain_hands).nd
  have hu := hu64_of hr
  have hu1 := hu01_of hr
  have hp : PassesOwn (model P w) (cxOf (L2.CX P w) P w K mg base ["hands", "name"] "plain_hands" (defScope (top 37)) (He.ga K "plain_hands") cdv A outer s H E).A (cxOf (L2.CX P w) P w K mg base ["hands", "name"] "plain_hands" (defScope (top 37)) (He.ga K "plain_hands") cdv A outer s H E).env (cxOf (L2.CX P w) P w K mg base ["hands", "name"] "plain_hands" (defScope (top 37)) (He.ga K "plain_hands") cdv A outer s H E).xe := passes_of rfl
  exact (ds_cons (ds_if (dt_pw (dw_or (dt_not (dt_val (dv (df_isi (t := .dict) rfl fx.g_isinstance (dv (df_var (pv 0))) (pe_bltn rfl fx.g_dict bt_dict rfl))))) (dw_or1 (dt_cmp (op_eqX_data hu) (dv (df_var (pv 0))) (dv (dn dn_dic0)) (nomark _))))) (ds_cons (ds_raiseD fx.mk_BadHands hcl rfl tk (hr.mono (by omega)) rfl (daf_cons df_non daf_nil))
  ds_nil) ds_nil)
  (ds_cons (ds_forD loc_var walk_keys tk (fun _ tk => ps_for hp rfl (pi_keys (pv 0)) (dg_name (vs := [1]) (by decide) (pg_name (i := 1) nd rfl (by first | exact .inl rfl | exact .inr rfl))) (ds_cons (ds_if (dt_pw (dw_or (dt_not (dt_val (dv (df_callD D_is_name hcl tk hr (by omega) rfl (daf_cons (df_var (pv 1)) daf_nil))))) (dw_or1 (dt_not (dt_val (dv (df_callD D_is_name_list hcl tk hr (by omega) rfl (daf_cons (df_ix (ix_data hu1) (dv (df_var (pv 0))) (dv (df_var (pv 1))) (fun _ _ => rfl)) daf_nil)))))))) (ds_cons (ds_raiseD fx.mk_BadHands hcl rfl tk (hr.mono (by omega)) rfl (daf_cons (df_var (pv 1)) daf_nil))
  ds_nil) ds_nil)
  ds_nil)) (fun _ _ _ _ q => q) (fun _ _ _ _ q => q))
  (ds_cons (ds_ret (dn (dn_dcD (own := [("name", 1)]) loc_var walk_keys rfl nd (pi_keys (pv 0)) (blkOk_by (by kernel_rfl)) (fun _ _ _ _ _ => (dg_name (vs := [1]) (by decide) (pg_name (i := 1) nd rfl (by first | exact .inl rfl | exact .inr rfl)))) (fun _ _ _ _ _ => dts_nil) (fun _ _ _ _ _ => (df_var (pv 1))) (fun _ _ _ _ _ => (df_callTy (c_list1 rfl) rfl fx.g_list bt_list (dav_cons (dv (df_ix (ix_data hu1) (dv (df_var (pv 0))) (dv (df_var (pv 1))) (fun _ _ => rfl))) dav_nil))))))
  ds_nil)))
theorem S_write_hands : FnScope ["hands", "own", "name"] ["hands"] (defScope (top 38)) := ⟨rfl, rfl, rfl, by decide +kernel, rfl, by decide +kernel, by decide +kernel⟩
theorem ok_write_hands {P : Program} {w : World} {K : PySem.W.Frag} {mg : PySem.Str → Option Value} {base : Heap} (fx : Fx P w K mg base) (D_plain_hands : DefOk P w K mg base (clK K) "plain_hands" 3 1 false g_plain_hands) (D_joined : DefOk P w K mg base (clK K) "joined" 1 1 false g_joined) {fd : FuncData} (F : FunD K "write_hands" "write_hands" (defArgs (top 38)) (defBody (top 38)) (defScope (top 38)) [] [] (He.ga K "write_hands") fd) : DefOk P w K mg base (clK K) "write_hands" 4 1 false g_write_hands := by
  refine ⟨_, fd, ["hands"], fx.gl_write_hands, F.kp, F.bindsN (fun _ _ _ _ _ _ us hl => match us, hl with | [_], _ => rfl), fn_dl (k := 3) F S_write_hands rfl fun cdv A outer s H E c W hr hcl tk => ?_⟩
  have nd := (S_write_hands).nd
  have hu := hu64_of hr
  have hu1 := hu01_of hr
  have hp : PassesOwn (model P w) (cxOf (L2.CX P w) P w K mg base ["hands", "own", "name"] "write_hands" (defScope (top 38)) (He.ga K "write_hands") cdv A outer s H E).A (cxOf (L2.CX P w) P w K mg base ["hands", "own", "name"] "write_hands" (defScope (top 38)) (He.ga K "write_hands") cdv A outer s H E).env (cxOf (L2.CX P w) P w K mg base ["hands", "own", "name"] "write_hands" (defScope (top 38)) (He.ga K "write_hands") cdv A outer s H E).xe := passes_of rfl
  exact (ds_cons (ds_set (ps_set (i := 1) nd rfl (by first | exact .inl rfl | exact .inr rfl) (df_callD D_plain_hands hcl tk hr (by omega) rfl (daf_cons (df_var (pv 0)) daf_nil))) fun _ _ _ q => q)
  (ds_cons (ds_ret (df_callD D_joined hcl tk hr (by omega) rfl (daf_cons (dn (dn_lcD (own := [("name", 2)]) loc_var walk_keys rfl nd (pi_keys (pv 1)) (blkOk_by (by kernel_rfl)) (fun _ _ _ _ _ => (dg_name (vs := [2]) (by decide) (pg_name (i := 2) nd rfl (by first | exact .inl rfl | exact .inr rfl)))) (fun _ _ _ _ _ => dts_nil) (fun _ _ _ _ _ => (df_op op_add_data (dv (dn (dn_lst (daf_cons df_str (daf_cons (df_var (pv 2)) daf_nil))))) (dv (df_ix (ix_data hu1) (dv (df_var (pv 1))) (dv (df_var (pv 2))) (fun _ _ => rfl))))))) daf_nil)))
  ds_nil))
theorem S_plain_links : FnScope ["links", "found", "index", "thing"] ["links"] (defScope (top 40)) := ⟨rfl, rfl, rfl, by decide +kernel, rfl, by decide +kernel, by decide +kernel⟩
theorem ok_plain_links {P : Program} {w : World} {K : PySem.W.Frag} {mg : PySem.Str → Option Value} {base : Heap} (fx : Fx P w K mg base) (D_is_list : DefOk P w K mg base (clK K) "is_list" 1 1 false g_is_list) (D_is_name_list : DefOk P w K mg base (clK K) "is_name_list" 2 1 false g_is_name_list) {fd : FuncData} (F : FunD K "plain_links" "plain_links" (defArgs (top 40)) (defBody (top 40)) (defScope (top 40)) [] [] (He.ga K "plain_links") fd) : DefOk P w K mg base (clK K) "plain_links" 3 1 false g_plain_links := by
  refine ⟨_, fd, ["links"], fx.gl_plain_links, F.kp, F.bindsN (fun _ _ _ _ _ _ us hl => match us, hl with | [_], _ => rfl), fn_dl (k := 2) F S_plain_links rfl fun cdv A outer s H E c W hr hcl tk => ?_⟩
  have nd := (S_plain_links).nd
  have hu := hu64_of hr
  have hu1 := hu01_of hr
  have hp : PassesOwn (model P w) (cxOf (L2.CX P w) P w K mg base ["links", "found", "index", "thing"] "plain_links" (defScope (top 40)) (He.ga K "plain_links") cdv A outer s H E).A (cxOf (L2.CX P w) P w K mg base ["links", "found", "index", "thing"] "plain_links" (defScope (top 40)) (He.ga K "plain_links") cdv A outer s H E).env (cxOf (L2.CX P w) P w K mg base ["links", "found", "index", "thing"] "plain_links" (defScope (top 40)) (He.ga K "plain_links") cdv A outer s H E).xe := passes_of rfl
  exact (ds_cons (ds_if (dt_not (dt_val (dv (df_callD D_is_list hcl tk hr (by omega) rfl (daf_cons (df_var (pv 0)) daf_nil))))) (ds_cons (ds_raiseD fx.mk_BadLinks hcl rfl tk (hr.mono (by omega)) rfl (daf_cons df_int daf_nil))
  ds_nil) ds_nil)
  (ds_cons (ds_own (ps_set (i := 1) nd rfl (by first | exact .inl rfl | exact .inr rfl) (dn_lst daf_nil)) fun _ _ _ q => q)
  (ds_cons (ds_for (ps_for hp rfl (di_enum rfl fx.g_enumerate (df_var (pv 0))) (dg_tup (n := 2) rfl rfl (dgs_cons (dg_name (vs := [2, 3]) (by decide) (pg_name (i := 2) nd rfl (by first | exact .inl rfl | exact .inr rfl))) (dgs_cons (dg_name (vs := [2, 3]) (by decide) (pg_name (i := 3) nd rfl (by first | exact .inl rfl | exact .inr rfl))) dgs_nil))) (ds_cons (ds_if (dt_pw (dw_or (dt_not (dt_val (dv (df_callD D_is_list hcl tk hr (by omega) rfl (daf_cons (df_var (pv 3)) daf_nil))))) (dw_or (dt_cmp (op_neX_data hu) (dv (df_callB c_len rfl fx.g_len bt_len (dav_cons (dv (df_var (pv 3))) dav_nil))) (dv df_int) (nomark _)) (dw_or (dt_not (dt_val (dv (df_callD D_is_name_list hcl tk hr (by omega) rfl (daf_cons (df_var (pv 3)) daf_nil))))) (dw_or1 (dt_cmp (op_in_data hu) (dv (df_callTy c_tuple rfl fx.g_tuple bt_tuple (dav_cons (dv (df_var (pv 3))) dav_nil))) (dv_var (pv 1)) (by with_unfolding_all rfl))))))) (ds_cons (ds_raiseD fx.mk_BadLinks hcl rfl tk (hr.mono (by omega)) rfl (daf_cons (df_var (pv 2)) daf_nil))
  ds_nil) ds_nil)
  (ds_cons (ds_app (ps_expr (pe_bm PySem.F.plainAttrs_list PySem.F.slot_list_append PySem.F.type_list_append mt_append (pv 1) (pa_cons (df_callTy c_tuple rfl fx.g_tuple bt_tuple (dav_cons (dv (df_var (pv 3))) dav_nil)) pa_nil))))
  ds_nil))) (fun _ _ _ _ q => q) (fun _ _ _ q => q))
  (ds_cons (ds_fz (ds_ret (df_var (pv 1))))
  ds_nil))))
end K88

set_option Elab.async false
set_option linter.all false
set_option maxRecDepth 100000
set_option maxHeartbeats 0
namespace K88
open PySem PySem.Spec PyProof.Rows L2 XH EX DL RZ NdefX
theorem S_write_links : FnScope ["links", "one", "other"] ["links"] (defScope (top 41)) := ⟨rfl, rfl, rfl, by decide +kernel, rfl, by decide +kernel, by decide +kernel⟩
theorem ok_write_links {P : Program} {w : World} {K : PySem.W.Frag} {mg : PySem.Str → Option Value} {base : Heap} (fx : Fx P w K mg base) (D_joined : DefOk P w K mg base (clK K) "joined" 1 1 false g_joined) (D_plain_links : DefOk P w K mg base (clK K) "plain_links" 3 1 false g_plain_links) {fd : FuncData} (F : FunD K "write_links" "write_links" (defArgs (top 41)) (defBody (top 41)) (defScope (top 41)) [] [] (He.ga K "write_links") fd) : DefOk P w K mg base (clK K) "write_links" 4 1 false g_write_links := by
  refine ⟨_, fd, ["links"], fx.gl_write_links, F.kp, F.bindsN (fun _ _ _ _ _ _ us hl => match us, hl with | [_], _ => rfl), fn_dl (k := 3) F S_write_links rfl fun cdv A outer s H E c W hr hcl tk => ?_⟩
  have nd := (S_write_links).nd
  have hu := hu64_of hr
  have hu1 := hu01_of hr
  have hp : PassesOwn (model P w) (cxOf (L2.CX P w) P w K mg base ["links", "one", "other"] "write_links" (defScope (top 41)) (He.ga K "write_links") cdv A outer s H E).A (cxOf (L2.CX P w) P w K mg base ["links", "one", "other"] "write_links" (defScope (top 41)) (He.ga K "write_links") cdv A outer s H E).env (cxOf (L2.CX P w) P w K mg base ["links", "one", "other"] "write_links" (defScope (top 41)) (He.ga K "write_links") cdv A outer s H E).xe := passes_of rfl
  exact (ds_cons (ds_ret (df_callD D_joined hcl tk hr (by omega) rfl (daf_cons (dn (dn_lc (own := [("one", 1), ("other", 2)]) rfl nd (di_any (df_callD D_plain_links hcl tk hr (by omega) rfl (daf_cons (df_var (pv 0)) daf_nil))) (blkOk_by (by kernel_rfl)) (fun _ _ _ _ _ => (dg_tup (n := 2) rfl rfl (dgs_cons (dg_name (vs := [1, 2]) (by decide) (pg_name (i := 1) nd rfl (by first | exact .inl rfl | exact .inr rfl))) (dgs_cons (dg_name (vs := [1, 2]) (by decide) (pg_name (i := 2) nd rfl (by first | exact .inl rfl | exact .inr rfl))) dgs_nil)))) (fun _ _ _ _ _ => dts_nil) (fun _ _ _ _ _ => (dn (dn_lst (daf_cons df_str (daf_cons (df_var (pv 1)) (daf_cons (df_var (pv 2)) daf_nil)))))))) daf_nil)))
  ds_nil)
theorem S_read_hands : FnScope ["text", "found", "row"] ["text"] (defScope (top 39)) := ⟨rfl, rfl, rfl, by decide +kernel, rfl, by decide +kernel, by decide +kernel⟩
theorem ok_read_hands {P : Program} {w : World} {K : PySem.W.Frag} {mg : PySem.Str → Option Value} {base : Heap} (fx : Fx P w K mg base) (D_words_of : DefOk P w K mg base (clK K) "words_of" 3 1 false g_words_of) (D_is_name : DefOk P w K mg base (clK K) "is_name" 1 1 false g_is_name) (D_is_name_list : DefOk P w K mg base (clK K) "is_name_list" 2 1 false g_is_name_list) {fd : FuncData} (F : FunD K "read_hands" "read_hands" (defArgs (top 39)) (defBody (top 39)) (defScope (top 39)) [] [] (He.ga K "read_hands") fd) : DefOk P w K mg base (clK K) "read_hands" 4 1 false g_read_hands := by
  refine ⟨_, fd, ["text"], fx.gl_read_hands, F.kp, F.bindsN (fun _ _ _ _ _ _ us hl => match us, hl with | [_], _ => rfl), fn_dl (k := 3) F S_read_hands rfl fun cdv A outer s H E c W hr hcl tk => ?_⟩
  have nd := (S_read_hands).nd
  have hu := hu64_of hr
  have hu1 := hu01_of hr
  have hp : PassesOwn (model P w) (cxOf (L2.CX P w) P w K mg base ["text", "found", "row"] "read_hands" (defScope (top 39)) (He.ga K "read_hands") cdv A outer s H E).A (cxOf (L2.CX P w) P w K mg base ["text", "found", "row"] "read_hands" (defScope (top 39)) (He.ga K "read_hands") cdv A outer s H E).env (cxOf (L2.CX P w) P w K mg base ["text", "found", "row"] "read_hands" (defScope (top 39)) (He.ga K "read_hands") cdv A outer s H E).xe := passes_of rfl
  exact (ds_cons (ds_own (ps_set (i := 1) nd rfl (by first | exact .inl rfl | exact .inr rfl) dn_dic0) fun _ _ _ q => q)
  (ds_cons (ds_for (ps_for hp rfl (di_any (df_callD D_words_of hcl tk hr (by omega) rfl (daf_cons (df_var (pv 0)) daf_nil))) (dg_name (vs := [2]) (by decide) (pg_name (i := 2) nd rfl (by first | exact .inl rfl | exact .inr rfl))) (ds_cons (ds_if (dt_pw (dw_or (dt_cmp (op_neX_data hu) (dv (df_ix (ix_data hu1) (dv (df_var (pv 2))) (dv df_int) (fun _ _ => rfl))) (dv df_str) (nomark _)) (dw_or (dt_cmp op_lt_data (dv (df_callB c_len rfl fx.g_len bt_len (dav_cons (dv (df_var (pv 2))) dav_nil))) (dv df_int) (nomark _)) (dw_or (dt_not (dt_val (dv (df_callD D_is_name hcl tk hr (by omega) rfl (daf_cons (df_ix (ix_data hu1) (dv (df_var (pv 2))) (dv df_int) (fun _ _ => rfl)) daf_nil))))) (dw_or (dt_cmp (op_in_data hu) (dv (df_ix (ix_data hu1) (dv (df_var (pv 2))) (dv df_int) (fun _ _ => rfl))) (dv_var (pv 1)) (by with_unfolding_all rfl)) (dw_or1 (dt_not (dt_val (dv (df_callD D_is_name_list hcl tk hr (by omega) rfl (daf_cons (df_sl (dv (df_var (pv 2))) (do_some (dv df_int)) do_none) daf_nil))))))))))) (ds_cons (ds_raiseD fx.mk_BadText hcl rfl tk (hr.mono (by omega)) rfl (daf_cons (df_var (pv 0)) daf_nil))
  ds_nil) ds_nil)
  (ds_cons (ds_put (ps_dput hu1 (pv 1) (dv (df_ix (ix_data hu1) (dv (df_var (pv 2))) (dv df_int) (fun _ _ => rfl))) (df_sl (dv (df_var (pv 2))) (do_some (dv df_int)) do_none) rfl))
  ds_nil))) (fun _ _ _ _ q => q) (fun _ _ _ q => q))
  (ds_cons (ds_if (dt_cmp (op_eqX_data hu) (dv_var (pv 1)) (dv (dn dn_dic0)) (nomark _)) (ds_cons (ds_raiseD fx.mk_BadText hcl rfl tk (hr.mono (by omega)) rfl (daf_cons (df_var (pv 0)) daf_nil))
  ds_nil) ds_nil)
  (ds_cons (ds_fz (ds_ret (df_var (pv 1))))
  ds_nil))))
theorem S_read_links : FnScope ["text", "found", "row"] ["text"] (defScope (top 42)) := ⟨rfl, rfl, rfl, by decide +kernel, rfl, by decide +kernel, by decide +kernel⟩
theorem ok_read_links {P : Program} {w : World} {K : PySem.W.Frag} {mg : PySem.Str → Option Value} {base : Heap} (fx : Fx P w K mg base) (D_words_of : DefOk P w K mg base (clK K) "words_of" 3 1 false g_words_of) (D_is_name_list : DefOk P w K mg base (clK K) "is_name_list" 2 1 false g_is_name_list) {fd : FuncData} (F : FunD K "read_links" "read_links" (defArgs (top 42)) (defBody (top 42)) (defScope (top 42)) [] [] (He.ga K "read_links") fd) : DefOk P w K mg base (clK K) "read_links" 4 1 false g_read_links := by
  refine ⟨_, fd, ["text"], fx.gl_read_links, F.kp, F.bindsN (fun _ _ _ _ _ _ us hl => match us, hl with | [_], _ => rfl), fn_dl (k := 3) F S_read_links rfl fun cdv A outer s H E c W hr hcl tk => ?_⟩
  have nd := (S_read_links).nd
  have hu := hu64_of hr
  have hu1 := hu01_of hr
  have hp : PassesOwn (model P w) (cxOf (L2.CX P w) P w K mg base ["text", "found", "row"] "read_links" (defScope (top 42)) (He.ga K "read_links") cdv A outer s H E).A (cxOf (L2.CX P w) P w K mg base ["text", "found", "row"] "read_links" (defScope (top 42)) (He.ga K "read_links") cdv A outer s H E).env (cxOf (L2.CX P w) P w K mg base ["text", "found", "row"] "read_links" (defScope (top 42)) (He.ga K "read_links") cdv A outer s H E).xe := passes_of rfl
  exact (ds_cons (ds_own (ps_set (i := 1) nd rfl (by first | exact .inl rfl | exact .inr rfl) (dn_lst daf_nil)) fun _ _ _ q => q)
  (ds_cons (ds_for (ps_for hp rfl (di_any (df_callD D_words_of hcl tk hr (by omega) rfl (daf_cons (df_var (pv 0)) daf_nil))) (dg_name (vs := [2]) (by decide) (pg_name (i := 2) nd rfl (by first | exact .inl rfl | exact .inr rfl))) (ds_cons (ds_if (dt_pw (dw_or (dt_cmp (op_neX_data hu) (dv (df_ix (ix_data hu1) (dv (df_var (pv 2))) (dv df_int) (fun _ _ => rfl))) (dv df_str) (nomark _)) (dw_or (dt_cmp (op_neX_data hu) (dv (df_callB c_len rfl fx.g_len bt_len (dav_cons (dv (df_var (pv 2))) dav_nil))) (dv df_int) (nomark _)) (dw_or (dt_not (dt_val (dv (df_callD D_is_name_list hcl tk hr (by omega) rfl (daf_cons (df_sl (dv (df_var (pv 2))) (do_some (dv df_int)) do_none) daf_nil))))) (dw_or1 (dt_cmp (op_in_data hu) (dv (df_callTy c_tuple rfl fx.g_tuple bt_tuple (dav_cons (dv (df_sl (dv (df_var (pv 2))) (do_some (dv df_int)) do_none)) dav_nil))) (dv_var (pv 1)) (by with_unfolding_all rfl))))))) (ds_cons (ds_raiseD fx.mk_BadText hcl rfl tk (hr.mono (by omega)) rfl (daf_cons (df_var (pv 0)) daf_nil))
  ds_nil) ds_nil)
  (ds_cons (ds_app (ps_expr (pe_bm PySem.F.plainAttrs_list PySem.F.slot_list_append PySem.F.type_list_append mt_append (pv 1) (pa_cons (df_callTy c_tuple rfl fx.g_tuple bt_tuple (dav_cons (dv (df_sl (dv (df_var (pv 2))) (do_some (dv df_int)) do_none)) dav_nil)) pa_nil))))
  ds_nil))) (fun _ _ _ _ q => q) (fun _ _ _ q => q))
  (ds_cons (ds_fz (ds_ret (df_var (pv 1))))
  ds_nil)))
theorem S__law_tried : FnScope ["_law_kind", "_law_text", "e", "_law_found"] ["_law_kind", "_law_text"] (defScope (top 65)) := ⟨rfl, rfl, rfl, by decide +kernel, rfl, by decide +kernel, by decide +kernel⟩
theorem ok__law_tried {P : Program} {w : World} {K : PySem.W.Frag} {mg : PySem.Str → Option Value} {base : Heap} (fx : Fx P w K mg base) (D_write_table : DefOk P w K mg base (clK K) "write_table" 2 1 false g_write_table) (D_read_table : DefOk P w K mg base (clK K) "read_table" 5 1 false g_read_table) (D_write_hands : DefOk P w K mg base (clK K) "write_hands" 4 1 false g_write_hands) (D_write_links : DefOk P w K mg base (clK K) "write_links" 4 1 false g_write_links) (D_read_hands : DefOk P w K mg base (clK K) "read_hands" 4 1 false g_read_hands) (D_read_links : DefOk P w K mg base (clK K) "read_links" 4 1 false g_read_links) {fd : FuncData} (F : FunD K "_law_tried" "_law_tried" (defArgs (top 65)) (defBody (top 65)) (defScope (top 65)) [] [] (He.ga K "_law_tried") fd) : DefOk P w K mg base (clK K) "_law_tried" 6 2 false g__law_tried := by
  refine ⟨_, fd, ["_law_kind", "_law_text"], fx.gl__law_tried, F.kp, F.bindsN (fun _ _ _ _ _ _ us hl => match us, hl with | [_, _], _ => rfl), fn_dl (k := 5) F S__law_tried rfl fun cdv A outer s H E c W hr hcl tk => ?_⟩
  have nd := (S__law_tried).nd
  have hu := hu64_of hr
  have hu1 := hu01_of hr
  have hp : PassesOwn (model P w) (cxOf (L2.CX P w) P w K mg base ["_law_kind", "_law_text", "e", "_law_found"] "_law_tried" (defScope (top 65)) (He.ga K "_law_tried") cdv A outer s H E).A (cxOf (L2.CX P w) P w K mg base ["_law_kind", "_law_text", "e", "_law_found"] "_law_tried" (defScope (top 65)) (He.ga K "_law_tried") cdv A outer s H E).env (cxOf (L2.CX P w) P w K mg base ["_law_kind", "_law_text", "e", "_law_found"] "_law_tried" (defScope (top 65)) (He.ga K "_law_tried") cdv A outer s H E).xe := passes_of rfl
  exact (ds_cons (ds_try (fx.catches hcl (by decide +kernel)) rfl rfl nd rfl rfl ⟨rfl, by decide, .inl fx.gl_BadText⟩ tk (fun _ _ _ tk hp => (ds_cons (ds_if (dt_cmp (op_eq_data hu) (dv (df_var (pv 0))) (dv df_int) (nomark _)) (ds_cons (ds_set (ps_set (i := 3) nd rfl (by first | exact .inl rfl | exact .inr rfl) (dn (dn_tup (daf_cons df_str (daf_cons (df_callD D_write_table hcl tk hr (by omega) rfl (daf_cons (df_callD D_read_table hcl tk hr (by omega) rfl (daf_cons (df_var (pv 1)) daf_nil)) daf_nil)) daf_nil))))) fun _ _ _ q => q)
  ds_nil) (ds_cons (ds_set (ps_set (i := 3) nd rfl (by first | exact .inl rfl | exact .inr rfl) (dn (dn_tup (daf_cons df_str (daf_cons (df_if (dt_cmp (op_eq_data hu) (dv (df_var (pv 0))) (dv df_int) (nomark _)) (df_callD D_write_hands hcl tk hr (by omega) rfl (daf_cons (df_callD D_read_hands hcl tk hr (by omega) rfl (daf_cons (df_var (pv 1)) daf_nil)) daf_nil)) (df_callD D_write_links hcl tk hr (by omega) rfl (daf_cons (df_callD D_read_links hcl tk hr (by omega) rfl (daf_cons (df_var (pv 1)) daf_nil)) daf_nil))) daf_nil))))) fun _ _ _ q => q)
  ds_nil))
  ds_nil))
  (fun _ _ _ _ _ hz hf => (ds_cons (ds_set (ps_set (i := 3) nd rfl (by first | exact .inl rfl | exact .inr rfl) (dn (dn_tup (daf_cons df_str (daf_cons (df_xf hcl (clK_exc (by decide +kernel)) (fx.fam.exc "BadText" (by decide +kernel)).1 fx.xf_BadText_thing hz hf (pv 2)) daf_nil))))) fun _ _ _ q => q)
  ds_nil)))
  (ds_cons (ds_ret (df_var (pv 3)))
  ds_nil))
theorem S__law_same : FnScope ["_law_found", "_law_due", "_law_x", "_law_y"] ["_law_found", "_law_due"] (defScope (top 55)) := ⟨rfl, rfl, rfl, by decide +kernel, rfl, by decide +kernel, by decide +kernel⟩
theorem ok__law_same {P : Program} {w : World} {K : PySem.W.Frag} {mg : PySem.Str → Option Value} {base : Heap} (fx : Fx P w K mg base)  {fd : FuncData} (F : FunD K "_law_same" "_law_same" (defArgs (top 55)) (defBody (top 55)) (defScope (top 55)) [] [] (He.ga K "_law_same") fd) : ∀ n, DefOk P w K mg base (clK K) "_law_same" (0 + n) 2 false (g__law_same n)
  | 0 => ⟨_, fd, ["_law_found", "_law_due"], fx.gl__law_same, F.kp, F.bindsN (fun _ _ _ _ _ _ us hl => match us, hl with | [_, _], _ => rfl), fn_bad rfl⟩
  | n + 1 => by
    have D_self := ok__law_same fx  F n
    refine ⟨_, fd, ["_law_found", "_law_due"], fx.gl__law_same, F.kp, F.bindsN (fun _ _ _ _ _ _ us hl => match us, hl with | [_, _], _ => rfl), fn_dl (k := 0 + n) F S__law_same rfl fun cdv A outer s H E c W hr hcl tk => ?_⟩
    have nd := (S__law_same).nd
    have hu := hu64_of hr
    have hu1 := hu01_of hr
    have hp : PassesOwn (model P w) (cxOf (L2.CX P w) P w K mg base ["_law_found", "_law_due", "_law_x", "_law_y"] "_law_same" (defScope (top 55)) (He.ga K "_law_same") cdv A outer s H E).A (cxOf (L2.CX P w) P w K mg base ["_law_found", "_law_due", "_law_x", "_law_y"] "_law_same" (defScope (top 55)) (He.ga K "_law_same") cdv A outer s H E).env (cxOf (L2.CX P w) P w K mg base ["_law_found", "_law_due", "_law_x", "_law_y"] "_law_same" (defScope (top 55)) (He.ga K "_law_same") cdv A outer s H E).xe := passes_of rfl
    exact (ds_cons (ds_if (dt_val (dv (df_isiT (t := .list) (ts := [.tuple]) rfl fx.g_isinstance (dv (df_var (pv 1))) (pa_imp (pa_cons (pe_bltn (v := .ty "list") rfl fx.g_list bt_list rfl) (pa_cons (pe_bltn (v := .ty "tuple") rfl fx.g_tuple bt_tuple rfl) pa_nil)) fun _ _ _ q => q) (by decide)))) (ds_cons (ds_if (dt_pw (dw_or (dt_cmp (op_neX_data hu) (dv (df_isi (t := .list) rfl fx.g_isinstance (dv (df_var (pv 0))) (pe_bltn rfl fx.g_list bt_list rfl))) (dv (df_isi (t := .list) rfl fx.g_isinstance (dv (df_var (pv 1))) (pe_bltn rfl fx.g_list bt_list rfl))) (nomark _)) (dw_or1 (dt_cmp (op_neX_data hu) (dv (df_isi (t := .tuple) rfl fx.g_isinstance (dv (df_var (pv 0))) (pe_bltn rfl fx.g_tuple bt_tuple rfl))) (dv (df_isi (t := .tuple) rfl fx.g_isinstance (dv (df_var (pv 1))) (pe_bltn rfl fx.g_tuple bt_tuple rfl))) (nomark _))))) (ds_cons (ds_ret df_bl)
  ds_nil) ds_nil)
  (ds_cons (ds_ret (df_and (dv (df_cmp (op_eq_data hu) (dv (df_callB c_len rfl fx.g_len bt_len (dav_cons (dv (df_var (pv 0))) dav_nil))) (dv (df_callB c_len rfl fx.g_len bt_len (dav_cons (dv (df_var (pv 1))) dav_nil))) (nomark _))) (df_one (df_callB (c_all rfl) rfl fx.g_all bt_all (dav_cons (dv (dn (dn_lc (own := [("_law_x", 2), ("_law_y", 3)]) rfl nd (di_zip rfl fx.g_zip (df_var (pv 0)) (df_var (pv 1))) (blkOk_by (by kernel_rfl)) (fun _ _ _ _ _ => (dg_tup (n := 2) rfl rfl (dgs_cons (dg_name (vs := [2, 3]) (by decide) (pg_name (i := 2) nd rfl (by first | exact .inl rfl | exact .inr rfl))) (dgs_cons (dg_name (vs := [2, 3]) (by decide) (pg_name (i := 3) nd rfl (by first | exact .inl rfl | exact .inr rfl))) dgs_nil)))) (fun _ _ _ _ _ => dts_nil) (fun _ _ _ _ _ => (df_callD D_self hcl takes0 hr (by omega) rfl (daf_cons (df_var (pv 2)) (daf_cons (df_var (pv 3)) daf_nil))))))) dav_nil)))))
  ds_nil)) ds_nil)
  (ds_cons (ds_if (dt_val (dv (df_isi (t := .int) rfl fx.g_isinstance (dv (df_var (pv 1))) (pe_bltn rfl fx.g_int bt_int rfl)))) (ds_cons (ds_ret (df_and (dv (df_isi (t := .int) rfl fx.g_isinstance (dv (df_var (pv 0))) (pe_bltn rfl fx.g_int bt_int rfl))) (df_and (dv (df_cmp (op_eq_data hu) (dv (df_isi (t := .bool) rfl fx.g_isinstance (dv (df_var (pv 0))) (pe_bltn rfl fx.g_bool bt_bool rfl))) (dv (df_isi (t := .bool) rfl fx.g_isinstance (dv (df_var (pv 1))) (pe_bltn rfl fx.g_bool bt_bool rfl))) (nomark _))) (df_one (df_cmp (op_eqX_data hu) (dv (df_var (pv 0))) (dv (df_var (pv 1))) (nomark _))))))
  ds_nil) ds_nil)
  (ds_cons (ds_ret (df_and (dv (df_cmp op_is_data (dv (df_isiT (t := .int) (ts := [.list, .tuple]) rfl fx.g_isinstance (dv (df_var (pv 0))) (pa_imp (pa_cons (pe_bltn (v := .ty "int") rfl fx.g_int bt_int rfl) (pa_cons (pe_bltn (v := .ty "list") rfl fx.g_list bt_list rfl) (pa_cons (pe_bltn (v := .ty "tuple") rfl fx.g_tuple bt_tuple rfl) pa_nil))) fun _ _ _ q => q) (by decide))) (dv df_bl) (nomark _))) (df_one (df_cmp (op_eqX_data hu) (dv (df_var (pv 0))) (dv (df_var (pv 1))) (nomark _)))))
  ds_nil)))
theorem S__law_d_rows : FnScope ["_law_stream", "_law_names_here", "_law_most", "_law_wide", "_law_many", "_law_shift", "_law_k", "_law_name_here"] ["_law_stream", "_law_names_here", "_law_most"] (defScope (top 44)) := ⟨rfl, rfl, rfl, by decide +kernel, rfl, by decide +kernel, by decide +kernel⟩
theorem ok__law_d_rows {P : Program} {w : World} {K : PySem.W.Frag} {mg : PySem.Str → Option Value} {base : Heap} (fx : Fx P w K mg base) (D__law_draw : DefOk P w K mg base (clK K) "_law_draw" 1 1 true g__law_draw) {fd : FuncData} (F : FunD K "_law_d_rows" "_law_d_rows" (defArgs (top 44)) (defBody (top 44)) (defScope (top 44)) [] [] (He.ga K "_law_d_rows") fd) : DefOk P w K mg base (clK K) "_law_d_rows" 2 2 true g__law_d_rows := by
  refine ⟨_, fd, ["_law_stream", "_law_names_here", "_law_most"], fx.gl__law_d_rows, F.kp, F.bindsN (fun _ _ _ _ _ _ us hl => match us, hl with | [_, _, _], _ => rfl), fn_dl (k := 1) F S__law_d_rows rfl fun cdv A outer s H E c W hr hcl tk => ?_⟩
  have nd := (S__law_d_rows).nd
  have hu := hu64_of hr
  have hu1 := hu01_of hr
  have hp : PassesOwn (model P w) (cxOf (L2.CX P w) P w K mg base ["_law_stream", "_law_names_here", "_law_most", "_law_wide", "_law_many", "_law_shift", "_law_k", "_law_name_here"] "_law_d_rows" (defScope (top 44)) (He.ga K "_law_d_rows") cdv A outer s H E).A (cxOf (L2.CX P w) P w K mg base ["_law_stream", "_law_names_here", "_law_most", "_law_wide", "_law_many", "_law_shift", "_law_k", "_law_name_here"] "_law_d_rows" (defScope (top 44)) (He.ga K "_law_d_rows") cdv A outer s H E).env (cxOf (L2.CX P w) P w K mg base ["_law_stream", "_law_names_here", "_law_most", "_law_wide", "_law_many", "_law_shift", "_law_k", "_law_name_here"] "_law_d_rows" (defScope (top 44)) (He.ga K "_law_d_rows") cdv A outer s H E).xe := passes_of rfl
  exact (ds_cons (ds_set (ps_set (i := 3) nd rfl (by first | exact .inl rfl | exact .inr rfl) (df_op op_add_data (dv df_int) (dv (df_callSD D__law_draw hcl tk hr (by omega) rfl (pv 0) (daf_cons df_int daf_nil))))) fun _ _ _ q => q)
  (ds_cons (ds_parT (n := 2) rfl rfl (by decide) (ps_asg (pe_tup (pa_cons (df_op op_add_data (dv df_int) (dv (df_callSD D__law_draw hcl tk hr (by omega) rfl (pv 0) (daf_cons (df_var (pv 2)) daf_nil)))) (pa_cons (df_ix (ix_data hu1) (dv (dn (dn_lst (daf_cons df_int (daf_cons df_int (daf_cons (df_neg (dv df_int)) (daf_cons (df_op op_pow_data (dv df_int) (dv df_int)) daf_nil))))))) (dv (df_callSD D__law_draw hcl tk hr (by omega) rfl (pv 0) (daf_cons df_int daf_nil))) (fun _ _ => rfl)) pa_nil))) (pg_tup rfl (pgs_cons (pg_name (i := 4) nd rfl (by first | exact .inl rfl | exact .inr rfl)) (pgs_cons (pg_name (i := 5) nd rfl (by first | exact .inl rfl | exact .inr rfl)) pgs_nil)))))
  (ds_cons (ds_ret (dn (dn_lc (own := [("_law_k", 6)]) rfl nd (di_range1 rfl fx.g_range (dv (df_var (pv 4)))) (blkOk_by (by kernel_rfl)) (fun _ _ _ _ _ => (dg_name (vs := [6]) (by decide) (pg_name (i := 6) nd rfl (by first | exact .inl rfl | exact .inr rfl)))) (fun _ _ _ _ _ => dts_nil) (fun _ _ _ _ _ => (df_callTy (c_dict1 rfl) rfl fx.g_dict bt_dict (dav_cons (dv (dn (dn_lc (own := [("_law_name_here", 7)]) rfl nd (di_any (df_var (pv 1))) (blkOk_by (by kernel_rfl)) (fun _ _ _ _ _ => (dg_name (vs := [7]) (by decide) (pg_name (i := 7) nd rfl (by first | exact .inl rfl | exact .inr rfl)))) (fun _ _ _ _ _ => dts_nil) (fun _ _ _ _ _ => (dn (dn_tup (daf_cons (df_var (pv 7)) (daf_cons (df_op op_add_data (dv (df_var (pv 5))) (dv (df_callSD D__law_draw hcl takes0 hr (by omega) rfl (pv 0) (daf_cons (df_op op_add_data (dv df_int) (dv (df_var (pv 3)))) daf_nil)))) daf_nil)))))))) dav_nil))))))
  ds_nil)))
end K88

set_option Elab.async false
set_option linter.all false
set_option maxRecDepth 100000
set_option maxHeartbeats 0
namespace K88
open PySem PySem.Spec PyProof.Rows L2 XH EX DL RZ NdefX
theorem S__law_d_links : FnScope ["_law_stream", "_law_hands", "_law_most", "_law_pairs", "_law_one", "_law_other"] ["_law_stream", "_law_hands", "_law_most"] (defScope (top 46)) := ⟨rfl, rfl, rfl, by decide +kernel, rfl, by decide +kernel, by decide +kernel⟩
theorem ok__law_d_links {P : Program} {w : World} {K : PySem.W.Frag} {mg : PySem.Str → Option Value} {base : Heap} (fx : Fx P w K mg base) (D__law_mixed : DefOk P w K mg base (clK K) "_law_mixed" 2 1 true g__law_mixed) (D__law_draw : DefOk P w K mg base (clK K) "_law_draw" 1 1 true g__law_draw) {fd : FuncData} (F : FunD K "_law_d_links" "_law_d_links" (defArgs (top 46)) (defBody (top 46)) (defScope (top 46)) [] [] (He.ga K "_law_d_links") fd) : DefOk P w K mg base (clK K) "_law_d_links" 3 2 true g__law_d_links := by
  refine ⟨_, fd, ["_law_stream", "_law_hands", "_law_most"], fx.gl__law_d_links, F.kp, F.bindsN (fun _ _ _ _ _ _ us hl => match us, hl with | [_, _, _], _ => rfl), fn_dl (k := 2) F S__law_d_links rfl fun cdv A outer s H E c W hr hcl tk => ?_⟩
  have nd := (S__law_d_links).nd
  have hu := hu64_of hr
  have hu1 := hu01_of hr
  have hp : PassesOwn (model P w) (cxOf (L2.CX P w) P w K mg base ["_law_stream", "_law_hands", "_law_most", "_law_pairs", "_law_one", "_law_other"] "_law_d_links" (defScope (top 46)) (He.ga K "_law_d_links") cdv A outer s H E).A (cxOf (L2.CX P w) P w K mg base ["_law_stream", "_law_hands", "_law_most", "_law_pairs", "_law_one", "_law_other"] "_law_d_links" (defScope (top 46)) (He.ga K "_law_d_links") cdv A outer s H E).env (cxOf (L2.CX P w) P w K mg base ["_law_stream", "_law_hands", "_law_most", "_law_pairs", "_law_one", "_law_other"] "_law_d_links" (defScope (top 46)) (He.ga K "_law_d_links") cdv A outer s H E).xe := passes_of rfl
  exact (ds_cons (ds_own (ps_set (i := 3) nd rfl (by first | exact .inl rfl | exact .inr rfl) (dn_lst daf_nil)) fun _ _ _ q => q)
  (ds_cons (ds_for (ps_for hp rfl (di_any (df_var (pv 1))) (dg_name (vs := [4]) (by decide) (pg_name (i := 4) nd rfl (by first | exact .inl rfl | exact .inr rfl))) (ds_cons (ds_ext (ps_expr (pe_bm PySem.F.plainAttrs_list PySem.F.slot_list_extend PySem.F.type_list_extend mt_extend (pv 3) (pa_cons (dn (dn_lc (own := [("_law_other", 5)]) rfl nd (di_any (df_var (pv 1))) (blkOk_by (by kernel_rfl)) (fun _ _ _ _ _ => (dg_name (vs := [5]) (by decide) (pg_name (i := 5) nd rfl (by first | exact .inl rfl | exact .inr rfl)))) (fun _ _ _ _ _ => (dts_one (dt_cmp (op_neX_data hu) (dv (df_var (pv 5))) (dv (df_var (pv 4))) (nomark _)))) (fun _ _ _ _ _ => (dn (dn_tup (daf_cons (df_var (pv 4)) (daf_cons (df_var (pv 5)) daf_nil))))))) pa_nil))))
  ds_nil)) (fun _ _ _ _ q => q) (fun _ _ _ q => q))
  (ds_cons (ds_fz (ds_ret (df_sl (dv (df_callSD D__law_mixed hcl tk hr (by omega) rfl (pv 0) (daf_cons (df_var (pv 3)) daf_nil))) do_none (do_some (dv (df_callSD D__law_draw hcl tk hr (by omega) rfl (pv 0) (daf_cons (df_op op_add_data (dv (df_var (pv 2))) (dv df_int)) daf_nil)))))))
  ds_nil)))
end K88

set_option Elab.async false
set_option linter.all false
set_option maxRecDepth 100000
set_option maxHeartbeats 0
namespace K88
open PySem PySem.Spec PyProof.Rows L2 XH EX DL NdefX
section
variable {P : Program} {w : World} {K : PySem.W.Frag} {mg : PySem.Str → Option Value} {base : Heap}
theorem S_BadHands : NScope ["self", "name", "__class__"] ["self", "name"] ["__class__"] x_BadHands.scope := nscope_by (by decide +kernel)
theorem mo_BadHands (X : XCls P K x_BadHands) (hg : mg "BadHands" = some (.ref (He.ga K "BadHands"))) (hs : mg "super" = none) (htop : (P.main.scope.names.lookup ("super" : PySem.Str)).isSome = false) : MkOk P w K mg base (clK K) "BadHands" ["name"] (fun C => spIni1 C "name") :=
  mk_of X rfl (clK_in (by decide +kernel)) hg htop (fun oc kV doc pm ct od an osl cc cda lk hcd T => ini1_ok (k := 0) lk hcd S_BadHands T hs rfl rfl rfl (X.fld "name" (by decide)) (by decide) (by decide) (by decide) (by decide) (fun L => rfl)) (fun _ _ _ _ _ _ _ us hl => match us, hl with | [_, _], _ => rfl) (fun _ _ _ _ _ _ _ u ws hl => match ws, hl with | [_], _ => rfl) len_sp1
theorem S_BadRow : NScope ["self", "index", "__class__"] ["self", "index"] ["__class__"] x_BadRow.scope := nscope_by (by decide +kernel)
theorem mo_BadRow (X : XCls P K x_BadRow) (hg : mg "BadRow" = some (.ref (He.ga K "BadRow"))) (hs : mg "super" = none) (htop : (P.main.scope.names.lookup ("super" : PySem.Str)).isSome = false) : MkOk P w K mg base (clK K) "BadRow" ["index"] (fun C => spIni1 C "index") :=
  mk_of X rfl (clK_in (by decide +kernel)) hg htop (fun oc kV doc pm ct od an osl cc cda lk hcd T => ini1_ok (k := 0) lk hcd S_BadRow T hs rfl rfl rfl (X.fld "index" (by decide)) (by decide) (by decide) (by decide) (by decide) (fun L => rfl)) (fun _ _ _ _ _ _ _ us hl => match us, hl with | [_, _], _ => rfl) (fun _ _ _ _ _ _ _ u ws hl => match ws, hl with | [_], _ => rfl) len_sp1
theorem S_BadLinks : NScope ["self", "index", "__class__"] ["self", "index"] ["__class__"] x_BadLinks.scope := nscope_by (by decide +kernel)
theorem mo_BadLinks (X : XCls P K x_BadLinks) (hg : mg "BadLinks" = some (.ref (He.ga K "BadLinks"))) (hs : mg "super" = none) (htop : (P.main.scope.names.lookup ("super" : PySem.Str)).isSome = false) : MkOk P w K mg base (clK K) "BadLinks" ["index"] (fun C => spIni1 C "index") :=
  mk_of X rfl (clK_in (by decide +kernel)) hg htop (fun oc kV doc pm ct od an osl cc cda lk hcd T => ini1_ok (k := 0) lk hcd S_BadLinks T hs rfl rfl rfl (X.fld "index" (by decide)) (by decide) (by decide) (by decide) (by decide) (fun L => rfl)) (fun _ _ _ _ _ _ _ us hl => match us, hl with | [_, _], _ => rfl) (fun _ _ _ _ _ _ _ u ws hl => match ws, hl with | [_], _ => rfl) len_sp1
theorem S_BadText : NScope ["self", "thing", "__class__"] ["self", "thing"] ["__class__"] x_BadText.scope := nscope_by (by decide +kernel)
theorem mo_BadText (X : XCls P K x_BadText) (hg : mg "BadText" = some (.ref (He.ga K "BadText"))) (hs : mg "super" = none) (htop : (P.main.scope.names.lookup ("super" : PySem.Str)).isSome = false) : MkOk P w K mg base (clK K) "BadText" ["thing"] (fun C => spIni1 C "thing") :=
  mk_of X rfl (clK_in (by decide +kernel)) hg htop (fun oc kV doc pm ct od an osl cc cda lk hcd T => ini1_ok (k := 0) lk hcd S_BadText T hs rfl rfl rfl (X.fld "thing" (by decide)) (by decide) (by decide) (by decide) (by decide) (fun L => rfl)) (fun _ _ _ _ _ _ _ us hl => match us, hl with | [_, _], _ => rfl) (fun _ _ _ _ _ _ _ u ws hl => match ws, hl with | [_], _ => rfl) len_sp1
end
theorem fx_of {w : World} {K : PySem.W.Frag} {h base : Heap} {mg : PySem.Str → Option Value} (X : K.In h) (G : h.Ns mainGlobals mg) (c : SaysI R.prog fa fn ini ex K) : Fx R.prog w K mg base := by
  have htop : (R.prog.main.scope.names.lookup ("super" : PySem.Str)).isSome = false := by decide +kernel
  have hs : mg "super" = none := He.free_ok X G (c.d.fact 60 (f := .free "super") rfl)
  have q_BadHands : mg "BadHands" = some (.ref (He.ga K "BadHands")) := He.glo_ok X G (c.d.fact 43 (f := .glo "BadHands") rfl)
  have q_BadRow : mg "BadRow" = some (.ref (He.ga K "BadRow")) := He.glo_ok X G (c.d.fact 44 (f := .glo "BadRow") rfl)
  have q_BadLinks : mg "BadLinks" = some (.ref (He.ga K "BadLinks")) := He.glo_ok X G (c.d.fact 45 (f := .glo "BadLinks") rfl)
  have q_BadText : mg "BadText" = some (.ref (He.ga K "BadText")) := He.glo_ok X G (c.d.fact 46 (f := .glo "BadText") rfl)
  exact {
    gl__law_draw := He.glo_ok X G (c.d.fact 0 (f := .glo "_law_draw") rfl)
    gl__law_pick := He.glo_ok X G (c.d.fact 1 (f := .glo "_law_pick") rfl)
    gl__law_name := He.glo_ok X G (c.d.fact 2 (f := .glo "_law_name") rfl)
    gl__law_names := He.glo_ok X G (c.d.fact 3 (f := .glo "_law_names") rfl)
    gl__law_mixed := He.glo_ok X G (c.d.fact 4 (f := .glo "_law_mixed") rfl)
    gl__law_d_hands := He.glo_ok X G (c.d.fact 5 (f := .glo "_law_d_hands") rfl)
    gl__law_d_table_lines := He.glo_ok X G (c.d.fact 6 (f := .glo "_law_d_table_lines") rfl)
    gl__law_d_hands_lines := He.glo_ok X G (c.d.fact 7 (f := .glo "_law_d_hands_lines") rfl)
    gl__law_d_links_lines := He.glo_ok X G (c.d.fact 8 (f := .glo "_law_d_links_lines") rfl)
    gl__law_bent_line := He.glo_ok X G (c.d.fact 9 (f := .glo "_law_bent_line") rfl)
    gl__law_bent := He.glo_ok X G (c.d.fact 10 (f := .glo "_law_bent") rfl)
    gl__law_d_text := He.glo_ok X G (c.d.fact 11 (f := .glo "_law_d_text") rfl)
    gl__law_is_name_word := He.glo_ok X G (c.d.fact 12 (f := .glo "_law_is_name_word") rfl)
    gl__law_are_names := He.glo_ok X G (c.d.fact 13 (f := .glo "_law_are_names") rfl)
    gl__law_is_number_word := He.glo_ok X G (c.d.fact 14 (f := .glo "_law_is_number_word") rfl)
    gl__law_is_table := He.glo_ok X G (c.d.fact 15 (f := .glo "_law_is_table") rfl)
    gl__law_are_hands := He.glo_ok X G (c.d.fact 16 (f := .glo "_law_are_hands") rfl)
    gl__law_are_links := He.glo_ok X G (c.d.fact 17 (f := .glo "_law_are_links") rfl)
    gl__law_is_text := He.glo_ok X G (c.d.fact 18 (f := .glo "_law_is_text") rfl)
    gl_joined := He.glo_ok X G (c.d.fact 19 (f := .glo "joined") rfl)
    gl_write_table := He.glo_ok X G (c.d.fact 20 (f := .glo "write_table") rfl)
    gl_words_of := He.glo_ok X G (c.d.fact 21 (f := .glo "words_of") rfl)
    gl_is_name := He.glo_ok X G (c.d.fact 22 (f := .glo "is_name") rfl)
    gl_names_of := He.glo_ok X G (c.d.fact 23 (f := .glo "names_of") rfl)
    gl_is_list := He.glo_ok X G (c.d.fact 24 (f := .glo "is_list") rfl)
    gl_is_integer := He.glo_ok X G (c.d.fact 25 (f := .glo "is_integer") rfl)
    gl_is_row := He.glo_ok X G (c.d.fact 26 (f := .glo "is_row") rfl)
    gl_is_name_list := He.glo_ok X G (c.d.fact 27 (f := .glo "is_name_list") rfl)
    gl_is_number_word := He.glo_ok X G (c.d.fact 28 (f := .glo "is_number_word") rfl)
    gl_read_table := He.glo_ok X G (c.d.fact 29 (f := .glo "read_table") rfl)
    gl_plain_hands := He.glo_ok X G (c.d.fact 30 (f := .glo "plain_hands") rfl)
    gl_write_hands := He.glo_ok X G (c.d.fact 31 (f := .glo "write_hands") rfl)
    gl_plain_links := He.glo_ok X G (c.d.fact 32 (f := .glo "plain_links") rfl)
    gl_write_links := He.glo_ok X G (c.d.fact 33 (f := .glo "write_links") rfl)
    gl_read_hands := He.glo_ok X G (c.d.fact 34 (f := .glo "read_hands") rfl)
    gl_read_links := He.glo_ok X G (c.d.fact 35 (f := .glo "read_links") rfl)
    gl__law_tried := He.glo_ok X G (c.d.fact 36 (f := .glo "_law_tried") rfl)
    gl__law_same := He.glo_ok X G (c.d.fact 37 (f := .glo "_law_same") rfl)
    gl__law_d_rows := He.glo_ok X G (c.d.fact 38 (f := .glo "_law_d_rows") rfl)
    gl__law_d_links := He.glo_ok X G (c.d.fact 39 (f := .glo "_law_d_links") rfl)
    gl__law_start := He.glo_ok X G (c.d.fact 40 (f := .glo "_law_start") rfl)
    gl_law := He.glo_ok X G (c.d.fact 41 (f := .glo "law") rfl)
    gl_Table := He.glo_ok X G (c.d.fact 42 (f := .glo "Table") rfl)
    gl_BadHands := He.glo_ok X G (c.d.fact 43 (f := .glo "BadHands") rfl)
    gl_BadRow := He.glo_ok X G (c.d.fact 44 (f := .glo "BadRow") rfl)
    gl_BadLinks := He.glo_ok X G (c.d.fact 45 (f := .glo "BadLinks") rfl)
    gl_BadText := He.glo_ok X G (c.d.fact 46 (f := .glo "BadText") rfl)
    gl_WorldError := He.glo_ok X G (c.d.fact 47 (f := .glo "WorldError") rfl)
    g_ValueError := He.free_ok X G (c.d.fact 48 (f := .free "ValueError") rfl)
    g_all := He.free_ok X G (c.d.fact 49 (f := .free "all") rfl)
    g_bool := He.free_ok X G (c.d.fact 50 (f := .free "bool") rfl)
    g_dict := He.free_ok X G (c.d.fact 51 (f := .free "dict") rfl)
    g_enumerate := He.free_ok X G (c.d.fact 52 (f := .free "enumerate") rfl)
    g_int := He.free_ok X G (c.d.fact 53 (f := .free "int") rfl)
    g_isinstance := He.free_ok X G (c.d.fact 54 (f := .free "isinstance") rfl)
    g_len := He.free_ok X G (c.d.fact 55 (f := .free "len") rfl)
    g_list := He.free_ok X G (c.d.fact 56 (f := .free "list") rfl)
    g_range := He.free_ok X G (c.d.fact 57 (f := .free "range") rfl)
    g_set := He.free_ok X G (c.d.fact 58 (f := .free "set") rfl)
    g_str := He.free_ok X G (c.d.fact 59 (f := .free "str") rfl)
    g_super := He.free_ok X G (c.d.fact 60 (f := .free "super") rfl)
    g_tuple := He.free_ok X G (c.d.fact 61 (f := .free "tuple") rfl)
    g_zip := He.free_ok X G (c.d.fact 62 (f := .free "zip") rfl)
    c_FIGURES := He.str_ok X G (c.d.fact 63 (f := .str "FIGURES" "0123456789") rfl)
    c_MOST_FIGURES := He.int_ok X G (c.d.fact 64 (f := .int "MOST_FIGURES" 15) rfl)
    c_NAME_SIGNS := He.str_ok X G (c.d.fact 65 (f := .str "NAME_SIGNS" "abcdefghijklmnopqrstuvwxyz0123456789.") rfl)
    cls_Table := He.cls_ok (c.d.fact 66 (f := .cls "Table") rfl)
    mkr_Table := He.mkr_ok (c.d.fact 67 (f := .mkr "Table") rfl)
    me_Table_questions := He.meth_ok (c.d.fact 68 (f := .meth "Table" "questions") rfl)
    me_Table_rows := He.meth_ok (c.d.fact 69 (f := .meth "Table" "rows") rfl)
    na_Table_own_names := He.noat_ok (c.d.fact 70 (f := .noat "Table" "own_names") rfl)
    na_Table_own_rows := He.noat_ok (c.d.fact 71 (f := .noat "Table" "own_rows") rfl)
    fam := famB_ok c.ex
    mk_BadHands := mo_BadHands (c.x x_BadHands (List.mem_of_getElem? (i := 0) rfl)) q_BadHands hs htop
    mk_BadRow := mo_BadRow (c.x x_BadRow (List.mem_of_getElem? (i := 1) rfl)) q_BadRow hs htop
    mk_BadLinks := mo_BadLinks (c.x x_BadLinks (List.mem_of_getElem? (i := 2) rfl)) q_BadLinks hs htop
    mk_BadText := mo_BadText (c.x x_BadText (List.mem_of_getElem? (i := 3) rfl)) q_BadText hs htop
    xf_BadText_thing := (c.x x_BadText (List.mem_of_getElem? (i := 3) rfl)).fld "thing" (by decide)
  }
end K88

set_option Elab.async false
set_option linter.all false
set_option maxRecDepth 100000
set_option maxHeartbeats 4000000
namespace K88
open PySem PySem.Spec PyProof.Rows L2 DL TL NumText
theorem draw_is : g__law_draw = gDraw := rfl
theorem pick_is : g__law_pick = gPick := rfl
abbrev abet : List Nat := tl ("abcdefghijklmnopqrstuvwxyz0123456789." : Str)
def lenB (w : Str) : Bool := decide ((0 : Int) < ((tl w).length : Int)) && decide (((tl w).length : Int) ≤ 40)
def nameB (w : Str) : Bool := lenB w && (tl w).all fun c => decide (c ∈ abet)
abbrev encS (l : List Str) : D := .lst (l.map D.str)
theorem law_name_word {w : Str} (z : Z) (h : w.length ≤ lim) : g__law_is_name_word [.str w] z = .ok (.bl (nameB w)) z := by
  refine f_retE (s0 := [.sh (.str w), .none, .none]) rfl ?_
  unfold m__law_is_name_word
  rw [s_asg (d := .str "abcdefghijklmnopqrstuvwxyz0123456789.") rfl]
  exact (rt_ret (e_andV (e_chain rfl (e_call1 rfl (dLen_str h)) rfl rfl rfl) fun _ => ev_all (items_str rfl h) fun c _ => ⟨_, rfl, e_op rfl rfl (dIn_sign _ _)⟩))
theorem is_name {w : Str} (z : Z) (h : w.length ≤ lim) : g_is_name [.str w] z = .ok (.bl (nameB w)) z := by
  refine f_retE (s0 := [.sh (.str w), .none]) rfl ?_
  unfold m_is_name
  rw [s_guard (k := (!true) || !(lenB w)) (t_or (t_not (t_B (e_isi rfl rfl))) fun _ => t_not (t_B (e_chain rfl (e_call1 rfl (dLen_str h)) rfl rfl rfl))) fun _ => rfl]
  refine ite_rt (fun hk => rt_of ?_) fun hk => rt_ret ((ev_all (items_str rfl h) fun c _ => ⟨_, rfl, e_op rfl rfl (dIn_sign _ _)⟩).trans ?_)
  · rw [show nameB w = false from by unfold nameB; simp at hk; simp [hk]]
  · unfold nameB
    simp at hk
    rw [hk, Bool.true_and]
def namesB (l : List Str) : Bool := l.all nameB && distB l
theorem dLen_enc (l : List Str) : dLen [encS l] = some (.int (l.length : Int)) := by
  show some (D.int ((l.map D.str).length : Int)) = _
  rw [List.length_map]
theorem distB_eq (l : List Str) : dEq (.int ((ddL (l.map (Sum.inr : Str → Key))).length : Int)) (.int (l.length : Int)) = some (.bl (distB l)) := by
  rw [dEq_int]
  unfold distB
  congr 2
  exact decide_eq_decide.mpr (by omega)
structure Sh (l : List Str) : Prop where
  w : ∀ w ∈ l, w.length ≤ lim
  n : l.length < 4000
theorem Sh.lim {l : List Str} (h : Sh l) : (l.map D.str).length ≤ DL.lim := by
  have := h.n
  rw [List.length_map]
  unfold DL.lim
  omega
theorem law_are_names {l : List Str} (z : Z) (h : Sh l) : g__law_are_names [encS l] z = .ok (.bl (namesB l)) z :=
  f_ret (s0 := [.sh (encS l), .none]) rfl (s_ret (e_andV (ev_all (items_lst rfl h.lim) fun w hw => ⟨_, rfl, e_callF1 rfl (law_name_word _ (h.w w hw))⟩) fun _ => e_op (lenSet_map rfl h.n) (e_call1 rfl (dLen_enc l)) (distB_eq l)))
theorem is_list_l (l : List D) (z : Z) : g_is_list [.lst l] z = .ok (.bl true) z := f_ret (s0 := [.sh (.lst l)]) rfl (s_ret (e_isi rfl rfl))
theorem is_name_list {l : List Str} (z : Z) (h : Sh l) : g_is_name_list [encS l] z = .ok (.bl (namesB l)) z := by
  refine f_retE (s0 := [.sh (encS l), .none]) rfl ?_
  unfold m_is_name_list
  rw [s_guard (k := (!true) || !(l.all nameB)) (t_or (t_not (t_B (e_callF1 rfl (is_list_l _ _)))) fun _ => t_not (t_B (ev_all (items_lst rfl h.lim) fun w hw => ⟨_, rfl, e_callF1 rfl (is_name _ (h.w w hw))⟩))) fun _ => rfl]
  refine ite_rt (fun hk => rt_of ?_) fun hk => rt_ret ((e_op (lenSet_map rfl h.n) (e_call1 rfl (dLen_enc l)) (distB_eq l)).trans ?_)
  · rw [show namesB l = false from by unfold namesB; simp only [Bool.not_true, Bool.false_or, Bool.not_eq_true'] at hk; rw [hk]; rfl]
  · unfold namesB
    simp only [Bool.not_true, Bool.false_or, Bool.not_eq_true', Bool.not_eq_false] at hk
    rw [hk, Bool.true_and]
/-! numbers -/
def partS (w : Str) : Str := if cutS w none (some 1) = "-" then cutS w (some 1) none else w
def numLB (w : Str) : Bool := decide ((0 : Int) < ((tl (partS w)).length : Int)) && decide (((tl (partS w)).length : Int) < 16)
def numB (w : Str) : Bool := (numLB w && digB (tl (partS w))) && (decide (w = "0") || !decide ((tl (partS w)).head? = some 48))
theorem partS_len (w : Str) : (partS w).length ≤ w.length := by
  unfold partS
  split
  · exact cutS_length ..
  · exact Nat.le_refl _
theorem num_ix {w : Str} (h : w.length ≤ lim) (hk : numLB w = true) : ∃ c r, tl (partS w) = c :: r ∧ dIx (.str (partS w)) (.int 0) = some (.str ⟨#[c]⟩) := by
  unfold numLB at hk
  rw [Bool.and_eq_true, decide_eq_true_eq] at hk
  have hl := Nat.le_trans (partS_len w) h
  cases e : tl (partS w) with
  | nil => rw [e] at hk; exact absurd hk.1 (by decide)
  | cons c r =>
    refine ⟨c, r, rfl, ?_⟩
    show (if (partS w).length ≤ lim then (atI (tl (partS w)) 0).map _ else none) = _
    rw [if_pos hl, e]
    unfold atI
    rw [show ixN (c :: r).length 0 = some 0 from by unfold ixN; rw [if_pos (by decide), if_pos (by simp)]; rfl]
    rfl
theorem one_eq (c : Nat) : decide ((⟨#[c]⟩ : Str) = "0") = decide (c = 48) := decide_eq_decide.mpr ⟨fun h => by
  have := congrArg tl h
  have e : tl ("0" : Str) = [48] := rfl
  rw [e] at this
  injection this, fun h => by rw [h]; rfl⟩
theorem part_ev {w : Str} {i : Nat} {s : Sl} {z : Z} (hs : s[i]? = some (.sh (.str w))) (h : w.length ≤ lim) : mIf (mB (mOp dEq (mSl (mVar i) mNoPart (mPart (mC (.int 1)))) (mC (.str "-")))) (mSl (mVar i) (mPart (mC (.int 1))) mNoPart) (mVar i) s z = .ok (.str (partS w)) z := by
  have hv : mVar i s z = .ok (.str w) z := v_at hs
  refine e_if (k := decide (cutS w none (some 1) = "-")) (t_B (e_op (e_sl hv rfl (p_int rfl) (if_pos h)) rfl (dEq_str ..))) (fun hk => ?_) fun hk => ?_
  · unfold partS
    rw [if_pos (of_decide_eq_true hk)]
    exact e_sl hv (p_int rfl) rfl (if_pos h)
  · unfold partS
    rw [if_neg (of_decide_eq_false hk)]
    exact hv
theorem num_fin {w : Str} {s : Sl} {z : Z} (h0 : s[0]? = some (.sh (.str w))) (h1 : s[1]? = some (.sh (.str (partS w)))) (h : w.length ≤ lim) (hk : numLB w = true) (hd : digB (tl (partS w)) = true) : mOrV (mOp dEq (mVar 0) (mC (.str "0"))) (mOp dNeX (mOp dIx (mVar 1) (mC (.int 0))) (mC (.str "0"))) s z = .ok (.bl (numB w)) z := by
  obtain ⟨c, r, e, ix⟩ := num_ix h hk
  refine (e_orV (e_op (v_at h0) rfl (dEq_str ..)) fun _ => e_op (e_op (v_at h1) rfl ix) rfl (dNeX_str ..)).trans ?_
  unfold numB
  rw [hk, hd, one_eq, e]
  simp only [Bool.true_and, List.head?_cons, Option.some.injEq]
theorem law_number_word {w : Str} (z : Z) (h : w.length ≤ lim) : g__law_is_number_word [.str w] z = .ok (.bl (numB w)) z := by
  have hl := Nat.le_trans (partS_len w) h
  refine f_retE (s0 := [.sh (.str w), .none, .none]) rfl ?_
  unfold m__law_is_number_word
  rw [s_asg (part_ev rfl h)]
  have hd := ev_all (vs := [2]) (t := tgN 2) (te := mOp dIn (mVar 2) (mC (.str "0123456789"))) (s := ([.sh (.str w), .none, .none] : Sl).set 1 (.sh (.str (partS w)))) (z := z) (p := fun c => decide (c ∈ tl ("0123456789" : Str))) (items_str (m := mVar 1) rfl hl) fun c _ => ⟨_, rfl, e_op rfl rfl (dIn_sign _ _)⟩
  rw [s_guard (k := !(numLB w) || !(digB (tl (partS w)))) (t_or (t_not (t_B (e_chain rfl (e_call1 rfl (dLen_str hl)) rfl rfl rfl))) fun _ => t_not (t_B hd)) fun _ => rfl]
  refine ite_rt (fun hk => rt_of ?_) fun hk => rt_ret (num_fin rfl rfl h ?_ ?_)
  · rw [show numB w = false from by
      unfold numB
      cases h1 : numLB w <;> cases h2 : digB (tl (partS w)) <;> simp [h1, h2] at hk ⊢]
  · cases h1 : numLB w <;> cases h2 : digB (tl (partS w)) <;> simp [h1, h2] at hk ⊢
  · cases h1 : numLB w <;> cases h2 : digB (tl (partS w)) <;> simp [h1, h2] at hk ⊢
theorem numLB_le (w : Str) : (decide ((0 : Int) < ((tl (partS w)).length : Int)) && decide (((tl (partS w)).length : Int) ≤ 15)) = numLB w := by
  unfold numLB
  congr 1
  exact decide_eq_decide.mpr (by omega)
theorem number_word {w : Str} (z : Z) (h : w.length ≤ lim) : g_is_number_word [.str w] z = .ok (.bl (numB w)) z := by
  have hl := Nat.le_trans (partS_len w) h
  refine f_retE (s0 := [.sh (.str w), .none, .none]) rfl ?_
  unfold m_is_number_word
  rw [s_asg (part_ev rfl h)]
  have hd := ev_all (vs := [2]) (t := tgN 2) (te := mOp dIn (mVar 2) (mC (.str "0123456789"))) (s := ([.sh (.str w), .none, .none] : Sl).set 1 (.sh (.str (partS w)))) (z := z) (p := fun c => decide (c ∈ tl ("0123456789" : Str))) (items_str (m := mVar 1) rfl hl) fun c _ => ⟨_, rfl, e_op rfl rfl (dIn_sign _ _)⟩
  rw [s_guard (k := !(numLB w) || !(digB (tl (partS w)))) (t_or (t_not (t_B ((e_chain rfl (e_call1 rfl (dLen_str hl)) rfl rfl rfl).trans (by rw [numLB_le])))) fun _ => t_not (t_B hd)) fun _ => rfl]
  refine ite_rt (fun hk => rt_of ?_) fun hk => rt_ret (num_fin rfl rfl h ?_ ?_)
  · rw [show numB w = false from by
      unfold numB
      cases h1 : numLB w <;> cases h2 : digB (tl (partS w)) <;> simp [h1, h2] at hk ⊢]
  · cases h1 : numLB w <;> cases h2 : digB (tl (partS w)) <;> simp [h1, h2] at hk ⊢
  · cases h1 : numLB w <;> cases h2 : digB (tl (partS w)) <;> simp [h1, h2] at hk ⊢
theorem numB_back {w : Str} (h : numB w = true) : ∃ n : Int, PySem.intText? w = some n ∧ n.natAbs < 2 ^ 1000 ∧ strI n = w ∧ w.length ≤ 600 := by
  unfold numB numLB at h
  simp only [Bool.and_eq_true, Bool.or_eq_true, decide_eq_true_eq, Bool.not_eq_true', decide_eq_false_iff_not] at h
  obtain ⟨⟨⟨h0, h1⟩, h2⟩, h3⟩ := h
  refine num_back (part := tl (partS w)) ?_ (fun e => by rw [e] at h0; exact absurd h0 (by decide)) (by omega) h2 h3
  unfold partS
  by_cases hc : cutS w none (some 1) = "-"
  · rw [if_pos hc]
    right
    have e1 := congrArg tl hc
    have e2 : tl ("-" : Str) = [45] := rfl
    rw [e2] at e1
    have e3 : tl (cutS w none (some 1)) = (tl w).take (min 1 w.length) := by
      show ((tl w).drop 0).take (HT.sIx w.length w.length (some 1) - 0) = _
      rw [show ((some 1 : Option Int)) = some ((1 : Nat) : Int) from rfl, HT.sIx_nat]
      rfl
    have e4 : tl (cutS w (some 1) none) = ((tl w).drop (min 1 w.length)).take (w.length - min 1 w.length) := by
      show ((tl w).drop (HT.sIx w.length 0 (some 1))).take (HT.sIx w.length w.length none - HT.sIx w.length 0 (some 1)) = _
      rw [show ((some 1 : Option Int)) = some ((1 : Nat) : Int) from rfl, HT.sIx_nat, HT.sIx_none]
    rw [e3] at e1
    rw [e4, len_tl]
    rw [len_tl] at e1
    cases hw : tl w with
    | nil => rw [hw] at e1; simp at e1
    | cons c r =>
      rw [hw] at e1
      simp only [List.length_cons] at e1 ⊢
      rw [show min 1 (r.length + 1) = 1 from by omega] at e1 ⊢
      simp only [List.take_succ_cons, List.take_zero, List.cons.injEq, and_true] at e1
      rw [e1]
      simp
  · rw [if_neg hc]
    exact .inl ⟨rfl, trivial⟩
end K88

set_option Elab.async false
set_option linter.all false
set_option maxRecDepth 100000
set_option maxHeartbeats 4000000
namespace K88
open PySem PySem.Spec PyProof.Rows L2 DL TL NumText
/-! ### texts and their words -/
abbrev encW (ls : List (List Str)) : D := .lst (ls.map encS)
/-- a text that is short enough -/
def tlim : Nat := 3900
theorem tlim_lt : tlim + 2 ≤ lim := by decide
structure Wsh (ls : List (List Str)) : Prop where
  ne : ∀ l ∈ ls, l ≠ []
  sh : ∀ l ∈ ls, Sh l
  n : ls.length < 4000
theorem Wsh.lim {ls : List (List Str)} (h : Wsh ls) : (ls.map encS).length ≤ DL.lim := by
  have := h.n
  rw [List.length_map]
  unfold DL.lim
  omega
theorem lines_le {x : Str} (hx : x.length ≤ tlim) : (lnsOf x).length ≤ tlim ∧ ∀ l ∈ lnsOf x, l.length ≤ tlim := by
  have h := lines_sum x
  refine ⟨by omega, fun l hl => ?_⟩
  have := mem_sum hl
  omega
theorem split_le {l : Str} (hl : l.length ≤ tlim) : Sh (Txt.split l sp1) := by
  have h := split_sp_len l
  have ht : tlim = 3900 := rfl
  refine ⟨fun w hw => ?_, by omega⟩
  have := mem_sum hw
  have e : lim = 1000000 := rfl
  omega
theorem words_sh {x : Str} (hx : x.length ≤ tlim) : Wsh (wdsOf x) := by
  obtain ⟨h1, h2⟩ := lines_le hx
  have ht : tlim = 3900 := rfl
  refine ⟨fun l hl => ?_, fun l hl => ?_, by unfold wdsOf; rw [List.length_map]; omega⟩
  · obtain ⟨y, hy, rfl⟩ := List.mem_map.mp hl
    exact split_sp_ne y
  · obtain ⟨y, hy, rfl⟩ := List.mem_map.mp hl
    exact split_le (h2 y hy)
theorem dSplit_ok {a b : Str} (hb : b.length ≠ 0) (ha : a.length ≤ tlim) : dSplit a (.str b) = some (.lst ((Txt.split a b).map D.str)) := by
  have := tlim_lt
  show (if b.length ≠ 0 ∧ a.length + 2 ≤ lim then _ else none) = _
  rw [if_pos ⟨hb, by omega⟩]
/-- the law's and the program's walk to the words -/
theorem neg1 {s : Sl} {z : Z} : mNeg (mC (.int 1)) s z = .ok (.int (-1)) z := rfl
theorem words_ev {i j : Nat} {x : Str} {s : Sl} {z : Z} (hx : x.length ≤ tlim) (hs : s[i]? = some (.sh (.str x))) (hj : j < s.length) : mLc [j] (mItems (mSl (mM1 dSplit (mVar i) (mC (.str "\n"))) mNoPart (mPart (mNeg (mC (.int 1)))))) (tgN j) mYes (mM1 dSplit (mVar j) (mC (.str " "))) s z = .ok (encW (wdsOf x)) z := by
  obtain ⟨h1, h2⟩ := lines_le hx
  have ht : tlim = 3900 := rfl
  have k : mItems (mSl (mM1 dSplit (mVar i) (mC (.str "\n"))) mNoPart (mPart (mNeg (mC (.int 1))))) s z = .ok ((lnsOf x).map D.str) z := by
    refine items_lst (l := (lnsOf x).map D.str) ((e_sl (e_m1 (v_at hs) rfl (dSplit_ok (b := nl) (by decide) hx)) rfl (p_int neg1) (cutL _ ?_)).trans ?_) (by rw [List.length_map]; unfold lim; omega)
    · intro e
      exact split_nl_ne x (List.map_eq_nil_iff.mp e)
    · unfold lnsOf
      rw [List.map_dropLast]
  refine (lc_yes (f := fun l => encS (Txt.split l sp1)) k fun l hl => ⟨_, rfl, e_m1 (v_at ?_) rfl (dSplit_ok (b := sp1) (by decide) (h2 l hl))⟩).trans ?_
  · rw [List.getElem?_set_self]
    show j < (wipeS s [j]).length
    rw [wipeS_length]
    exact hj
  · unfold wdsOf encW
    rw [List.map_map]
    rfl
def fullB (ls : List (List Str)) : Bool := ls.all fun l => l.all fun w => !decide (w = "")
theorem full_ev {i j k : Nat} {ls : List (List Str)} {s : Sl} {z : Z} (h : Wsh ls) (hs : s[i]? = some (.sh (encW ls))) (hj : j < s.length) (hk : k < s.length) (hjk : j ≠ k) (hij : i ≠ j) : mCall dAll (mCons (mLc [j] (mItems (mVar i)) (tgN j) mYes (mCall dAll (mCons (mLc [k] (mItems (mVar j)) (tgN k) mYes (mOp dNeX (mVar k) (mC (.str "")))) mNil))) mNil) s z = .ok (.bl (fullB ls)) z := by
  refine ev_all (items_lst (v_at hs) h.lim) fun l hl => ⟨_, rfl, ev_all (items_lst (v_at ?_) (h.sh l hl).lim) fun w hw => ⟨_, rfl, e_op (v_at ?_) rfl (dNeX_str ..)⟩⟩
  · rw [List.getElem?_set_self]
    rw [wipeS_length]
    exact hj
  · rw [List.getElem?_set_self]
    rw [wipeS_length, List.length_set, wipeS_length]
    exact hk
/-- the last sign is a newline -/
theorem end_ev {i : Nat} {x : Str} {s : Sl} {z : Z} (hx : x.length ≤ tlim) (hs : s[i]? = some (.sh (.str x))) : mAnd (mB (mOp dNeX (mVar i) (mC (.str "")))) (mB (mOp dNeX (mOp dIx (mVar i) (mNeg (mC (.int 1)))) (mC (.str "\n")))) s z = .ok (!(endB x)) z := by
  have hl : x.length ≤ lim := Nat.le_trans hx (by decide)
  by_cases he : x = ""
  · subst he
    refine (t_and (k := !decide (("" : Str) = "")) (j := true) (t_B (e_op (v_at hs) rfl (dNeX_str ..))) fun hk => ?_).trans ?_
    · simp at hk
    · rw [show endB ("" : Str) = true from rfl]
      simp
  · have hn : tl x ≠ [] := fun e => he (ext_tl e)
    obtain ⟨c, hc⟩ : ∃ c, (tl x).getLast? = some c := ⟨_, List.getLast?_eq_some_getLast hn⟩
    have ix : dIx (.str x) (.int (-1)) = some (.str ⟨#[c]⟩) := by
      show (if x.length ≤ lim then (atI (tl x) (-1)).map _ else none) = _
      rw [if_pos hl]
      have hp : 0 < (tl x).length := List.length_pos_iff.mpr hn
      unfold atI
      rw [show ixN (tl x).length (-1) = some ((tl x).length - 1) from by
        unfold ixN
        rw [if_neg (by decide), if_pos (by omega)]
        congr 1
        omega]
      rw [List.getLast?_eq_getElem?] at hc
      rw [Option.bind_some, hc]
      rfl
    have e1 : decide ((⟨#[c]⟩ : Str) = "\n") = decide (c = 10) := decide_eq_decide.mpr ⟨fun h => by
      have := congrArg tl h
      have e : tl ("\n" : Str) = [10] := rfl
      rw [e] at this
      injection this, fun h => by rw [h]; rfl⟩
    have e2 : endB x = decide (c = 10) := by
      unfold endB
      refine decide_eq_decide.mpr ?_
      rw [hc]
      simp [hn]
    refine (t_and (t_B (e_op (v_at hs) rfl (dNeX_str ..))) fun hk => t_B (e_op (e_op (v_at hs) rfl ix) rfl (dNeX_str ..))).trans ?_
    rw [e1, e2, decide_eq_false he]
    rfl
def okB (x : Str) : Bool := endB x && fullB (wdsOf x)
abbrev badT (x : Str) : List (Str × D) := [("thing", .str x)]
theorem words_of_ok {x : Str} (z : Z) (hx : x.length ≤ tlim) (h : okB x = true) : g_words_of [.str x] z = .ok (encW (wdsOf x)) z := by
  unfold okB at h
  rw [Bool.and_eq_true] at h
  refine f_retE (s0 := [.sh (.str x), .none, .none, .none, .none]) rfl ?_
  unfold m_words_of
  rw [s_raise (k := (!true) || !(endB x)) (t_or (t_not (t_B (e_isi rfl rfl))) fun _ => end_ev hx rfl) fun _ => rfl]
  rw [h.1, if_neg (by decide), s_asg (words_ev hx rfl (by simp)), s_raise (k := !(fullB (wdsOf x))) (t_not (t_B (full_ev (words_sh hx) rfl (by simp) (by simp) (by decide) (by decide)))) fun _ => rfl, h.2, if_neg (by decide)]
  exact rt_ret rfl
theorem words_of_bad {x : Str} (z : Z) (hx : x.length ≤ tlim) (h : okB x = false) : g_words_of [.str x] z = .exc "BadText" (badT x) z := by
  unfold okB at h
  refine f_excE (s0 := [.sh (.str x), .none, .none, .none, .none]) rfl ?_
  unfold m_words_of
  rw [s_raise (k := (!true) || !(endB x)) (t_or (t_not (t_B (e_isi rfl rfl))) fun _ => end_ev hx rfl) fun _ => rfl]
  cases h1 : endB x with
  | false => exact ⟨_, rfl⟩
  | true =>
    rw [h1] at h
    rw [if_neg (by decide), s_asg (words_ev hx rfl (by simp)), s_raise (k := !(fullB (wdsOf x))) (t_not (t_B (full_ev (words_sh hx) rfl (by simp) (by simp) (by decide) (by decide)))) fun _ => rfl, show fullB (wdsOf x) = false from h]
    exact ⟨_, rfl⟩
end K88

set_option Elab.async false
set_option linter.all false
set_option maxRecDepth 100000
set_option maxHeartbeats 4000000
namespace K88
open PySem PySem.Spec PyProof.Rows L2 DL TL NumText
/-! ### lines joined again -/
theorem wds_len {x : Str} (hx : x.length ≤ tlim) : ∀ l ∈ wdsOf x, (l.map (·.length)).sum + l.length ≤ tlim + 1 := fun l hl => by
  obtain ⟨y, hy, rfl⟩ := List.mem_map.mp hl
  rw [split_sp_len]
  have := (lines_le hx).2 y hy
  omega
theorem wds_join {x : Str} : ∀ l ∈ wdsOf x, l ≠ [] ∧ (∀ p ∈ l, 32 ∉ tl p) := fun l hl => by
  obtain ⟨y, hy, rfl⟩ := List.mem_map.mp hl
  exact ⟨split_sp_ne y, split_sp_free y⟩
theorem dJoin_sp {l : List Str} (h : (l.map (·.length)).sum + l.length ≤ tlim + 1) : dJoin " " (encS l) = some (.str (Txt.join sp1 l)) := dJoin_map (by
  have e : (" " : Str).length = 1 := rfl
  have e1 : lim = 1000000 := rfl
  have e2 : tlim = 3900 := rfl
  rw [e, Nat.mul_one]
  omega)
theorem join_len {l : List Str} (hn : l ≠ []) : (Txt.join sp1 l).length + 1 = (l.map (·.length)).sum + l.length := by
  rw [len_tl, join_eq, tl_join, tl_sp]
  have h := joinL_len 32 (l.map tl) (by intro e; exact hn (List.map_eq_nil_iff.mp e))
  rw [sum_tl, List.length_map] at h
  exact h
theorem line_len (l : List Str) : (lineS l).length = (Txt.join sp1 l).length + 1 := by
  unfold lineS
  rw [len_tl, tl_append, List.length_append, ← len_tl]
  rfl
theorem text_len (ls : List (List Str)) : (textS ls).length = ((ls.map lineS).map (·.length)).sum := by
  unfold textS
  have e0 : tl em = [] := rfl
  rw [len_tl, join_eq, tl_join, e0, joinL_nil, List.length_flatten, sum_tl]
theorem joined_ev {x : Str} (z : Z) (hx : x.length ≤ tlim) (he : endB x = true) : g_joined [encW (wdsOf x)] z = .ok (.str x) z := by
  have W := words_sh hx
  have e1 : lim = 1000000 := rfl
  have e2 : tlim = 3900 := rfl
  have hb := text_back he
  refine f_retE (s0 := [.sh (encW (wdsOf x)), .none]) rfl (rt_ret ?_)
  refine e_m1 (w := em) rfl (lc_yes (f := fun l => D.str (lineS l)) (items_lst rfl W.lim) fun l hl => ⟨_, rfl, e_op (e_m1 (w := sp1) rfl rfl (dJoin_sp (wds_len hx l hl))) rfl ?_⟩) ?_
  · have h1 := wds_len hx l hl
    have h2 := join_len (wds_join l hl).1
    show (if (Txt.join sp1 l).length + nl.length ≤ lim then some (D.str (Txt.join sp1 l ++ nl)) else none) = _
    rw [if_pos (by have e : nl.length = 1 := rfl; omega)]
    rfl
  · have e : (wdsOf x).map (fun l => D.str (lineS l)) = ((wdsOf x).map lineS).map D.str := by rw [List.map_map]; rfl
    rw [e, dJoin_map]
    · show some (D.str (textS (wdsOf x))) = _
      rw [hb]
    · have h := text_len (wdsOf x)
      rw [hb] at h
      have e : em.length = 0 := rfl
      rw [e, Nat.mul_zero, ← h]
      omega
/-! ### links -/
def linkB : List Str → Bool
  | a :: ws => decide (a = "link") && (decide (ws.length = 2) && namesB ws)
  | [] => false
theorem Sh.tail {a : Str} {l : List Str} (h : Sh (a :: l)) : Sh l := ⟨fun w hw => h.w w (List.mem_cons_of_mem _ hw), by have := h.n; rw [List.length_cons] at this; omega⟩
theorem len3 (a : Str) (l : List Str) : decide (((a :: l).length : Int) = 3) = decide (l.length = 2) := decide_eq_decide.mpr (by rw [List.length_cons]; omega)
theorem link_ev {i : Nat} {l : List Str} {s : Sl} {z : Z} (hs : s[i]? = some (.sh (encS l))) (h : Sh l) (hn : l ≠ []) : mAndV (mOp dEq (mOp dIx (mVar i) (mC (.int 0))) (mC (.str "link"))) (mAndV (mOp dEq (mCall dLen (mCons (mVar i) mNil)) (mC (.int 3))) (mCallF 1 g__law_are_names (mCons (mSl (mVar i) (mPart (mC (.int 1))) mNoPart) mNil))) s z = .ok (.bl (linkB l)) z := by
  cases l with
  | nil => exact absurd rfl hn
  | cons a ws =>
    refine (e_andV (e_op (e_op (v_at hs) rfl (ix0 _ _)) rfl (dEq_str ..)) fun _ => e_andV (e_op (e_call1 (v_at hs) (dLen_enc _)) rfl (dEq_int ..)) fun _ => e_callF1 (e_sl (v_at hs) (p_int rfl) rfl (cut1 _ _)) (law_are_names _ h.tail)).trans ?_
    unfold linkB
    rw [len3]
def linksB (ls : List (List Str)) : Bool := distB (ls.map (Txt.join sp1)) && ls.all linkB
theorem neX_dist (l : List Str) : dNeX (.int ((ddL (l.map (Sum.inr : Str → Key))).length : Int)) (.int (l.length : Int)) = some (.bl (!distB l)) := by
  rw [dNeX_int]
  unfold distB
  congr 3
  exact decide_eq_decide.mpr (by omega)
theorem law_links {x : Str} (z : Z) (hx : x.length ≤ tlim) : g__law_are_links [encW (wdsOf x)] z = .ok (.bl (linksB (wdsOf x))) z := by
  have W := words_sh hx
  refine f_retE (s0 := [.sh (encW (wdsOf x)), .none]) rfl ?_
  unfold m__law_are_links
  have hj : mLc [1] (mItems (mVar 0)) (tgN 1) mYes (mM1 dJoin (mC (.str " ")) (mVar 1)) [.sh (encW (wdsOf x)), .none] z = .ok (.lst (((wdsOf x).map (Txt.join sp1)).map D.str)) z := by
    rw [List.map_map]
    exact lc_yes (f := fun l => D.str (Txt.join sp1 l)) (items_lst rfl W.lim) fun l hl => ⟨_, rfl, e_m1 (w := sp1) rfl rfl (dJoin_sp (wds_len hx l hl))⟩
  have hl : dLen [encW (wdsOf x)] = some (.int ((((wdsOf x).map (Txt.join sp1)).length : Nat) : Int)) := by
    show some (D.int (((wdsOf x).map encS).length : Int)) = _
    rw [List.length_map, List.length_map]
  rw [s_guard (k := !(distB ((wdsOf x).map (Txt.join sp1)))) (t_B (e_op (lenSet_map hj (by rw [List.length_map]; exact W.n)) (e_call1 rfl hl) (neX_dist _))) fun _ => rfl]
  refine ite_rt (fun hk => rt_of ?_) fun hk => rt_ret ((ev_all (items_lst rfl W.lim) fun l hl => ⟨_, rfl, link_ev rfl (W.sh l hl) (W.ne l hl)⟩).trans ?_)
  · unfold linksB
    rw [Bool.not_eq_true'] at hk
    rw [hk]
    rfl
  · unfold linksB
    simp only [Bool.not_eq_true', Bool.not_eq_false] at hk
    rw [hk, Bool.true_and]
def goodL : List (List Str) → List (List Str) → Bool
  | _, [] => true
  | acc, l :: r => (linkB l && !decide (l.tail ∈ acc)) && goodL (acc ++ [l.tail]) r
theorem goodL_iff : ∀ (ls acc : List (List Str)), goodL acc ls = true ↔ ls.all linkB = true ∧ (ls.map List.tail).Nodup ∧ ∀ l ∈ ls, l.tail ∉ acc
  | [], acc => by simp [goodL]
  | l :: r, acc => by
    have ih := goodL_iff r (acc ++ [l.tail])
    simp only [goodL, Bool.and_eq_true, Bool.not_eq_true', decide_eq_false_iff_not, ih, List.all_cons, List.map_cons, List.nodup_cons, List.mem_cons, List.mem_append, List.mem_map, List.not_mem_nil, or_false, not_or, forall_eq_or_imp, List.all_eq_true]
    constructor
    · rintro ⟨⟨h1, h2⟩, h3, h4, h5⟩
      exact ⟨⟨h1, h3⟩, ⟨fun ⟨b, hb, e⟩ => (h5 b hb).2 e, h4⟩, h2, fun a ha => (h5 a ha).1⟩
    · rintro ⟨⟨h1, h3⟩, ⟨h6, h4⟩, h2, h5⟩
      exact ⟨⟨h1, h2⟩, h3, h4, fun a ha => ⟨h5 a ha, fun e => h6 ⟨a, ha, e⟩⟩⟩
def bodyRL : SM := (mSeq (mIfS (mOr (mB (mOp dNeX (mOp dIx (mVar 2) (mC (.int 0))) (mC (.str "link")))) (mOr (mB (mOp dNeX (mCall dLen (mCons (mVar 2) mNil)) (mC (.int 3)))) (mOr (mNot (mB (mCallF 1 g_is_name_list (mCons (mSl (mVar 2) (mPart (mC (.int 1))) mNoPart) mNil)))) (mB (mOp dIn (mCall dTuple (mCons (mSl (mVar 2) (mPart (mC (.int 1))) mNoPart) mNil)) (mView 1)))))) (mSeq (mRaise "BadText" (mk1 "thing") (mCons (mVar 0) mNil))
  mSkip) mSkip)
  (mSeq (mApp 1 (mCall dTuple (mCons (mSl (mVar 2) (mPart (mC (.int 1))) mNoPart) mNil)))
  mSkip))
theorem loopRL {x : Str} (z : Z) : ∀ (ls acc : List (List Str)) (v : Slot), (∀ l ∈ ls, l ≠ [] ∧ Sh l) → acc.length + ls.length < lim →
    (goodL acc ls = true → ∃ v', mForG (tgN 2) bodyRL (ls.map encS) [.sh (.str x), .own (.lst (acc.map tupS)), v] z = .nx [.sh (.str x), .own (.lst ((acc ++ ls.map List.tail).map tupS)), v'] z) ∧
    (goodL acc ls = false → ∃ s1, mForG (tgN 2) bodyRL (ls.map encS) [.sh (.str x), .own (.lst (acc.map tupS)), v] z = .exc "BadText" (badT x) s1 z)
  | [], acc, v, _, _ => ⟨fun _ => ⟨v, by simp [mForG]⟩, fun h => by cases h⟩
  | l :: r, acc, v, hl, hn => by
    obtain ⟨h1, h2⟩ := hl l (List.mem_cons_self ..)
    cases l with
    | nil => exact absurd rfl h1
    | cons a ws =>
      rw [List.length_cons] at hn
      have ih := loopRL (x := x) z r (acc ++ [ws]) (.sh (encS (a :: ws))) (fun y hy => hl y (List.mem_cons_of_mem _ hy)) (by rw [List.length_append, List.length_singleton]; omega)
      let s1 : Sl := [.sh (.str x), .own (.lst (acc.map tupS)), .sh (encS (a :: ws))]
      have hb : bodyRL s1 z = if (!decide (a = "link") || (!decide (ws.length = 2) || (!(namesB ws) || decide (ws ∈ acc)))) = true then .exc "BadText" (badT x) s1 z else .nx [.sh (.str x), .own (.lst ((acc ++ [ws]).map tupS)), .sh (encS (a :: ws))] z := by
        unfold bodyRL
        rw [s_raise (k := (!decide (a = "link") || (!decide (ws.length = 2) || (!(namesB ws) || decide (ws ∈ acc))))) (t_or (t_B (e_op (e_op rfl rfl (ix0 _ _)) rfl (dNeX_str ..))) fun _ => t_or ((t_B (e_op (e_call1 rfl (dLen_enc _)) rfl (dNeX_int ..))).trans (by rw [len3])) fun _ => t_or (t_not (t_B (e_callF1 (e_sl rfl (p_int rfl) rfl (cut1 _ _)) (is_name_list _ h2.tail)))) fun _ => t_B (e_op (e_call1 (e_sl rfl (p_int rfl) rfl (cut1 _ _)) rfl) (v_view rfl) (dIn_tup ws acc))) fun _ => rfl]
        congr 1
        refine (s_app (d := tupS ws) rfl (e_call1 (e_sl rfl (p_int rfl) rfl (cut1 _ _)) rfl) (by rw [List.length_map]; omega)).trans ?_
        rw [List.map_append]
        rfl
      have ht : tgN 2 (encS (a :: ws)) [.sh (.str x), .own (.lst (acc.map tupS)), v] = some s1 := rfl
      have hg : goodL acc ((a :: ws) :: r) = (!(!decide (a = "link") || (!decide (ws.length = 2) || (!(namesB ws) || decide (ws ∈ acc)))) && goodL (acc ++ [ws]) r) := by
        show (((decide (a = "link") && (decide (ws.length = 2) && namesB ws)) && !decide (ws ∈ acc)) && goodL (acc ++ [ws]) r) = _
        cases decide (a = "link") <;> cases decide (ws.length = 2) <;> cases namesB ws <;> cases decide (ws ∈ acc) <;> rfl
      rw [hg]
      cases hk : (!decide (a = "link") || (!decide (ws.length = 2) || (!(namesB ws) || decide (ws ∈ acc)))) with
      | true =>
        rw [hk, if_pos rfl] at hb
        exact ⟨fun h => by simp at h, fun _ => ⟨s1, g_exc ht hb⟩⟩
      | false =>
        rw [hk, if_neg (by decide)] at hb
        rw [Bool.not_false, Bool.true_and]
        refine ⟨fun h => ?_, fun h => ?_⟩
        · obtain ⟨v', e⟩ := ih.1 h
          refine ⟨v', (g_nx ht hb).trans (e.trans ?_)⟩
          simp
        · obtain ⟨s2, e⟩ := ih.2 h
          exact ⟨s2, (g_nx ht hb).trans e⟩
theorem join_inj {l m : List Str} (hl : l ≠ [] ∧ ∀ p ∈ l, 32 ∉ tl p) (hm : m ≠ [] ∧ ∀ p ∈ m, 32 ∉ tl p) (h : Txt.join sp1 l = Txt.join sp1 m) : l = m := by
  have e1 := split_join (y := sp1) (s := 32) (S := []) tl_sp (by decide +kernel) hl.1 hl.2
  have e2 := split_join (y := sp1) (s := 32) (S := []) tl_sp (by decide +kernel) hm.1 hm.2
  rw [← e1, ← e2, h]
theorem nodup_map_on {α β : Type} {f : α → β} : ∀ {l : List α}, (∀ x ∈ l, ∀ y ∈ l, f x = f y → x = y) → ((l.map f).Nodup ↔ l.Nodup)
  | [], _ => by simp
  | a :: l, h => by
    rw [List.map_cons, List.nodup_cons, List.nodup_cons, nodup_map_on fun x hx y hy => h x (List.mem_cons_of_mem _ hx) y (List.mem_cons_of_mem _ hy)]
    refine and_congr (not_congr ⟨fun q => ?_, List.mem_map_of_mem⟩) Iff.rfl
    obtain ⟨b, hb, e⟩ := List.mem_map.mp q
    rw [← h b (List.mem_cons_of_mem _ hb) a (List.mem_cons_self ..) e]
    exact hb
theorem linkB_cons {l : List Str} (h : linkB l = true) : l = ("link" : Str) :: l.tail := by
  cases l with
  | nil => cases h
  | cons a ws =>
    simp only [linkB, Bool.and_eq_true, decide_eq_true_eq] at h
    rw [h.1]
    rfl
theorem links_iff (x : Str) : goodL [] (wdsOf x) = linksB (wdsOf x) := by
  refine Bool.eq_iff_iff.mpr ?_
  rw [goodL_iff]
  unfold linksB
  rw [Bool.and_eq_true, distB_iff, nodup_map_on fun l hl m hm e => join_inj (wds_join l hl) (wds_join m hm) e]
  constructor
  · rintro ⟨h1, h2, _⟩
    refine ⟨?_, h1⟩
    exact (nodup_map_on (f := List.tail) fun l hl m hm e => by
      rw [linkB_cons (List.all_eq_true.mp h1 l hl), linkB_cons (List.all_eq_true.mp h1 m hm), e]).mp h2
  · rintro ⟨h2, h1⟩
    refine ⟨h1, ?_, fun _ _ => by simp⟩
    exact (nodup_map_on (f := List.tail) fun l hl m hm e => by
      rw [linkB_cons (List.all_eq_true.mp h1 l hl), linkB_cons (List.all_eq_true.mp h1 m hm), e]).mpr h2
end K88

set_option Elab.async false
set_option linter.all false
set_option maxRecDepth 100000
set_option maxHeartbeats 4000000
namespace K88
open PySem PySem.Spec PyProof.Rows L2 DL TL NumText
/-! ### links: read, written -/
theorem wds_n {x : Str} (hx : x.length ≤ tlim) : (wdsOf x).length ≤ tlim := by
  unfold wdsOf
  rw [List.length_map]
  exact (lines_le hx).1
theorem e_itemsCall {f : Fm} {x : D} {l : List D} {s : Sl} {z z' : Z} {a : M D} (h1 : a s z = .ok x z) (h2 : f [x] zDum = .ok (.lst l) z') (hl : l.length ≤ lim) : mItems (mCallF 1 f (mCons a mNil)) s z = .ok l z := items_lst (e_callF1 h1 h2) hl
theorem e_itemsCallX {f : Fm} {x : D} {s : Sl} {z z' : Z} {a : M D} {cn : Str} {fs : List (Str × D)} (h1 : a s z = .ok x z) (h2 : f [x] zDum = .exc cn fs z') : mItems (mCallF 1 f (mCons a mNil)) s z = .exc cn fs z := by
  unfold mItems
  have q : mCallF 1 f (mCons a mNil) s z = .exc cn fs z := e_callFx (e_cons h1 e_nil) rfl h2
  rw [q]
  rfl
theorem s_forX {t : Tg} {mi : M (List D)} {st : SM} {s : Sl} {z z1 : Z} {cn : Str} {fs : List (Str × D)} (h : mi s z = .exc cn fs z1) : mFor mi t st s z = .exc cn fs s z1 := by
  unfold mFor
  rw [h]
theorem read_links_ok {x : Str} (z : Z) (hx : x.length ≤ tlim) (h1 : okB x = true) (h2 : linksB (wdsOf x) = true) : g_read_links [.str x] z = .ok (.lst (((wdsOf x).map List.tail).map tupS)) z := by
  have W := words_sh hx
  have hn := wds_n hx
  have e1 : lim = 1000000 := rfl
  have e2 : tlim = 3900 := rfl
  refine f_retE (s0 := [.sh (.str x), .none, .none]) rfl ?_
  unfold m_read_links
  rw [s_own (ds := []) rfl]
  obtain ⟨v', e⟩ := (loopRL (x := x) z (wdsOf x) [] .none (fun l hl => ⟨W.ne l hl, W.sh l hl⟩) (by simp; omega)).1 (by rw [links_iff]; exact h2)
  exact ex_eq (s_seq ((s_for (e_itemsCall rfl (words_of_ok _ hx h1) W.lim)).trans e)) ⟨_, rfl⟩
theorem read_links_bad {x : Str} (z : Z) (hx : x.length ≤ tlim) (h : (okB x && linksB (wdsOf x)) = false) : g_read_links [.str x] z = .exc "BadText" (badT x) z := by
  have W := words_sh hx
  have hn := wds_n hx
  have e1 : lim = 1000000 := rfl
  have e2 : tlim = 3900 := rfl
  refine f_excE (s0 := [.sh (.str x), .none, .none]) rfl ?_
  unfold m_read_links
  rw [s_own (ds := []) rfl]
  cases h1 : okB x with
  | false => exact ⟨_, s_exc (s_forX (e_itemsCallX rfl (words_of_bad _ hx h1)))⟩
  | true =>
    rw [h1, Bool.true_and] at h
    obtain ⟨s1, e⟩ := (loopRL (x := x) z (wdsOf x) [] .none (fun l hl => ⟨W.ne l hl, W.sh l hl⟩) (by simp; omega)).2 (by rw [links_iff]; exact h)
    exact ⟨_, s_exc ((s_for (e_itemsCall rfl (words_of_ok _ hx h1) W.lim)).trans e)⟩
theorem is_list_t (l : List D) (z : Z) : g_is_list [.tup l] z = .ok (.bl true) z := f_ret (s0 := [.sh (.tup l)]) rfl (s_ret (e_isi rfl rfl))
theorem is_name_tup {l : List Str} (z : Z) (h : Sh l) : g_is_name_list [tupS l] z = .ok (.bl (namesB l)) z := by
  refine f_retE (s0 := [.sh (tupS l), .none]) rfl ?_
  unfold m_is_name_list
  rw [s_guard (k := (!true) || !(l.all nameB)) (t_or (t_not (t_B (e_callF1 rfl (is_list_t _ _)))) fun _ => t_not (t_B (ev_all (items_tup rfl h.lim) fun w hw => ⟨_, rfl, e_callF1 rfl (is_name _ (h.w w hw))⟩))) fun _ => rfl]
  refine ite_rt (fun hk => rt_of ?_) fun hk => rt_ret ((e_op (lenSet_tup rfl h.n) (e_call1 rfl (by show some (D.int ((l.map D.str).length : Int)) = some (.int (l.length : Int)); rw [List.length_map])) (distB_eq l)).trans ?_)
  · rw [show namesB l = false from by unfold namesB; simp only [Bool.not_true, Bool.false_or, Bool.not_eq_true'] at hk; rw [hk]; rfl]
  · unfold namesB
    simp only [Bool.not_true, Bool.false_or, Bool.not_eq_true', Bool.not_eq_false] at hk
    rw [hk, Bool.true_and]
def bodyPL : SM := (mSeq (mIfS (mOr (mNot (mB (mCallF 1 g_is_list (mCons (mVar 3) mNil)))) (mOr (mB (mOp dNeX (mCall dLen (mCons (mVar 3) mNil)) (mC (.int 2)))) (mOr (mNot (mB (mCallF 1 g_is_name_list (mCons (mVar 3) mNil)))) (mB (mOp dIn (mCall dTuple (mCons (mVar 3) mNil)) (mView 1)))))) (mSeq (mRaise "BadLinks" (mk1 "index") (mCons (mVar 2) mNil))
  mSkip) mSkip)
  (mSeq (mApp 1 (mCall dTuple (mCons (mVar 3) mNil)))
  mSkip))
def enumF (k : Nat) (l : List D) : List D := (l.zipIdx k).map fun p => .tup [.int (p.2 : Int), p.1]
theorem loopPL {y : D} (z : Z) : ∀ (ts acc : List (List Str)) (k : Nat) (v u : Slot), (∀ t ∈ ts, t.length = 2 ∧ namesB t = true ∧ Sh t) → (acc ++ ts).Nodup → acc.length + ts.length < lim →
    ∃ v' u', mForG (tgT [(tgN 2), (tgN 3)]) bodyPL (enumF k (ts.map tupS)) [.sh y, .own (.lst (acc.map tupS)), v, u] z = .nx [.sh y, .own (.lst ((acc ++ ts).map tupS)), v', u'] z
  | [], acc, k, v, u, _, _, _ => ⟨v, u, by simp [mForG, enumF]⟩
  | t :: ts, acc, k, v, u, h, hd, hn => by
    obtain ⟨h1, h2, h3⟩ := h t (List.mem_cons_self ..)
    rw [List.length_cons] at hn
    have hm : t ∉ acc := fun q => (List.nodup_append.mp hd).2.2 t q t (List.mem_cons_self ..) rfl
    obtain ⟨v', u', e⟩ := loopPL (y := y) z ts (acc ++ [t]) (k + 1) (.sh (.int (k : Int))) (.sh (tupS t)) (fun q hq => h q (List.mem_cons_of_mem _ hq)) (by rw [List.append_assoc]; exact hd) (by rw [List.length_append, List.length_singleton]; omega)
    refine ⟨v', u', ?_⟩
    have hb : bodyPL [.sh y, .own (.lst (acc.map tupS)), .sh (.int (k : Int)), .sh (tupS t)] z = .nx [.sh y, .own (.lst ((acc ++ [t]).map tupS)), .sh (.int (k : Int)), .sh (tupS t)] z := by
      unfold bodyPL
      rw [s_raise (k := ((!true) || (!decide ((t.length : Int) = 2) || ((!namesB t) || decide (t ∈ acc))))) (t_or (t_not (t_B (e_callF1 rfl (is_list_t _ _)))) fun _ => t_or (t_B (e_op (e_call1 rfl (by show some (D.int ((t.map D.str).length : Int)) = some (.int (t.length : Int)); rw [List.length_map])) rfl (dNeX_int ..))) fun _ => t_or (t_not (t_B (e_callF1 rfl (is_name_tup _ h3)))) fun _ => t_B (e_op (e_call1 rfl rfl) (v_view rfl) (dIn_tup t acc))) fun _ => rfl]
      rw [h1, h2, decide_eq_false hm, if_neg (by decide)]
      refine (s_app (d := tupS t) rfl (e_call1 rfl rfl) (by rw [List.length_map]; omega)).trans ?_
      rw [List.map_append]
      rfl
    have e3 : enumF k ((t :: ts).map tupS) = .tup [.int (k : Int), tupS t] :: enumF (k + 1) (ts.map tupS) := rfl
    rw [e3, g_nx rfl hb, e, List.append_assoc]
    rfl
theorem plain_links_ok {ts : List (List Str)} (z : Z) (h : ∀ t ∈ ts, t.length = 2 ∧ namesB t = true ∧ Sh t) (hd : ts.Nodup) (hn : ts.length < lim) : g_plain_links [.lst (ts.map tupS)] z = .ok (.lst (ts.map tupS)) z := by
  refine f_retE (s0 := [.sh (.lst (ts.map tupS)), .none, .none, .none]) rfl ?_
  unfold m_plain_links
  rw [s_raise (k := !true) (t_not (t_B (e_callF1 rfl (is_list_l _ _)))) fun _ => rfl, if_neg (by decide), s_own (ds := []) rfl]
  obtain ⟨v, u, e⟩ := loopPL (y := .lst (ts.map tupS)) z ts [] 0 .none .none h (by simpa using hd) (by simpa using hn)
  have hi : mEnum (mVar 0) ([.sh (.lst (ts.map tupS)), .own (.lst []), .none, .none] : Sl) z = .ok (enumF 0 (ts.map tupS)) z := by
    show chkL (enumD (ts.map tupS)) z = _
    rw [chk_ok (by unfold enumD; rw [List.length_map, List.length_zipIdx, List.length_map]; omega)]
    rfl
  exact ex_eq (s_seq ((s_for hi).trans e)) ⟨_, rfl⟩
theorem write_links_ok {x : Str} (z : Z) (hx : x.length ≤ tlim) (h1 : okB x = true) (h2 : linksB (wdsOf x) = true) : g_write_links [.lst (((wdsOf x).map List.tail).map tupS)] z = .ok (.str x) z := by
  have W := words_sh hx
  have hn := wds_n hx
  have e1 : lim = 1000000 := rfl
  have e2 : tlim = 3900 := rfl
  have hg := h2
  rw [← links_iff, goodL_iff] at hg
  obtain ⟨g1, g2, _⟩ := hg
  have ha : ∀ l ∈ wdsOf x, ∃ a b, l = [("link" : Str), a, b] := fun l hl => by
    have q := List.all_eq_true.mp g1 l hl
    have e := linkB_cons q
    rw [e] at q ⊢
    simp only [linkB, Bool.and_eq_true, decide_eq_true_eq] at q
    match ht : l.tail, q.2.1 with
    | [a, b], _ => exact ⟨a, b, rfl⟩
  have hp := plain_links_ok zDum (ts := (wdsOf x).map List.tail) (fun t ht => by
    obtain ⟨l, hl, rfl⟩ := List.mem_map.mp ht
    have q := List.all_eq_true.mp g1 l hl
    have sh := W.sh l hl
    have e := linkB_cons q
    rw [e] at q sh
    simp only [linkB, Bool.and_eq_true, decide_eq_true_eq] at q
    exact ⟨q.2.1, q.2.2, sh.tail⟩) g2 (by rw [List.length_map]; omega)
  have he : endB x = true := by unfold okB at h1; rw [Bool.and_eq_true] at h1; exact h1.1
  refine f_retE (s0 := [.sh (.lst (((wdsOf x).map List.tail).map tupS)), .none, .none]) rfl (rt_ret ?_)
  refine e_callF1 (x := encW (wdsOf x)) ?_ (joined_ev _ hx he)
  have hi : mItems (mCallF 1 g_plain_links (mCons (mVar 0) mNil)) ([.sh (.lst (((wdsOf x).map List.tail).map tupS)), .none, .none] : Sl) z = .ok ((wdsOf x).map fun l => tupS l.tail) z := by
    have e3 : (wdsOf x).map (fun l => tupS l.tail) = ((wdsOf x).map List.tail).map tupS := by rw [List.map_map]; rfl
    rw [e3]
    exact e_itemsCall rfl hp (by rw [List.length_map, List.length_map]; omega)
  refine lc_yes (f := encS) hi fun l hl => ?_
  obtain ⟨a, b, rfl⟩ := ha l hl
  exact ⟨_, rfl, e_disp (e_cons rfl (e_cons rfl (e_cons rfl e_nil))) (by show 3 ≤ lim; decide)⟩
end K88

set_option Elab.async false
set_option linter.all false
set_option maxRecDepth 100000
set_option maxHeartbeats 4000000
namespace K88
open PySem PySem.Spec PyProof.Rows L2 DL TL NumText
/-! ### hands -/
def hasB : List Str → Bool
  | _ :: _ :: _ => true
  | _ => false
def nameOf : List Str → Str
  | _ :: b :: _ => b
  | _ => ""
def handB : List Str → Bool
  | a :: r => decide (a = "hand") && namesB (r.drop 1)
  | [] => false
def handsB (ls : List (List Str)) : Bool := !(decide (ls = []) || (!decide (((ls.filter hasB).map nameOf).length = ls.length) || !namesB ((ls.filter hasB).map nameOf))) && ls.all handB
theorem Sh.drop {l : List Str} (h : Sh l) (k : Nat) : Sh (l.drop k) := ⟨fun w hw => h.w w (List.mem_of_mem_drop hw), by have := h.n; rw [List.length_drop]; omega⟩
theorem len_gt (l : List Str) : decide ((1 : Int) < (l.length : Int)) = hasB l := by
  match l with
  | [] => rfl
  | [a] => rfl
  | a :: b :: r => exact decide_eq_true (by simp only [List.length_cons]; omega)
theorem ix_name {l : List Str} (h : hasB l = true) : dIx (encS l) (.int 1) = some (.str (nameOf l)) := by
  match l, h with
  | a :: b :: r, _ => exact ix1 _ _ _
theorem hand_ev {i : Nat} {l : List Str} {s : Sl} {z : Z} (hs : s[i]? = some (.sh (encS l))) (h : Sh l) (hn : l ≠ []) : mAndV (mOp dEq (mOp dIx (mVar i) (mC (.int 0))) (mC (.str "hand"))) (mCallF 1 g__law_are_names (mCons (mSl (mVar i) (mPart (mC (.int 2))) mNoPart) mNil)) s z = .ok (.bl (handB l)) z := by
  cases l with
  | nil => exact absurd rfl hn
  | cons a r =>
    refine (e_andV (e_op (e_op (v_at hs) rfl (ix0 _ _)) rfl (dEq_str ..)) fun _ => e_callF1 (x := encS (r.drop 1)) ((e_sl (v_at hs) (p_int rfl) rfl (cutN2 _)).trans ?_) (law_are_names _ ?_)).trans ?_
    · rw [← List.map_drop]
      rfl
    · exact h.drop 2
    · rfl
theorem dEq_nil (l : List D) : dEq (.lst l) (.lst []) = some (.bl (decide (l = []))) := by
  cases l with
  | nil => rfl
  | cons a r =>
    simp [dEq, eqN]
theorem dEq_nilW (ls : List (List Str)) : dEq (encW ls) (.lst []) = some (.bl (decide (ls = []))) := by
  cases ls with
  | nil => rfl
  | cons a r =>
    simp [dEq, eqN]
theorem filt_len {x : Str} (hx : x.length ≤ tlim) : Sh (((wdsOf x).filter hasB).map nameOf) := by
  have W := words_sh hx
  refine ⟨fun w hw => ?_, by rw [List.length_map]; exact Nat.lt_of_le_of_lt (List.length_filter_le ..) W.n⟩
  obtain ⟨l, hl, rfl⟩ := List.mem_map.mp hw
  rw [List.mem_filter] at hl
  have sh := W.sh l hl.1
  match l, hl.2, sh with
  | a :: b :: r, _, sh => exact sh.w b (by simp)
theorem law_hands {x : Str} (z : Z) (hx : x.length ≤ tlim) : g__law_are_hands [encW (wdsOf x)] z = .ok (.bl (handsB (wdsOf x))) z := by
  have W := words_sh hx
  refine f_retE (s0 := [.sh (encW (wdsOf x)), .none, .none]) rfl ?_
  unfold m__law_are_hands
  have hj : mLc [2] (mItems (mVar 0)) (tgN 2) (mB (mOp dGt (mCall dLen (mCons (mVar 2) mNil)) (mC (.int 1)))) (mOp dIx (mVar 2) (mC (.int 1))) ([.sh (encW (wdsOf x)), .none, .none] : Sl) z = .ok (encS (((wdsOf x).filter hasB).map nameOf)) z := by
    unfold encS
    rw [List.map_map]
    exact lc_if (f := fun l => D.str (nameOf l)) (items_lst rfl W.lim) fun l hl => ⟨_, rfl, (t_B (e_op (e_call1 rfl (dLen_enc l)) rfl rfl)).trans (by rw [len_gt]), fun h => e_op rfl rfl (ix_name h)⟩
  have N := filt_len hx
  have hl : dLen [encW (wdsOf x)] = some (.int (((wdsOf x).length : Nat) : Int)) := by
    show some (D.int (((wdsOf x).map encS).length : Int)) = _
    rw [List.length_map]
  rw [s_asg hj]
  have e5 : ∀ a b : Nat, decide ((a : Int) = (b : Int)) = decide (a = b) := fun a b => decide_eq_decide.mpr (by omega)
  rw [s_guard (k := (decide ((wdsOf x) = []) || (!decide ((((wdsOf x).filter hasB).map nameOf).length = (wdsOf x).length) || !namesB (((wdsOf x).filter hasB).map nameOf)))) (t_or (t_B (e_op rfl rfl (dEq_nilW _))) fun _ => t_or ((t_B (e_op (e_call1 rfl (dLen_enc _)) (e_call1 rfl hl) (dNeX_int ..))).trans (by rw [e5])) fun _ => t_not (t_B (e_callF1 rfl (law_are_names _ N)))) fun _ => rfl]
  refine ite_rt (fun hk => rt_of ?_) fun hk => rt_ret ((ev_all (items_lst rfl W.lim) fun l hl => ⟨_, rfl, hand_ev rfl (W.sh l hl) (W.ne l hl)⟩).trans ?_)
  · unfold handsB
    rw [hk]
    rfl
  · unfold handsB
    rw [Bool.not_eq_true] at hk
    rw [hk]
    rfl
def handL (l : List Str) : Bool := (handB l && hasB l) && nameB (nameOf l)
def goodH : List (List Str) → List (List Str) → Bool
  | _, [] => true
  | acc, l :: r => (handL l && !decide (nameOf l ∈ acc.map nameOf)) && goodH (acc ++ [l]) r
theorem goodH_iff : ∀ (ls acc : List (List Str)), goodH acc ls = true ↔ ls.all handL = true ∧ (ls.map nameOf).Nodup ∧ ∀ l ∈ ls, nameOf l ∉ acc.map nameOf
  | [], acc => by simp [goodH]
  | l :: r, acc => by
    have ih := goodH_iff r (acc ++ [l])
    simp only [goodH, Bool.and_eq_true, Bool.not_eq_true', decide_eq_false_iff_not, ih, List.all_cons, List.map_cons, List.map_append, List.map_nil, List.nodup_cons, List.mem_cons, List.mem_append, List.not_mem_nil, or_false, not_or, forall_eq_or_imp, List.all_eq_true]
    constructor
    · rintro ⟨⟨h1, h2⟩, h3, h4, h5⟩
      refine ⟨⟨h1, h3⟩, ⟨fun q => ?_, h4⟩, h2, fun a ha => (h5 a ha).1⟩
      obtain ⟨b, hb, e⟩ := List.mem_map.mp q
      exact (h5 b hb).2 e
    · rintro ⟨⟨h1, h3⟩, ⟨h6, h4⟩, h2, h5⟩
      exact ⟨⟨h1, h2⟩, h3, h4, fun a ha => ⟨h5 a ha, fun e => h6 (by rw [← e]; exact List.mem_map_of_mem ha)⟩⟩
theorem hands_iff (ls : List (List Str)) : (goodH [] ls && !decide (ls = [])) = handsB ls := by
  refine Bool.eq_iff_iff.mpr ?_
  unfold handsB namesB
  rw [Bool.and_eq_true, goodH_iff]
  simp only [Bool.and_eq_true, Bool.not_eq_true', Bool.or_eq_false_iff, Bool.not_eq_false', decide_eq_false_iff_not, decide_eq_true_eq, distB_iff, List.length_map, Bool.not_eq_eq_eq_not, Bool.not_true, Bool.not_false]
  have e1 : (ls.filter hasB).length = ls.length ↔ ∀ l ∈ ls, hasB l = true := by
    rw [List.length_filter_eq_length_iff]
  constructor
  · rintro ⟨⟨h1, h2, _⟩, h3⟩
    have h1 := List.all_eq_true.mp h1
    have ha : ∀ l ∈ ls, hasB l = true := fun l hl => by
      have := h1 l hl
      unfold handL at this
      simp only [Bool.and_eq_true] at this
      exact this.1.2
    have ef : ls.filter hasB = ls := List.filter_eq_self.mpr ha
    rw [ef]
    refine ⟨⟨h3, rfl, ?_, h2⟩, List.all_eq_true.mpr fun l hl => ?_⟩
    · refine List.all_eq_true.mpr fun n hn => ?_
      obtain ⟨l, hl, rfl⟩ := List.mem_map.mp hn
      have := h1 l hl
      unfold handL at this
      simp only [Bool.and_eq_true] at this
      exact this.2
    · have := h1 l hl
      unfold handL at this
      simp only [Bool.and_eq_true] at this
      exact this.1.1
  · rintro ⟨⟨h3, h4, h5, h2⟩, h6⟩
    have ha := e1.mp h4
    have ef : ls.filter hasB = ls := List.filter_eq_self.mpr ha
    rw [ef] at h5 h2
    refine ⟨⟨List.all_eq_true.mpr fun l hl => ?_, h2, fun _ _ => by simp⟩, h3⟩
    unfold handL
    rw [List.all_eq_true.mp h6 l hl, ha l hl, List.all_eq_true.mp h5 (nameOf l) (List.mem_map_of_mem hl)]
    rfl
abbrev kvH (ls : List (List Str)) : List (Key × D) := ls.map fun l => ((Sum.inr (nameOf l) : Key), encS (l.drop 2))
theorem dIn_dic (n : Str) (ls : List (List Str)) : dIn (.str n) (.dic (kvH ls)) = some (.bl (decide (n ∈ ls.map nameOf))) := by
  show ((some (Sum.inr n : Key)).map fun k => (getK (kvH ls) k).isSome).map D.bl = _
  rw [Option.map_some, Option.map_some]
  rw [getK_some]
def bodyRH : SM := (mSeq (mIfS (mOr (mB (mOp dNeX (mOp dIx (mVar 2) (mC (.int 0))) (mC (.str "hand")))) (mOr (mB (mOp dLt (mCall dLen (mCons (mVar 2) mNil)) (mC (.int 2)))) (mOr (mNot (mB (mCallF 1 g_is_name (mCons (mOp dIx (mVar 2) (mC (.int 1))) mNil)))) (mOr (mB (mOp dIn (mOp dIx (mVar 2) (mC (.int 1))) (mView 1))) (mNot (mB (mCallF 1 g_is_name_list (mCons (mSl (mVar 2) (mPart (mC (.int 2))) mNoPart) mNil)))))))) (mSeq (mRaise "BadText" (mk1 "thing") (mCons (mVar 0) mNil))
  mSkip) mSkip)
  (mSeq (mPut 1 (mSl (mVar 2) (mPart (mC (.int 2))) mNoPart) (mOp dIx (mVar 2) (mC (.int 1))))
  mSkip))
theorem len_lt2 (l : List Str) : decide ((l.length : Int) < 2) = !hasB l := by
  match l with
  | [] => rfl
  | [a] => rfl
  | a :: b :: r => exact decide_eq_false (by simp only [List.length_cons]; omega)
theorem loopRH {x : Str} (z : Z) : ∀ (ls acc : List (List Str)) (v : Slot), (∀ l ∈ ls, l ≠ [] ∧ Sh l) → acc.length + ls.length < lim →
    (goodH acc ls = true → ∃ v', mForG (tgN 2) bodyRH (ls.map encS) [.sh (.str x), .own (.dic (kvH acc)), v] z = .nx [.sh (.str x), .own (.dic (kvH (acc ++ ls))), v'] z) ∧
    (goodH acc ls = false → ∃ s1, mForG (tgN 2) bodyRH (ls.map encS) [.sh (.str x), .own (.dic (kvH acc)), v] z = .exc "BadText" (badT x) s1 z)
  | [], acc, v, _, _ => ⟨fun _ => ⟨v, by simp [mForG]⟩, fun h => by cases h⟩
  | l :: r, acc, v, hl, hn => by
    obtain ⟨h1, h2⟩ := hl l (List.mem_cons_self ..)
    rw [List.length_cons] at hn
    have ih := loopRH (x := x) z r (acc ++ [l]) (.sh (encS l)) (fun y hy => hl y (List.mem_cons_of_mem _ hy)) (by rw [List.length_append, List.length_singleton]; omega)
    let s1 : Sl := [.sh (.str x), .own (.dic (kvH acc)), .sh (encS l)]
    obtain ⟨a, q, rfl⟩ : ∃ a q, l = a :: q := by
      cases l with
      | nil => exact absurd rfl h1
      | cons a q => exact ⟨a, q, rfl⟩
    generalize hkk : (!decide (a = "hand") || (!hasB (a :: q) || (!nameB (nameOf (a :: q)) || (decide (nameOf (a :: q) ∈ acc.map nameOf) || !namesB ((a :: q).drop 2))))) = kk
    have hc : hasB (a :: q) = true → (nameOf (a :: q)).length ≤ lim := fun hq => by
      match q, hq, h2 with
      | b :: r, _, h2 => exact h2.w b (by simp)
    have hs : mSl (mVar 2) (mPart (mC (.int 2))) mNoPart s1 z = .ok (encS ((a :: q).drop 2)) z := by
      refine (e_sl rfl (p_int rfl) rfl (cutN2 _)).trans ?_
      rw [← List.map_drop]
    have hb : bodyRH s1 z = if kk = true then .exc "BadText" (badT x) s1 z else .nx [.sh (.str x), .own (.dic (kvH (acc ++ [a :: q]))), .sh (encS (a :: q))] z := by
      unfold bodyRH
      rw [s_raise (k := kk) ?_ fun _ => rfl]
      · by_cases hk : kk = true
        · rw [if_pos hk, if_pos hk]
        · rw [if_neg hk, if_neg hk]
          rw [← hkk] at hk
          simp only [Bool.or_eq_true, not_or, Bool.not_eq_true, Bool.not_eq_false', decide_eq_true_eq] at hk
          obtain ⟨_, k1, _, k2, _⟩ := hk
          refine (s_put rfl hs (e_op rfl rfl (ix_name k1)) rfl (by rw [List.length_map]; omega)).trans ?_
          rw [setK_map (f := fun l => encS (l.drop 2)) k2]
          rfl
      · rw [← hkk]
        exact t_or (t_B (e_op (e_op rfl rfl (ix0 _ _)) rfl (dNeX_str ..))) fun _ => t_or ((t_B (e_op (e_call1 rfl (dLen_enc _)) rfl rfl)).trans (by rw [len_lt2])) fun hq => t_or (t_not (t_B (e_callF1 (e_op rfl rfl (ix_name (by simpa using hq))) (is_name _ (hc (by simpa using hq)))))) fun _ => t_or (t_B (e_op (e_op rfl rfl (ix_name (by simpa using hq))) (v_view rfl) (dIn_dic _ acc))) fun _ => t_not (t_B (e_callF1 hs (is_name_list _ (h2.drop 2))))
    have ht : tgN 2 (encS (a :: q)) [.sh (.str x), .own (.dic (kvH acc)), v] = some s1 := rfl
    have hg : goodH acc ((a :: q) :: r) = (!kk && goodH (acc ++ [a :: q]) r) := by
      show ((((decide (a = "hand") && namesB (q.drop 1)) && hasB (a :: q)) && nameB (nameOf (a :: q)) && !decide (nameOf (a :: q) ∈ acc.map nameOf)) && goodH (acc ++ [a :: q]) r) = _
      rw [← hkk]
      show _ = (!(!decide (a = "hand") || (!hasB (a :: q) || (!nameB (nameOf (a :: q)) || (decide (nameOf (a :: q) ∈ acc.map nameOf) || !namesB (q.drop 1))))) && goodH (acc ++ [a :: q]) r)
      generalize decide (a = "hand") = b1
      generalize hasB (a :: q) = b2
      generalize nameB (nameOf (a :: q)) = b3
      generalize decide (nameOf (a :: q) ∈ acc.map nameOf) = b4
      generalize namesB (q.drop 1) = b5
      cases b1 <;> cases b2 <;> cases b3 <;> cases b4 <;> cases b5 <;> rfl
    rw [hg]
    cases hk : kk with
    | true =>
      rw [hk, if_pos rfl] at hb
      exact ⟨fun h => by simp at h, fun _ => ⟨s1, g_exc ht hb⟩⟩
    | false =>
      rw [hk, if_neg (by decide)] at hb
      rw [Bool.not_false, Bool.true_and]
      refine ⟨fun h => ?_, fun h => ?_⟩
      · obtain ⟨v', e⟩ := ih.1 h
        refine ⟨v', (g_nx ht hb).trans (e.trans ?_)⟩
        rw [List.append_assoc]
        rfl
      · obtain ⟨s2, e⟩ := ih.2 h
        exact ⟨s2, (g_nx ht hb).trans e⟩
end K88

set_option Elab.async false
set_option linter.all false
set_option maxRecDepth 100000
set_option maxHeartbeats 4000000
namespace K88
open PySem PySem.Spec PyProof.Rows L2 DL TL NumText
/-! ### hands: read, written -/
theorem eqX_nil (ls : List (List Str)) : dEqX (.dic (kvH ls)) (.dic []) = some (.bl (decide (ls = []))) := by
  cases ls with
  | nil => rfl
  | cons a r => simp [dEqX]
theorem read_hands_ok {x : Str} (z : Z) (hx : x.length ≤ tlim) (h1 : okB x = true) (h2 : handsB (wdsOf x) = true) : g_read_hands [.str x] z = .ok (.dic (kvH (wdsOf x))) z := by
  have W := words_sh hx
  have hn := wds_n hx
  have e1 : lim = 1000000 := rfl
  have e2 : tlim = 3900 := rfl
  rw [← hands_iff, Bool.and_eq_true] at h2
  refine f_retE (s0 := [.sh (.str x), .none, .none]) rfl ?_
  unfold m_read_hands
  rw [s_ownD (ds := []) rfl]
  obtain ⟨v', e⟩ := (loopRH (x := x) z (wdsOf x) [] .none (fun l hl => ⟨W.ne l hl, W.sh l hl⟩) (by simp; omega)).1 h2.1
  refine ex_eq (s_seq ((s_for (e_itemsCall rfl (words_of_ok _ hx h1) W.lim)).trans e)) ?_
  have e4 : decide (wdsOf x = []) = false := by simpa using h2.2
  refine ex_eq (s_raise (k := decide (wdsOf x = [])) (t_B (e_op (v_view rfl) rfl (eqX_nil _))) fun _ => rfl) ?_
  rw [e4, if_neg (by decide)]
  exact ⟨_, rfl⟩
theorem read_hands_bad {x : Str} (z : Z) (hx : x.length ≤ tlim) (h : (okB x && handsB (wdsOf x)) = false) : g_read_hands [.str x] z = .exc "BadText" (badT x) z := by
  have W := words_sh hx
  have hn := wds_n hx
  have e1 : lim = 1000000 := rfl
  have e2 : tlim = 3900 := rfl
  refine f_excE (s0 := [.sh (.str x), .none, .none]) rfl ?_
  unfold m_read_hands
  rw [s_ownD (ds := []) rfl]
  cases h1 : okB x with
  | false => exact ⟨_, s_exc (s_forX (e_itemsCallX rfl (words_of_bad _ hx h1)))⟩
  | true =>
    rw [h1, Bool.true_and, ← hands_iff] at h
    have L := loopRH (x := x) z (wdsOf x) [] .none (fun l hl => ⟨W.ne l hl, W.sh l hl⟩) (by simp; omega)
    cases hg : goodH [] (wdsOf x) with
    | false =>
      obtain ⟨s1, e⟩ := L.2 hg
      exact ⟨_, s_exc ((s_for (e_itemsCall rfl (words_of_ok _ hx h1) W.lim)).trans e)⟩
    | true =>
      obtain ⟨v', e⟩ := L.1 hg
      rw [hg, Bool.true_and] at h
      have e4 : decide (wdsOf x = []) = true := by simpa using h
      refine ex_eq (s_seq ((s_for (e_itemsCall rfl (words_of_ok _ hx h1) W.lim)).trans e)) ?_
      refine ex_eq (s_raise (k := decide (wdsOf x = [])) (t_B (e_op (v_view rfl) rfl (eqX_nil _))) fun _ => rfl) ?_
      rw [e4, if_pos rfl]
      exact ⟨_, rfl⟩
def bodyPH : SM := (mSeq (mIfS (mOr (mNot (mB (mCallF 1 g_is_name (mCons (mVar 1) mNil)))) (mNot (mB (mCallF 1 g_is_name_list (mCons (mOp dIx (mVar 0) (mVar 1)) mNil))))) (mSeq (mRaise "BadHands" (mk1 "name") (mCons (mVar 1) mNil))
  mSkip) mSkip)
  mSkip)
theorem dIx_dic {ls : List (List Str)} {l : List Str} (hd : (ls.map nameOf).Nodup) (h : l ∈ ls) : dIx (.dic (kvH ls)) (.str (nameOf l)) = some (encS (l.drop 2)) := by
  show (some (Sum.inr (nameOf l) : Key)).bind (fun k => getK (kvH ls) k) = _
  rw [Option.bind_some]
  exact getK_map (f := fun l => encS (l.drop 2)) hd h
theorem loopPH {all : List (List Str)} (z : Z) (hd : (all.map nameOf).Nodup) : ∀ (ls : List (List Str)) (v : Slot), (∀ l ∈ ls, l ∈ all ∧ handL l = true ∧ Sh l) →
    ∃ v', mForG (tgN 1) bodyPH (ls.map fun l => D.str (nameOf l)) [.sh (.dic (kvH all)), v] z = .nx [.sh (.dic (kvH all)), v'] z
  | [], v, _ => ⟨v, rfl⟩
  | l :: r, v, h => by
    obtain ⟨h1, h2, h3⟩ := h l (List.mem_cons_self ..)
    obtain ⟨v', e⟩ := loopPH (all := all) z hd r (.sh (.str (nameOf l))) fun q hq => h q (List.mem_cons_of_mem _ hq)
    refine ⟨v', ?_⟩
    unfold handL at h2
    simp only [Bool.and_eq_true] at h2
    have hc : (nameOf l).length ≤ lim := by
      match l, h2.1.2, h3 with
      | a :: b :: q, _, h3 => exact h3.w b (by simp)
    have hl : namesB (l.drop 2) = true := by
      match l, h2.1.1 with
      | a :: q, hh => simp only [handB, Bool.and_eq_true] at hh; exact hh.2
    have hb : bodyPH [.sh (.dic (kvH all)), .sh (.str (nameOf l))] z = .nx [.sh (.dic (kvH all)), .sh (.str (nameOf l))] z := by
      unfold bodyPH
      rw [s_raise (k := !(nameB (nameOf l)) || !(namesB (l.drop 2))) (t_or (t_not (t_B (e_callF1 rfl (is_name _ hc)))) fun _ => t_not (t_B (e_callF1 (e_op rfl rfl (dIx_dic hd h1)) (is_name_list _ (h3.drop 2))))) fun _ => rfl]
      rw [h2.2, hl, if_neg (by decide)]
      rfl
    rw [List.map_cons, g_nx rfl hb, e]
theorem list1_enc (l : List Str) : dList1 [encS l] = some (encS l) := rfl
theorem plain_hands_ok {ls : List (List Str)} (z : Z) (h : ∀ l ∈ ls, handL l = true ∧ Sh l) (hd : (ls.map nameOf).Nodup) (hne : ls ≠ []) (hn : ls.length ≤ lim) : g_plain_hands [.dic (kvH ls)] z = .ok (.dic (kvH ls)) z := by
  refine f_retE (s0 := [.sh (.dic (kvH ls)), .none]) rfl ?_
  unfold m_plain_hands
  rw [s_raise (k := (!true) || decide (ls = [])) (t_or (t_not (t_B (e_isi rfl rfl))) fun _ => t_B (e_op rfl rfl (eqX_nil ls))) fun _ => rfl, decide_eq_false hne, if_neg (by decide)]
  obtain ⟨v, e⟩ := loopPH z hd ls .none fun l hl => ⟨hl, h l hl⟩
  have k : mKeysD (mVar 0) ([.sh (.dic (kvH ls)), .none] : Sl) z = .ok (ls.map fun l => D.str (nameOf l)) z := keys_ev rfl hn
  refine ex_eq (s_seq ((s_for k).trans e)) ?_
  have k2 : mKeysD (mVar 0) ([.sh (.dic (kvH ls)), v] : Sl) z = .ok (ls.map fun l => D.str (nameOf l)) z := keys_ev rfl hn
  exact rt_ret (dc_yes k2 (fun l hl => ⟨_, rfl, rfl, e_call1 (e_op rfl rfl (dIx_dic hd hl)) (list1_enc _)⟩) hd)
theorem hand_line {l : List Str} (h : handL l = true) : l = ("hand" : Str) :: nameOf l :: l.drop 2 := by
  unfold handL at h
  simp only [Bool.and_eq_true] at h
  match l, h.1.1, h.1.2 with
  | a :: b :: q, hh, _ =>
    simp only [handB, Bool.and_eq_true, decide_eq_true_eq] at hh
    rw [hh.1]
    rfl
theorem write_hands_ok {x : Str} (z : Z) (hx : x.length ≤ tlim) (h1 : okB x = true) (h2 : handsB (wdsOf x) = true) : g_write_hands [.dic (kvH (wdsOf x))] z = .ok (.str x) z := by
  have W := words_sh hx
  have hn := wds_n hx
  have e1 : lim = 1000000 := rfl
  have e2 : tlim = 3900 := rfl
  have he : endB x = true := by unfold okB at h1; rw [Bool.and_eq_true] at h1; exact h1.1
  rw [← hands_iff, Bool.and_eq_true, goodH_iff] at h2
  obtain ⟨⟨g1, g2, _⟩, g3⟩ := h2
  have g1 := List.all_eq_true.mp g1
  have hp := plain_hands_ok zDum (ls := wdsOf x) (fun l hl => ⟨g1 l hl, W.sh l hl⟩) g2 (by simpa using g3) (by omega)
  refine f_retE (s0 := [.sh (.dic (kvH (wdsOf x))), .none, .none]) rfl ?_
  unfold m_write_hands
  rw [s_asg (e_callF1 rfl hp)]
  refine rt_ret (e_callF1 (x := encW (wdsOf x)) ?_ (joined_ev _ hx he))
  refine lc_yes (f := encS) (keys_ev rfl (by omega)) fun l hl => ⟨_, rfl, (e_op (e_disp (e_cons rfl (e_cons rfl e_nil)) (by show 2 ≤ lim; decide)) (e_op rfl rfl (dIx_dic g2 hl)) (d := encS l) ?_)⟩
  have hw := wds_len hx l hl
  have e := hand_line (g1 l hl)
  show (if 2 + ((l.drop 2).map D.str).length ≤ lim then some (D.lst ([D.str "hand", D.str (nameOf l)] ++ (l.drop 2).map D.str)) else none) = _
  rw [List.length_map, List.length_drop, if_pos (by omega)]
  have e3 : encS l = encS (("hand" : Str) :: nameOf l :: l.drop 2) := congrArg encS e
  rw [e3]
  rfl
end K88

set_option Elab.async false
set_option linter.all false
set_option maxRecDepth 100000
set_option maxHeartbeats 4000000
namespace K88
open PySem PySem.Spec PyProof.Rows L2 DL TL NumText
/-! ### tables: the law's reading, the program's -/
def rowB (n : Nat) : List Str → Bool
  | b :: vs => decide (b = "row") && (decide (vs.length = n) && vs.all numB)
  | [] => false
def headB (a : Str) (ns : List Str) (rows : List (List Str)) : Bool := decide (rows = []) || (!decide (a = "asks") || (decide (ns = []) || !namesB ns))
def tabB : List (List Str) → Bool
  | (a :: ns) :: rows => !(headB a ns rows) && rows.all (rowB ns.length)
  | _ => false
theorem lt2 {α : Type} [DecidableEq α] (h : α) (r : List α) : decide (((h :: r).length : Int) < 2) = decide (r = []) := decide_eq_decide.mpr (by
  cases r with
  | nil => simp
  | cons a r => simp; omega)
theorem dLen_encW (ls : List (List Str)) : dLen [encW ls] = some (.int (ls.length : Int)) := by
  show some (D.int ((ls.map encS).length : Int)) = _
  rw [List.length_map]
def bodyLT : SM := (mSeq (mIfS (mOr (mB (mOp dNeX (mOp dIx (mVar 1) (mC (.int 0))) (mC (.str "row")))) (mOr (mB (mOp dNeX (mCall dLen (mCons (mVar 1) mNil)) (mCall dLen (mCons (mOp dIx (mVar 0) (mC (.int 0))) mNil)))) (mNot (mB (mCall dAll (mCons (mLc [2] (mItems (mSl (mVar 1) (mPart (mC (.int 1))) mNoPart)) (tgN 2) mYes (mCallF 1 g__law_is_number_word (mCons (mVar 2) mNil))) mNil)))))) (mSeq (mRet (mC (.bl false)))
  mSkip) mSkip)
  mSkip)
theorem succ_eq (m n : Nat) : decide (((m + 1 : Nat) : Int) = ((n + 1 : Nat) : Int)) = decide (m = n) := decide_eq_decide.mpr (by omega)
theorem loopLT {a : Str} {ns : List Str} {W : List D} (z : Z) : ∀ (rows : List (List Str)) (v : Slot), (∀ l ∈ rows, l ≠ [] ∧ Sh l) →
    (rows.all (rowB ns.length) = true → ∃ v', mForG (tgN 1) bodyLT (rows.map encS) [.sh (.lst (encS (a :: ns) :: W)), v, .none] z = .nx [.sh (.lst (encS (a :: ns) :: W)), v', .none] z) ∧
    (rows.all (rowB ns.length) = false → ∃ s1, mForG (tgN 1) bodyLT (rows.map encS) [.sh (.lst (encS (a :: ns) :: W)), v, .none] z = .rt (.bl false) s1 z)
  | [], v, _ => ⟨fun _ => ⟨v, rfl⟩, fun h => by cases h⟩
  | l :: r, v, hl => by
    obtain ⟨h1, h2⟩ := hl l (List.mem_cons_self ..)
    obtain ⟨b, vs, rfl⟩ : ∃ b q, l = b :: q := by
      cases l with
      | nil => exact absurd rfl h1
      | cons b q => exact ⟨b, q, rfl⟩
    have ih := loopLT (a := a) (ns := ns) (W := W) z r (.sh (encS (b :: vs))) fun y hy => hl y (List.mem_cons_of_mem _ hy)
    let s1 : Sl := [.sh (.lst (encS (a :: ns) :: W)), .sh (encS (b :: vs)), .none]
    have hb : bodyLT s1 z = if (!(rowB ns.length (b :: vs))) = true then .rt (.bl false) s1 z else .nx s1 z := by
      unfold bodyLT
      rw [s_guard (k := (!decide (b = "row") || (!decide (vs.length = ns.length) || !(vs.all numB)))) (t_or (t_B (e_op (e_op rfl rfl (ix0 _ _)) rfl (dNeX_str ..))) fun _ => t_or ((t_B (e_op (e_call1 rfl (dLen_enc _)) (e_call1 (e_op rfl rfl (ix0 _ _)) (dLen_enc _)) (dNeX_int ..))).trans (by rw [List.length_cons, List.length_cons, succ_eq])) fun _ => t_not (t_B (ev_all (items_lst (l := vs.map D.str) (e_sl rfl (p_int rfl) rfl (cut1 _ _)) h2.tail.lim) fun w hw => ⟨_, rfl, e_callF1 rfl (law_number_word _ (h2.tail.w w hw))⟩))) fun _ => rfl]
      have e : (!(rowB ns.length (b :: vs))) = (!decide (b = "row") || (!decide (vs.length = ns.length) || !(vs.all numB))) := by
        show (!(decide (b = "row") && (decide (vs.length = ns.length) && vs.all numB))) = _
        rw [Bool.not_and, Bool.not_and]
      rw [e]
      rfl
    have ht : tgN 1 (encS (b :: vs)) [.sh (.lst (encS (a :: ns) :: W)), v, .none] = some s1 := rfl
    rw [List.all_cons]
    cases hk : rowB ns.length (b :: vs) with
    | false =>
      simp only [hk, Bool.not_false, if_true] at hb
      exact ⟨fun h => by simp at h, fun _ => ⟨s1, g_rt ht hb⟩⟩
    | true =>
      simp only [hk, Bool.not_true, Bool.false_eq_true, if_false] at hb
      rw [Bool.true_and]
      refine ⟨fun h => ?_, fun h => ?_⟩
      · obtain ⟨v', e⟩ := ih.1 h
        exact ⟨v', (g_nx ht hb).trans e⟩
      · obtain ⟨s2, e⟩ := ih.2 h
        exact ⟨s2, (g_nx ht hb).trans e⟩
theorem law_table {x : Str} (z : Z) (hx : x.length ≤ tlim) : g__law_is_table [encW (wdsOf x)] z = .ok (.bl (tabB (wdsOf x))) z := by
  have W := words_sh hx
  generalize wdsOf x = ls at W
  cases ls with
  | nil => rfl
  | cons h rows =>
    have hh := W.ne h (List.mem_cons_self ..)
    have hs := W.sh h (List.mem_cons_self ..)
    cases h with
    | nil => exact absurd rfl hh
    | cons a ns =>
      have hr : ∀ l ∈ rows, l ≠ [] ∧ Sh l := fun l hl => ⟨W.ne l (List.mem_cons_of_mem _ hl), W.sh l (List.mem_cons_of_mem _ hl)⟩
      refine f_retE (s0 := [.sh (encW ((a :: ns) :: rows)), .none, .none]) rfl ?_
      unfold m__law_is_table
      refine ex_eq (s_guard (k := headB a ns rows) (t_or ((t_B (e_op (e_call1 rfl (dLen_encW _)) rfl rfl)).trans (by rw [lt2])) fun _ => t_or (t_B (e_op (e_op (e_op rfl rfl (ix0 _ _)) rfl (ix0 _ _)) rfl (dNeX_str ..))) fun _ => t_or ((t_B (e_op (e_call1 (e_op rfl rfl (ix0 _ _)) (dLen_enc _)) rfl rfl)).trans (by rw [lt2])) fun _ => t_not (t_B (e_callF1 (e_sl (e_op rfl rfl (ix0 _ _)) (p_int rfl) rfl (cut1 _ _)) (law_are_names _ hs.tail)))) fun _ => rfl) ?_
      refine ite_rt (fun hk => rt_of ?_) fun hk => ?_
      · show D.bl false = D.bl (!(headB a ns rows) && rows.all (rowB ns.length))
        rw [hk]
        rfl
      · rw [Bool.not_eq_true] at hk
        have L := loopLT (a := a) (ns := ns) (W := rows.map encS) z rows .none hr
        have hi : mItems (mSl (mVar 0) (mPart (mC (.int 1))) mNoPart) ([.sh (encW ((a :: ns) :: rows)), .none, .none] : Sl) z = .ok (rows.map encS) z := items_lst (e_sl rfl (p_int rfl) rfl (cut1 _ _)) (by have := W.lim; rw [List.map_cons, List.length_cons] at this; omega)
        have et : tabB ((a :: ns) :: rows) = rows.all (rowB ns.length) := by
          show (!(headB a ns rows) && rows.all (rowB ns.length)) = _
          rw [hk]
          rfl
        rw [et]
        cases hg : rows.all (rowB ns.length) with
        | true =>
          obtain ⟨v', e⟩ := L.1 hg
          exact ex_eq (s_seq ((s_for hi).trans e)) (rt_ret rfl)
        | false =>
          obtain ⟨s1, e⟩ := L.2 hg
          exact ⟨_, s_rt ((s_for hi).trans e)⟩
/-! rows -/
def valW (w : Str) : Int := (PySem.intText? w).getD 0
abbrev kvR (ns vs : List Str) : List (Key × D) := (ns.zip vs).map fun p => ((Sum.inr p.1 : Key), D.int (valW p.2))
theorem numB_int {w : Str} (h : numB w = true) : dInt [.str w] = some (.int (valW w)) ∧ dStr [.int (valW w)] = some (.str w) := by
  obtain ⟨n, h1, h2, h3, h4⟩ := numB_back h
  have e : valW w = n := by unfold valW; rw [h1]; rfl
  rw [e]
  constructor
  · show (if w.length ≤ 600 then (PySem.intText? w).map D.int else none) = _
    rw [if_pos h4, h1]
    rfl
  · show (if n.natAbs < 2 ^ 1000 then some (D.str (strI n)) else none) = _
    rw [if_pos h2, h3]
theorem zip_fst {ns vs : List Str} (h : vs.length = ns.length) : (ns.zip vs).map (·.1) = ns := List.map_fst_zip (by omega)
theorem zip_snd {ns vs : List Str} (h : vs.length = ns.length) : (ns.zip vs).map (·.2) = vs := List.map_snd_zip (by omega)
def bodyRT : SM := (mSeq (mIfS (mOr (mB (mOp dNeX (mOp dIx (mVar 2) (mC (.int 0))) (mC (.str "row")))) (mOr (mB (mOp dNeX (mCall dLen (mCons (mVar 2) mNil)) (mCall dLen (mCons (mOp dIx (mVar 1) (mC (.int 0))) mNil)))) (mNot (mB (mCall dAll (mCons (mLc [6] (mItems (mSl (mVar 2) (mPart (mC (.int 1))) mNoPart)) (tgN 6) mYes (mCallF 1 g_is_number_word (mCons (mVar 6) mNil))) mNil)))))) (mSeq (mRaise "BadText" (mk1 "thing") (mCons (mVar 0) mNil))
  mSkip) mSkip)
  (mSeq (mApp 4 (mDc [5, 6] (mZip (mVar 3) (mSl (mVar 2) (mPart (mC (.int 1))) mNoPart)) (tgT [(tgN 5), (tgN 6)]) mYes (mVar 5) (mCall dInt (mCons (mVar 6) mNil))))
  mSkip))
abbrev rowD (ns : List Str) (l : List Str) : D := .dic (kvR ns l.tail)
theorem zip_ev {m m' : M D} {s : Sl} {z : Z} {ns vs : List Str} (h1 : m s z = .ok (encS ns) z) (h2 : m' s z = .ok (encS vs) z) (hl : ns.length ≤ lim) : mZip m m' s z = .ok ((ns.zip vs).map fun p => D.tup [.str p.1, .str p.2]) z := by
  unfold mZip
  rw [h1]
  simp only [ER.bind, h2]
  have e : zipD (ns.map D.str) (vs.map D.str) = (ns.zip vs).map fun p => D.tup [.str p.1, .str p.2] := by
    unfold zipD
    rw [List.zip_map, List.map_map]
    rfl
  rw [e, chk_ok (by rw [List.length_map, List.length_zip]; omega)]
theorem loopRT {x a : Str} {ns : List Str} {W : List D} (z : Z) (hd : ns.Nodup) (hns : ns.length ≤ lim) : ∀ (rows acc : List (List Str)) (v : Slot), (∀ l ∈ rows, l ≠ [] ∧ Sh l) → acc.length + rows.length < lim →
    (rows.all (rowB ns.length) = true → ∃ v', mForG (tgN 2) bodyRT (rows.map encS) [.sh (.str x), .sh (.lst (encS (a :: ns) :: W)), v, .sh (encS ns), .own (.lst (acc.map (rowD ns))), .none, .none] z = .nx [.sh (.str x), .sh (.lst (encS (a :: ns) :: W)), v', .sh (encS ns), .own (.lst ((acc ++ rows).map (rowD ns))), .none, .none] z) ∧
    (rows.all (rowB ns.length) = false → ∃ s1, mForG (tgN 2) bodyRT (rows.map encS) [.sh (.str x), .sh (.lst (encS (a :: ns) :: W)), v, .sh (encS ns), .own (.lst (acc.map (rowD ns))), .none, .none] z = .exc "BadText" (badT x) s1 z)
  | [], acc, v, _, _ => ⟨fun _ => ⟨v, by simp [mForG]⟩, fun h => by cases h⟩
  | l :: r, acc, v, hl, hn => by
    obtain ⟨h1, h2⟩ := hl l (List.mem_cons_self ..)
    rw [List.length_cons] at hn
    obtain ⟨b, vs, rfl⟩ : ∃ b q, l = b :: q := by
      cases l with
      | nil => exact absurd rfl h1
      | cons b q => exact ⟨b, q, rfl⟩
    have ih := loopRT (x := x) (a := a) (ns := ns) (W := W) z hd hns r (acc ++ [b :: vs]) (.sh (encS (b :: vs))) (fun y hy => hl y (List.mem_cons_of_mem _ hy)) (by rw [List.length_append, List.length_singleton]; omega)
    let s1 : Sl := [.sh (.str x), .sh (.lst (encS (a :: ns) :: W)), .sh (encS (b :: vs)), .sh (encS ns), .own (.lst (acc.map (rowD ns))), .none, .none]
    have hb : bodyRT s1 z = if (!(rowB ns.length (b :: vs))) = true then .exc "BadText" (badT x) s1 z else .nx [.sh (.str x), .sh (.lst (encS (a :: ns) :: W)), .sh (encS (b :: vs)), .sh (encS ns), .own (.lst ((acc ++ [b :: vs]).map (rowD ns))), .none, .none] z := by
      have e : (!(rowB ns.length (b :: vs))) = (!decide (b = "row") || (!decide (vs.length = ns.length) || !(vs.all numB))) := by
        show (!(decide (b = "row") && (decide (vs.length = ns.length) && vs.all numB))) = _
        rw [Bool.not_and, Bool.not_and]
      unfold bodyRT
      rw [s_raise (k := !(rowB ns.length (b :: vs))) ?_ fun _ => rfl]
      · by_cases hk : (!(rowB ns.length (b :: vs))) = true
        · rw [if_pos hk, if_pos hk]
        · rw [if_neg hk, if_neg hk]
          rw [e] at hk
          simp only [Bool.or_eq_true, not_or, Bool.not_eq_true, Bool.not_eq_false', decide_eq_true_eq] at hk
          obtain ⟨_, k1, k2⟩ := hk
          have k2 := List.all_eq_true.mp k2
          refine (s_app (d := rowD ns (b :: vs)) rfl (dc_yes (nm := (·.1)) (f := fun p => D.int (valW p.2)) (zip_ev rfl (e_sl rfl (p_int rfl) rfl (cut1 _ _)) hns) (fun p hp => ⟨_, rfl, rfl, e_call1 rfl (numB_int (k2 p.2 ?_)).1⟩) ?_) (by rw [List.length_map]; omega)).trans ?_
          · have := List.mem_map_of_mem (f := (·.2)) hp
            rw [List.tail_cons, zip_snd k1] at this
            exact this
          · rw [List.tail_cons, zip_fst k1]
            exact hd
          · rw [List.map_append]
            rfl
      · rw [e]
        exact t_or (t_B (e_op (e_op rfl rfl (ix0 _ _)) rfl (dNeX_str ..))) fun _ => t_or ((t_B (e_op (e_call1 rfl (dLen_enc _)) (e_call1 (e_op rfl rfl (ix0 _ _)) (dLen_enc _)) (dNeX_int ..))).trans (by rw [List.length_cons, List.length_cons, succ_eq])) fun _ => t_not (t_B (ev_all (items_lst (l := vs.map D.str) (e_sl rfl (p_int rfl) rfl (cut1 _ _)) h2.tail.lim) fun w hw => ⟨_, rfl, e_callF1 rfl (number_word _ (h2.tail.w w hw))⟩))
    have ht : tgN 2 (encS (b :: vs)) [.sh (.str x), .sh (.lst (encS (a :: ns) :: W)), v, .sh (encS ns), .own (.lst (acc.map (rowD ns))), .none, .none] = some s1 := rfl
    rw [List.all_cons]
    cases hk : rowB ns.length (b :: vs) with
    | false =>
      simp only [hk, Bool.not_false, if_true] at hb
      exact ⟨fun h => by simp at h, fun _ => ⟨s1, g_exc ht hb⟩⟩
    | true =>
      simp only [hk, Bool.not_true, Bool.false_eq_true, if_false] at hb
      rw [Bool.true_and]
      refine ⟨fun h => ?_, fun h => ?_⟩
      · obtain ⟨v', e⟩ := ih.1 h
        refine ⟨v', (g_nx ht hb).trans (e.trans ?_)⟩
        rw [List.append_assoc]
        rfl
      · obtain ⟨s2, e⟩ := ih.2 h
        exact ⟨s2, (g_nx ht hb).trans e⟩
end K88

set_option Elab.async false
set_option linter.all false
set_option maxRecDepth 100000
set_option maxHeartbeats 4000000
namespace K88
open PySem PySem.Spec PyProof.Rows L2 DL TL NumText
/-! ### tables: made, written -/
theorem keyVs_R {ns vs : List Str} (h : vs.length = ns.length) : keyVs (kvR ns vs) = ns.map D.str := by
  unfold keyVs
  rw [List.map_map]
  have e : (ns.zip vs).map (fun p => D.str p.1) = ns.map D.str := by
    conv => rhs; rw [← zip_fst h]
    rw [List.map_map]
    rfl
  exact e
theorem kvR_len {ns vs : List Str} (h : vs.length = ns.length) : (kvR ns vs).length = ns.length := by
  rw [List.length_map, List.length_zip]
  omega
theorem keysR_ev {m : M D} {s : Sl} {z : Z} {ns vs : List Str} (h : vs.length = ns.length) (hm : m s z = .ok (.dic (kvR ns vs)) z) (hl : ns.length ≤ lim) : mKeysD m s z = .ok (ns.map D.str) z := by
  unfold mKeysD
  rw [hm]
  show chkL (keyVs _) z = _
  rw [keyVs_R h, chk_ok (by rw [List.length_map]; exact hl)]
theorem names_of_ok {ns vs : List Str} (z : Z) (h : vs.length = ns.length) (hS : Sh ns) (hn : ns.all nameB = true) : g_names_of [.dic (kvR ns vs)] z = .ok (encS ns) z := by
  have hl : ns.length ≤ lim := by have := hS.lim; rw [List.length_map] at this; exact this
  refine f_retE (s0 := [.sh (.dic (kvR ns vs)), .none]) rfl ?_
  unfold m_names_of
  refine ex_eq (s_guard (k := (!true) || !(ns.all nameB)) (t_or (t_not (t_B (e_isi rfl rfl))) fun _ => t_not (t_B (ev_all (keysR_ev h rfl hl) fun w hw => ⟨_, rfl, e_callF1 rfl (is_name _ (hS.w w hw))⟩))) fun _ => rfl) ?_
  rw [hn, if_neg (by decide)]
  refine rt_ret ((e_call1 rfl rfl).trans ?_)
  rw [keyVs_R h]
theorem dIx_row {ns vs : List Str} (hd : ns.Nodup) (h : vs.length = ns.length) {p : Str × Str} (hp : p ∈ ns.zip vs) : dIx (.dic (kvR ns vs)) (.str p.1) = some (.int (valW p.2)) := by
  show (some (Sum.inr p.1 : Key)).bind (fun k => getK (kvR ns vs) k) = _
  rw [Option.bind_some]
  exact getK_map (nm := (·.1)) (f := fun p => D.int (valW p.2)) (by rw [zip_fst h]; exact hd) hp
theorem dIn_row {ns vs : List Str} (h : vs.length = ns.length) {p : Str × Str} (hp : p ∈ ns.zip vs) : dIn (.str p.1) (.dic (kvR ns vs)) = some (.bl true) := by
  show ((some (Sum.inr p.1 : Key)).map fun k => (getK (kvR ns vs) k).isSome).map D.bl = _
  have q := getK_some (nm := fun p : Str × Str => p.1) (f := fun p => D.int (valW p.2)) (n := p.1) (ls := ns.zip vs)
  rw [Option.map_some, Option.map_some, q, decide_eq_true (List.mem_map_of_mem (f := fun p : Str × Str => p.1) hp)]
theorem is_int (i : Int) (z : Z) : g_is_integer [.int i] z = .ok (.bl true) z := f_ret (s0 := [.sh (.int i)]) rfl (s_ret (e_andV (k := true) (j := true) (e_isi rfl rfl) fun _ => e_notV (k := false) (e_isi rfl rfl)))
theorem zip_items {ns vs : List Str} (h : vs.length = ns.length) : ns.map D.str = (ns.zip vs).map fun p => D.str p.1 := by
  conv => lhs; rw [← zip_fst h]
  rw [List.map_map]
  rfl
theorem all_true {α : Type} (l : List α) : (l.all fun _ => true) = true := List.all_eq_true.mpr fun _ _ => rfl
theorem is_row_ok {ns vs : List Str} (z : Z) (hd : ns.Nodup) (h : vs.length = ns.length) (hl : ns.length ≤ lim) : g_is_row [.dic (kvR ns vs), encS ns] z = .ok (.bl true) z := by
  refine f_retE (s0 := [.sh (.dic (kvR ns vs)), .sh (encS ns), .none]) rfl ?_
  unfold m_is_row
  refine ex_eq (s_guard (k := (!true) || !decide (((kvR ns vs).length : Int) = (ns.length : Int))) (t_or (t_not (t_B (e_isi rfl rfl))) fun _ => t_B (e_op (e_call1 rfl rfl) (e_call1 rfl (dLen_enc ns)) (dNeX_int ..))) fun _ => rfl) ?_
  rw [kvR_len h, decide_eq_true rfl, if_neg (by decide)]
  refine rt_ret ((ev_all (p := fun _ => true) (l := ns.zip vs) ((items_lst (l := ns.map D.str) rfl (by rw [List.length_map]; exact hl)).trans (by rw [zip_items h])) fun p hp => ⟨_, rfl, ?_⟩).trans (by rw [all_true]))
  exact (e_andV (e_op rfl rfl (dIn_row h hp)) fun _ => e_callF1 (e_op rfl rfl (dIx_row hd h hp)) (is_int _ _))
def bodyTI : SM := (mSeq (mIfS (mOr (mB (mOp dEq (mVar 2) (mDisp .lst mNil))) (mNot (mB (mCallF 2 g_is_row (mCons (mVar 4) (mCons (mVar 2) mNil)))))) (mSeq (mRaise "BadRow" (mk1 "index") (mCons (mVar 3) mNil))
  mSkip) mSkip)
  mSkip)
theorem loopTI {ns : List Str} {S : Slot} {y : D} (z : Z) (hd : ns.Nodup) (hne : ns ≠ []) (hl : ns.length ≤ lim) : ∀ (rows : List (List Str)) (k : Nat) (v u : Slot), noSlf [v, u] = true → (∀ l ∈ rows, l.tail.length = ns.length) →
    ∃ v' u', noSlf [v', u'] = true ∧ mForG (tgT [(tgN 3), (tgN 4)]) bodyTI (enumF k (rows.map (rowD ns))) [S, .sh y, .sh (encS ns), v, u, .none] z = .nx [S, .sh y, .sh (encS ns), v', u', .none] z
  | [], k, v, u, hv, _ => ⟨v, u, hv, by simp [mForG, enumF]⟩
  | l :: r, k, v, u, hv, h => by
    obtain ⟨v', u', hw, e⟩ := loopTI (S := S) (y := y) z hd hne hl r (k + 1) (.sh (.int (k : Int))) (.sh (rowD ns l)) rfl fun q hq => h q (List.mem_cons_of_mem _ hq)
    refine ⟨v', u', hw, ?_⟩
    have hb : bodyTI [S, .sh y, .sh (encS ns), .sh (.int (k : Int)), .sh (rowD ns l), .none] z = .nx [S, .sh y, .sh (encS ns), .sh (.int (k : Int)), .sh (rowD ns l), .none] z := by
      unfold bodyTI
      rw [s_raise (k := decide (ns.map D.str = []) || !true) (t_or (t_B (e_op rfl rfl (dEq_nil _))) fun _ => t_not (t_B (e_callF2 rfl rfl (is_row_ok _ hd (h l (List.mem_cons_self ..)) hl)))) fun _ => rfl]
      rw [decide_eq_false (fun q => hne (List.map_eq_nil_iff.mp q)), if_neg (by decide)]
      rfl
    have e3 : enumF k ((l :: r).map (rowD ns)) = .tup [.int (k : Int), rowD ns l] :: enumF (k + 1) (r.map (rowD ns)) := rfl
    rw [e3, g_nx rfl hb, e]
abbrev tabF (ns : List Str) (rows : List (List Str)) : List (Str × D) := [("own_names", encS ns), ("own_rows", .lst (rows.map (rowD ns)))]
theorem s_setF {i : Nat} {cn f : Str} {m : M D} {r : SM} {s : Sl} {z z1 : Z} {d : D} {fs : List (Str × D)} (hs : s[i]? = some (.slf cn fs)) (h : m s z = .ok d z1) (hl : fs.length < 800) (hno : noSlf (s.set i .none) = true) : mSeq (mSetF i cn f m) r s z = r (s.set i (.slf cn (putD f d fs))) z1 := by
  unfold mSeq mSetF
  rw [hs]
  simp only [if_true, h, toFR, if_pos (And.intro hl hno)]
theorem init_ok {ns : List Str} {rows : List (List Str)} (hS : Sh ns) (hd : ns.Nodup) (hne : ns ≠ []) (hnm : ns.all nameB = true) (hr : rows ≠ []) (hrn : rows.length ≤ lim) (h : ∀ l ∈ rows, l.tail.length = ns.length) : g_Table_init [.lst (rows.map (rowD ns))] = .ok (tabF ns rows) zDum := by
  have hl : ns.length ≤ lim := by have := hS.lim; rw [List.length_map] at this; exact this
  have e0 : startI 6 "Table" [.lst (rows.map (rowD ns))] = [.slf "Table" [], .sh (.lst (rows.map (rowD ns))), .none, .none, .none, .none] := rfl
  have key : ∃ v u, m_Table_init [.slf "Table" [], .sh (.lst (rows.map (rowD ns))), .none, .none, .none, .none] zDum = .nx [.slf "Table" (tabF ns rows), .sh (.lst (rows.map (rowD ns))), .sh (encS ns), v, u, .none] zDum := by
    obtain ⟨l, rr, rfl⟩ : ∃ l rr, rows = l :: rr := by
      cases rows with
      | nil => exact absurd rfl hr
      | cons l rr => exact ⟨l, rr, rfl⟩
    unfold m_Table_init
    rw [s_raise (k := (!true) || decide ((((l :: rr).map (rowD ns)).length : Int) = 0)) (t_or (t_not (t_B (e_callF1 rfl (is_list_l _ _)))) fun _ => t_B (e_op (e_call1 rfl rfl) rfl (dEq_int ..))) fun _ => rfl]
    rw [decide_eq_false (by simp; try omega), if_neg (by decide)]
    rw [s_asg (e_callF1 (e_op rfl rfl (ix0 _ _)) (names_of_ok _ (h l (List.mem_cons_self ..)) hS hnm))]
    obtain ⟨v, u, hw, e⟩ := loopTI (S := .slf "Table" []) (y := .lst ((l :: rr).map (rowD ns))) zDum hd hne hl (l :: rr) 0 .none .none rfl h
    have hi : mEnum (mVar 1) ([.slf "Table" [], .sh (.lst ((l :: rr).map (rowD ns))), .sh (encS ns), .none, .none, .none] : Sl) zDum = .ok (enumF 0 ((l :: rr).map (rowD ns))) zDum := by
      show chkL (enumD ((l :: rr).map (rowD ns))) zDum = _
      rw [chk_ok (by unfold enumD; rw [List.length_map, List.length_zipIdx, List.length_map]; omega)]
      rfl
    refine ⟨v, u, ?_⟩
    refine (s_seq ((s_for hi).trans e)).trans ?_
    have hv : ∀ y1 y2 : D, noSlf ([.none, .sh y1, .sh y2, v, u, .none] : Sl) = true := fun _ _ => by
      simp only [noSlf, List.all_cons, List.all_nil, Bool.and_true, Bool.true_and] at hw ⊢
      exact hw
    refine (s_setF (i := 0) (fs := []) (s := [.slf "Table" [], .sh (.lst ((l :: rr).map (rowD ns))), .sh (encS ns), v, u, .none]) (d := encS ns) rfl rfl (by decide) (hv (.lst ((l :: rr).map (rowD ns))) (encS ns))).trans ?_
    refine (s_setF (i := 0) (fs := [("own_names", encS ns)]) (s := [.slf "Table" [("own_names", encS ns)], .sh (.lst ((l :: rr).map (rowD ns))), .sh (encS ns), v, u, .none]) (d := .lst ((l :: rr).map (rowD ns))) rfl (lc_yes (items_lst rfl (by rw [List.length_map]; exact hrn)) fun q hq => ⟨_, rfl, ?_⟩) (by show 1 < 800; decide) (hv (.lst ((l :: rr).map (rowD ns))) (encS ns))).trans rfl
    refine dc_yes (l := ns.zip q.tail) (e := fun p => D.str p.1) (nm := fun p => p.1) (f := fun p => D.int (valW p.2)) ((items_lst (l := ns.map D.str) rfl (by rw [List.length_map]; exact hl)).trans (by rw [zip_items (h q hq)])) (fun p hp => ⟨_, rfl, rfl, e_op rfl rfl (dIx_row hd (h q hq) hp)⟩) ?_
    rw [zip_fst (h q hq)]
    exact hd
  obtain ⟨v, u, e⟩ := key
  unfold g_Table_init iniM
  rw [e0, e]
  rfl
theorem tab_bits {a : Str} {ns : List Str} {rows : List (List Str)} (h : tabB ((a :: ns) :: rows) = true) : a = "asks" ∧ ns ≠ [] ∧ ns.all nameB = true ∧ ns.Nodup ∧ rows ≠ [] ∧ rows.all (rowB ns.length) = true := by
  have h : (!(headB a ns rows) && rows.all (rowB ns.length)) = true := h
  unfold headB namesB at h
  simp only [Bool.and_eq_true, Bool.not_eq_true', Bool.or_eq_false_iff, decide_eq_false_iff_not, Bool.not_eq_false', decide_eq_true_eq, distB_iff] at h
  obtain ⟨⟨h1, h2, h3, h4, h5⟩, h6⟩ := h
  exact ⟨h2, h3, h4, h5, h1, h6⟩
theorem row_bits {n : Nat} {l : List Str} (h : rowB n l = true) : ∃ vs, l = ("row" : Str) :: vs ∧ vs.length = n ∧ ∀ w ∈ vs, numB w = true := by
  cases l with
  | nil => cases h
  | cons b vs =>
    simp only [rowB, Bool.and_eq_true, decide_eq_true_eq] at h
    exact ⟨vs, by rw [h.1], h.2.1, List.all_eq_true.mp h.2.2⟩
end K88

set_option Elab.async false
set_option linter.all false
set_option maxRecDepth 100000
set_option maxHeartbeats 4000000
namespace K88
open PySem PySem.Spec PyProof.Rows L2 DL TL NumText
/-! ### tables: read, written -/
theorem s_par2 {i j : Nat} {m1 m2 : M D} {r : SM} {s : Sl} {z : Z} {d1 : D} {ds : List D} (h1 : m1 s z = .ok d1 z) (h2 : m2 s z = .ok (.lst ds) z) : mSeq (mPar [i, j] [(false, m1), (true, m2)]) r s z = r ((s.set i (.sh d1)).set j (.own (.lst ds))) z := by
  unfold mSeq mPar
  simp only [mItms, h1, h2, ER.bind, Bool.false_eq_true, false_and, if_false, isBox, reduceCtorEq, and_false, List.map_cons, List.map_nil, setAll, if_true]
theorem e_mkI {cn : Str} {g : Gm} {m : M D} {s : Sl} {z z' : Z} {x : D} {fs : List (Str × D)} (h1 : m s z = .ok x z) (h2 : g [x] = .ok fs z') : mMkI cn 1 g (mCons m mNil) s z = .ok (.ins cn fs) z := by
  unfold mMkI
  rw [e_cons h1 e_nil]
  simp only [ER.bind, List.length_cons, List.length_nil, if_true, h2, reZ]
theorem headB_or (b1 b2 b3 b4 : Bool) : (b1 || (!b2 || (!b4 || b3))) = (b1 || (!b2 || (b3 || !b4))) := by cases b1 <;> cases b2 <;> cases b3 <;> cases b4 <;> rfl
theorem read_table_ok {x a : Str} {ns : List Str} {rows : List (List Str)} (z : Z) (hx : x.length ≤ tlim) (h1 : okB x = true) (e : wdsOf x = (a :: ns) :: rows) (h2 : tabB (wdsOf x) = true) : g_read_table [.str x] z = .ok (.ins "Table" (tabF ns rows)) z := by
  have W := words_sh hx
  have hn := wds_n hx
  have e1 : lim = 1000000 := rfl
  have e2 : tlim = 3900 := rfl
  have hw := words_of_ok zDum hx h1
  rw [e] at W hn h2 hw
  obtain ⟨b1, b2, b3, b4, b5, b6⟩ := tab_bits h2
  have hS := (W.sh _ (List.mem_cons_self ..)).tail
  have hl : ns.length ≤ lim := by have := hS.lim; rw [List.length_map] at this; exact this
  have hrn : rows.length + 1 ≤ tlim := by rw [List.length_cons] at hn; exact hn
  have hk : headB a ns rows = false := by
    have h : (!(headB a ns rows) && rows.all (rowB ns.length)) = true := h2
    rw [Bool.and_eq_true] at h
    simpa using h.1
  refine f_retE (s0 := [.sh (.str x), .none, .none, .none, .none, .none, .none]) rfl ?_
  unfold m_read_table
  refine ex_eq (s_asg (e_callF1 rfl hw)) ?_
  refine ex_eq (s_raise (k := headB a ns rows) ((t_or ((t_B (e_op (e_call1 rfl (dLen_encW _)) rfl rfl)).trans (by rw [lt2])) fun _ => t_or (t_B (e_op (e_op (e_op rfl rfl (ix0 _ _)) rfl (ix0 _ _)) rfl (dNeX_str ..))) fun _ => t_or (t_not (t_B (e_callF1 (e_sl (e_op rfl rfl (ix0 _ _)) (p_int rfl) rfl (cut1 _ _)) (is_name_list _ hS)))) fun _ => (t_B (e_op (e_call1 (e_op rfl rfl (ix0 _ _)) (dLen_enc _)) rfl rfl)).trans (by rw [lt2])).trans (by rw [headB_or]; rfl)) fun _ => rfl) ?_
  rw [hk, if_neg (by decide)]
  refine ex_eq (s_par2 (e_sl (e_op rfl rfl (ix0 _ _)) (p_int rfl) rfl (cut1 _ _)) rfl) ?_
  have L := loopRT (x := x) (a := a) (ns := ns) (W := rows.map encS) z b4 hl rows [] .none (fun l q => ⟨W.ne l (List.mem_cons_of_mem _ q), W.sh l (List.mem_cons_of_mem _ q)⟩) (by simp; omega)
  obtain ⟨v', eL⟩ := L.1 b6
  refine ex_eq (s_seq ((s_for (items_lst (e_sl rfl (p_int rfl) rfl (cut1 _ _)) (by rw [List.length_map]; omega))).trans eL)) ?_
  have hi := init_ok (rows := rows) hS b4 b2 b3 b5 (by omega) (fun l q => by
    obtain ⟨vs, r1, r2, _⟩ := row_bits (List.all_eq_true.mp b6 l q)
    rw [r1]
    exact r2)
  have hm : mMkI "Table" 1 g_Table_init (mCons (mVar 4) mNil) ([.sh (.str x), .sh (encW ((a :: ns) :: rows)), v', .sh (encS ns), .sh (.lst (rows.map (rowD ns))), .none, .none] : Sl) z = .ok (.ins "Table" (tabF ns rows)) z := e_mkI rfl hi
  refine ⟨[.sh (.str x), .sh (encW ((a :: ns) :: rows)), v', .sh (encS ns), .sh (.lst (rows.map (rowD ns))), .none, .none], ?_⟩
  unfold mSeq mFz
  show (match mRet (mMkI "Table" 1 g_Table_init (mCons (mVar 4) mNil)) ([.sh (.str x), .sh (encW ((a :: ns) :: rows)), v', .sh (encS ns), .sh (.lst (rows.map (rowD ns))), .none, .none] : Sl) z with
    | .nx s z => mSkip s z
    | r => r) = _
  unfold mRet
  rw [hm]
  rfl
theorem read_table_bad {x : Str} (z : Z) (hx : x.length ≤ tlim) (h : (okB x && tabB (wdsOf x)) = false) : g_read_table [.str x] z = .exc "BadText" (badT x) z := by
  have W := words_sh hx
  have hn := wds_n hx
  have e1 : lim = 1000000 := rfl
  have e2 : tlim = 3900 := rfl
  refine f_excE (s0 := [.sh (.str x), .none, .none, .none, .none, .none, .none]) rfl ?_
  unfold m_read_table
  cases h1 : okB x with
  | false =>
    refine ⟨_, s_exc (s1 := [.sh (.str x), .none, .none, .none, .none, .none, .none]) ?_⟩
    have q : mCallF 1 g_words_of (mCons (mVar 0) mNil) ([.sh (.str x), .none, .none, .none, .none, .none, .none] : Sl) z = .exc "BadText" (badT x) z := e_callFx (e_cons rfl e_nil) rfl (words_of_bad _ hx h1)
    unfold mAsg
    rw [q]
    rfl
  | true =>
    rw [h1, Bool.true_and] at h
    have hw := words_of_ok zDum hx h1
    generalize wdsOf x = ls at W hn h hw
    refine ex_eq (s_asg (e_callF1 rfl hw)) ?_
    cases ls with
    | nil => exact ⟨_, (s_raise (k := true) rfl fun _ => rfl).trans rfl⟩
    | cons hd rows =>
      have hh := W.ne hd (List.mem_cons_self ..)
      cases hd with
      | nil => exact absurd rfl hh
      | cons a ns =>
        have hS := (W.sh _ (List.mem_cons_self ..)).tail
        have hl : ns.length ≤ lim := by have := hS.lim; rw [List.length_map] at this; exact this
        have hrn : rows.length + 1 ≤ tlim := by rw [List.length_cons] at hn; exact hn
        refine ex_eq (s_raise (k := headB a ns rows) ((t_or ((t_B (e_op (e_call1 rfl (dLen_encW _)) rfl rfl)).trans (by rw [lt2])) fun _ => t_or (t_B (e_op (e_op (e_op rfl rfl (ix0 _ _)) rfl (ix0 _ _)) rfl (dNeX_str ..))) fun _ => t_or (t_not (t_B (e_callF1 (e_sl (e_op rfl rfl (ix0 _ _)) (p_int rfl) rfl (cut1 _ _)) (is_name_list _ hS)))) fun _ => (t_B (e_op (e_call1 (e_op rfl rfl (ix0 _ _)) (dLen_enc _)) rfl rfl)).trans (by rw [lt2])).trans (by rw [headB_or]; rfl)) fun _ => rfl) ?_
        cases hk : headB a ns rows with
        | true => exact ⟨_, rfl⟩
        | false =>
          rw [if_neg (by decide)]
          have h : (!(headB a ns rows) && rows.all (rowB ns.length)) = false := h
          rw [hk, Bool.not_false, Bool.true_and] at h
          have b4 : ns.Nodup := by
            unfold headB namesB at hk
            simp only [Bool.or_eq_false_iff, Bool.not_eq_false', Bool.and_eq_true, distB_iff] at hk
            exact hk.2.2.2.2
          refine ex_eq (s_par2 (e_sl (e_op rfl rfl (ix0 _ _)) (p_int rfl) rfl (cut1 _ _)) rfl) ?_
          have L := loopRT (x := x) (a := a) (ns := ns) (W := rows.map encS) z b4 hl rows [] .none (fun l q => ⟨W.ne l (List.mem_cons_of_mem _ q), W.sh l (List.mem_cons_of_mem _ q)⟩) (by simp; omega)
          obtain ⟨s1, eL⟩ := L.2 h
          exact ⟨_, s_exc ((s_for (items_lst (e_sl rfl (p_int rfl) rfl (cut1 _ _)) (by rw [List.length_map]; omega))).trans eL)⟩
theorem e_fld {ok : Str → Bool} {f cn : Str} {m : M D} {s : Sl} {z : Z} {fs : List (Str × D)} {d : D} (h1 : m s z = .ok (.ins cn fs) z) (h2 : ok cn = true) (h3 : fs.lookup f = some d) : mFld ok f m s z = .ok d z := by
  unfold mFld
  rw [h1]
  simp only [ER.bind, h2, if_true, h3, mOpt]
theorem e_meth {cn m : Str} {g : Fm} {mo : M D} {s : Sl} {z z' : Z} {fs : List (Str × D)} {d : D} (h1 : mo s z = .ok (.ins cn fs) z) (h2 : (fs.lookup m).isNone = true) (h3 : g [.ins cn fs] zDum = .ok d z') : mMeth cn m 0 g mo mNil s z = .ok d z := by
  unfold mMeth
  rw [h1]
  simp only [ER.bind, h2, and_self, if_true, mNil, List.length_nil, runF, Bool.false_eq_true, if_false, h3, reZ]
theorem tab_names {ns : List Str} {rows : List (List Str)} : (tabF ns rows).lookup ("own_names" : Str) = some (encS ns) := by kernel_rfl
theorem tab_rows {ns : List Str} {rows : List (List Str)} : (tabF ns rows).lookup ("own_rows" : Str) = some (.lst (rows.map (rowD ns))) := by kernel_rfl
theorem tab_q {ns : List Str} {rows : List (List Str)} : ((tabF ns rows).lookup ("questions" : Str)).isNone = true := by kernel_rfl
theorem tab_r {ns : List Str} {rows : List (List Str)} : ((tabF ns rows).lookup ("rows" : Str)).isNone = true := by kernel_rfl
theorem questions_ok {ns : List Str} {rows : List (List Str)} (z : Z) : g_Table_questions [.ins "Table" (tabF ns rows)] z = .ok (encS ns) z :=
  f_ret (s0 := [.sh (.ins "Table" (tabF ns rows))]) rfl (s_ret (e_call1 (e_fld rfl (by decide +kernel) tab_names) rfl))
theorem rows_ok {ns : List Str} {rows : List (List Str)} (z : Z) (h : rows.length ≤ lim) : g_Table_rows [.ins "Table" (tabF ns rows)] z = .ok (.lst (rows.map (rowD ns))) z :=
  f_ret (s0 := [.sh (.ins "Table" (tabF ns rows)), .none]) rfl (s_ret (lc_yes (e := rowD ns) (items_lst (e_fld rfl (by decide +kernel) tab_rows) (by rw [List.length_map]; exact h)) fun l hl => ⟨_, rfl, e_call1 rfl rfl⟩))
def bodyWT : SM := (mSeq (mApp 2 (mOp dAdd (mDisp .lst (mCons (mC (.str "row")) mNil)) (mLc [4] (mItems (mVar 1)) (tgN 4) mYes (mCall dStr (mCons (mOp dIx (mVar 3) (mVar 4)) mNil)))))
  mSkip)
theorem loopWT {S : Slot} {ns : List Str} (z : Z) (hd : ns.Nodup) (hl : ns.length + 1 ≤ lim) : ∀ (rows acc : List (List Str)) (v : Slot), (∀ l ∈ rows, rowB ns.length l = true) → acc.length + rows.length < lim →
    ∃ v', mForG (tgN 3) bodyWT (rows.map (rowD ns)) [S, .sh (encS ns), .own (.lst (acc.map encS)), v, .none] z = .nx [S, .sh (encS ns), .own (.lst ((acc ++ rows).map encS)), v', .none] z
  | [], acc, v, _, _ => ⟨v, by simp [mForG]⟩
  | l :: r, acc, v, h, hn => by
    rw [List.length_cons] at hn
    obtain ⟨vs, rfl, k1, k2⟩ := row_bits (h l (List.mem_cons_self ..))
    obtain ⟨v', e⟩ := loopWT (S := S) (ns := ns) z hd hl r (acc ++ [("row" : Str) :: vs]) (.sh (rowD ns (("row" : Str) :: vs))) (fun q hq => h q (List.mem_cons_of_mem _ hq)) (by rw [List.length_append, List.length_singleton]; omega)
    refine ⟨v', ?_⟩
    have hc : mLc [4] (mItems (mVar 1)) (tgN 4) mYes (mCall dStr (mCons (mOp dIx (mVar 3) (mVar 4)) mNil)) ([S, .sh (encS ns), .own (.lst (acc.map encS)), .sh (rowD ns (("row" : Str) :: vs)), .none] : Sl) z = .ok (encS vs) z := by
      refine (lc_yes (l := ns.zip vs) (e := fun p => D.str p.1) (f := fun p => D.str p.2) ((items_lst (l := ns.map D.str) rfl (by rw [List.length_map]; omega)).trans (by rw [zip_items k1])) fun p hp => ⟨_, rfl, e_call1 (e_op rfl rfl (dIx_row hd k1 hp)) (numB_int (k2 p.2 ?_)).2⟩).trans ?_
      · have := List.mem_map_of_mem (f := fun p : Str × Str => p.2) hp
        rw [zip_snd k1] at this
        exact this
      · have : (ns.zip vs).map (fun p => D.str p.2) = vs.map D.str := by
          conv => rhs; rw [← zip_snd k1]
          rw [List.map_map]
          rfl
        rw [this]
    have hb : bodyWT [S, .sh (encS ns), .own (.lst (acc.map encS)), .sh (rowD ns (("row" : Str) :: vs)), .none] z = .nx [S, .sh (encS ns), .own (.lst ((acc ++ [("row" : Str) :: vs]).map encS)), .sh (rowD ns (("row" : Str) :: vs)), .none] z := by
      unfold bodyWT
      refine (s_app (d := encS (("row" : Str) :: vs)) rfl (e_op (e_disp (e_cons rfl e_nil) (by show 1 ≤ lim; decide)) hc ?_) (by rw [List.length_map]; omega)).trans ?_
      · show (if 1 + (vs.map D.str).length ≤ lim then some (D.lst ([D.str "row"] ++ vs.map D.str)) else none) = _
        rw [List.length_map, if_pos (by omega)]
        rfl
      · rw [List.map_append]
        rfl
    rw [List.map_cons, g_nx rfl hb, e, List.append_assoc]
    rfl
theorem write_table_ok {x a : Str} {ns : List Str} {rows : List (List Str)} (z : Z) (hx : x.length ≤ tlim) (h1 : okB x = true) (e : wdsOf x = (a :: ns) :: rows) (h2 : tabB (wdsOf x) = true) : g_write_table [.ins "Table" (tabF ns rows)] z = .ok (.str x) z := by
  have W := words_sh hx
  have hn := wds_n hx
  have e1 : lim = 1000000 := rfl
  have e2 : tlim = 3900 := rfl
  have he : endB x = true := by unfold okB at h1; rw [Bool.and_eq_true] at h1; exact h1.1
  have hj := joined_ev zDum hx he
  rw [e] at W hn h2 hj
  obtain ⟨b1, b2, b3, b4, b5, b6⟩ := tab_bits h2
  subst b1
  have hS := (W.sh _ (List.mem_cons_self ..)).tail
  have hS1 := hS.n
  have hrn : rows.length + 1 ≤ tlim := by rw [List.length_cons] at hn; exact hn
  refine f_retE (s0 := [.sh (.ins "Table" (tabF ns rows)), .none, .none, .none, .none]) rfl ?_
  unfold m_write_table
  refine ex_eq (s_asg (e_meth rfl tab_q (questions_ok _))) ?_
  refine ex_eq (s_own (z1 := z) (ds := [("asks" : Str) :: ns].map encS) ?_) ?_
  · refine e_disp (mk := .lst) (e_cons (x := encS (("asks" : Str) :: ns)) (e_op (e_disp (e_cons rfl e_nil) (by show 1 ≤ lim; decide)) rfl ?_) e_nil) (by show 1 ≤ lim; decide)
    show (if 1 + (ns.map D.str).length ≤ lim then some (D.lst ([D.str "asks"] ++ ns.map D.str)) else none) = _
    rw [List.length_map, if_pos (by omega)]
    rfl
  obtain ⟨v', eL⟩ := loopWT (S := .sh (.ins "Table" (tabF ns rows))) z b4 (by omega) rows [("asks" : Str) :: ns] .none (List.all_eq_true.mp b6) (by simp; omega)
  refine ex_eq (s_seq ((s_for (items_lst (e_meth rfl tab_r (rows_ok _ (by omega))) (by rw [List.length_map]; omega))).trans eL)) ?_
  have hm : mCallF 1 g_joined (mCons (mVar 2) mNil) ([.sh (.ins "Table" (tabF ns rows)), .sh (encS ns), .sh (encW ((("asks" : Str) :: ns) :: rows)), v', .none] : Sl) z = .ok (.str x) z := e_callF1 rfl hj
  refine ⟨[.sh (.ins "Table" (tabF ns rows)), .sh (encS ns), .sh (encW ((("asks" : Str) :: ns) :: rows)), v', .none], ?_⟩
  unfold mSeq mFz
  show (match mRet (mCallF 1 g_joined (mCons (mVar 2) mNil)) ([.sh (.ins "Table" (tabF ns rows)), .sh (encS ns), .sh (encW ((("asks" : Str) :: ns) :: rows)), v', .none] : Sl) z with
    | .nx s z => mSkip s z
    | r => r) = _
  unfold mRet
  rw [hm]
  rfl
end K88

set_option Elab.async false
set_option linter.all false
set_option maxRecDepth 100000
set_option maxHeartbeats 4000000
namespace K88
open PySem PySem.Spec PyProof.Rows L2 DL TL NumText
/-! ### a text of a kind: the law's word for it, and what the program makes of it -/
def kindB (k : Nat) (ls : List (List Str)) : Bool := match k with
  | 0 => tabB ls
  | 1 => handsB ls
  | _ => linksB ls
def isT (k : Nat) (x : Str) : Bool := okB x && kindB k (wdsOf x)
def resT (k : Nat) (x : Str) : D := if isT k x = true then .tup [.str "read", .str x] else .tup [.str "bad", .str x]
theorem law_is_text {k : Nat} {x : Str} (z : Z) (hk : k < 3) (hx : x.length ≤ tlim) : g__law_is_text [.int k, .str x] z = .ok (.bl (isT k x)) z := by
  refine f_retE (s0 := [.sh (.int k), .sh (.str x), .none, .none, .none, .none]) rfl ?_
  unfold m__law_is_text
  refine ex_eq (s_guard (k := !(endB x)) (end_ev hx rfl) fun _ => rfl) ?_
  refine ite_rt (fun h => rt_of ?_) fun h => ?_
  · unfold isT okB
    rw [Bool.not_eq_true'] at h
    rw [h]
    rfl
  simp only [Bool.not_eq_true', Bool.not_eq_false] at h
  refine ex_eq (s_asg (words_ev hx rfl (by simp))) ?_
  refine ex_eq (s_guard (k := !(fullB (wdsOf x))) (t_not (t_B (full_ev (words_sh hx) rfl (by simp) (by simp) (by decide) (by decide)))) fun _ => rfl) ?_
  refine ite_rt (fun h2 => rt_of ?_) fun h2 => ?_
  · unfold isT okB
    rw [Bool.not_eq_true'] at h2
    rw [h, h2]
    rfl
  simp only [Bool.not_eq_true', Bool.not_eq_false] at h2
  have e : isT k x = kindB k (wdsOf x) := by
    unfold isT okB
    rw [h, h2]
    rfl
  rw [e]
  have key : ∀ (f : Str) (g : Fm) (s : Sl) (m : M D) (z' : Z) (b : Bool), m s z = .ok (.fn f) z → List.lookup f ([("_law_is_table", g__law_is_table), ("_law_are_hands", g__law_are_hands), ("_law_are_links", g__law_are_links)] : List (Str × Fm)) = some g → s[2]? = some (.sh (encW (wdsOf x))) → g [encW (wdsOf x)] zDum = .ok (.bl b) z' → mCallV 1 [("_law_is_table", g__law_is_table), ("_law_are_hands", g__law_are_hands), ("_law_are_links", g__law_are_links)] m (mCons (mVar 2) mNil) s z = .ok (.bl b) z := fun f g s m z' b h1 h3 h4 h5 => by
    unfold mCallV
    rw [h1]
    simp only [ER.bind, h3, e_cons (v_at h4) e_nil, List.length_cons, List.length_nil, Nat.zero_add, if_true, runF, Bool.false_eq_true, if_false, h5, reZ]
  match k, hk with
  | 0, _ => exact rt_ret (key "_law_is_table" g__law_is_table _ _ zDum _ rfl (by rfl) rfl (law_table _ hx))
  | 1, _ => exact rt_ret (key "_law_are_hands" g__law_are_hands _ _ zDum _ rfl (by rfl) rfl (law_hands _ hx))
  | 2, _ => exact rt_ret (key "_law_are_links" g__law_are_links _ _ zDum _ rfl (by rfl) rfl (law_links _ hx))
def tryB : SM := (mSeq (mIfS (mB (mOp dEq (mVar 0) (mC (.int 0)))) (mSeq (mAsg (tgN 3) (mDisp .tup (mCons (mC (.str "read")) (mCons (mCallF 1 g_write_table (mCons (mCallF 1 g_read_table (mCons (mVar 1) mNil)) mNil)) mNil))))
  mSkip) (mSeq (mAsg (tgN 3) (mDisp .tup (mCons (mC (.str "read")) (mCons (mIf (mB (mOp dEq (mVar 0) (mC (.int 1)))) (mCallF 1 g_write_hands (mCons (mCallF 1 g_read_hands (mCons (mVar 1) mNil)) mNil)) (mCallF 1 g_write_links (mCons (mCallF 1 g_read_links (mCons (mVar 1) mNil)) mNil))) mNil))))
  mSkip))
  mSkip)
theorem int_eq (k : Nat) (j : Nat) : dEq (.int (k : Int)) (.int (j : Int)) = some (.bl (decide (k = j))) := by
  rw [dEq_int]
  congr 2
  exact decide_eq_decide.mpr (by omega)
def sT (k : Nat) (x : Str) : Sl := [.sh (.int k), .sh (.str x), .none, .none]
theorem pair_ev {m : M D} {s : Sl} {z : Z} {x : Str} (h : m s z = .ok (.str x) z) : mDisp .tup (mCons (mC (.str "read")) (mCons m mNil)) s z = .ok (.tup [.str "read", .str x]) z := e_disp (e_cons rfl (e_cons h e_nil)) (by show 2 ≤ lim; decide)
theorem x_cons1 {a : M D} {l : M (List D)} {s : Sl} {z z1 : Z} {cn : Str} {fs : List (Str × D)} (h : a s z = .exc cn fs z1) : mCons a l s z = .exc cn fs z1 := by
  unfold mCons
  rw [h]
  rfl
theorem x_cons2 {a : M D} {l : M (List D)} {s : Sl} {z z1 z2 : Z} {x : D} {cn : Str} {fs : List (Str × D)} (h1 : a s z = .ok x z1) (h : l s z1 = .exc cn fs z2) : mCons a l s z = .exc cn fs z2 := by
  unfold mCons
  rw [h1]
  simp only [ER.bind, h]
theorem x_callF {q : Nat} {f : Fm} {l : M (List D)} {s : Sl} {z z1 : Z} {cn : Str} {fs : List (Str × D)} (h : l s z = .exc cn fs z1) : mCallF q f l s z = .exc cn fs z1 := by
  unfold mCallF
  rw [h]
  rfl
theorem x_disp {mk : List D → D} {l : M (List D)} {s : Sl} {z z1 : Z} {cn : Str} {fs : List (Str × D)} (h : l s z = .exc cn fs z1) : mDisp mk l s z = .exc cn fs z1 := by
  unfold mDisp
  rw [h]
  rfl
theorem pair_exc {m : M D} {s : Sl} {z : Z} {cn : Str} {fs : List (Str × D)} (h : m s z = .exc cn fs z) : mDisp .tup (mCons (mC (.str "read")) (mCons m mNil)) s z = .exc cn fs z := x_disp (x_cons2 rfl (x_cons1 h))
theorem nest_exc {f g : Fm} {m : M D} {s : Sl} {z z' : Z} {x : D} {cn : Str} {fs : List (Str × D)} (h1 : m s z = .ok x z) (h2 : f [x] zDum = .exc cn fs z') : mCallF 1 g (mCons (mCallF 1 f (mCons m mNil)) mNil) s z = .exc cn fs z := x_callF (x_cons1 (e_callFx (e_cons h1 e_nil) rfl h2))
theorem asg_exc {i : Nat} {m : M D} {r : SM} {s : Sl} {z : Z} {cn : Str} {fs : List (Str × D)} (h : m s z = .exc cn fs z) : mSeq (mAsg (tgN i) m) r s z = .exc cn fs s z := by
  unfold mSeq mAsg
  rw [h]
  rfl
theorem try_body {k : Nat} {x : Str} (z : Z) (hk : k < 3) (hx : x.length ≤ tlim) : tryB (sT k x) z = if isT k x = true then .nx [.sh (.int k), .sh (.str x), .none, .sh (.tup [.str "read", .str x])] z else .exc "BadText" (badT x) (sT k x) z := by
  have W := words_sh hx
  have ifs : ∀ {n : M Bool} {a b : SM} {s : Sl} {t : Bool} {r : SM}, n s z = .ok t z → mSeq (mIfS n a b) r s z = mSeq (if t = true then a else b) r s z := fun {n a b s t r} h => by
    unfold mSeq mIfS
    rw [h]
    cases t <;> rfl
  unfold tryB
  match k, hk with
  | 0, _ =>
    refine (ifs (t := true) rfl).trans ?_
    rw [if_pos rfl]
    by_cases h : isT 0 x = true
    · rw [if_pos h]
      unfold isT at h
      rw [Bool.and_eq_true] at h
      have h2 : tabB (wdsOf x) = true := h.2
      obtain ⟨a, ns, rows, e⟩ : ∃ a ns rows, wdsOf x = (a :: ns) :: rows := by
        match hq : wdsOf x, h2 with
        | (a :: ns) :: rows, _ => exact ⟨a, ns, rows, rfl⟩
      exact s_seq ((s_asg (pair_ev (e_callF1 (e_callF1 rfl (read_table_ok _ hx h.1 e h2)) (write_table_ok _ hx h.1 e h2)))).trans rfl)
    · rw [if_neg h]
      exact s_exc (asg_exc (pair_exc (nest_exc rfl (read_table_bad _ hx (by simpa [isT, kindB] using h)))))
  | 1, _ =>
    refine (ifs (t := false) rfl).trans ?_
    rw [if_neg (by decide)]
    by_cases h : isT 1 x = true
    · rw [if_pos h]
      unfold isT at h
      rw [Bool.and_eq_true] at h
      exact s_seq ((s_asg (pair_ev (e_ifT rfl (e_callF1 (e_callF1 rfl (read_hands_ok _ hx h.1 h.2)) (write_hands_ok _ hx h.1 h.2))))).trans rfl)
    · rw [if_neg h]
      refine s_exc (asg_exc (pair_exc ?_))
      show mCallF 1 g_write_hands (mCons (mCallF 1 g_read_hands (mCons (mVar 1) mNil)) mNil) (sT 1 x) z = _
      exact nest_exc rfl (read_hands_bad _ hx (by simpa [isT, kindB] using h))
  | 2, _ =>
    refine (ifs (t := false) rfl).trans ?_
    rw [if_neg (by decide)]
    by_cases h : isT 2 x = true
    · rw [if_pos h]
      unfold isT at h
      rw [Bool.and_eq_true] at h
      exact s_seq ((s_asg (pair_ev (e_ifF rfl (e_callF1 (e_callF1 rfl (read_links_ok _ hx h.1 h.2)) (write_links_ok _ hx h.1 h.2))))).trans rfl)
    · rw [if_neg h]
      refine s_exc (asg_exc (pair_exc ?_))
      show mCallF 1 g_write_links (mCons (mCallF 1 g_read_links (mCons (mVar 1) mNil)) mNil) (sT 2 x) z = _
      exact nest_exc rfl (read_links_bad _ hx (by simpa [isT, kindB] using h))
theorem law_tried {k : Nat} {x : Str} (z : Z) (hk : k < 3) (hx : x.length ≤ tlim) : g__law_tried [.int k, .str x] z = .ok (resT k x) z := by
  refine f_retE (s0 := sT k x) rfl ?_
  unfold m__law_tried
  have hb := try_body (k := k) (x := x) z hk hx
  have e : mTry 2 (catch_ "BadText") tryB (mSeq (mAsg (tgN 3) (mDisp .tup (mCons (mC (.str "bad")) (mCons (mXf 2 "BadText" "thing") mNil)))) mSkip) (sT k x) z = .nx [.sh (.int k), .sh (.str x), .none, .sh (resT k x)] z := by
    unfold mTry resT
    rw [hb]
    by_cases h : isT k x = true
    · simp only [if_pos h]
    · simp only [if_neg h]
      kernel_rfl
  exact ex_eq (s_seq e) (rt_ret rfl)
end K88

set_option Elab.async false
set_option linter.all false
set_option maxRecDepth 100000
set_option maxHeartbeats 4000000
namespace K88
open PySem PySem.Spec PyProof.Rows L2 DL TL NumText
/-! ### what is drawn -/
theorem _root_.DL.Zok.mono {z : Z} {B B' : Int} (h : Zok z B) (hb : B ≤ B') : Zok z B' := ⟨h.m0, h.m1, h.c0, Int.le_trans h.c1 hb, h.r0⟩
theorem draw_k {z : Z} {B : Int} (n : Nat) (hz : Zok z B) (hB : B < 2 ^ 40) (h0 : 0 < n) (h1 : n < 1000) : ∃ k z', g__law_draw [.int (n : Int)] z = .ok (.int ((k : Nat) : Int)) z' ∧ k < n ∧ Zok z' (B + 1) := by
  obtain ⟨k, z', e, k0, k1, hz'⟩ := draw_ok z (n : Int) B hz hB (by omega) (by omega)
  refine ⟨k.toNat, z', ?_, by omega, hz'⟩
  rw [Int.toNat_of_nonneg k0]
  exact e
theorem ix_k {ds : List D} {k : Nat} (h : k < ds.length) : dIx (.lst ds) (.int (k : Int)) = some ds[k] := by
  have hi : ixN ds.length (k : Int) = some k := by
    unfold ixN
    rw [if_pos (by omega), if_pos (by omega), Int.toNat_natCast]
  show atI ds (k : Int) = _
  unfold atI
  rw [hi]
  exact List.getElem?_eq_getElem h
theorem pick_k {z : Z} {B : Int} {ds : List D} (hz : Zok z B) (hB : B < 2 ^ 40) (h0 : 0 < ds.length) (h1 : ds.length < 1000) : ∃ d z', g__law_pick [.lst ds] z = .ok d z' ∧ d ∈ ds ∧ Zok z' (B + 1) := by
  obtain ⟨k, d, z', hk, e1, e2, hz'⟩ := pick_ok z ds B hz hB h0 h1
  exact ⟨d, z', e2, List.mem_of_getElem? e1, hz'⟩
theorem pick_str {z : Z} {B : Int} {w : Str} (hz : Zok z B) (hB : B < 2 ^ 40) (h0 : 0 < (tl w).length) (h1 : (tl w).length < 1000) : ∃ c z', g__law_pick [.str w] z = .ok (.str ⟨#[c]⟩) z' ∧ Zok z' (B + 1) := by
  obtain ⟨k, z', e, hk, hz'⟩ := draw_k (tl w).length hz hB h0 h1
  have hw : w.length ≤ lim := by rw [len_tl]; unfold lim; omega
  refine ⟨(tl w)[k], z', ?_, hz'⟩
  refine f_ret (s0 := [.strm, .sh (.str w)]) rfl (s_ret (e_op rfl (e_callS1 rfl (e_call1 rfl (dLen_str hw)) e) ?_))
  have hi : ixN (tl w).length (k : Int) = some k := by
    unfold ixN
    rw [if_pos (by omega), if_pos (by omega), Int.toNat_natCast]
  show (if w.length ≤ lim then (atI (tl w) (k : Int)).map _ else none) = _
  rw [if_pos hw]
  unfold atI
  rw [hi, Option.bind_some, List.getElem?_eq_getElem hk]
  rfl
/-- a comprehension that draws -/
theorem lcGo_draw2 {α β : Type} {e : α → D} {g : α → β → D} {P : β → Prop} {c : Nat} {t : Tg} {te : M D} {s0 : Sl} : ∀ (l : List α) (z : Z) (B : Int), Zok z B → B + l.length * c < 2 ^ 40 → (∀ x ∈ l, ∀ z B, Zok z B → B + c < 2 ^ 40 → ∃ s', t (e x) s0 = some s' ∧ ∃ b z', te s' z = .ok (g x b) z' ∧ P b ∧ Zok z' (B + c)) → ∃ bs z', lcGo t mYes te s0 (l.map e) z = .ok ((l.zip bs).map fun p => g p.1 p.2) z' ∧ bs.length = l.length ∧ (∀ y ∈ bs, P y) ∧ Zok z' (B + l.length * c)
  | [], z, B, hz, _, _ => ⟨[], z, rfl, rfl, (fun y h => by cases h), by simpa using hz⟩
  | x :: l, z, B, hz, hB, h => by
    have e9 : (((x :: l).length : Int) * c) = (l.length : Int) * c + c := by rw [List.length_cons, Int.natCast_add, Int.add_mul]; simp
    have e8 : 0 ≤ (l.length : Int) * c := Int.mul_nonneg (by omega) (by omega)
    rw [e9] at hB
    obtain ⟨s', h1, b, z1, h2, h3, h4⟩ := h x (List.mem_cons_self ..) z B hz (by omega)
    obtain ⟨bs, z2, k1, k2, k3, k4⟩ := lcGo_draw2 (g := g) (P := P) l z1 (B + c) h4 (by omega) fun y hy => h y (List.mem_cons_of_mem _ hy)
    refine ⟨b :: bs, z2, ?_, by rw [List.length_cons, List.length_cons, k2], fun y hy => ?_, k4.mono (by rw [e9]; omega)⟩
    · simp only [List.map_cons, lcGo, h1, mYes, ER.bind, if_true, h2, k1, List.zip_cons_cons]
    · rcases List.mem_cons.mp hy with q | q
      · rw [q]; exact h3
      · exact k3 y q
theorem lc_draw2 {α β : Type} {l : List α} {e : α → D} {g : α → β → D} {P : β → Prop} {c : Nat} {t : Tg} {te : M D} {vs : List Nat} {mi : M (List D)} {s : Sl} {z z1 : Z} {B : Int} (hi : mi s z = .ok (l.map e) z1) (hz : Zok z1 B) (hB : B + l.length * c < 2 ^ 40) (h : ∀ x ∈ l, ∀ z B, Zok z B → B + c < 2 ^ 40 → ∃ s', t (e x) (wipeS s vs) = some s' ∧ ∃ b z', te s' z = .ok (g x b) z' ∧ P b ∧ Zok z' (B + c)) : ∃ bs z', mLc vs mi t mYes te s z = .ok (.lst ((l.zip bs).map fun p => g p.1 p.2)) z' ∧ bs.length = l.length ∧ (∀ y ∈ bs, P y) ∧ Zok z' (B + l.length * c) := by
  obtain ⟨bs, z', k1, k2⟩ := lcGo_draw2 (g := g) (P := P) l z1 B hz hB h
  refine ⟨bs, z', ?_, k2⟩
  unfold mLc
  rw [hi]
  simp only [ER.bind, k1, noX]
theorem lc_draw {α : Type} {l : List α} {e : α → D} {P : D → Prop} {t : Tg} {te : M D} {vs : List Nat} {mi : M (List D)} {s : Sl} {z z1 : Z} {B : Int} (hi : mi s z = .ok (l.map e) z1) (hz : Zok z1 B) (hB : B + l.length < 2 ^ 40) (h : ∀ x ∈ l, ∀ z B, Zok z B → B < 2 ^ 40 → ∃ s', t (e x) (wipeS s vs) = some s' ∧ ∃ d z', te s' z = .ok d z' ∧ P d ∧ Zok z' (B + 1)) : ∃ ys z', mLc vs mi t mYes te s z = .ok (.lst ys) z' ∧ ys.length = l.length ∧ (∀ y ∈ ys, P y) ∧ Zok z' (B + l.length) := by
  obtain ⟨bs, z', k1, k2, k3, k4⟩ := lc_draw2 (g := fun _ d => d) (P := P) (c := 1) hi hz (by rw [Int.natCast_one, Int.mul_one]; exact hB) fun x hx z B a b => h x hx z B a (by omega)
  refine ⟨bs, z', ?_, k2, k3, k4.mono (by rw [Int.natCast_one, Int.mul_one]; omega)⟩
  rw [k1]
  congr 2
  exact List.map_snd_zip (by omega)
theorem range_if {m : M D} {s : Sl} {z z1 : Z} {j : Int} (h : m s z = .ok (.int j) z1) (h1 : -(2 ^ 62) ≤ j ∧ j < 2 ^ 62) : mRange1 m s z = chkL (upto 0 j.toNat) z1 := by
  unfold mRange1
  rw [h]
  exact if_pos h1
theorem small_r {n : Nat} (hn : n < 1000) : -(2 ^ 62) ≤ (n : Int) ∧ (n : Int) < 2 ^ 62 := by
  have e63 : (2 : Int) ^ 62 = 4611686018427387904 := by decide +kernel
  generalize (2 : Int) ^ 62 = q at e63
  omega
theorem upto_eq (n : Nat) : upto 0 n = (List.range n).map fun (i : Nat) => D.int (i : Int) := by
  unfold upto
  refine List.map_congr_left fun i _ => ?_
  rw [Int.zero_add]
theorem range_ev {m : M D} {s : Sl} {z z1 : Z} {n : Nat} (h : m s z = .ok (.int (n : Int)) z1) (hn : n < 1000) : mRange1 m s z = .ok ((List.range n).map fun (i : Nat) => D.int (i : Int)) z1 := by
  rw [range_if h (small_r hn), Int.toNat_natCast, upto_eq]
  exact chk_ok (by rw [List.length_map, List.length_range]; have e : lim = 1000000 := rfl; omega)
/-- lists of short texts -/
def SL (n L : Nat) (ds : List D) : Prop := ∃ l : List Str, ds = l.map D.str ∧ l.length ≤ n ∧ ∀ w ∈ l, w.length ≤ L
theorem strs_of {ds : List D} {L : Nat} : (∀ d ∈ ds, ∃ w : Str, d = .str w ∧ w.length ≤ L) → ∃ l : List Str, ds = l.map D.str ∧ l.length = ds.length ∧ ∀ w ∈ l, w.length ≤ L := by
  induction ds with
  | nil => exact fun _ => ⟨[], rfl, rfl, fun w h => by cases h⟩
  | cons d ds ih =>
    intro h
    obtain ⟨w, rfl, hw⟩ := h d (List.mem_cons_self ..)
    obtain ⟨l, rfl, h2, h3⟩ := ih fun d hd => h d (List.mem_cons_of_mem _ hd)
    refine ⟨w :: l, rfl, by simp, fun v hv => ?_⟩
    rcases List.mem_cons.mp hv with q | q
    · rw [q]; exact hw
    · exact h3 v q
theorem sum_le {l : List Str} {L : Nat} (h : ∀ w ∈ l, w.length ≤ L) : (l.map (·.length)).sum ≤ l.length * L := by
  induction l with
  | nil => simp
  | cons a l ih =>
    have h1 := ih fun w hw => h w (List.mem_cons_of_mem _ hw)
    have h2 := h a (List.mem_cons_self ..)
    rw [List.map_cons, List.sum_cons, List.length_cons, Nat.add_mul]
    omega
theorem joinE_len (l : List Str) : (Txt.join em l).length = (l.map (·.length)).sum := by
  have e0 : tl em = [] := rfl
  rw [len_tl, join_eq, tl_join, e0, joinL_nil, List.length_flatten, sum_tl]
theorem law_name {z : Z} {B : Int} (hz : Zok z B) (hB : B + 9 < 2 ^ 40) : ∃ w z', g__law_name [] z = .ok (.str w) z' ∧ w.length ≤ 8 ∧ Zok z' (B + 9) := by
  obtain ⟨k, z1, e1, hk, hz1⟩ := draw_k 6 hz (by omega) (by decide) (by decide)
  obtain ⟨n, en, hn⟩ : ∃ n : Nat, dIx (.lst [.int 1, .int 1, .int 2, .int 3, .int 5, .int 8]) (.int (k : Int)) = some (.int (n : Int)) ∧ n ≤ 8 := by
    match k, hk with
    | 0, _ => exact ⟨1, rfl, by decide⟩
    | 1, _ => exact ⟨1, rfl, by decide⟩
    | 2, _ => exact ⟨2, rfl, by decide⟩
    | 3, _ => exact ⟨3, rfl, by decide⟩
    | 4, _ => exact ⟨5, rfl, by decide⟩
    | 5, _ => exact ⟨8, rfl, by decide⟩
  have e0 : startSl 3 true [] = [.strm, .none, .none] := rfl
  have ha : mOp dIx (mDisp .lst (mCons (mC (.int 1)) (mCons (mC (.int 1)) (mCons (mC (.int 2)) (mCons (mC (.int 3)) (mCons (mC (.int 5)) (mCons (mC (.int 8)) mNil))))))) (mCallS 0 1 g__law_draw (mCons (mC (.int 6)) mNil)) ([.strm, .none, .none] : Sl) z = .ok (.int (n : Int)) z1 := e_op (e_disp (e_cons rfl (e_cons rfl (e_cons rfl (e_cons rfl (e_cons rfl (e_cons rfl e_nil)))))) (by show 6 ≤ lim; decide)) (e_callS1 rfl rfl e1) en
  obtain ⟨ys, z2, k1, k2, k3, k4⟩ := lc_draw (P := fun d => ∃ w : Str, d = .str w ∧ w.length ≤ 1) (vs := [2]) (t := tgN 2) (te := mCallS 0 1 g__law_pick (mCons (mC (.str "abcdefghijklmnopqrstuvwxyz")) mNil)) (range_ev (m := mVar 1) (s := ([.strm, .sh (.int (n : Int)), .none] : Sl)) (z := z1) rfl (by omega)) hz1 (by rw [List.length_range]; omega) fun x _ z B hz hB => by
    obtain ⟨c, z', e, hz'⟩ := pick_str (w := "abcdefghijklmnopqrstuvwxyz") hz hB (by decide +kernel) (by decide +kernel)
    exact ⟨_, rfl, _, z', e_callS1 rfl rfl e, ⟨_, rfl, Nat.le_refl _⟩, hz'⟩
  obtain ⟨l, rfl, h2, h3⟩ := strs_of k3
  rw [List.length_range] at k2 k4
  rw [k2] at h2
  have hs := sum_le h3
  refine ⟨Txt.join em l, z2, ?_, by rw [joinE_len]; omega, k4.mono (by omega)⟩
  refine f_retE e0 (ex_eq (s_asg ha) (rt_ret (e_m1 (w := em) rfl k1 (dJoin_map ?_))))
  have e : em.length = 0 := rfl
  have e1 : lim = 1000000 := rfl
  rw [e]
  omega
end K88

set_option Elab.async false
set_option linter.all false
set_option maxRecDepth 100000
set_option maxHeartbeats 4000000
namespace K88
open PySem PySem.Spec PyProof.Rows L2 DL TL NumText
theorem inZ_str (a : Str) : ∀ l : List Str, inZ (.str a) (l.map D.str) = some (decide (a ∈ l))
  | [] => by simp [inZ]
  | b :: l => by
    simp only [List.map_cons, inZ, eqN_str 58, Option.bind_some, inZ_str a l, Option.map_some, Option.some.injEq]
    rw [← Bool.decide_or]
    refine decide_eq_decide.mpr ?_
    rw [List.mem_cons]
    exact or_congr ⟨fun h => h.symm, fun h => h.symm⟩ Iff.rfl
theorem dNotIn_str (a : Str) (l : List Str) : dNotIn (.str a) (encS l) = some (.bl (!decide (a ∈ l))) := by
  show (inZ (.str a) (l.map D.str)).map (fun b => D.bl (!b)) = _
  rw [inZ_str]
  rfl
def baseN : List Str := (tl ("abcdefghijklmnop" : Str)).map fun c => (⟨#[c]⟩ : Str) ++ "jq"
theorem baseN_len : ∀ w ∈ baseN, w.length ≤ 8 := by decide +kernel
theorem spare (w : Str) (acc : List Str) (h : acc.length ≤ 2) : ∃ x r, ((w :: baseN).filter fun x => !decide (x ∈ acc)) = x :: r := by
  cases hf : (w :: baseN).filter fun x => !decide (x ∈ acc) with
  | cons x r => exact ⟨x, r, rfl⟩
  | nil =>
    have hall : ∀ x ∈ baseN, x ∈ acc := fun x hx => by
      refine Classical.byContradiction fun q => ?_
      have : x ∈ ((w :: baseN).filter fun x => !decide (x ∈ acc)) := List.mem_filter.mpr ⟨List.mem_cons_of_mem _ hx, by simpa using q⟩
      rw [hf] at this
      cases this
    have a1 := hall "ajq" (by decide +kernel)
    have a2 := hall "bjq" (by decide +kernel)
    have a3 := hall "cjq" (by decide +kernel)
    have n12 : ("ajq" : Str) ≠ "bjq" := by decide +kernel
    have n13 : ("ajq" : Str) ≠ "cjq" := by decide +kernel
    have n23 : ("bjq" : Str) ≠ "cjq" := by decide +kernel
    match acc, h with
    | [], _ => cases a1
    | [a], _ =>
      simp only [List.mem_singleton] at a1 a2
      exact absurd (a1.trans a2.symm) n12
    | [a, b], _ =>
      simp only [List.mem_cons, List.not_mem_nil, or_false] at a1 a2 a3
      rcases a1 with q1 | q1 <;> rcases a2 with q2 | q2 <;> rcases a3 with q3 | q3 <;> first
        | exact absurd (q1.trans q2.symm) n12
        | exact absurd (q1.trans q3.symm) n13
        | exact absurd (q2.trans q3.symm) n23
def bodyN : SM := (mSeq (mAsg (tgN 4) (mOp dAdd (mDisp .lst (mCons (mCallS 0 0 g__law_name mNil) mNil)) (mLc [5] (mItems (mC (.str "abcdefghijklmnop"))) (tgN 5) mYes (mOp dAdd (mVar 5) (mC (.str "jq"))))))
  (mSeq (mApp 2 (mOp dIx (mLc [6] (mItems (mVar 4)) (tgN 6) (mB (mOp dNotIn (mVar 6) (mView 2))) (mVar 6)) (mC (.int 0))))
  mSkip))
theorem loopN {α : Type} {e : α → D} {y : D} : ∀ (l : List α) (acc : List Str) (v u : Slot) (z : Z) (B : Int), acc.length + l.length ≤ 3 → acc.Nodup → (∀ w ∈ acc, w.length ≤ 8) → Zok z B → B + l.length * 9 + 30 < 2 ^ 40 →
    ∃ acc' v' u' z', mForG (tgN 3) bodyN (l.map e) [.strm, .sh y, .own (encS acc), v, u, .none, .none] z = .nx [.strm, .sh y, .own (encS acc'), v', u', .none, .none] z' ∧ acc'.length = acc.length + l.length ∧ acc'.Nodup ∧ (∀ w ∈ acc', w.length ≤ 8) ∧ Zok z' (B + l.length * 9)
  | [], acc, v, u, z, B, _, hd, hw, hz, _ => ⟨acc, v, u, z, rfl, rfl, hd, hw, by simpa using hz⟩
  | x :: l, acc, v, u, z, B, hn, hd, hw, hz, hB => by
    rw [List.length_cons] at hn
    obtain ⟨w, z1, e1, hw1, hz1⟩ := law_name hz (by rw [List.length_cons] at hB; omega)
    obtain ⟨h, r, ef⟩ := spare w acc (by omega)
    have hm : h ∈ ((w :: baseN).filter fun x => !decide (x ∈ acc)) := by rw [ef]; exact List.mem_cons_self ..
    rw [List.mem_filter] at hm
    have hh : h ∉ acc := by simpa using hm.2
    have hh8 : h.length ≤ 8 := by
      rcases List.mem_cons.mp hm.1 with q | q
      · rw [q]; exact hw1
      · exact baseN_len h q
    have hacc : ∀ w ∈ acc ++ [h], w.length ≤ 8 := fun w q => by
      rcases List.mem_append.mp q with q | q
      · exact hw w q
      · rw [List.mem_singleton.mp q]; exact hh8
    have hb : bodyN [.strm, .sh y, .own (encS acc), .sh (e x), u, .none, .none] z = .nx [.strm, .sh y, .own (encS (acc ++ [h])), .sh (e x), .sh (encS (w :: baseN)), .none, .none] z1 := by
      have hc : mLc [5] (mItems (mC (.str "abcdefghijklmnop"))) (tgN 5) mYes (mOp dAdd (mVar 5) (mC (.str "jq"))) ([.strm, .sh y, .own (encS acc), .sh (e x), u, .none, .none] : Sl) z1 = .ok (encS baseN) z1 := by
        refine (lc_yes (f := fun c => D.str ((⟨#[c]⟩ : Str) ++ "jq")) (items_str (x := "abcdefghijklmnop") rfl (by decide +kernel)) fun c _ => ⟨_, rfl, e_op rfl rfl ?_⟩).trans ?_
        · show (if (⟨#[c]⟩ : Str).length + ("jq" : Str).length ≤ lim then _ else none) = _
          rw [if_pos (by show 1 + 2 ≤ lim; decide)]
          rfl
        · unfold baseN encS
          rw [List.map_map]
          rfl
      have h4 : mOp dAdd (mDisp .lst (mCons (mCallS 0 0 g__law_name mNil) mNil)) (mLc [5] (mItems (mC (.str "abcdefghijklmnop"))) (tgN 5) mYes (mOp dAdd (mVar 5) (mC (.str "jq")))) ([.strm, .sh y, .own (encS acc), .sh (e x), u, .none, .none] : Sl) z = .ok (encS (w :: baseN)) z1 := e_op (e_disp (e_cons (e_callS rfl e_nil rfl e1) e_nil) (by show 1 ≤ lim; decide)) hc (by kernel_rfl)
      unfold bodyN
      rw [s_asg h4]
      have h6 : mLc [6] (mItems (mVar 4)) (tgN 6) (mB (mOp dNotIn (mVar 6) (mView 2))) (mVar 6) ([.strm, .sh y, .own (encS acc), .sh (e x), .sh (encS (w :: baseN)), .none, .none] : Sl) z1 = .ok (.lst (((w :: baseN).filter fun x => !decide (x ∈ acc)).map D.str)) z1 := lc_if (items_lst rfl (by rw [List.length_map]; show 17 ≤ lim; decide)) fun c _ => ⟨_, rfl, t_B (e_op rfl (v_view rfl) (dNotIn_str c acc)), fun _ => rfl⟩
      rw [ef] at h6
      refine (s_app (d := .str h) rfl (e_op h6 rfl (ix0 _ _)) (by rw [List.length_map]; have e : lim = 1000000 := rfl; omega)).trans ?_
      unfold encS
      rw [List.map_append]
      rfl
    obtain ⟨acc', v', u', z2, k1, k2, k3, k4, k5⟩ := loopN (e := e) (y := y) l (acc ++ [h]) (.sh (e x)) (.sh (encS (w :: baseN))) z1 (B + 9) (by rw [List.length_append, List.length_singleton]; omega) (List.nodup_append.mpr ⟨hd, by simp, fun a ha b hb => by rw [List.mem_singleton.mp hb]; exact fun q => hh (q ▸ ha)⟩) hacc hz1 (by rw [List.length_cons] at hB; omega)
    refine ⟨acc', v', u', z2, (g_nx rfl hb).trans k1, ?_, k3, k4, k5.mono ?_⟩
    · rw [k2, List.length_append, List.length_singleton, List.length_cons]
      omega
    · rw [List.length_cons]
      omega
theorem law_names {z : Z} {B : Int} {n : Nat} (hn : n ≤ 3) (hz : Zok z B) (hB : B + 60 < 2 ^ 40) : ∃ l z', g__law_names [.int (n : Int)] z = .ok (encS l) z' ∧ l.length = n ∧ l.Nodup ∧ (∀ w ∈ l, w.length ≤ 8) ∧ Zok z' (B + 27) := by
  obtain ⟨acc', v', u', z2, k1, k2, k3, k4, k5⟩ := loopN (e := fun i : Nat => D.int (i : Int)) (y := .int (n : Int)) (List.range n) [] .none .none z B (by rw [List.length_range]; simpa using hn) (by simp) (by simp) hz (by rw [List.length_range]; omega)
  rw [List.length_range] at k2 k5
  refine ⟨acc', z2, ?_, by simpa using k2, k3, k4, k5.mono (by omega)⟩
  refine f_retE (s0 := [.strm, .sh (.int (n : Int)), .none, .none, .none, .none, .none]) rfl ?_
  unfold m__law_names
  refine ex_eq (s_own (ds := []) (z1 := z) rfl) ?_
  exact ex_eq (s_seq ((s_for (range_ev rfl (by omega))).trans k1)) ⟨_, rfl⟩
/-! mixed -/
theorem mix_k : ∀ (n : Nat) (xs : List D) (z : Z) (B : Int), xs.length = n → n < 900 → Zok z B → B + n < 2 ^ 40 → ∃ ys z', mixGo g__law_draw n xs z = .ok ys z' ∧ ys.length = n ∧ (∀ y ∈ ys, y ∈ xs) ∧ Zok z' (B + n)
  | 0, xs, z, B, _, _, hz, _ => ⟨[], z, rfl, rfl, (fun y h => by cases h), by simpa using hz⟩
  | n + 1, xs, z, B, hl, hn, hz, hB => by
    obtain ⟨k, z1, e1, hk, hz1⟩ := draw_k xs.length hz (by omega) (by omega) (by omega)
    obtain ⟨ys, z2, k1, k2, k3, k4⟩ := mix_k n (xs.eraseIdx k) z1 (B + 1) (by rw [List.length_eraseIdx_of_lt hk]; omega) (by omega) hz1 (by omega)
    refine ⟨xs[k] :: ys, z2, ?_, by rw [List.length_cons, k2], fun y hy => ?_, k4.mono (by omega)⟩
    · unfold mixGo
      have e : runF true g__law_draw [.int (xs.length : Int)] z = .ok (.int (k : Int)) z1 := e1
      rw [e]
      simp only [ER.bind]
      rw [if_pos (by omega), Int.toNat_natCast, List.getElem?_eq_getElem hk]
      simp only [k1]
    · rcases List.mem_cons.mp hy with q | q
      · rw [q]; exact List.getElem_mem hk
      · exact List.mem_of_mem_eraseIdx (k3 y q)
theorem law_mixed {xs : List D} {z : Z} {B : Int} (hn : xs.length < 900) (hz : Zok z B) (hB : B + xs.length < 2 ^ 40) : ∃ ys z', g__law_mixed [.lst xs] z = .ok (.lst ys) z' ∧ ys.length = xs.length ∧ (∀ y ∈ ys, y ∈ xs) ∧ Zok z' (B + xs.length) := by
  obtain ⟨ys, z', k1, k2⟩ := mix_k xs.length xs z B rfl hn hz hB
  refine ⟨ys, z', ?_, k2⟩
  refine f_ret (s0 := [.strm, .sh (.lst xs), .none, .none]) (s1 := [.strm, .sh (.lst xs), .none, .none]) rfl ?_
  show (if 3 < 4 then (if xs.length < lim then mixOf g__law_draw [] _ xs.length xs z else .bad) else .bad) = _
  rw [if_pos (by decide), if_pos (by have e : lim = 1000000 := rfl; omega)]
  unfold mixOf
  rw [k1]
  rfl
theorem cutTo (xs : List D) (k : Nat) : dSl (.lst xs) none (some (k : Int)) = some (.lst (xs.take k)) := by
  show some (D.lst ((xs.drop (HT.sIx xs.length 0 none)).take (HT.sIx xs.length xs.length (some (k : Int)) - HT.sIx xs.length 0 none))) = _
  rw [HT.sIx_nat, HT.sIx_none, List.drop_zero, Nat.sub_zero]
  by_cases h : k ≤ xs.length
  · rw [Nat.min_eq_left h]
  · rw [Nat.min_eq_right (by omega), List.take_of_length_le (Nat.le_refl _), List.take_of_length_le (by omega)]
end K88

set_option Elab.async false
set_option linter.all false
set_option maxRecDepth 100000
set_option maxHeartbeats 4000000
namespace K88
open PySem PySem.Spec PyProof.Rows L2 DL TL NumText
/-! ### hands, rows, links drawn; their lines -/
abbrev short (l : List Str) : Prop := l.length ≤ 3 ∧ ∀ w ∈ l, w.length ≤ 8
structure HD (m : Nat) (kvs : List (Key × D)) : Prop where
  n : kvs.length ≤ m
  at_ : ∀ kv ∈ kvs, ∃ (n : Str) (l : List Str), kv = (Sum.inr n, encS l) ∧ n.length ≤ 8 ∧ short l
theorem setK_HD {m : Nat} {kvs : List (Key × D)} {n : Str} {l : List Str} (h : HD m kvs) (hn : n.length ≤ 8) (hl : short l) : HD (m + 1) (setK kvs (Sum.inr n) (encS l)) := by
  unfold setK
  split
  · refine ⟨by rw [List.length_map]; have := h.n; omega, fun kv hk => ?_⟩
    obtain ⟨p, hp, rfl⟩ := List.mem_map.mp hk
    obtain ⟨n2, l2, e, h2⟩ := h.at_ p hp
    split
    · rename_i q
      exact ⟨n, l, by rw [q], hn, hl⟩
    · exact ⟨n2, l2, e, h2⟩
  · refine ⟨by rw [List.length_append, List.length_singleton]; have := h.n; omega, fun kv hk => ?_⟩
    rcases List.mem_append.mp hk with q | q
    · exact h.at_ kv q
    · rw [List.mem_singleton.mp q]
      exact ⟨n, l, rfl, hn, hl⟩
theorem strs_mem {ys : List D} {l : List Str} (h : ∀ y ∈ ys, y ∈ l.map D.str) : ∃ l2 : List Str, ys = l2.map D.str ∧ l2.length = ys.length ∧ ∀ w ∈ l2, w ∈ l := by
  induction ys with
  | nil => exact ⟨[], rfl, rfl, fun w h => by cases h⟩
  | cons y ys ih =>
    obtain ⟨w, hw, rfl⟩ := List.mem_map.mp (h y (List.mem_cons_self ..))
    obtain ⟨l2, rfl, h2, h3⟩ := ih fun y hy => h y (List.mem_cons_of_mem _ hy)
    refine ⟨w :: l2, rfl, by simp, fun v hv => ?_⟩
    rcases List.mem_cons.mp hv with q | q
    · rw [q]; exact hw
    · exact h3 v q
def bodyH : SM := (mSeq (mPut 3 (mSl (mCallS 0 1 g__law_mixed (mCons (mVar 1) mNil)) mNoPart (mPart (mCallS 0 1 g__law_draw (mCons (mC (.int 3)) mNil)))) (mVar 4))
  mSkip)
theorem loopH {names : List Str} {y : D} (hs : short names) : ∀ (l : List Str) (kvs : List (Key × D)) (m : Nat) (v : Slot) (z : Z) (B : Int), m + l.length ≤ 3 → (∀ w ∈ l, w.length ≤ 8) → HD m kvs → Zok z B → B + l.length * 4 + 10 < 2 ^ 40 →
    ∃ kvs' v' z', mForG (tgN 4) bodyH (l.map D.str) [.strm, .sh (encS names), .sh y, .own (.dic kvs), v] z = .nx [.strm, .sh (encS names), .sh y, .own (.dic kvs'), v'] z' ∧ HD (m + l.length) kvs' ∧ Zok z' (B + l.length * 4)
  | [], kvs, m, v, z, B, _, _, hk, hz, _ => ⟨kvs, v, z, rfl, by simpa using hk, by simpa using hz⟩
  | w :: l, kvs, m, v, z, B, hn, hw, hk, hz, hB => by
    rw [List.length_cons] at hn hB
    have hl := hs.1
    obtain ⟨ys, z1, e1, k1, k2, hz1⟩ := law_mixed (xs := names.map D.str) (z := z) (B := B) (by rw [List.length_map]; omega) hz (by rw [List.length_map]; omega)
    rw [List.length_map] at k1 hz1
    obtain ⟨d, z2, e2, hd, hz2⟩ := draw_k 3 hz1 (by omega) (by decide) (by decide)
    obtain ⟨l2, rfl, h2, h3⟩ := strs_mem k2
    have hb : bodyH [.strm, .sh (encS names), .sh y, .own (.dic kvs), .sh (.str w)] z = .nx [.strm, .sh (encS names), .sh y, .own (.dic (setK kvs (Sum.inr w) (encS (l2.take d)))), .sh (.str w)] z2 := by
      unfold bodyH
      have hsl : mSl (mCallS 0 1 g__law_mixed (mCons (mVar 1) mNil)) mNoPart (mPart (mCallS 0 1 g__law_draw (mCons (mC (.int 3)) mNil))) ([.strm, .sh (encS names), .sh y, .own (.dic kvs), .sh (.str w)] : Sl) z = .ok (encS (l2.take d)) z2 := by
        refine (e_sl (e_callS1 rfl rfl e1) rfl (p_int (e_callS1 rfl rfl e2)) (cutTo _ d)).trans ?_
        rw [← List.map_take]
      exact s_put rfl hsl rfl rfl (by have := hk.n; have e : lim = 1000000 := rfl; omega)
    have hsh : short (l2.take d) := ⟨by rw [List.length_take]; omega, fun x hx => hs.2 x (h3 x (List.mem_of_mem_take hx))⟩
    obtain ⟨kvs', v', z', q1, q2, q3⟩ := loopH (y := y) hs l (setK kvs (Sum.inr w) (encS (l2.take d))) (m + 1) (.sh (.str w)) z2 (B + 4) (by omega) (fun x hx => hw x (List.mem_cons_of_mem _ hx)) (setK_HD hk (hw w (List.mem_cons_self ..)) hsh) (hz2.mono (by omega)) (by omega)
    refine ⟨kvs', v', z', (g_nx rfl hb).trans q1, ?_, q3.mono (by rw [List.length_cons]; omega)⟩
    rw [List.length_cons]
    have e : m + 1 + l.length = m + (l.length + 1) := by omega
    rw [e] at q2
    exact q2
theorem law_d_hands {names : List Str} {n : Nat} {z : Z} {B : Int} (hs : short names) (hn : n ≤ 3) (hz : Zok z B) (hB : B + 200 < 2 ^ 40) : ∃ kvs z', g__law_d_hands [encS names, .int (n : Int)] z = .ok (.dic kvs) z' ∧ HD 3 kvs ∧ Zok z' (B + 40) := by
  obtain ⟨l, z1, e1, k1, _, k2, hz1⟩ := law_names hn hz (by omega)
  obtain ⟨kvs', v', z', q1, q2, q3⟩ := loopH (y := .int (n : Int)) hs l [] 0 .none z1 (B + 27) (by omega) k2 ⟨by simp, fun kv h => by cases h⟩ hz1 (by omega)
  refine ⟨kvs', z', ?_, ⟨by have := q2.n; omega, q2.at_⟩, q3.mono (by omega)⟩
  refine f_retE (s0 := [.strm, .sh (encS names), .sh (.int (n : Int)), .none, .none]) rfl ?_
  unfold m__law_d_hands
  refine ex_eq (s_ownD (ds := []) (z1 := z) rfl) ?_
  exact ex_eq (s_seq ((s_for (items_lst (e_callS1 rfl rfl e1) (by rw [List.length_map]; have e : lim = 1000000 := rfl; omega))).trans q1)) ⟨_, rfl⟩
/-- lines that are not too long, and not too many -/
structure LS (n L : Nat) (ls : List Str) : Prop where
  n : ls.length ≤ n
  l : ∀ w ∈ ls, w.length ≤ L
theorem join_short {l : List Str} {k : Nat} (hn : l ≠ []) (hl : l.length ≤ k) (L : Nat) (hw : ∀ w ∈ l, w.length ≤ L) (hk : k * L + k ≤ 3000) : dJoin " " (encS l) = some (.str (Txt.join sp1 l)) ∧ (Txt.join sp1 l).length ≤ k * L + k := by
  have h1 := sum_le hw
  have h2 := join_len hn
  have h3 : l.length * L ≤ k * L := Nat.mul_le_mul_right L hl
  refine ⟨dJoin_sp ?_, by omega⟩
  have e : tlim = 3900 := rfl
  omega
theorem getK_mem {kvs : List (Key × D)} {kv : Key × D} (h : kv ∈ kvs) : ∃ d, getK kvs kv.1 = some d ∧ (kv.1, d) ∈ kvs := by
  unfold getK
  cases hf : kvs.find? fun p => decide (p.1 = kv.1) with
  | none =>
    have := List.find?_eq_none.mp hf kv h
    simp at this
  | some p =>
    have h1 := List.find?_some hf
    have h2 := List.mem_of_find?_eq_some hf
    have h3 : p.1 = kv.1 := of_decide_eq_true h1
    refine ⟨p.2, rfl, ?_⟩
    rw [← h3]
    exact h2
theorem law_d_hands_lines {kvs : List (Key × D)} (z : Z) (h : HD 3 kvs) : ∃ ls, g__law_d_hands_lines [.dic kvs] z = .ok (encS ls) z ∧ LS 5 70 ls := by
  have hn := h.n
  have hk : mKeysD (mVar 0) ([.sh (.dic kvs), .none] : Sl) z = .ok (kvs.map fun kv => keyOf kv.1) z := chk_ok (by show (keyVs kvs).length ≤ lim; unfold keyVs; rw [List.length_map]; have e : lim = 1000000 := rfl; omega)
  have key : ∀ kv ∈ kvs, ∃ w : Str, w.length ≤ 70 ∧ mM1 dJoin (mC (.str " ")) (mOp dAdd (mDisp .lst (mCons (mC (.str "hand")) (mCons (mVar 1) mNil))) (mCall dList1 (mCons (mOp dIx (mVar 0) (mVar 1)) mNil))) ([.sh (.dic kvs), .sh (keyOf kv.1)] : Sl) z = .ok (.str w) z := fun kv hm => by
    obtain ⟨n, l, e, h1, h2⟩ := h.at_ kv hm
    obtain ⟨d, g1, g2⟩ := getK_mem hm
    obtain ⟨n2, l2, e2, h3, h4⟩ := h.at_ _ g2
    obtain ⟨ea, eb⟩ := Prod.mk.inj e2
    subst eb
    rw [e] at g1 ⊢
    obtain ⟨j1, j2⟩ := join_short (l := ("hand" : Str) :: n :: l2) (k := 5) (by simp) (by simp only [List.length_cons]; have := h4.1; omega) 8 (fun w hw => by
      rcases List.mem_cons.mp hw with q | q
      · rw [q]; decide +kernel
      · rcases List.mem_cons.mp q with q | q
        · rw [q]; exact h1
        · exact h4.2 w q) (by decide)
    refine ⟨_, Nat.le_trans j2 (by decide), e_m1 (w := sp1) rfl (e_op (e_disp (e_cons rfl (e_cons rfl e_nil)) (by show 2 ≤ lim; decide)) (e_call1 (e_op rfl rfl g1) (list1_enc l2)) ?_) j1⟩
    show (if 2 + (l2.map D.str).length ≤ lim then some (D.lst ([D.str "hand", D.str n] ++ l2.map D.str)) else none) = _
    rw [List.length_map, if_pos (by have := h4.1; have e : lim = 1000000 := rfl; omega)]
    rfl
  classical
  let f : Key × D → Str := fun kv => if hm : kv ∈ kvs then Classical.choose (key kv hm) else em
  have hf : ∀ kv (hm : kv ∈ kvs), f kv = Classical.choose (key kv hm) := fun kv hm => dif_pos hm
  refine ⟨kvs.map f, ?_, ⟨by rw [List.length_map]; omega, fun w hw => ?_⟩⟩
  · refine f_ret (s0 := [.sh (.dic kvs), .none]) (s1 := [.sh (.dic kvs), .none]) rfl (s_ret ?_)
    unfold encS
    rw [List.map_map]
    refine lc_yes (f := D.str ∘ f) hk fun kv hm => ⟨_, rfl, ?_⟩
    show _ = ER.ok (D.str (f kv)) z
    rw [hf kv hm]
    exact (Classical.choose_spec (key kv hm)).2
  · obtain ⟨kv, hm, rfl⟩ := List.mem_map.mp hw
    rw [hf kv hm]
    exact (Classical.choose_spec (key kv hm)).1
/-! links -/
abbrev pairD (p : Str × Str) : D := .tup [.str p.1, .str p.2]
abbrev PL (ps : List (Str × Str)) : Prop := ∀ p ∈ ps, p.1.length ≤ 8 ∧ p.2.length ≤ 8
def bodyK : SM := (mSeq (mExt 3 (mLc [5] (mItems (mVar 1)) (tgN 5) (mB (mOp dNeX (mVar 5) (mVar 4))) (mDisp .tup (mCons (mVar 4) (mCons (mVar 5) mNil)))))
  mSkip)
theorem loopK {names : List Str} {y : D} (hs : short names) (z : Z) : ∀ (l : List Str) (ps : List (Str × Str)) (v : Slot), (∀ w ∈ l, w.length ≤ 8) → PL ps → ps.length + l.length * 3 ≤ 9 →
    ∃ ps' v', mForG (tgN 4) bodyK (l.map D.str) [.strm, .sh (encS names), .sh y, .own (.lst (ps.map pairD)), v, .none] z = .nx [.strm, .sh (encS names), .sh y, .own (.lst (ps'.map pairD)), v', .none] z ∧ PL ps' ∧ ps'.length ≤ ps.length + l.length * 3
  | [], ps, v, _, hp, _ => ⟨ps, v, rfl, hp, by simp⟩
  | w :: l, ps, v, hw, hp, hn => by
    rw [List.length_cons] at hn
    have hl := hs.1
    let qs : List (Str × Str) := (names.filter fun b => !decide (b = w)).map fun b => (w, b)
    have hq : qs.length ≤ 3 := by
      show ((names.filter fun b => !decide (b = w)).map fun b => (w, b)).length ≤ 3
      rw [List.length_map]
      exact Nat.le_trans (List.length_filter_le ..) hl
    have hc : mLc [5] (mItems (mVar 1)) (tgN 5) (mB (mOp dNeX (mVar 5) (mVar 4))) (mDisp .tup (mCons (mVar 4) (mCons (mVar 5) mNil))) ([.strm, .sh (encS names), .sh y, .own (.lst (ps.map pairD)), .sh (.str w), .none] : Sl) z = .ok (.lst (qs.map pairD)) z := by
      show _ = ER.ok (D.lst (((names.filter fun b => !decide (b = w)).map fun b => (w, b)).map pairD)) z
      rw [List.map_map]
      exact lc_if (items_lst rfl (by rw [List.length_map]; have e : lim = 1000000 := rfl; omega)) fun b _ => ⟨_, rfl, t_B (e_op rfl rfl (dNeX_str ..)), fun _ => e_disp (e_cons rfl (e_cons rfl e_nil)) (by show 2 ≤ lim; decide)⟩
    have hb : bodyK [.strm, .sh (encS names), .sh y, .own (.lst (ps.map pairD)), .sh (.str w), .none] z = .nx [.strm, .sh (encS names), .sh y, .own (.lst ((ps ++ qs).map pairD)), .sh (.str w), .none] z := by
      unfold bodyK
      refine (s_ext rfl hc (by rw [List.length_map, List.length_map]; have e : lim = 1000000 := rfl; omega)).trans ?_
      rw [← List.map_append]
      rfl
    have hp2 : PL (ps ++ qs) := fun p hm => by
      rcases List.mem_append.mp hm with q | q
      · exact hp p q
      · obtain ⟨b, hb2, rfl⟩ := List.mem_map.mp q
        exact ⟨hw w (List.mem_cons_self ..), hs.2 b (List.mem_filter.mp hb2).1⟩
    obtain ⟨ps', v', k1, k2, k3⟩ := loopK (y := y) hs z l (ps ++ qs) (.sh (.str w)) (fun x hx => hw x (List.mem_cons_of_mem _ hx)) hp2 (by rw [List.length_append]; omega)
    refine ⟨ps', v', (g_nx rfl hb).trans k1, k2, ?_⟩
    rw [List.length_append] at k3
    rw [List.length_cons]
    omega
theorem pairs_mem {ys : List D} {l : List (Str × Str)} (h : ∀ y ∈ ys, y ∈ l.map pairD) : ∃ l2 : List (Str × Str), ys = l2.map pairD ∧ l2.length = ys.length ∧ ∀ w ∈ l2, w ∈ l := by
  induction ys with
  | nil => exact ⟨[], rfl, rfl, fun w h => by cases h⟩
  | cons y ys ih =>
    obtain ⟨w, hw, rfl⟩ := List.mem_map.mp (h y (List.mem_cons_self ..))
    obtain ⟨l2, rfl, h2, h3⟩ := ih fun y hy => h y (List.mem_cons_of_mem _ hy)
    refine ⟨w :: l2, rfl, by simp, fun v hv => ?_⟩
    rcases List.mem_cons.mp hv with q | q
    · rw [q]; exact hw
    · exact h3 v q
theorem law_d_links {names : List Str} {z : Z} {B : Int} (hs : short names) (hz : Zok z B) (hB : B + 200 < 2 ^ 40) : ∃ ps z', g__law_d_links [encS names, .int 4] z = .ok (.lst (ps.map pairD)) z' ∧ PL ps ∧ ps.length ≤ 4 ∧ Zok z' (B + 20) := by
  have hl := hs.1
  obtain ⟨ps', v', k1, k2, k3⟩ := loopK (y := .int 4) hs z names [] .none hs.2 (fun p h => by cases h) (by simp; omega)
  have hp9 : ps'.length ≤ 9 := by rw [List.length_nil] at k3; omega
  obtain ⟨ys, z1, e1, q1, q2, hz1⟩ := law_mixed (xs := ps'.map pairD) (z := z) (B := B) (by rw [List.length_map]; omega) hz (by rw [List.length_map]; omega)
  rw [List.length_map] at q1 hz1
  obtain ⟨d, z2, e2, hd, hz2⟩ := draw_k 5 hz1 (by omega) (by decide) (by decide)
  obtain ⟨l2, rfl, h2, h3⟩ := pairs_mem q2
  rw [List.length_map] at q1
  refine ⟨l2.take d, z2, ?_, fun p hp => k2 p (h3 p (List.mem_of_mem_take hp)), by rw [List.length_take]; omega, hz2.mono (by omega)⟩
  refine f_retE (s0 := [.strm, .sh (encS names), .sh (.int 4), .none, .none, .none]) rfl ?_
  unfold m__law_d_links
  refine ex_eq (s_own (ds := []) (z1 := z) rfl) ?_
  refine ex_eq (s_seq ((s_for (items_lst (l := names.map D.str) rfl (by rw [List.length_map]; have e : lim = 1000000 := rfl; omega))).trans k1)) ?_
  refine ⟨[.strm, .sh (encS names), .sh (.int 4), .sh (.lst (ps'.map pairD)), v', .none], ?_⟩
  have hm : mSl (mCallS 0 1 g__law_mixed (mCons (mVar 3) mNil)) mNoPart (mPart (mCallS 0 1 g__law_draw (mCons (mOp dAdd (mVar 2) (mC (.int 1))) mNil))) ([.strm, .sh (encS names), .sh (.int 4), .sh (.lst (ps'.map pairD)), v', .none] : Sl) z = .ok (.lst ((l2.take d).map pairD)) z2 := by
    refine (e_sl (e_callS1 rfl rfl e1) rfl (p_int (e_callS1 (x := .int 5) rfl rfl e2)) (cutTo _ d)).trans ?_
    rw [← List.map_take]
  unfold mSeq mFz
  show (match mRet _ ([.strm, .sh (encS names), .sh (.int 4), .sh (.lst (ps'.map pairD)), v', .none] : Sl) z with
    | .nx s z => mSkip s z
    | r => r) = _
  unfold mRet
  rw [hm]
  rfl
theorem law_d_links_lines {ps : List (Str × Str)} (z : Z) (h : PL ps) (hn : ps.length ≤ 4) : ∃ ls, g__law_d_links_lines [.lst (ps.map pairD)] z = .ok (encS ls) z ∧ LS 5 70 ls := by
  have e1 : lim = 1000000 := rfl
  have el : ("link " : Str).length = 5 := by decide +kernel
  have es : (" " : Str).length = 1 := rfl
  have la : ∀ x y : Str, (x ++ y).length = x.length + y.length := fun x y => by
    rw [len_tl, tl_append, List.length_append, ← len_tl, ← len_tl]
  have add : ∀ x y : Str, x.length + y.length ≤ 100 → dAdd (.str x) (.str y) = some (.str (x ++ y)) := fun x y q => by
    show (if x.length + y.length ≤ lim then _ else none) = _
    rw [if_pos (by omega)]
  refine ⟨ps.map fun p => (("link " : Str) ++ p.1 ++ " ") ++ p.2, ?_, ⟨by rw [List.length_map]; omega, fun w hw => ?_⟩⟩
  · refine f_ret (s0 := [.sh (.lst (ps.map pairD)), .none, .none]) (s1 := [.sh (.lst (ps.map pairD)), .none, .none]) rfl (s_ret ?_)
    unfold encS
    rw [List.map_map]
    refine lc_yes (l := ps) (e := pairD) (f := fun p : Str × Str => D.str ((("link " : Str) ++ p.1 ++ " ") ++ p.2)) (items_lst rfl (by rw [List.length_map]; omega)) fun p hp => ⟨_, rfl, e_op (e_op (e_op rfl rfl (add _ _ ?_)) rfl (add _ _ ?_)) rfl (add _ _ ?_)⟩
    · have := h p hp; omega
    · have := h p hp; rw [la]; omega
    · have := h p hp; rw [la, la]; omega
  · obtain ⟨p, hp, rfl⟩ := List.mem_map.mp hw
    have := h p hp
    rw [la, la, la]
    omega
end K88

set_option Elab.async false
set_option linter.all false
set_option maxRecDepth 100000
set_option maxHeartbeats 4000000
namespace K88
open PySem PySem.Spec PyProof.Rows L2 DL TL NumText
/-! rows -/
abbrev kvI (ns : List Str) (is : List Int) : List (Key × D) := (ns.zip is).map fun p => ((Sum.inr p.1 : Key), D.int p.2)
abbrev tupI (p : Str × Int) : D := .tup [.str p.1, .int p.2]
theorem pairsD_I : ∀ l : List (Str × Int), pairsD (l.map tupI) = some (l.map fun p => ((Sum.inr p.1 : Key), D.int p.2))
  | [] => rfl
  | p :: l => by
    show ((keyD (.str p.1)).bind fun k => (pairsD (l.map tupI)).map fun r => (k, D.int p.2) :: r) = _
    rw [pairsD_I l]
    rfl
theorem merge_new : ∀ (l acc : List (Str × Int)), ((acc ++ l).map (·.1)).Nodup → mergeD (acc.map fun p => ((Sum.inr p.1 : Key), D.int p.2)) (l.map fun p => ((Sum.inr p.1 : Key), D.int p.2)) = (acc ++ l).map fun p => ((Sum.inr p.1 : Key), D.int p.2)
  | [], acc, _ => by simp [mergeD]
  | p :: l, acc, h => by
    have hm : p.1 ∉ acc.map (·.1) := fun q => by
      rw [List.map_append, List.map_cons] at h
      exact (List.nodup_append.mp h).2.2 _ q _ (List.mem_cons_self ..) rfl
    have ih := merge_new l (acc ++ [p]) (by rw [List.append_assoc]; exact h)
    unfold mergeD at ih ⊢
    rw [List.map_cons, List.foldl_cons, setK_map (nm := fun p : Str × Int => p.1) (f := fun p => D.int p.2) hm, ih, List.append_assoc]
    rfl
theorem zipI_fst {ns : List Str} {is : List Int} (h : is.length = ns.length) : (ns.zip is).map (·.1) = ns := List.map_fst_zip (by omega)
theorem dict_ev {ns : List Str} {is : List Int} (hd : ns.Nodup) (h : is.length = ns.length) : dDict1 [.lst ((ns.zip is).map tupI)] = some (.dic (kvI ns is)) := by
  show (pairsD ((ns.zip is).map tupI)).map (fun kvs => D.dic (mergeD [] kvs)) = _
  rw [pairsD_I, Option.map_some]
  have e := merge_new (ns.zip is) [] (by rw [List.nil_append, zipI_fst h]; exact hd)
  rw [List.map_nil, List.nil_append] at e
  rw [e]
structure RowI (ns : List Str) (d : D) : Prop where
  ex : ∃ is : List Int, is.length = ns.length ∧ d = .dic (kvI ns is) ∧ ∀ i ∈ is, i.natAbs < 10 ^ 15
theorem law_d_rows {ns : List Str} {z : Z} {B : Int} (hs : short ns) (hd : ns.Nodup) (hz : Zok z B) (hB : B + 200 < 2 ^ 40) : ∃ rs z', g__law_d_rows [encS ns, .int 4] z = .ok (.lst rs) z' ∧ rs ≠ [] ∧ rs.length ≤ 4 ∧ (∀ r ∈ rs, RowI ns r) ∧ Zok z' (B + 20) := by
  have el : lim = 1000000 := rfl
  have hl := hs.1
  obtain ⟨k1, z1, e1, h1, hz1⟩ := draw_k 3 hz (by omega) (by decide) (by decide)
  obtain ⟨k2, z2, e2, h2, hz2⟩ := draw_k 4 hz1 (by omega) (by decide) (by decide)
  obtain ⟨k3, z3, e3, h3, hz3⟩ := draw_k 4 hz2 (by omega) (by decide) (by decide)
  obtain ⟨b, eb, hb⟩ : ∃ b : Int, dIx (.lst [.int 0, .int 0, .int (-1), .int (10 ^ 14)]) (.int (k3 : Int)) = some (.int b) ∧ b.natAbs ≤ 10 ^ 14 := by
    match k3, h3 with
    | 0, _ => exact ⟨0, rfl, by decide⟩
    | 1, _ => exact ⟨0, rfl, by decide⟩
    | 2, _ => exact ⟨-1, rfl, by decide⟩
    | 3, _ => exact ⟨10 ^ 14, rfl, by decide +kernel⟩
  let s3 : Sl := [.strm, .sh (encS ns), .sh (.int 4), .sh (.int (1 + (k1 : Int))), .sh (.int (1 + (k2 : Int))), .sh (.int b), .none, .none]
  have hr : mRange1 (mVar 4) s3 z3 = .ok ((List.range (1 + k2)).map fun (i : Nat) => D.int (i : Int)) z3 := range_ev (n := 1 + k2) (by show ER.ok (D.int (1 + (k2 : Int))) z3 = _; rw [Int.natCast_add]; rfl) (by omega)
  have hp14 : dPow (.int 10) (.int 14) = some (.int (10 ^ 14)) := by kernel_rfl
  obtain ⟨bs, z4, q1, q2, q3, q4⟩ := lc_draw2 (g := fun _ d => d) (P := RowI ns) (c := 3) (vs := [6]) (t := tgN 6) (te := mCall dDict1 (mCons (mLc [7] (mItems (mVar 1)) (tgN 7) mYes (mDisp .tup (mCons (mVar 7) (mCons (mOp dAdd (mVar 5) (mCallS 0 1 g__law_draw (mCons (mOp dAdd (mC (.int 1)) (mVar 3)) mNil))) mNil)))) mNil)) hr hz3 (by rw [List.length_range]; omega) fun x _ z B hz hB => by
    refine ⟨_, rfl, ?_⟩
    obtain ⟨is, z', r1, r2, r3, r4⟩ := lc_draw2 (g := fun (n : Str) (i : Int) => tupI (n, i)) (P := fun i : Int => i.natAbs < 10 ^ 15) (c := 1) (vs := [7]) (t := tgN 7) (te := mDisp .tup (mCons (mVar 7) (mCons (mOp dAdd (mVar 5) (mCallS 0 1 g__law_draw (mCons (mOp dAdd (mC (.int 1)) (mVar 3)) mNil))) mNil))) (s := [.strm, .sh (encS ns), .sh (.int 4), .sh (.int (1 + (k1 : Int))), .sh (.int (1 + (k2 : Int))), .sh (.int b), .sh (.int (x : Int)), .none]) (items_lst (l := ns.map D.str) (m := mVar 1) rfl (by rw [List.length_map]; omega)) hz (by omega) fun n _ z B hz hB => by
      obtain ⟨k, z', e, hk, hz'⟩ := draw_k (2 + k1) hz (by omega) (by omega) (by omega)
      refine ⟨_, rfl, b + (k : Int), z', e_disp (e_cons rfl (e_cons (e_op rfl (e_callS1 (x := .int ((2 + k1 : Nat) : Int)) rfl (e_op rfl rfl ?_) e) rfl) e_nil)) (by show 2 ≤ lim; decide), ?_, hz'⟩
      · have e12 : (1 + (1 + (k1 : Int))) = ((2 + k1 : Nat) : Int) := by omega
        exact congrArg (fun i : Int => some (D.int i)) e12
      · have : (10 : Nat) ^ 15 = 1000000000000000 := by decide
        have : (10 : Nat) ^ 14 = 100000000000000 := by decide
        omega
    refine ⟨.dic (kvI ns is), z', e_call1 r1 (dict_ev hd r2), ⟨is, r2, rfl, r3⟩, r4.mono (by omega)⟩
  rw [List.length_range] at q2 q4
  have e9 : (List.range (1 + k2)).zip bs = (List.range (1 + k2)).zip bs := rfl
  have e10 : ((List.range (1 + k2)).zip bs).map (fun p => p.2) = bs := List.map_snd_zip (by rw [List.length_range]; omega)
  rw [e10] at q1
  refine ⟨bs, z4, ?_, fun q => by rw [q] at q2; simp at q2; omega, by omega, q3, q4.mono (by omega)⟩
  refine f_retE (s0 := [.strm, .sh (encS ns), .sh (.int 4), .none, .none, .none, .none, .none]) rfl ?_
  unfold m__law_d_rows
  refine ex_eq (s_asg (d := .int (1 + (k1 : Int))) (e_op rfl (e_callS1 rfl rfl e1) rfl)) ?_
  have hpar : mItms [(false, (mOp dAdd (mC (.int 1)) (mCallS 0 1 g__law_draw (mCons (mVar 2) mNil)))), (false, (mOp dIx (mDisp .lst (mCons (mC (.int 0)) (mCons (mC (.int 0)) (mCons (mNeg (mC (.int 1))) (mCons (mOp dPow (mC (.int 10)) (mC (.int 14))) mNil))))) (mCallS 0 1 g__law_draw (mCons (mC (.int 4)) mNil))))] ([.strm, .sh (encS ns), .sh (.int 4), .sh (.int (1 + (k1 : Int))), .none, .none, .none, .none] : Sl) z1 = .ok [.int (1 + (k2 : Int)), .int b] z3 := by
    have p1 : mOp dAdd (mC (.int 1)) (mCallS 0 1 g__law_draw (mCons (mVar 2) mNil)) ([.strm, .sh (encS ns), .sh (.int 4), .sh (.int (1 + (k1 : Int))), .none, .none, .none, .none] : Sl) z1 = .ok (.int (1 + (k2 : Int))) z2 := e_op rfl (e_callS1 (x := .int 4) rfl rfl e2) rfl
    have p2 : mOp dIx (mDisp .lst (mCons (mC (.int 0)) (mCons (mC (.int 0)) (mCons (mNeg (mC (.int 1))) (mCons (mOp dPow (mC (.int 10)) (mC (.int 14))) mNil))))) (mCallS 0 1 g__law_draw (mCons (mC (.int 4)) mNil)) ([.strm, .sh (encS ns), .sh (.int 4), .sh (.int (1 + (k1 : Int))), .none, .none, .none, .none] : Sl) z2 = .ok (.int b) z3 := e_op (e_disp (e_cons rfl (e_cons rfl (e_cons neg1 (e_cons (e_op rfl rfl hp14) e_nil)))) (by show 4 ≤ lim; decide)) (e_callS1 (x := .int 4) rfl rfl e3) eb
    simp only [mItms, p1, p2, ER.bind, Bool.false_eq_true, false_and, if_false]
  have hpar2 : ∀ r : SM, mSeq (mPar [4, 5] [(false, (mOp dAdd (mC (.int 1)) (mCallS 0 1 g__law_draw (mCons (mVar 2) mNil)))), (false, (mOp dIx (mDisp .lst (mCons (mC (.int 0)) (mCons (mC (.int 0)) (mCons (mNeg (mC (.int 1))) (mCons (mOp dPow (mC (.int 10)) (mC (.int 14))) mNil))))) (mCallS 0 1 g__law_draw (mCons (mC (.int 4)) mNil))))]) r ([.strm, .sh (encS ns), .sh (.int 4), .sh (.int (1 + (k1 : Int))), .none, .none, .none, .none] : Sl) z1 = r s3 z3 := fun r => by
    unfold mSeq mPar
    rw [hpar]
    rfl
  exact ex_eq (hpar2 _) (rt_ret q1)
theorem strI_len {i : Int} (h : i.natAbs < 10 ^ 15) : (strI i).length ≤ 16 := by
  by_cases h0 : 0 ≤ i
  · have e : i = (i.natAbs : Int) := by omega
    rw [e, len_tl, tl_strN]
    have := numL_len (n := i.natAbs) (k := 15) (by decide) h
    omega
  · have e : i = -(i.natAbs : Int) := by omega
    rw [e, len_tl, tl_strNeg (by omega), List.length_cons]
    have := numL_len (n := i.natAbs) (k := 15) (by decide) h
    omega
theorem law_d_table_lines {ns : List Str} {rs : List D} (z : Z) (hs : short ns) (hd : ns.Nodup) (hr : rs ≠ []) (hn : rs.length ≤ 4) (h : ∀ r ∈ rs, RowI ns r) : ∃ ls, g__law_d_table_lines [.lst rs] z = .ok (encS ls) z ∧ LS 5 70 ls := by
  have el : lim = 1000000 := rfl
  have hl := hs.1
  have hb : (10 : Nat) ^ 15 < 2 ^ 1000 := by decide +kernel
  obtain ⟨r0, rr, rfl⟩ : ∃ r0 rr, rs = r0 :: rr := by
    cases rs with
    | nil => exact absurd rfl hr
    | cons l rr => exact ⟨l, rr, rfl⟩
  have hk : dList1 [r0] = some (encS ns) := by
    obtain ⟨is, h1, h2, _⟩ := (h r0 (List.mem_cons_self ..)).ex
    rw [h2]
    show some (D.lst (keyVs (kvI ns is))) = _
    unfold keyVs
    rw [List.map_map]
    congr 2
    conv => rhs; rw [← zipI_fst h1]
    rw [List.map_map]
    rfl
  let s : Sl := [.sh (.lst (r0 :: rr)), .sh (encS ns), .none, .none]
  obtain ⟨j1, j2⟩ := join_short (l := ("asks" : Str) :: ns) (k := 4) (by simp) (by simp only [List.length_cons]; omega) 8 (fun w hw => by
      rcases List.mem_cons.mp hw with q | q
      · rw [q]; decide +kernel
      · exact hs.2 w q) (by decide)
  have hh : mDisp .lst (mCons (mM1 dJoin (mC (.str " ")) (mOp dAdd (mDisp .lst (mCons (mC (.str "asks")) mNil)) (mVar 1))) mNil) s z = .ok (.lst [.str (Txt.join sp1 (("asks" : Str) :: ns))]) z := by
    refine e_disp (e_cons (e_m1 (w := sp1) rfl (e_op (d := encS (("asks" : Str) :: ns)) (e_disp (e_cons rfl e_nil) (by show 1 ≤ lim; decide)) rfl ?_) j1) e_nil) (by show 1 ≤ lim; decide)
    show (if 1 + (ns.map D.str).length ≤ lim then some (D.lst ([D.str "asks"] ++ ns.map D.str)) else none) = _
    rw [List.length_map, if_pos (by omega)]
    rfl
  have key : ∀ r ∈ r0 :: rr, ∃ w : Str, w.length ≤ 70 ∧ mM1 dJoin (mC (.str " ")) (mOp dAdd (mDisp .lst (mCons (mC (.str "row")) mNil)) (mLc [3] (mItems (mVar 1)) (tgN 3) mYes (mCall dStr (mCons (mOp dIx (mVar 2) (mVar 3)) mNil)))) ([.sh (.lst (r0 :: rr)), .sh (encS ns), .sh r, .none] : Sl) z = .ok (.str w) z := fun r hm => by
    obtain ⟨is, h1, rfl, h3⟩ := (h r hm).ex
    have hc : mLc [3] (mItems (mVar 1)) (tgN 3) mYes (mCall dStr (mCons (mOp dIx (mVar 2) (mVar 3)) mNil)) ([.sh (.lst (r0 :: rr)), .sh (encS ns), .sh (.dic (kvI ns is)), .none] : Sl) z = .ok (encS (is.map strI)) z := by
      have ei : ns.map D.str = (ns.zip is).map fun p => D.str p.1 := by
        conv => lhs; rw [← zipI_fst h1]
        rw [List.map_map]
        rfl
      refine (lc_yes (l := ns.zip is) (e := fun p => D.str p.1) (f := fun p => D.str (strI p.2)) ((items_lst (l := ns.map D.str) rfl (by rw [List.length_map]; omega)).trans (by rw [ei])) fun p hp => ⟨_, rfl, e_call1 (x := .int p.2) (e_op rfl rfl ?_) ?_⟩).trans ?_
      · show (some (Sum.inr p.1 : Key)).bind (fun k => getK (kvI ns is) k) = _
        rw [Option.bind_some]
        exact getK_map (nm := fun p : Str × Int => p.1) (f := fun p => D.int p.2) (by rw [zipI_fst h1]; exact hd) hp
      · have := h3 p.2 (by
          have := List.mem_map_of_mem (f := fun p : Str × Int => p.2) hp
          rw [List.map_snd_zip (by omega)] at this
          exact this)
        exact if_pos (Nat.lt_trans this hb)
      · have : (ns.zip is).map (fun p => D.str (strI p.2)) = (is.map strI).map D.str := by
          rw [List.map_map]
          conv => rhs; rw [← List.map_snd_zip (l₁ := ns) (l₂ := is) (by omega)]
          rw [List.map_map]
          rfl
        rw [this]
    obtain ⟨j1, j2⟩ := join_short (l := ("row" : Str) :: is.map strI) (k := 4) (by simp) (by simp only [List.length_cons, List.length_map]; omega) 16 (fun w hw => by
      rcases List.mem_cons.mp hw with q | q
      · rw [q]; decide +kernel
      · obtain ⟨i, hi, rfl⟩ := List.mem_map.mp q
        exact strI_len (h3 i hi)) (by decide)
    refine ⟨_, Nat.le_trans j2 (by decide), e_m1 (w := sp1) rfl (e_op (e_disp (e_cons rfl e_nil) (by show 1 ≤ lim; decide)) hc ?_) j1⟩
    show (if 1 + ((is.map strI).map D.str).length ≤ lim then some (D.lst ([D.str "row"] ++ (is.map strI).map D.str)) else none) = _
    rw [List.length_map, List.length_map, if_pos (by omega)]
    rfl
  classical
  let f : D → Str := fun r => if hm : r ∈ r0 :: rr then Classical.choose (key r hm) else em
  have hf : ∀ r (hm : r ∈ r0 :: rr), f r = Classical.choose (key r hm) := fun r hm => dif_pos hm
  have hrows : mLc [2] (mItems (mVar 0)) (tgN 2) mYes (mM1 dJoin (mC (.str " ")) (mOp dAdd (mDisp .lst (mCons (mC (.str "row")) mNil)) (mLc [3] (mItems (mVar 1)) (tgN 3) mYes (mCall dStr (mCons (mOp dIx (mVar 2) (mVar 3)) mNil))))) s z = .ok (.lst (((r0 :: rr).map f).map D.str)) z := by
    rw [List.map_map]
    refine lc_yes (l := r0 :: rr) (e := id) (f := D.str ∘ f) ((items_lst (l := r0 :: rr) rfl (by omega)).trans (by rw [List.map_id])) fun r hm => ⟨_, rfl, ?_⟩
    show _ = ER.ok (D.str (f r)) z
    rw [hf r hm]
    exact (Classical.choose_spec (key r hm)).2
  refine ⟨Txt.join sp1 (("asks" : Str) :: ns) :: (r0 :: rr).map f, ?_, ⟨by rw [List.length_cons, List.length_map]; omega, fun w hw => ?_⟩⟩
  · refine f_retE (s0 := [.sh (.lst (r0 :: rr)), .none, .none, .none]) rfl ?_
    unfold m__law_d_table_lines
    refine ex_eq (s_asg (e_call1 (e_op rfl rfl (ix0 _ _)) hk)) (rt_ret (e_op hh hrows ?_))
    show (if 1 + (((r0 :: rr).map f).map D.str).length ≤ lim then some (D.lst ([D.str (Txt.join sp1 (("asks" : Str) :: ns))] ++ ((r0 :: rr).map f).map D.str)) else none) = _
    rw [List.length_map, List.length_map, if_pos (by omega)]
    rfl
  · rcases List.mem_cons.mp hw with q | q
    · rw [q]; omega
    · obtain ⟨r, hm, rfl⟩ := List.mem_map.mp q
      rw [hf r hm]
      exact (Classical.choose_spec (key r hm)).1
end K88

set_option Elab.async false
set_option linter.all false
set_option maxRecDepth 100000
set_option maxHeartbeats 4000000
namespace K88
open PySem PySem.Spec PyProof.Rows L2 DL TL NumText
/-! ### lines bent -/
theorem s_gT {n : M Bool} {m : M D} {r : SM} {s : Sl} {z z1 : Z} {d : D} (h : n s z = .ok true z) (h2 : m s z = .ok d z1) : mSeq (mIfS n (mSeq (mRet m) mSkip) mSkip) r s z = .rt d s z1 := by
  unfold mSeq mIfS
  rw [h]
  simp only [if_true, mRet, h2, toFR]
theorem s_gF {n : M Bool} {a r : SM} {s : Sl} {z : Z} (h : n s z = .ok false z) : mSeq (mIfS n a mSkip) r s z = r s z := by
  unfold mSeq mIfS
  rw [h]
  rfl
theorem s_parFF {i j : Nat} {m1 m2 : M D} {r : SM} {s : Sl} {z z1 z2 : Z} {d1 d2 : D} (h1 : m1 s z = .ok d1 z1) (h2 : m2 s z1 = .ok d2 z2) : mSeq (mPar [i, j] [(false, m1), (false, m2)]) r s z = r ((s.set i (.sh d1)).set j (.sh d2)) z2 := by
  unfold mSeq mPar
  simp only [mItms, h1, h2, ER.bind, Bool.false_eq_true, false_and, if_false, List.map_cons, List.map_nil, setAll]
theorem cutFrom (xs : List D) (k : Nat) : dSl (.lst xs) (some (k : Int)) none = some (.lst (xs.drop k)) := by
  show some (D.lst ((xs.drop (HT.sIx xs.length 0 (some (k : Int)))).take (HT.sIx xs.length xs.length none - HT.sIx xs.length 0 (some (k : Int))))) = _
  rw [HT.sIx_nat, HT.sIx_none]
  by_cases h : k ≤ xs.length
  · rw [Nat.min_eq_left h, List.take_of_length_le (by rw [List.length_drop]; omega)]
  · rw [Nat.min_eq_right (by omega), List.drop_of_length_le (Nat.le_refl _), List.drop_of_length_le (by omega), List.take_nil]
theorem cutMid (xs : List D) (k : Nat) : ∃ n, dSl (.lst xs) (some (k : Int)) (some (((k + 1 : Nat)) : Int)) = some (.lst ((xs.drop n).take 1)) := by
  by_cases h : k < xs.length
  · refine ⟨k, ?_⟩
    show some (D.lst ((xs.drop (HT.sIx xs.length 0 (some (k : Int)))).take (HT.sIx xs.length xs.length (some ((k + 1 : Nat) : Int)) - HT.sIx xs.length 0 (some (k : Int))))) = _
    rw [HT.sIx_nat, HT.sIx_nat, Nat.min_eq_left (by omega), Nat.min_eq_left (by omega)]
    congr 3
    omega
  · refine ⟨xs.length, ?_⟩
    show some (D.lst ((xs.drop (HT.sIx xs.length 0 (some (k : Int)))).take (HT.sIx xs.length xs.length (some ((k + 1 : Nat) : Int)) - HT.sIx xs.length 0 (some (k : Int))))) = _
    rw [HT.sIx_nat, HT.sIx_nat, Nat.min_eq_right (by omega), Nat.min_eq_right (by omega), List.drop_of_length_le (Nat.le_refl _), List.take_nil, List.take_nil]
theorem add_l {a b : List Str} (h : a.length + b.length ≤ 100000) : dAdd (encS a) (encS b) = some (encS (a ++ b)) := by
  show (if (a.map D.str).length + (b.map D.str).length ≤ lim then some (D.lst (a.map D.str ++ b.map D.str)) else none) = _
  rw [List.length_map, List.length_map, if_pos (by have e : lim = 1000000 := rfl; omega), ← List.map_append]
def wt (l : List Str) : Nat := (l.map (·.length)).sum + l.length
theorem wt_app (a b : List Str) : wt (a ++ b) = wt a + wt b := by
  unfold wt
  simp only [List.map_append, List.sum_append, List.length_append]
  omega
theorem wt_one (x : Str) : wt [x] = x.length + 1 := by simp [wt]
theorem join_le (l : List Str) : (Txt.join sp1 l).length ≤ wt l := by
  cases l with
  | nil => decide +kernel
  | cons a r =>
    have := join_len (l := a :: r) (by simp)
    unfold wt
    omega
theorem wt_cut {l : List Str} {k : Nat} (h : k < l.length) : wt (l.take k) + wt (l.drop (k + 1)) + (l[k].length + 1) = wt l := by
  have e : l = l.take k ++ ([l[k]] ++ l.drop (k + 1)) := by
    rw [List.singleton_append, ← List.drop_eq_getElem_cons h, List.take_append_drop]
  conv => rhs; rw [e]
  rw [wt_app, wt_app, wt_one]
  omega
theorem wt_len (l : List Str) : l.length ≤ wt l := by unfold wt; omega
theorem wt_mem {l : List Str} {x : Str} (h : x ∈ l) : x.length + 1 ≤ wt l := by
  have := mem_sum h
  have := List.length_pos_of_mem h
  unfold wt
  omega
theorem join_ev {a b : M D} {s : Sl} {z z1 z2 : Z} {l : List Str} (h0 : a s z = .ok (.str " ") z1) (h : b s z1 = .ok (encS l) z2) (hw : wt l ≤ 3900) : mM1 dJoin a b s z = .ok (.str (Txt.join sp1 l)) z2 := e_m1 h0 h (dJoin_sp (by have e : tlim = 3900 := rfl; unfold wt at hw; omega))
theorem slS {a : M D} {lo hi : M (Option Int)} {s : Sl} {z z1 z2 z3 : Z} {w : Str} {l h : Option Int} (h1 : a s z = .ok (.str w) z1) (h2 : lo s z1 = .ok l z2) (h3 : hi s z2 = .ok h z3) (hw : w.length ≤ 1000) : mSl a lo hi s z = .ok (.str (cutS w l h)) z3 := e_sl h1 h2 h3 (if_pos (by have e : lim = 1000000 := rfl; omega))
theorem la (x y : Str) : (x ++ y).length = x.length + y.length := by
  rw [len_tl, tl_append, List.length_append, ← len_tl, ← len_tl]
theorem add_s {x y : Str} (h : x.length + y.length ≤ 100000) : dAdd (.str x) (.str y) = some (.str (x ++ y)) := by
  show (if x.length + y.length ≤ lim then _ else none) = _
  rw [if_pos (by have e : lim = 1000000 := rfl; omega)]
def odd1 : List Str := ["", "0", "00", "-0", "-1", "07", "+1", "1.0", Txt.mul "9" 15, Txt.mul "9" 16, "a", "A", "row", "asks", "hand", Txt.mul "z" 41]
theorem odd1_len : ∀ w ∈ odd1, w.length ≤ 41 := by decide +kernel
def signs1 : List Str := [" ", "-", "0", "a", ".", "\t", "_", "1"]
theorem signs1_len : ∀ w ∈ signs1, w.length ≤ 1 := by decide +kernel
theorem pick_l {z : Z} {B : Int} {l : List Str} (hz : Zok z B) (hB : B < 2 ^ 40) (h0 : 0 < l.length) (h1 : l.length < 1000) : ∃ w z', g__law_pick [encS l] z = .ok (.str w) z' ∧ w ∈ l ∧ Zok z' (B + 1) := by
  obtain ⟨d, z', e, hd, hz'⟩ := pick_k (ds := l.map D.str) hz hB (by rw [List.length_map]; exact h0) (by rw [List.length_map]; exact h1)
  obtain ⟨w, hw, rfl⟩ := List.mem_map.mp hd
  exact ⟨w, z', e, hw, hz'⟩
theorem bent_line {w : Str} {L : Nat} {z : Z} {B : Int} (hw : w.length ≤ L) (hL : L ≤ 900) (hz : Zok z B) (hB : B + 100 < 2 ^ 40) : ∃ w' z', g__law_bent_line [.str w] z = .ok (.str w') z' ∧ w'.length ≤ 2 * L + 44 ∧ Zok z' (B + 10) := by
  have el : lim = 1000000 := rfl
  have et : tlim = 3900 := rfl
  generalize hws : Txt.split w sp1 = ws
  have hn : ws ≠ [] := by rw [← hws]; exact split_sp_ne w
  have hwt : wt ws = w.length + 1 := by rw [← hws]; exact split_sp_len w
  have hlen := wt_len ws
  have hp : 0 < ws.length := List.length_pos_iff.mpr hn
  obtain ⟨k, z1, e1, hk, hz1⟩ := draw_k 5 hz (by omega) (by decide) (by decide)
  obtain ⟨a, z2, e2, ha, hz2⟩ := draw_k ws.length hz1 (by omega) hp (by omega)
  have hcut := wt_cut ha
  have hsp : mM1 dSplit (mVar 1) (mC (.str " ")) ([.strm, .sh (.str w), .none, .none, .none, .none, .none, .none] : Sl) z = .ok (encS ws) z := by
    rw [← hws]
    exact e_m1 rfl rfl (dSplit_ok (b := sp1) (by decide) (by omega))
  let s4 : Sl := [.strm, .sh (.str w), .sh (.int (a : Int)), .sh (encS odd1), .sh (encS ws), .sh (.int (k : Int)), .none, .none]
  have pre : ∃ r : SM, m__law_bent_line = mSeq (mPar [4, 5] [(false, (mM1 dSplit (mVar 1) (mC (.str " ")))), (false, (mCallS 0 1 g__law_draw (mCons (mC (.int 5)) mNil)))]) r := ⟨_, rfl⟩
  have hodd : mDisp .lst (mCons (mC (.str "")) (mCons (mC (.str "0")) (mCons (mC (.str "00")) (mCons (mC (.str "-0")) (mCons (mC (.str "-1")) (mCons (mC (.str "07")) (mCons (mC (.str "+1")) (mCons (mC (.str "1.0")) (mCons (mOp dMulX (mC (.str "9")) (mC (.int 15))) (mCons (mOp dMulX (mC (.str "9")) (mC (.int 16))) (mCons (mC (.str "a")) (mCons (mC (.str "A")) (mCons (mC (.str "row")) (mCons (mC (.str "asks")) (mCons (mC (.str "hand")) (mCons (mOp dMulX (mC (.str "z")) (mC (.int 41))) mNil)))))))))))))))) ([.strm, .sh (.str w), .sh (.int (a : Int)), .none, .sh (encS ws), .sh (.int (k : Int)), .none, .none] : Sl) z2 = .ok (encS odd1) z2 := by kernel_rfl
  have hA : ∀ z, mSl (mVar 4) mNoPart (mPart (mVar 2)) s4 z = .ok (encS (ws.take a)) z := fun z => by
    refine (e_sl rfl rfl (p_int rfl) (cutTo _ a)).trans ?_
    rw [← List.map_take]
  have hC : ∀ z, mSl (mVar 4) (mPart (mOp dAdd (mVar 2) (mC (.int 1)))) mNoPart s4 z = .ok (encS (ws.drop (a + 1))) z := fun z => by
    refine (e_sl rfl (p_int (e_op rfl rfl rfl)) rfl (cutFrom _ (a + 1))).trans ?_
    rw [← List.map_drop]
  have kq : ∀ j : Nat, mB (mOp dEq (mVar 5) (mC (.int (j : Int)))) s4 z2 = .ok (decide (k = j)) z2 := fun j => t_B (e_op rfl rfl (int_eq k j))
  have put : ∀ {mid : M D} {m : List Str} {z3 : Z}, mid s4 z2 = .ok (encS m) z3 → m.length ≤ 10 → mOp dAdd (mOp dAdd (mSl (mVar 4) mNoPart (mPart (mVar 2))) mid) (mSl (mVar 4) (mPart (mOp dAdd (mVar 2) (mC (.int 1)))) mNoPart) s4 z2 = .ok (encS ((ws.take a ++ m) ++ ws.drop (a + 1))) z3 := fun {mid m z3} h hm => e_op (e_op (hA _) h (add_l (by rw [List.length_take]; omega))) (hC _) (add_l (by rw [List.length_append, List.length_take, List.length_drop]; omega))
  have go : ∀ (w' : Str) (z' : Z), (∃ s1, m__law_bent_line [.strm, .sh (.str w), .none, .none, .none, .none, .none, .none] z = .rt (.str w') s1 z') → w'.length ≤ 2 * L + 44 → Zok z' (B + 10) → ∃ w' z', g__law_bent_line [.str w] z = .ok (.str w') z' ∧ w'.length ≤ 2 * L + 44 ∧ Zok z' (B + 10) := fun w' z' h h2 h3 => ⟨w', z', f_retE rfl h, h2, h3⟩
  have k0 := kq 0
  have k1 := kq 1
  have k2 := kq 2
  have k3 := kq 3
  have hk5 : k = 0 ∨ k = 1 ∨ k = 2 ∨ k = 3 ∨ k = 4 := by omega
  rcases hk5 with rfl | rfl | rfl | rfl | rfl
  · obtain ⟨x, z3, e3, hx, hz3⟩ := pick_l (l := odd1) hz2 (by omega) (by decide) (by decide)
    have hx41 := odd1_len x hx
    have h := put (mid := mDisp .lst (mCons (mCallS 0 1 g__law_pick (mCons (mVar 3) mNil)) mNil)) (m := [x]) (e_disp (e_cons (e_callS1 rfl rfl e3) e_nil) (by show 1 ≤ lim; decide)) (by simp)
    have hwt2 : wt ((ws.take a ++ [x]) ++ ws.drop (a + 1)) ≤ 2 * L + 44 := by
      rw [wt_app, wt_app, wt_one]; omega
    refine go _ z3 ?_ (Nat.le_trans (join_le _) hwt2) (hz3.mono (by omega))
    unfold m__law_bent_line
    exact ex_eq (s_parFF hsp (e_callS1 rfl rfl e1)) (ex_eq (s_asg (e_callS1 (x := .int (ws.length : Int)) rfl (e_call1 rfl (dLen_enc ws)) e2)) (ex_eq (s_asg hodd) ⟨_, s_gT k0 (join_ev rfl h (by omega))⟩))
  · have h : mOp dAdd (mSl (mVar 4) mNoPart (mPart (mVar 2))) (mSl (mVar 4) (mPart (mOp dAdd (mVar 2) (mC (.int 1)))) mNoPart) s4 z2 = .ok (encS (ws.take a ++ ws.drop (a + 1))) z2 := e_op (hA _) (hC _) (add_l (by rw [List.length_take, List.length_drop]; omega))
    have hwt2 : wt (ws.take a ++ ws.drop (a + 1)) ≤ 2 * L + 44 := by
      rw [wt_app]; omega
    refine go _ z2 ?_ (Nat.le_trans (join_le _) hwt2) (hz2.mono (by omega))
    unfold m__law_bent_line
    exact ex_eq (s_parFF hsp (e_callS1 rfl rfl e1)) (ex_eq (s_asg (e_callS1 (x := .int (ws.length : Int)) rfl (e_call1 rfl (dLen_enc ws)) e2)) (ex_eq (s_asg hodd) (ex_eq (s_gF k0) ⟨_, s_gT k1 (join_ev rfl h (by omega))⟩)))
  · have hix : mOp dIx (mVar 4) (mVar 2) s4 z2 = .ok (.str ws[a]) z2 := by
      refine (e_op rfl rfl (ix_k (by rw [List.length_map]; exact ha))).trans ?_
      rw [List.getElem_map]
    have h := put (mid := mDisp .lst (mCons (mOp dIx (mVar 4) (mVar 2)) (mCons (mOp dIx (mVar 4) (mVar 2)) mNil))) (m := [ws[a], ws[a]]) (e_disp (e_cons hix (e_cons hix e_nil)) (by show 2 ≤ lim; decide)) (by simp)
    have hwt2 : wt ((ws.take a ++ [ws[a], ws[a]]) ++ ws.drop (a + 1)) ≤ 2 * L + 44 := by
      rw [wt_app, wt_app, show [ws[a], ws[a]] = [ws[a]] ++ [ws[a]] from rfl, wt_app, wt_one]; omega
    refine go _ z2 ?_ (Nat.le_trans (join_le _) hwt2) (hz2.mono (by omega))
    unfold m__law_bent_line
    exact ex_eq (s_parFF hsp (e_callS1 rfl rfl e1)) (ex_eq (s_asg (e_callS1 (x := .int (ws.length : Int)) rfl (e_call1 rfl (dLen_enc ws)) e2)) (ex_eq (s_asg hodd) (ex_eq (s_gF k0) (ex_eq (s_gF k1) ⟨_, s_gT k2 (join_ev rfl h (by omega))⟩))))
  · obtain ⟨x, z3, e3, hx, hz3⟩ := pick_l (l := ws) hz2 (by omega) hp (by omega)
    have hx41 := wt_mem hx
    have h := put (mid := mDisp .lst (mCons (mCallS 0 1 g__law_pick (mCons (mVar 4) mNil)) mNil)) (m := [x]) (e_disp (e_cons (e_callS1 rfl rfl e3) e_nil) (by show 1 ≤ lim; decide)) (by simp)
    have hwt2 : wt ((ws.take a ++ [x]) ++ ws.drop (a + 1)) ≤ 2 * L + 44 := by
      rw [wt_app, wt_app, wt_one]; omega
    refine go _ z3 ?_ (Nat.le_trans (join_le _) hwt2) (hz3.mono (by omega))
    unfold m__law_bent_line
    exact ex_eq (s_parFF hsp (e_callS1 rfl rfl e1)) (ex_eq (s_asg (e_callS1 (x := .int (ws.length : Int)) rfl (e_call1 rfl (dLen_enc ws)) e2)) (ex_eq (s_asg hodd) (ex_eq (s_gF k0) (ex_eq (s_gF k1) (ex_eq (s_gF k2) ⟨_, s_gT k3 (join_ev rfl h (by omega))⟩)))))
  · obtain ⟨c, z3, e3, hc, hz3⟩ := draw_k (w.length + 1) hz2 (by omega) (by omega) (by omega)
    obtain ⟨x, z4, e4, hx, hz4⟩ := pick_l (l := signs1) hz3 (by omega) (by decide) (by decide)
    have hx1 := signs1_len x hx
    obtain ⟨q, z5, e5, hq, hz5⟩ := draw_k 2 hz4 (by omega) (by decide) (by decide)
    let s6 : Sl := [.strm, .sh (.str w), .sh (.int (a : Int)), .sh (encS odd1), .sh (encS ws), .sh (.int 4), .sh (.int (c : Int)), .sh (.str x)]
    have hd3 : mCallS 0 1 g__law_draw (mCons (mOp dAdd (mCall dLen (mCons (mVar 1) mNil)) (mC (.int 1))) mNil) ([.strm, .sh (.str w), .sh (.int (a : Int)), .sh (encS odd1), .sh (encS ws), .sh (.int 4), .none, .none] : Sl) z2 = .ok (.int (c : Int)) z3 := e_callS1 (x := .int ((w.length + 1 : Nat) : Int)) rfl (e_op (e_call1 rfl (dLen_str (by omega))) rfl rfl) e3
    have hd4 : mCallS 0 1 g__law_pick (mCons (mDisp .lst (mCons (mC (.str " ")) (mCons (mC (.str "-")) (mCons (mC (.str "0")) (mCons (mC (.str "a")) (mCons (mC (.str ".")) (mCons (mC (.str "\t")) (mCons (mC (.str "_")) (mCons (mC (.str "1")) mNil))))))))) mNil) ([.strm, .sh (.str w), .sh (.int (a : Int)), .sh (encS odd1), .sh (encS ws), .sh (.int 4), .none, .none] : Sl) z3 = .ok (.str x) z4 := e_callS1 (x := encS signs1) rfl (by kernel_rfl) e4
    have l1 := cutS_length w none (some (c : Int))
    have l2 := cutS_length w (some ((c : Int) + (q : Int))) none
    have hfin : mOp dAdd (mOp dAdd (mSl (mVar 1) mNoPart (mPart (mVar 6))) (mVar 7)) (mSl (mVar 1) (mPart (mOp dAdd (mVar 6) (mCallS 0 1 g__law_draw (mCons (mC (.int 2)) mNil)))) mNoPart) s6 z4 = .ok (.str ((cutS w none (some (c : Int)) ++ x) ++ cutS w (some ((c : Int) + (q : Int))) none)) z5 := e_op (e_op (slS rfl rfl (p_int rfl) (by omega)) rfl (add_s (by omega))) (slS rfl (p_int (e_op rfl (e_callS1 (x := .int 2) rfl rfl e5) rfl)) rfl (by omega)) (add_s (by rw [la]; omega))
    refine go ((cutS w none (some (c : Int)) ++ x) ++ cutS w (some ((c : Int) + (q : Int))) none) z5 ?_ (by rw [la, la]; omega) (hz5.mono (by omega))
    unfold m__law_bent_line
    exact ex_eq (s_parFF hsp (e_callS1 rfl rfl e1)) (ex_eq (s_asg (e_callS1 (x := .int (ws.length : Int)) rfl (e_call1 rfl (dLen_enc ws)) e2)) (ex_eq (s_asg hodd) (ex_eq (s_gF k0) (ex_eq (s_gF k1) (ex_eq (s_gF k2) (ex_eq (s_gF k3) (ex_eq (s_parFF hd3 hd4) (rt_ret hfin))))))))
end K88

set_option Elab.async false
set_option linter.all false
set_option maxRecDepth 100000
set_option maxHeartbeats 4000000
namespace K88
open PySem PySem.Spec PyProof.Rows L2 DL TL NumText
def odd2 : List Str := ["", "asks a", "row 1", "hand a", "link a b", "row", "hand", "link a", "asks", " ", "link a a"]
theorem odd2_len : ∀ w ∈ odd2, w.length ≤ 41 := by decide +kernel
theorem LS.app {n L : Nat} {a b : List Str} (hn : a.length + b.length ≤ n) (h1 : ∀ w ∈ a, w.length ≤ L) (h2 : ∀ w ∈ b, w.length ≤ L) : LS n L (a ++ b) := ⟨by rw [List.length_append]; exact hn, fun w hw => by
  rcases List.mem_append.mp hw with q | q
  · exact h1 w q
  · exact h2 w q⟩
theorem bent {ls : List Str} {n L : Nat} {z : Z} {B : Int} (h : LS n L ls) (hn : n ≤ 50) (hL : L ≤ 900) (hz : Zok z B) (hB : B + 200 < 2 ^ 40) : ∃ ls' z', g__law_bent [encS ls] z = .ok (encS ls') z' ∧ LS (n + 1) (2 * L + 44) ls' ∧ Zok z' (B + 20) := by
  have el : lim = 1000000 := rfl
  have hl := h.n
  have hw : ∀ w ∈ ls, w.length ≤ 2 * L + 44 := fun w q => by have := h.l w q; omega
  obtain ⟨a, z1, e1, ha, hz1⟩ := draw_k (ls.length + 1) hz (by omega) (by omega) (by omega)
  obtain ⟨k, z2, e2, hk, hz2⟩ := draw_k 6 hz1 (by omega) (by decide) (by decide)
  let s4 : Sl := [.strm, .sh (encS ls), .sh (encS odd2), .sh (.int (a : Int)), .sh (.int (k : Int))]
  have hodd : mDisp .lst (mCons (mC (.str "")) (mCons (mC (.str "asks a")) (mCons (mC (.str "row 1")) (mCons (mC (.str "hand a")) (mCons (mC (.str "link a b")) (mCons (mC (.str "row")) (mCons (mC (.str "hand")) (mCons (mC (.str "link a")) (mCons (mC (.str "asks")) (mCons (mC (.str " ")) (mCons (mC (.str "link a a")) mNil))))))))))) ([.strm, .sh (encS ls), .none, .sh (.int (a : Int)), .sh (.int (k : Int))] : Sl) z2 = .ok (encS odd2) z2 := by kernel_rfl
  have hA : ∀ z, mSl (mVar 1) mNoPart (mPart (mVar 3)) s4 z = .ok (encS (ls.take a)) z := fun z => by
    refine (e_sl rfl rfl (p_int rfl) (cutTo _ a)).trans ?_
    rw [← List.map_take]
  have hD : ∀ z, mSl (mVar 1) (mPart (mVar 3)) mNoPart s4 z = .ok (encS (ls.drop a)) z := fun z => by
    refine (e_sl rfl (p_int rfl) rfl (cutFrom _ a)).trans ?_
    rw [← List.map_drop]
  have hC : ∀ z, mSl (mVar 1) (mPart (mOp dAdd (mVar 3) (mC (.int 1)))) mNoPart s4 z = .ok (encS (ls.drop (a + 1))) z := fun z => by
    refine (e_sl rfl (p_int (e_op rfl rfl rfl)) rfl (cutFrom _ (a + 1))).trans ?_
    rw [← List.map_drop]
  have kq : ∀ j : Nat, mB (mOp dEq (mVar 4) (mC (.int (j : Int)))) s4 z2 = .ok (decide (k = j)) z2 := fun j => t_B (e_op rfl rfl (int_eq k j))
  have kl : mB (mOp dEq (mVar 3) (mCall dLen (mCons (mVar 1) mNil))) s4 z2 = .ok (decide (a = ls.length)) z2 := t_B (e_op rfl (e_call1 rfl (dLen_enc ls)) (int_eq a ls.length))
  have kor : mOr (mB (mOp dEq (mVar 4) (mC (.int 0)))) (mB (mOp dEq (mVar 3) (mCall dLen (mCons (mVar 1) mNil)))) s4 z2 = .ok (decide (k = 0) || decide (a = ls.length)) z2 := t_or (kq 0) fun _ => kl
  have k1 := kq 1
  have k2 := kq 2
  have head : ∀ (p : Sl → FR) (r : SM), (∃ s1, r s4 z2 = p s1) → ∃ s1, mSeq (mPar [3, 4] [(false, (mCallS 0 1 g__law_draw (mCons (mOp dAdd (mCall dLen (mCons (mVar 1) mNil)) (mC (.int 1))) mNil))), (false, (mCallS 0 1 g__law_draw (mCons (mC (.int 6)) mNil)))]) (mSeq (mAsg (tgN 2) (mDisp .lst (mCons (mC (.str "")) (mCons (mC (.str "asks a")) (mCons (mC (.str "row 1")) (mCons (mC (.str "hand a")) (mCons (mC (.str "link a b")) (mCons (mC (.str "row")) (mCons (mC (.str "hand")) (mCons (mC (.str "link a")) (mCons (mC (.str "asks")) (mCons (mC (.str " ")) (mCons (mC (.str "link a a")) mNil))))))))))))) r) [.strm, .sh (encS ls), .none, .none, .none] z = p s1 := fun p r hr => ex_eq (s_parFF (e_callS1 (x := .int ((ls.length + 1 : Nat) : Int)) rfl (e_op (e_call1 rfl (dLen_enc ls)) rfl rfl) e1) (e_callS1 rfl rfl e2)) (ex_eq (s_asg hodd) hr)
  have go : ∀ (ls' : List Str) (z' : Z), (∃ s1, m__law_bent [.strm, .sh (encS ls), .none, .none, .none] z = .rt (encS ls') s1 z') → LS (n + 1) (2 * L + 44) ls' → Zok z' (B + 20) → ∃ ls' z', g__law_bent [encS ls] z = .ok (encS ls') z' ∧ LS (n + 1) (2 * L + 44) ls' ∧ Zok z' (B + 20) := fun ls' z' h h2 h3 => ⟨ls', z', f_retE rfl h, h2, h3⟩
  cases c0 : (decide (k = 0) || decide (a = ls.length)) with
  | true =>
    rw [c0] at kor
    obtain ⟨x, z3, e3, hx, hz3⟩ := pick_l (l := odd2) hz2 (by omega) (by decide) (by decide)
    have hx41 := odd2_len x hx
    refine go ((ls.take a ++ [x]) ++ ls.drop a) z3 ?_ (LS.app (by rw [List.length_append, List.length_take, List.length_drop, List.length_singleton]; omega) (fun w q => ?_) fun w q => hw w (List.mem_of_mem_drop q)) (hz3.mono (by omega))
    · unfold m__law_bent
      refine head _ _ ⟨_, s_gT kor (e_op (e_op (hA _) (e_disp (mk := .lst) (ds := [.str x]) (e_cons (e_callS1 rfl rfl e3) e_nil) (by show 1 ≤ lim; decide)) (add_l (b := [x]) (by rw [List.length_take, List.length_singleton]; omega))) (hD _) (add_l (by rw [List.length_append, List.length_take, List.length_drop, List.length_singleton]; omega)))⟩
    · rcases List.mem_append.mp q with q | q
      · exact hw w (List.mem_of_mem_take q)
      · rw [List.mem_singleton.mp q]; omega
  | false =>
    rw [c0] at kor
    rw [Bool.or_eq_false_iff, decide_eq_false_iff_not, decide_eq_false_iff_not] at c0
    have ha2 : a < ls.length := by omega
    cases c1 : decide (k = 1) with
    | true =>
      rw [c1] at k1
      refine go (ls.take a ++ ls.drop (a + 1)) z2 ?_ (LS.app (by rw [List.length_take, List.length_drop]; omega) (fun w q => hw w (List.mem_of_mem_take q)) fun w q => hw w (List.mem_of_mem_drop q)) (hz2.mono (by omega))
      unfold m__law_bent
      exact head _ _ (ex_eq (s_gF kor) ⟨_, s_gT k1 (e_op (hA _) (hC _) (add_l (by rw [List.length_take, List.length_drop]; omega)))⟩)
    | false =>
      rw [c1] at k1
      cases c2 : decide (k = 2) with
      | true =>
        rw [c2] at k2
        obtain ⟨m, em⟩ := cutMid (ls.map D.str) a
        have hM : ∀ z, mSl (mVar 1) (mPart (mVar 3)) (mPart (mOp dAdd (mVar 3) (mC (.int 1)))) s4 z = .ok (encS ((ls.drop m).take 1)) z := fun z => by
          refine (e_sl rfl (p_int rfl) (p_int (i := ((a + 1 : Nat) : Int)) (e_op rfl rfl rfl)) em).trans ?_
          rw [← List.map_drop, ← List.map_take]
        refine go ((ls.take a ++ (ls.drop m).take 1) ++ ls.drop a) z2 ?_ (LS.app (by simp only [List.length_append, List.length_take, List.length_drop]; omega) (fun w q => ?_) fun w q => hw w (List.mem_of_mem_drop q)) (hz2.mono (by omega))
        · unfold m__law_bent
          exact head _ _ (ex_eq (s_gF kor) (ex_eq (s_gF k1) ⟨_, s_gT k2 (e_op (e_op (hA _) (hM _) (add_l (by simp only [List.length_take]; omega))) (hD _) (add_l (by simp only [List.length_append, List.length_take, List.length_drop]; omega)))⟩))
        · rcases List.mem_append.mp q with q | q
          · exact hw w (List.mem_of_mem_take q)
          · exact hw w (List.mem_of_mem_drop (List.mem_of_mem_take q))
      | false =>
        rw [c2] at k2
        have hix : mOp dIx (mVar 1) (mVar 3) s4 z2 = .ok (.str ls[a]) z2 := by
          refine (e_op rfl rfl (ix_k (by rw [List.length_map]; exact ha2))).trans ?_
          rw [List.getElem_map]
        obtain ⟨x, z3, e3, hx, hz3⟩ := bent_line (w := ls[a]) (L := L) (h.l _ (List.getElem_mem ha2)) hL hz2 (by omega)
        refine go ((ls.take a ++ [x]) ++ ls.drop (a + 1)) z3 ?_ (LS.app (by rw [List.length_append, List.length_take, List.length_drop, List.length_singleton]; omega) (fun w q => ?_) fun w q => hw w (List.mem_of_mem_drop q)) (hz3.mono (by omega))
        · unfold m__law_bent
          exact head _ _ (ex_eq (s_gF kor) (ex_eq (s_gF k1) (ex_eq (s_gF k2) (rt_ret (e_op (e_op (hA _) (e_disp (mk := .lst) (ds := [.str x]) (e_cons (e_callS1 rfl hix e3) e_nil) (by show 1 ≤ lim; decide)) (add_l (b := [x]) (by rw [List.length_take, List.length_singleton]; omega))) (hC _) (add_l (by rw [List.length_append, List.length_take, List.length_drop, List.length_singleton]; omega)))))))
        · rcases List.mem_append.mp q with q | q
          · exact hw w (List.mem_of_mem_take q)
          · rw [List.mem_singleton.mp q]; exact hx
theorem d_text {ls : List Str} {n L : Nat} (z : Z) (h : LS n L ls) (hn : n * (L + 1) ≤ 3800) : ∃ x, g__law_d_text [encS ls] z = .ok (.str x) z ∧ x.length ≤ n * (L + 1) := by
  have el : lim = 1000000 := rfl
  have hl := h.n
  have e1 : ∀ w ∈ ls.map (· ++ nl), w.length ≤ L + 1 := fun w hw => by
    obtain ⟨v, hv, rfl⟩ := List.mem_map.mp hw
    have := h.l v hv
    show (v ++ nl).length ≤ L + 1
    rw [la]
    have : nl.length = 1 := rfl
    omega
  have e2 := sum_le e1
  rw [List.length_map] at e2
  have e3 : ls.length * (L + 1) ≤ n * (L + 1) := Nat.mul_le_mul_right _ hl
  have e4 : ls.length ≤ ls.length * (L + 1) := Nat.le_mul_of_pos_right _ (by omega)
  refine ⟨Txt.join em (ls.map (· ++ nl)), ?_, by rw [joinE_len]; omega⟩
  refine f_ret (s0 := [.sh (encS ls), .none]) (s1 := [.sh (encS ls), .none]) rfl (s_ret (e_m1 (w := em) rfl (lc_yes (f := fun w => D.str (w ++ nl)) (items_lst rfl (by rw [List.length_map]; omega)) fun w hw => ⟨_, rfl, e_op rfl rfl (add_s ?_)⟩) ?_))
  · have := h.l w hw
    have q := Nat.le_trans (Nat.le_mul_of_pos_left (L + 1) (show 0 < ls.length from List.length_pos_of_mem hw)) e3
    show w.length + ("\n" : Str).length ≤ 100000
    have : ("\n" : Str).length = 1 := rfl
    omega
  · have e5 : ls.map (fun w => D.str (w ++ nl)) = (ls.map (· ++ nl)).map D.str := by rw [List.map_map]; rfl
    rw [e5]
    refine dJoin_map ?_
    have e : em.length = 0 := rfl
    rw [e]
    omega
end K88

set_option Elab.async false
set_option linter.all false
set_option maxRecDepth 100000
set_option maxHeartbeats 4000000
namespace K88
open PySem PySem.Spec PyProof.Rows L2 DL TL NumText
/-! ### the law -/
abbrev sl (a2 a3 a4 a5 a6 a7 a8 a9 a10 : Slot) : Sl := [.none, .strm, a2, a3, a4, a5, a6, a7, a8, a9, a10]
def bodyB : SM := (mSeq (mAsg (tgN 5) (mCallS 1 1 g__law_bent (mCons (mVar 5) mNil)))
  mSkip)
theorem oneB {i : Int} {n L : Nat} {ls : List Str} {z : Z} {B : Int} (h : LS n L ls) (hn : n ≤ 50) (hL : L ≤ 900) (hz : Zok z B) (hB : B + 200 < 2 ^ 40) (a2 a3 a4 a7 a8 a9 a10 : Slot) : ∃ ls1 z1, bodyB (sl a2 a3 a4 (.sh (encS ls)) (.sh (.int i)) a7 a8 a9 a10) z = .nx (sl a2 a3 a4 (.sh (encS ls1)) (.sh (.int i)) a7 a8 a9 a10) z1 ∧ LS (n + 1) (2 * L + 44) ls1 ∧ Zok z1 (B + 20) := by
  obtain ⟨ls1, z1, e1, h1, hz1⟩ := bent h hn hL hz hB
  refine ⟨ls1, z1, ?_, h1, hz1⟩
  have k : mCallS 1 1 g__law_bent (mCons (mVar 5) mNil) (sl a2 a3 a4 (.sh (encS ls)) (.sh (.int i)) a7 a8 a9 a10) z = .ok (encS ls1) z1 := e_callS1 rfl rfl e1
  unfold bodyB
  rw [s_asg k]
  rfl
theorem LS.up {n L n' L' : Nat} {ls : List Str} (h : LS n L ls) (h1 : n ≤ n') (h2 : L ≤ L') : LS n' L' ls := ⟨Nat.le_trans h.n h1, fun w hw => Nat.le_trans (h.l w hw) h2⟩
theorem loopB {t : Nat} {ls : List Str} {z : Z} {B : Int} (ht : t < 3) (h : LS 5 70 ls) (hz : Zok z B) (hB : B + 300 < 2 ^ 40) (a2 a3 a4 a6 a7 a8 a9 a10 : Slot) :
    ∃ ls' b6 z', mForG (tgN 6) bodyB ((List.range t).map fun (i : Nat) => D.int (i : Int)) (sl a2 a3 a4 (.sh (encS ls)) a6 a7 a8 a9 a10) z = .nx (sl a2 a3 a4 (.sh (encS ls')) b6 a7 a8 a9 a10) z' ∧ LS 7 412 ls' ∧ Zok z' (B + 40) := by
  have h3 : t = 0 ∨ t = 1 ∨ t = 2 := by omega
  rcases h3 with rfl | rfl | rfl
  · exact ⟨ls, a6, z, rfl, h.up (by decide) (by decide), hz.mono (by omega)⟩
  · obtain ⟨l1, z1, e1, q1, y1⟩ := oneB (i := 0) h (by decide) (by decide) hz (by omega) a2 a3 a4 a7 a8 a9 a10
    exact ⟨l1, _, z1, g_nx rfl e1, q1.up (by decide) (by decide), y1.mono (by omega)⟩
  · obtain ⟨l1, z1, e1, q1, y1⟩ := oneB (i := 0) h (by decide) (by decide) hz (by omega) a2 a3 a4 a7 a8 a9 a10
    obtain ⟨l2, z2, e2, q2, y2⟩ := oneB (i := 1) q1 (by decide) (by decide) y1 (by omega) a2 a3 a4 a7 a8 a9 a10
    exact ⟨l2, _, z2, (g_nx rfl e1).trans (g_nx rfl e2), q2.up (by decide) (by decide), y2.mono (by omega)⟩
theorem keys_HD {kvs : List (Key × D)} (h : HD 3 kvs) : ∃ l : List Str, keyVs kvs = l.map D.str ∧ short l := by
  obtain ⟨l, e, h1, h2⟩ := strs_of (ds := keyVs kvs) (L := 8) fun d hd => by
    obtain ⟨kv, hk, rfl⟩ := List.mem_map.mp hd
    obtain ⟨n, l, rfl, h1, _⟩ := h.at_ kv hk
    exact ⟨n, rfl, h1⟩
  refine ⟨l, e, ?_, h2⟩
  rw [h1]
  unfold keyVs
  rw [List.length_map]
  exact h.n
theorem dNeX_res (k : Nat) (x : Str) : dNeX (resT k x) (resT k x) = some (.bl false) := by
  have key : ∀ a : List Str, dNeX (tupS a) (tupS a) = some (.bl false) := fun a => by
    show (eqN 60 (tupS a) (tupS a)).map (fun b => D.bl (!b)) = _
    rw [eqN_tup 58, decide_eq_true rfl]
    rfl
  unfold resT
  split
  · exact key ["read", x]
  · exact key ["bad", x]
def bodyM : SM := (mSeq (mPar [9, 10] [(false, (mCallS 1 1 g__law_draw (mCons (mC (.int 3)) mNil))), (false, (mCallS 1 1 g__law_names (mCons (mOp dAdd (mC (.int 1)) (mCallS 1 1 g__law_draw (mCons (mC (.int 3)) mNil))) mNil)))])
  (mSeq (mAsg (tgN 4) (mCallS 1 2 g__law_d_hands (mCons (mVar 10) (mCons (mOp dAdd (mC (.int 1)) (mCallS 1 1 g__law_draw (mCons (mC (.int 3)) mNil))) mNil))))
  (mSeq (mAsg (tgN 5) (mIf (mB (mOp dEq (mVar 9) (mC (.int 0)))) (mCallF 1 g__law_d_table_lines (mCons (mCallS 1 2 g__law_d_rows (mCons (mVar 10) (mCons (mC (.int 4)) mNil))) mNil)) (mCallF 1 g__law_d_hands_lines (mCons (mVar 4) mNil))))
  (mSeq (mAsg (tgN 5) (mIf (mB (mOp dEq (mVar 9) (mC (.int 2)))) (mCallF 1 g__law_d_links_lines (mCons (mCallS 1 2 g__law_d_links (mCons (mCall dList1 (mCons (mVar 4) mNil)) (mCons (mC (.int 4)) mNil))) mNil)) (mVar 5)))
  (mSeq (mFor (mRange1 (mCallS 1 1 g__law_draw (mCons (mC (.int 3)) mNil))) (tgN 6) (mSeq (mAsg (tgN 5) (mCallS 1 1 g__law_bent (mCons (mVar 5) mNil)))
  mSkip))
  (mSeq (mAsg (tgN 7) (mOp dAdd (mCallF 1 g__law_d_text (mCons (mVar 5) mNil)) (mCallS 1 1 g__law_pick (mCons (mDisp .lst (mCons (mC (.str "")) (mCons (mC (.str "")) (mCons (mC (.str "")) (mCons (mC (.str "x")) (mCons (mC (.str "link a b")) (mCons (mC (.str " ")) mNil))))))) mNil))))
  (mSeq (mAsg (tgN 8) (mIf (mB (mCallF 2 g__law_is_text (mCons (mVar 9) (mCons (mVar 7) mNil)))) (mDisp .tup (mCons (mC (.str "read")) (mCons (mVar 7) mNil))) (mDisp .tup (mCons (mC (.str "bad")) (mCons (mVar 7) mNil)))))
  (mSeq (mIfS (mB (mOp dNeX (mCallF 2 g__law_tried (mCons (mVar 9) (mCons (mVar 7) mNil))) (mVar 8))) (mSeq (mRet (mC (.bl false)))
  mSkip) mSkip)
  mSkip))))))))
def ends : List Str := ["", "", "", "x", "link a b", " "]
theorem ends_len : ∀ w ∈ ends, w.length ≤ 8 := by decide +kernel
end K88

set_option Elab.async false
set_option linter.all false
set_option maxRecDepth 100000
set_option maxHeartbeats 4000000
namespace K88
open PySem PySem.Spec PyProof.Rows L2 DL TL NumText
theorem turn {z : Z} {B : Int} (hz : Zok z B) (hB : B + 1000 < 2 ^ 40) (a2 a3 a4 a5 a6 a7 a8 a9 a10 : Slot) : ∃ b4 b5 b6 b7 b8 b9 b10 z', bodyM (sl a2 a3 a4 a5 a6 a7 a8 a9 a10) z = .nx (sl a2 a3 b4 b5 b6 b7 b8 b9 b10) z' ∧ Zok z' (B + 400) := by
  have el : lim = 1000000 := rfl
  obtain ⟨k, z1, e1, hk, hz1⟩ := draw_k 3 hz (by omega) (by decide) (by decide)
  obtain ⟨n, z2, e2, hn, hz2⟩ := draw_k 3 hz1 (by omega) (by decide) (by decide)
  obtain ⟨names, z3, e3, h3, hd, hw, hz3⟩ := law_names (n := 1 + n) (by omega) hz2 (by omega)
  have hs : short names := ⟨by omega, hw⟩
  obtain ⟨m, z4, e4, hm, hz4⟩ := draw_k 3 hz3 (by omega) (by decide) (by decide)
  obtain ⟨kvs, z5, e5, hH, hz5⟩ := law_d_hands (n := 1 + m) hs (by omega) hz4 (by omega)
  have c1 : ∀ j : Nat, (D.int (1 + (j : Int))) = D.int (((1 + j : Nat)) : Int) := fun j => congrArg D.int (by omega)
  -- the lines
  have step5 : ∃ ls z6, mIf (mB (mOp dEq (mVar 9) (mC (.int 0)))) (mCallF 1 g__law_d_table_lines (mCons (mCallS 1 2 g__law_d_rows (mCons (mVar 10) (mCons (mC (.int 4)) mNil))) mNil)) (mCallF 1 g__law_d_hands_lines (mCons (mVar 4) mNil)) (sl a2 a3 (.sh (.dic kvs)) a5 a6 a7 a8 (.sh (.int (k : Int))) (.sh (encS names))) z5 = .ok (encS ls) z6 ∧ LS 5 70 ls ∧ Zok z6 (B + 120) := by
    have hq : mB (mOp dEq (mVar 9) (mC (.int 0))) (sl a2 a3 (.sh (.dic kvs)) a5 a6 a7 a8 (.sh (.int (k : Int))) (.sh (encS names))) z5 = .ok (decide (k = 0)) z5 := t_B (e_op rfl rfl (int_eq k 0))
    cases c : decide (k = 0) with
    | true =>
      rw [c] at hq
      obtain ⟨rs, z6, e6, h1, h2, h3, hz6⟩ := law_d_rows hs hd hz5 (by omega)
      obtain ⟨ls, e7, h7⟩ := law_d_table_lines zDum hs hd h1 h2 h3
      exact ⟨ls, z6, e_ifT hq (e_callF1 (e_callS2 rfl rfl rfl e6) e7), h7, hz6.mono (by omega)⟩
    | false =>
      rw [c] at hq
      obtain ⟨ls, e7, h7⟩ := law_d_hands_lines zDum hH
      exact ⟨ls, z5, e_ifF hq (e_callF1 rfl e7), h7, hz5.mono (by omega)⟩
  obtain ⟨ls5, z6, e6, h6, hz6⟩ := step5
  have step6 : ∃ ls z7, mIf (mB (mOp dEq (mVar 9) (mC (.int 2)))) (mCallF 1 g__law_d_links_lines (mCons (mCallS 1 2 g__law_d_links (mCons (mCall dList1 (mCons (mVar 4) mNil)) (mCons (mC (.int 4)) mNil))) mNil)) (mVar 5) (sl a2 a3 (.sh (.dic kvs)) (.sh (encS ls5)) a6 a7 a8 (.sh (.int (k : Int))) (.sh (encS names))) z6 = .ok (encS ls) z7 ∧ LS 5 70 ls ∧ Zok z7 (B + 140) := by
    have hq : mB (mOp dEq (mVar 9) (mC (.int 2))) (sl a2 a3 (.sh (.dic kvs)) (.sh (encS ls5)) a6 a7 a8 (.sh (.int (k : Int))) (.sh (encS names))) z6 = .ok (decide (k = 2)) z6 := t_B (e_op rfl rfl (int_eq k 2))
    cases c : decide (k = 2) with
    | true =>
      rw [c] at hq
      obtain ⟨hl, eh, hh⟩ := keys_HD hH
      obtain ⟨ps, z7, e7, h1, h2, hz7⟩ := law_d_links hh hz6 (by omega)
      obtain ⟨ls, e8, h8⟩ := law_d_links_lines zDum h1 h2
      have ek : dList1 [.dic kvs] = some (encS hl) := by
        show some (D.lst (keyVs kvs)) = _
        rw [eh]
      exact ⟨ls, z7, e_ifT hq (e_callF1 (e_callS2 rfl (e_call1 rfl ek) rfl e7) e8), h8, hz7.mono (by omega)⟩
    | false =>
      rw [c] at hq
      exact ⟨ls5, z6, e_ifF hq rfl, h6, hz6.mono (by omega)⟩
  obtain ⟨ls6, z7, e7, h7, hz7⟩ := step6
  obtain ⟨t, z8, e8, ht, hz8⟩ := draw_k 3 hz7 (by omega) (by decide) (by decide)
  obtain ⟨ls7, b6, z9, e9, h9, hz9⟩ := loopB (B := B + 141) ht h7 (hz8.mono (by omega)) (by omega) a2 a3 (.sh (.dic kvs)) a6 a7 a8 (.sh (.int (k : Int))) (.sh (encS names))
  obtain ⟨x, e10, h10⟩ := d_text zDum h9 (by decide)
  obtain ⟨w, z10, e11, hwm, hz10⟩ := pick_l (l := ends) hz9 (by omega) (by decide) (by decide)
  have hw8 := ends_len w hwm
  have hxw : (x ++ w).length ≤ tlim := by
    rw [la]
    have e : tlim = 3900 := rfl
    omega
  let s10 : Sl := sl a2 a3 (.sh (.dic kvs)) (.sh (encS ls7)) b6 a7 a8 (.sh (.int (k : Int))) (.sh (encS names))
  have hpick : mCallS 1 1 g__law_pick (mCons (mDisp .lst (mCons (mC (.str "")) (mCons (mC (.str "")) (mCons (mC (.str "")) (mCons (mC (.str "x")) (mCons (mC (.str "link a b")) (mCons (mC (.str " ")) mNil))))))) mNil) s10 z9 = .ok (.str w) z10 := e_callS1 (x := encS ends) rfl (by kernel_rfl) e11
  let s11 : Sl := sl a2 a3 (.sh (.dic kvs)) (.sh (encS ls7)) b6 (.sh (.str (x ++ w))) a8 (.sh (.int (k : Int))) (.sh (encS names))
  have h8 : mIf (mB (mCallF 2 g__law_is_text (mCons (mVar 9) (mCons (mVar 7) mNil)))) (mDisp .tup (mCons (mC (.str "read")) (mCons (mVar 7) mNil))) (mDisp .tup (mCons (mC (.str "bad")) (mCons (mVar 7) mNil))) s11 z10 = .ok (resT k (x ++ w)) z10 := by
    have hq : mB (mCallF 2 g__law_is_text (mCons (mVar 9) (mCons (mVar 7) mNil))) s11 z10 = .ok (isT k (x ++ w)) z10 := t_B (e_callF2 rfl rfl (law_is_text _ hk hxw))
    refine e_if hq (fun c => ?_) fun c => ?_
    · unfold resT
      rw [if_pos c]
      exact e_disp (e_cons rfl (e_cons rfl e_nil)) (by show 2 ≤ lim; decide)
    · unfold resT
      rw [if_neg (by rw [c]; decide)]
      exact e_disp (e_cons rfl (e_cons rfl e_nil)) (by show 2 ≤ lim; decide)
  refine ⟨.sh (.dic kvs), .sh (encS ls7), b6, .sh (.str (x ++ w)), .sh (resT k (x ++ w)), .sh (.int (k : Int)), .sh (encS names), z10, ?_, hz10.mono (by omega)⟩
  unfold bodyM
  refine (s_parFF (e_callS1 rfl rfl e1) (e_callS1 (x := .int ((1 + n : Nat) : Int)) rfl (e_op rfl (e_callS1 rfl rfl e2) (congrArg some (c1 n))) e3)).trans ?_
  refine (s_asg (e_callS2 (y := .int ((1 + m : Nat) : Int)) rfl rfl (e_op rfl (e_callS1 rfl rfl e4) (congrArg some (c1 m))) e5)).trans ?_
  refine (s_asg e6).trans ?_
  refine (s_asg e7).trans ?_
  refine (s_seq ((s_for (range_ev (e_callS1 rfl rfl e8) (by omega))).trans e9)).trans ?_
  refine (s_asg (e_op (e_callF1 rfl e10) hpick (add_s (by omega)))).trans ?_
  refine (s_asg h8).trans ?_
  exact (s_gF (t_B (e_op (e_callF2 rfl rfl (law_tried _ hk hxw)) rfl (dNeX_res k _)))).trans rfl
end K88

set_option Elab.async false
set_option linter.all false
set_option maxRecDepth 100000
set_option maxHeartbeats 4000000
namespace K88
open PySem PySem.Spec PyProof.Rows L2 DL TL NumText
theorem rest_is : ∃ r : SM, m_law = mSeq (mFor (mRange1 (mC (.int 8))) (tgN 2) bodyM) r ∧ ∀ (a2 a3 a4 a5 a6 a7 a8 a9 a10 : Slot) (z : Z), ∃ s1, r (sl a2 a3 a4 a5 a6 a7 a8 a9 a10) z = .rt (.bl true) s1 z := by
  refine ⟨_, rfl, fun a2 a3 a4 a5 a6 a7 a8 a9 a10 z => ⟨sl a2 (.sh (.tup [.str "asks a", .str "row 1"])) a4 a5 a6 a7 a8 a9 a10, ?_⟩⟩
  kernel_rfl
end K88

set_option Elab.async false
set_option linter.all false
set_option maxRecDepth 100000
set_option maxHeartbeats 4000000
namespace K88
open PySem PySem.Spec PyProof.Rows L2 DL TL NumText
theorem turns : ∀ (l : List Nat) (z : Z) (B : Int) (a2 a3 a4 a5 a6 a7 a8 a9 a10 : Slot), Zok z B → B + l.length * 400 + 1000 < 2 ^ 40 → ∃ b2 b3 b4 b5 b6 b7 b8 b9 b10 z', mForG (tgN 2) bodyM (l.map fun (i : Nat) => D.int (i : Int)) (sl a2 a3 a4 a5 a6 a7 a8 a9 a10) z = .nx (sl b2 b3 b4 b5 b6 b7 b8 b9 b10) z'
  | [], z, B, a2, a3, a4, a5, a6, a7, a8, a9, a10, _, _ => ⟨a2, a3, a4, a5, a6, a7, a8, a9, a10, z, rfl⟩
  | i :: l, z, B, a2, a3, a4, a5, a6, a7, a8, a9, a10, hz, hB => by
    rw [List.length_cons] at hB
    obtain ⟨b4, b5, b6, b7, b8, b9, b10, z1, e1, hz1⟩ := turn hz (by omega) (.sh (.int (i : Int))) a3 a4 a5 a6 a7 a8 a9 a10
    obtain ⟨c2, c3, c4, c5, c6, c7, c8, c9, c10, z2, e2⟩ := turns l z1 (B + 400) (.sh (.int (i : Int))) a3 b4 b5 b6 b7 b8 b9 b10 hz1 (by omega)
    exact ⟨c2, c3, c4, c5, c6, c7, c8, c9, c10, z2, (g_nx rfl e1).trans e2⟩
theorem law_true : ∀ ns : List Int, ns.length ≤ 63 → ∃ s1 z1, m_law (.none :: .strm :: List.replicate 9 .none) ⟨ns, 0, 0, 11⟩ = .rt (.bl true) s1 z1 := fun ns _ => by
  have z0 : Zok ⟨ns, 0, 0, 11⟩ 0 := ⟨show (0 : Int) ≤ 11 by decide, show (11 : Int) < 2147483647 by decide, show (0 : Int) ≤ 0 by decide, show (0 : Int) ≤ 0 by decide, show (0 : Int) ≤ 0 by decide⟩
  obtain ⟨r, e, hr⟩ := rest_is
  obtain ⟨b2, b3, b4, b5, b6, b7, b8, b9, b10, z1, e1⟩ := turns (List.range 8) ⟨ns, 0, 0, 11⟩ 0 .none .none .none .none .none .none .none .none .none z0 (by decide)
  obtain ⟨s1, e2⟩ := hr b2 b3 b4 b5 b6 b7 b8 b9 b10 z1
  refine ⟨s1, z1, ?_⟩
  rw [e]
  exact (s_seq ((s_for (range_ev (n := 8) rfl (by decide))).trans e1)).trans e2
end K88

set_option Elab.async false
set_option linter.all false
set_option maxRecDepth 100000
set_option maxHeartbeats 0
namespace K88
open PySem PySem.Spec PyProof.Rows L2 XH EX DL RZ NdefX
theorem S__law_start : FnScope ["_law_script"] ["_law_script"] (defScope (top 51)) := ⟨rfl, rfl, rfl, by decide +kernel, rfl, by decide +kernel, by decide +kernel⟩
section
variable {P : Program} {w : World} {K : PySem.W.Frag} {mg : PySem.Str → Option Value} {base : Heap}
theorem ok__law_start (fx : Fx P w K mg base) {fd : FuncData} (F : FunD K "_law_start" "_law_start" (defArgs (top 51)) (defBody (top 51)) (defScope (top 51)) [] [] (He.ga K "_law_start") fd) : FnOk P w K mg base (L2.CX P w) 1 (He.ga K "_law_start") fd ["_law_script"] (spStart K) := by
  refine F.ok S__law_start (fun vs H Q E h => ?_) fun cdv A outer s H vs Q E hr h => ⟨_, pss_one (ps_ret (pe_lst (pa_cons (pe_callTy call_list_of rfl fx.g_list bt_list (pa_cons (pv 0) pa_nil)) (pa_cons pe_int (pa_cons pe_int (pa_cons pe_int pa_nil)))))), ?_⟩
  · obtain ⟨a, ns, rfl, _⟩ := h
    rfl
  · obtain ⟨a, ns, rfl, hS, q⟩ := h
    exact ⟨_, rfl, a, _, rfl, .inl hS, fun l hl => ⟨show 4 ≤ sizeLine by decide, fun p hp => q l p hl hp⟩⟩
def spLaw (K : PySem.W.Frag) : Sp := fun vs H Q _ => ∃ (a : Addr) (ns : List Int), vs = [.ref a] ∧ SqL K H a (ns.map V.int) ∧ ns.length ≤ 63 ∧ ∀ H', Q (.bl true) H'
theorem S_law : FnScope ["_law_script", "_law_stream", "_law_turn", "_law_odd", "_law_hands", "_law_lines", "_law_k", "_law_text", "_law_due", "_law_kind", "_law_names_here"] ["_law_script"] (defScope (top 68)) := ⟨rfl, rfl, rfl, by decide +kernel, rfl, by decide +kernel, by decide +kernel⟩
theorem law_rest (fx : Fx P w K mg base) (D__law_d_hands : DefOk P w K mg base (clK K) "_law_d_hands" 5 2 true g__law_d_hands) (D__law_draw : DefOk P w K mg base (clK K) "_law_draw" 1 1 true g__law_draw) (D__law_names : DefOk P w K mg base (clK K) "_law_names" 4 1 true g__law_names) (D__law_d_table_lines : DefOk P w K mg base (clK K) "_law_d_table_lines" 1 1 false g__law_d_table_lines) (D__law_d_hands_lines : DefOk P w K mg base (clK K) "_law_d_hands_lines" 1 1 false g__law_d_hands_lines) (D__law_d_links_lines : DefOk P w K mg base (clK K) "_law_d_links_lines" 1 1 false g__law_d_links_lines) (D__law_bent : DefOk P w K mg base (clK K) "_law_bent" 4 1 true g__law_bent) (D__law_d_text : DefOk P w K mg base (clK K) "_law_d_text" 1 1 false g__law_d_text) (D__law_pick : DefOk P w K mg base (clK K) "_law_pick" 2 1 true g__law_pick) (D__law_is_text : DefOk P w K mg base (clK K) "_law_is_text" 4 2 false g__law_is_text) (D__law_tried : DefOk P w K mg base (clK K) "_law_tried" 6 2 false g__law_tried) (D__law_same : DefOk P w K mg base (clK K) "_law_same" 6 2 false (g__law_same 6)) (D__law_d_rows : DefOk P w K mg base (clK K) "_law_d_rows" 2 2 true g__law_d_rows) (D__law_d_links : DefOk P w K mg base (clK K) "_law_d_links" 3 2 true g__law_d_links) (cdv : Value) (A : Around) (outer : List Env) (s : Shared) (H : Hp) (E : XK) (hr : Room 6 (A.deeper (envOfC "law" (defScope (top 68)) s.heap.objs.size (He.ga K "law") cdv))) (c : FC) (hcl : c.cl = clK K) (W : WX) (tk : L2.Takes (cxOf (L2.CX P w) P w K mg base ["_law_script", "_law_stream", "_law_turn", "_law_odd", "_law_hands", "_law_lines", "_law_k", "_law_text", "_law_due", "_law_kind", "_law_names_here"] "law" (defScope (top 68)) (He.ga K "law") cdv A outer s H E) W) :
    PSs (cxOf (L2.CX P w) P w K mg base ["_law_script", "_law_stream", "_law_turn", "_law_odd", "_law_hands", "_law_lines", "_law_k", "_law_text", "_law_due", "_law_kind", "_law_names_here"] "law" (defScope (top 68)) (He.ga K "law") cdv A outer s H E) ((defBody (top 68)).drop 1) (tS c W m_law) := by
  have nd := (S_law).nd
  have hu := hu64_of hr
  have hu1 := hu01_of hr
  have hp : PassesOwn (model P w) (cxOf (L2.CX P w) P w K mg base ["_law_script", "_law_stream", "_law_turn", "_law_odd", "_law_hands", "_law_lines", "_law_k", "_law_text", "_law_due", "_law_kind", "_law_names_here"] "law" (defScope (top 68)) (He.ga K "law") cdv A outer s H E).A (cxOf (L2.CX P w) P w K mg base ["_law_script", "_law_stream", "_law_turn", "_law_odd", "_law_hands", "_law_lines", "_law_k", "_law_text", "_law_due", "_law_kind", "_law_names_here"] "law" (defScope (top 68)) (He.ga K "law") cdv A outer s H E).env (cxOf (L2.CX P w) P w K mg base ["_law_script", "_law_stream", "_law_turn", "_law_odd", "_law_hands", "_law_lines", "_law_k", "_law_text", "_law_due", "_law_kind", "_law_names_here"] "law" (defScope (top 68)) (He.ga K "law") cdv A outer s H E).xe := passes_of rfl
  exact (ds_cons (ds_for (ps_for hp rfl (di_range1 rfl fx.g_range (dv df_int)) (dg_name (vs := [2]) (by decide) (pg_name (i := 2) nd rfl (by first | exact .inl rfl | exact .inr rfl))) (ds_cons (ds_par2 rfl rfl nd rfl rfl (by decide) rfl rfl (pa_cons (df_callSD (x := "_law_draw") D__law_draw hcl tk hr (by omega) rfl (pv 1) (daf_cons df_int daf_nil)) (pa_cons (df_callSD (x := "_law_names") D__law_names hcl tk hr (by omega) rfl (pv 1) (daf_cons (df_op op_add_data (dv df_int) (dv (df_callSD (x := "_law_draw") D__law_draw hcl tk hr (by omega) rfl (pv 1) (daf_cons df_int daf_nil)))) daf_nil)) pa_nil)))
  (ds_cons (ds_set (ps_set (i := 4) nd rfl (by first | exact .inl rfl | exact .inr rfl) (df_callSD (x := "_law_d_hands") D__law_d_hands hcl tk hr (by omega) rfl (pv 1) (daf_cons (df_var (pv 10)) (daf_cons (df_op op_add_data (dv df_int) (dv (df_callSD (x := "_law_draw") D__law_draw hcl tk hr (by omega) rfl (pv 1) (daf_cons df_int daf_nil)))) daf_nil)))) fun _ _ _ q => q)
  (ds_cons (ds_set (ps_set (i := 5) nd rfl (by first | exact .inl rfl | exact .inr rfl) (df_if (dt_cmp (op_eq_data hu) (dv (df_var (pv 9))) (dv df_int) (nomark _)) (df_callD (x := "_law_d_table_lines") D__law_d_table_lines hcl tk hr (by omega) rfl (daf_cons (df_callSD (x := "_law_d_rows") D__law_d_rows hcl tk hr (by omega) rfl (pv 1) (daf_cons (df_var (pv 10)) (daf_cons df_int daf_nil))) daf_nil)) (df_callD (x := "_law_d_hands_lines") D__law_d_hands_lines hcl tk hr (by omega) rfl (daf_cons (df_var (pv 4)) daf_nil)))) fun _ _ _ q => q)
  (ds_cons (ds_set (ps_set (i := 5) nd rfl (by first | exact .inl rfl | exact .inr rfl) (df_if (dt_cmp (op_eq_data hu) (dv (df_var (pv 9))) (dv df_int) (nomark _)) (df_callD (x := "_law_d_links_lines") D__law_d_links_lines hcl tk hr (by omega) rfl (daf_cons (df_callSD (x := "_law_d_links") D__law_d_links hcl tk hr (by omega) rfl (pv 1) (daf_cons (df_callTy (c_list1 rfl) rfl fx.g_list bt_list (dav_cons (dv (df_var (pv 4))) dav_nil)) (daf_cons df_int daf_nil))) daf_nil)) (df_var (pv 5)))) fun _ _ _ q => q)
  (ds_cons (ds_for (ps_for hp rfl (di_range1 rfl fx.g_range (dv (df_callSD (x := "_law_draw") D__law_draw hcl tk hr (by omega) rfl (pv 1) (daf_cons df_int daf_nil)))) (dg_name (vs := [6]) (by decide) (pg_name (i := 6) nd rfl (by first | exact .inl rfl | exact .inr rfl))) (ds_cons (ds_set (ps_set (i := 5) nd rfl (by first | exact .inl rfl | exact .inr rfl) (df_callSD (x := "_law_bent") D__law_bent hcl tk hr (by omega) rfl (pv 1) (daf_cons (df_var (pv 5)) daf_nil))) fun _ _ _ q => q)
  ds_nil)) (fun _ _ _ _ q => q) (fun _ _ _ q => q))
  (ds_cons (ds_set (ps_set (i := 7) nd rfl (by first | exact .inl rfl | exact .inr rfl) (df_op op_add_data (dv (df_callD (x := "_law_d_text") D__law_d_text hcl tk hr (by omega) rfl (daf_cons (df_var (pv 5)) daf_nil))) (dv (df_callSD (x := "_law_pick") D__law_pick hcl tk hr (by omega) rfl (pv 1) (daf_cons (dn (dn_lst (daf_cons df_str (daf_cons df_str (daf_cons df_str (daf_cons df_str (daf_cons df_str (daf_cons df_str daf_nil)))))))) daf_nil))))) fun _ _ _ q => q)
  (ds_cons (ds_set (ps_set (i := 8) nd rfl (by first | exact .inl rfl | exact .inr rfl) (df_if (dt_val (dv (df_callD (x := "_law_is_text") D__law_is_text hcl tk hr (by omega) rfl (daf_cons (df_var (pv 9)) (daf_cons (df_var (pv 7)) daf_nil))))) (dn (dn_tup (daf_cons df_str (daf_cons (df_var (pv 7)) daf_nil)))) (dn (dn_tup (daf_cons df_str (daf_cons (df_var (pv 7)) daf_nil)))))) fun _ _ _ q => q)
  (ds_cons (ds_if (dt_cmp (op_neX_data hu) (dv (df_callD (x := "_law_tried") D__law_tried hcl tk hr (by omega) rfl (daf_cons (df_var (pv 9)) (daf_cons (df_var (pv 7)) daf_nil)))) (dv (df_var (pv 8))) (nomark _)) (ds_cons (ds_ret df_bl)
  ds_nil) ds_nil)
  ds_nil))))))))) (fun _ _ _ _ q => q) (fun _ _ _ q => q))
  (ds_cons (ds_for (ps_for hp rfl (di_any (dn (dn_lst (daf_cons df_non (daf_cons df_int (daf_cons (dn (dn_lst (daf_cons df_str daf_nil))) (daf_cons df_bl (daf_cons (dn dn_dic0) (daf_cons (dn (dn_tup (daf_cons df_str (daf_cons df_str daf_nil)))) daf_nil))))))))) (dg_name (vs := [3]) (by decide) (pg_name (i := 3) nd rfl (by first | exact .inl rfl | exact .inr rfl))) (ds_cons (ds_if (dt_not (dt_val (dv (df_callD (x := "_law_same") D__law_same hcl tk hr (by omega) rfl (daf_cons (dn (dn_lc (own := [("_law_kind", 9)]) rfl nd (di_range1 rfl fx.g_range (dv df_int)) (blkOk_by (by kernel_rfl)) (fun _ _ _ _ _ => (dg_name (vs := [9]) (by decide) (pg_name (i := 9) nd rfl (by first | exact .inl rfl | exact .inr rfl)))) (fun _ _ _ _ _ => dts_nil) (fun _ _ _ _ _ => (df_callD (x := "_law_tried") D__law_tried hcl takes0 hr (by omega) rfl (daf_cons (df_var (pv 9)) (daf_cons (df_var (pv 3)) daf_nil)))))) (daf_cons (df_op op_mulX_data (dv (dn (dn_lst (daf_cons (dn (dn_tup (daf_cons df_str (daf_cons (df_var (pv 3)) daf_nil)))) daf_nil)))) (dv df_int)) daf_nil)))))) (ds_cons (ds_ret df_bl)
  ds_nil) ds_nil)
  ds_nil)) (fun _ _ _ _ q => q) (fun _ _ _ q => q))
  (ds_cons (ds_ret (df_cmp (op_eq_data hu) (dv (dn (dn_lc (own := [("_law_kind", 9)]) rfl nd (di_range1 rfl fx.g_range (dv df_int)) (blkOk_by (by kernel_rfl)) (fun _ _ _ _ _ => (dg_name (vs := [9]) (by decide) (pg_name (i := 9) nd rfl (by first | exact .inl rfl | exact .inr rfl)))) (fun _ _ _ _ _ => dts_nil) (fun _ _ _ _ _ => (df_callD (x := "_law_tried") D__law_tried hcl takes0 hr (by omega) rfl (daf_cons (df_var (pv 9)) (daf_cons df_str daf_nil))))))) (dv (dn (dn_lst (daf_cons (dn (dn_tup (daf_cons df_str (daf_cons df_str daf_nil)))) (daf_cons (dn (dn_tup (daf_cons df_str (daf_cons df_str daf_nil)))) (daf_cons (dn (dn_tup (daf_cons df_str (daf_cons df_str daf_nil)))) daf_nil)))))) (nomark _)))
  ds_nil)))
theorem ok_law (fx : Fx P w K mg base) (D__law_d_hands : DefOk P w K mg base (clK K) "_law_d_hands" 5 2 true g__law_d_hands) (D__law_draw : DefOk P w K mg base (clK K) "_law_draw" 1 1 true g__law_draw) (D__law_names : DefOk P w K mg base (clK K) "_law_names" 4 1 true g__law_names) (D__law_d_table_lines : DefOk P w K mg base (clK K) "_law_d_table_lines" 1 1 false g__law_d_table_lines) (D__law_d_hands_lines : DefOk P w K mg base (clK K) "_law_d_hands_lines" 1 1 false g__law_d_hands_lines) (D__law_d_links_lines : DefOk P w K mg base (clK K) "_law_d_links_lines" 1 1 false g__law_d_links_lines) (D__law_bent : DefOk P w K mg base (clK K) "_law_bent" 4 1 true g__law_bent) (D__law_d_text : DefOk P w K mg base (clK K) "_law_d_text" 1 1 false g__law_d_text) (D__law_pick : DefOk P w K mg base (clK K) "_law_pick" 2 1 true g__law_pick) (D__law_is_text : DefOk P w K mg base (clK K) "_law_is_text" 4 2 false g__law_is_text) (D__law_tried : DefOk P w K mg base (clK K) "_law_tried" 6 2 false g__law_tried) (D__law_same : DefOk P w K mg base (clK K) "_law_same" 6 2 false (g__law_same 6)) (D__law_d_rows : DefOk P w K mg base (clK K) "_law_d_rows" 2 2 true g__law_d_rows) (D__law_d_links : DefOk P w K mg base (clK K) "_law_d_links" 3 2 true g__law_d_links) {fd fd0 : FuncData} (F0 : FunD K "_law_start" "_law_start" (defArgs (top 51)) (defBody (top 51)) (defScope (top 51)) [] [] (He.ga K "_law_start") fd0) (F : FunD K "law" "law" (defArgs (top 68)) (defBody (top 68)) (defScope (top 68)) [] [] (He.ga K "law") fd) : FnOk P w K mg base (L2.CX P w) 7 (He.ga K "law") fd ["_law_script"] (spLaw K) := by
  have b0 : Binds K fd0 ["_law_script"] [] := F0.bindsN fun _ _ _ _ _ _ us hl => match us, hl with | [_], _ => rfl
  refine F.ok S_law (fun vs H Q E h => ?_) fun cdv A outer s H vs Q E hr h => ⟨_, pss_cons (ps_set (i := 1) S_law.nd rfl (.inl rfl) (pe_callS (E := fun _ _ _ _ => False) (ok__law_start fx F0) (hr.mono (by decide)) rfl fx.gl__law_start F0.kp b0 (fun σ pins H1 s1 e1 s2 I1 h1 => no_pass pins σ H1 s1 e1 s2 I1 h1) (pa_cons (pv 0) pa_nil))) (pss_ex (cl := clK K) fun c hc => law_rest fx D__law_d_hands D__law_draw D__law_names D__law_d_table_lines D__law_d_hands_lines D__law_d_links_lines D__law_bent D__law_d_text D__law_pick D__law_is_text D__law_tried D__law_same D__law_d_rows D__law_d_links cdv A outer s H E hr c hc _ (takes_of (E := E) rfl rfl rfl rfl)), ?_⟩
  · obtain ⟨a, ns, rfl, _⟩ := h
    rfl
  · obtain ⟨a, ns, rfl, hS, hn, q⟩ := h
    refine ⟨_, rfl, a, ns, rfl, hS, fun p p2 hp hp2 => ?_⟩
    obtain ⟨s1, z1, e⟩ := law_true ns hn
    refine ⟨_, rfl, _, sr_law hp2 hp rfl rfl, ?_⟩
    show WntS _ _ _ _ (m_law (.none :: .strm :: List.replicate 9 .none) ⟨ns, 0, 0, 11⟩)
    rw [e]
    intro σ' H' w' v _ _ _ _ r
    cases r
    exact q H'
end
end K88

set_option Elab.async false
set_option linter.all false
set_option maxRecDepth 100000
set_option maxHeartbeats 0
namespace K88
open PySem PySem.Spec PyProof.Rows L2 XH EX DL
def obL (g : Addr → Option Obj) : AlI := obsI R.prog fa fn ini ex (He.frG g asL)
abbrev hk : PySem.W.Hook where
  α := AlI
  obs := fun s => obL s.heap.get?
  val := fun _ => valI fn ini
  says := fun _ h => ∃ K : PySem.W.Frag, K.In h ∧ SaysI R.prog fa fn ini ex K
  of := fun _ _ e => ⟨_, He.frG_in, saysI_of e⟩
  keeps := fun _ _ _ ⟨K, hK, c⟩ k => ⟨K, PySem.W.Frag.In.keeps hK k, c⟩
def ob (s : PySem.W.SharedT) : AlI := obL (HandSHeadRun.getT s)
theorem ob_eq (s : PySem.W.SharedT) : ob s = hk.obs s.abs := by
  have e : HandSHeadRun.getT s = s.abs.heap.get? := funext fun a => HandSHeadRun.getT_eq s a
  exact congrArg obL e
theorem comb {α β γ δ ζ : Type} {e : Option α} {f : α → β × γ} {p : α → δ} {q : α → Bool × ζ} {b : β} {c : γ} {d : δ} {z : ζ} (h1 : e.map f = some (b, c)) (h2 : e.map p = some d) (h3 : e.map q = some (true, z)) : e.map (fun s => ((f s).1, (f s).2, (p s, (q s).1, (q s).2))) = some (b, c, (d, true, z)) := by
  cases e with
  | none => cases h1
  | some s =>
    have h1 : f s = (b, c) := Option.some.inj h1
    have h2 : p s = d := Option.some.inj h2
    have h3 : q s = (true, z) := Option.some.inj h3
    show some ((f s).1, (f s).2, (p s, (q s).1, (q s).2)) = _
    rw [h1, h2, h3]
theorem run (w : World) : HandSHeadRun.RunEq R qv hk ob 60000 loose w := fun os => by
  have h := comb (run1 w os) (run2 w os) (run3 w os)
  exact h
end K88

namespace K88
open PySem PySem.Spec PyProof.Rows L2 XH EX DL
theorem facts {w : World} {K : PySem.W.Frag} {h : Heap} {mg : PySem.Str → Option Value} {f : Addr} (X : K.In h) (G : h.Ns mainGlobals mg) (hfa : mg ("law" : PySem.Str) = some (.ref f)) (c : SaysI R.prog fa fn ini ex K) :
    ∃ fd : FuncData, (∀ (s : Shared) (v : Value), BindsTo s fd ⟨[v], []⟩ [("_law_script", v)]) ∧ ∀ base : Heap, K.In base → base.Ns mainGlobals mg → FnOk R.prog w K mg base (L2.CX R.prog w) 7 f fd ["_law_script"] (spLaw K) := by
  obtain ⟨fd0, F0⟩ := c.d.def_ 0 (d := d__law_draw) rfl
  obtain ⟨fd1, F1⟩ := c.d.def_ 1 (d := d__law_pick) rfl
  obtain ⟨fd2, F2⟩ := c.d.def_ 2 (d := d__law_name) rfl
  obtain ⟨fd3, F3⟩ := c.d.def_ 3 (d := d__law_names) rfl
  obtain ⟨fd4, F4⟩ := c.d.def_ 4 (d := d__law_mixed) rfl
  obtain ⟨fd5, F5⟩ := c.d.def_ 5 (d := d__law_d_hands) rfl
  obtain ⟨fd6, F6⟩ := c.d.def_ 6 (d := d__law_d_table_lines) rfl
  obtain ⟨fd7, F7⟩ := c.d.def_ 7 (d := d__law_d_hands_lines) rfl
  obtain ⟨fd8, F8⟩ := c.d.def_ 8 (d := d__law_d_links_lines) rfl
  obtain ⟨fd9, F9⟩ := c.d.def_ 9 (d := d__law_bent_line) rfl
  obtain ⟨fd10, F10⟩ := c.d.def_ 10 (d := d__law_bent) rfl
  obtain ⟨fd11, F11⟩ := c.d.def_ 11 (d := d__law_d_text) rfl
  obtain ⟨fd12, F12⟩ := c.d.def_ 12 (d := d__law_is_name_word) rfl
  obtain ⟨fd13, F13⟩ := c.d.def_ 13 (d := d__law_are_names) rfl
  obtain ⟨fd14, F14⟩ := c.d.def_ 14 (d := d__law_is_number_word) rfl
  obtain ⟨fd15, F15⟩ := c.d.def_ 15 (d := d__law_is_table) rfl
  obtain ⟨fd16, F16⟩ := c.d.def_ 16 (d := d__law_are_hands) rfl
  obtain ⟨fd17, F17⟩ := c.d.def_ 17 (d := d__law_are_links) rfl
  obtain ⟨fd18, F18⟩ := c.d.def_ 18 (d := d__law_is_text) rfl
  obtain ⟨fd19, F19⟩ := c.d.def_ 19 (d := d_Table_questions) rfl
  obtain ⟨fd20, F20⟩ := c.d.def_ 20 (d := d_Table_rows) rfl
  obtain ⟨fd21, F21⟩ := c.d.def_ 21 (d := d_joined) rfl
  obtain ⟨fd22, F22⟩ := c.d.def_ 22 (d := d_write_table) rfl
  obtain ⟨fd23, F23⟩ := c.d.def_ 23 (d := d_words_of) rfl
  obtain ⟨fd24, F24⟩ := c.d.def_ 24 (d := d_is_name) rfl
  obtain ⟨fd25, F25⟩ := c.d.def_ 25 (d := d_names_of) rfl
  obtain ⟨fd26, F26⟩ := c.d.def_ 26 (d := d_is_list) rfl
  obtain ⟨fd27, F27⟩ := c.d.def_ 27 (d := d_is_integer) rfl
  obtain ⟨fd28, F28⟩ := c.d.def_ 28 (d := d_is_row) rfl
  obtain ⟨fd29, F29⟩ := c.d.def_ 29 (d := d_Table_init) rfl
  obtain ⟨fd30, F30⟩ := c.d.def_ 30 (d := d_is_name_list) rfl
  obtain ⟨fd31, F31⟩ := c.d.def_ 31 (d := d_is_number_word) rfl
  obtain ⟨fd32, F32⟩ := c.d.def_ 32 (d := d_read_table) rfl
  obtain ⟨fd33, F33⟩ := c.d.def_ 33 (d := d_plain_hands) rfl
  obtain ⟨fd34, F34⟩ := c.d.def_ 34 (d := d_write_hands) rfl
  obtain ⟨fd35, F35⟩ := c.d.def_ 35 (d := d_plain_links) rfl
  obtain ⟨fd36, F36⟩ := c.d.def_ 36 (d := d_write_links) rfl
  obtain ⟨fd37, F37⟩ := c.d.def_ 37 (d := d_read_hands) rfl
  obtain ⟨fd38, F38⟩ := c.d.def_ 38 (d := d_read_links) rfl
  obtain ⟨fd39, F39⟩ := c.d.def_ 39 (d := d__law_tried) rfl
  obtain ⟨fd40, F40⟩ := c.d.def_ 40 (d := d__law_same) rfl
  obtain ⟨fd41, F41⟩ := c.d.def_ 41 (d := d__law_d_rows) rfl
  obtain ⟨fd42, F42⟩ := c.d.def_ 42 (d := d__law_d_links) rfl
  obtain ⟨fd43, F43⟩ := c.d.def_ 43 (d := d__law_start) rfl
  obtain ⟨fd44, F44⟩ := c.d.def_ 44 (d := d_law) rfl
  have e := hfa.symm.trans (He.glo_ok X G (c.d.fact 41 (f := .glo "law") rfl))
  cases e
  have b := FunD.bindsA (ps := ["_law_script"]) F44 fun _ _ _ _ _ _ us hl => match us, hl with | [_], _ => rfl
  refine ⟨fd44, fun s v => b s [v] rfl, fun base _ _ => ?_⟩
  have fx : Fx R.prog w K mg base := fx_of X G c
  have D__law_draw := ok__law_draw fx  F0
  have D__law_pick := ok__law_pick fx D__law_draw F1
  have D__law_name := ok__law_name fx D__law_draw D__law_pick F2
  have D__law_names := ok__law_names fx D__law_name F3
  have D__law_mixed := ok__law_mixed fx D__law_draw F4
  have D__law_d_hands := ok__law_d_hands fx D__law_names D__law_mixed D__law_draw F5
  have D__law_d_table_lines := ok__law_d_table_lines fx  F6
  have D__law_d_hands_lines := ok__law_d_hands_lines fx  F7
  have D__law_d_links_lines := ok__law_d_links_lines fx  F8
  have D__law_bent_line := ok__law_bent_line fx D__law_draw D__law_pick F9
  have D__law_bent := ok__law_bent fx D__law_draw D__law_bent_line D__law_pick F10
  have D__law_d_text := ok__law_d_text fx  F11
  have D__law_is_name_word := ok__law_is_name_word fx  F12
  have D__law_are_names := ok__law_are_names fx D__law_is_name_word F13
  have D__law_is_number_word := ok__law_is_number_word fx  F14
  have D__law_is_table := ok__law_is_table fx D__law_are_names D__law_is_number_word F15
  have D__law_are_hands := ok__law_are_hands fx D__law_are_names F16
  have D__law_are_links := ok__law_are_links fx D__law_are_names F17
  have D__law_is_text := ok__law_is_text fx D__law_is_table D__law_are_hands D__law_are_links F18
  have D_Table_questions := ok_Table_questions fx  F19
  have D_Table_rows := ok_Table_rows fx  F20
  have D_joined := ok_joined fx  F21
  have D_write_table := ok_write_table fx D_Table_questions D_Table_rows D_joined F22
  have D_words_of := ok_words_of fx  F23
  have D_is_name := ok_is_name fx  F24
  have D_names_of := ok_names_of fx D_is_name F25
  have D_is_list := ok_is_list fx  F26
  have D_is_integer := ok_is_integer fx  F27
  have D_is_row := ok_is_row fx D_is_integer F28
  have D_Table_init := ok_Table_init fx D_names_of D_is_list D_is_row F29
  have D_is_name_list := ok_is_name_list fx D_is_list D_is_name F30
  have D_is_number_word := ok_is_number_word fx  F31
  have D_read_table := ok_read_table fx D_words_of D_Table_init D_is_name_list D_is_number_word F32
  have D_plain_hands := ok_plain_hands fx D_is_name D_is_name_list F33
  have D_write_hands := ok_write_hands fx D_plain_hands D_joined F34
  have D_plain_links := ok_plain_links fx D_is_list D_is_name_list F35
  have D_write_links := ok_write_links fx D_joined D_plain_links F36
  have D_read_hands := ok_read_hands fx D_words_of D_is_name D_is_name_list F37
  have D_read_links := ok_read_links fx D_words_of D_is_name_list F38
  have D__law_tried := ok__law_tried fx D_write_table D_read_table D_write_hands D_write_links D_read_hands D_read_links F39
  have D__law_same := ok__law_same fx  F40 6
  have D__law_d_rows := ok__law_d_rows fx D__law_draw F41
  have D__law_d_links := ok__law_d_links fx D__law_mixed D__law_draw F42
  exact ok_law fx D__law_d_hands D__law_draw D__law_names D__law_d_table_lines D__law_d_hands_lines D__law_d_links_lines D__law_bent D__law_d_text D__law_pick D__law_is_text D__law_tried D__law_same D__law_d_rows D__law_d_links F43 F44
end K88
open PySem PySem.W PySem.Calls PyProof.Rows
theorem PySem.Challenge.cw_twoworlds_k88_texts_refused_holds : PySem.Challenge.rw_twoworlds_k88_texts_refused.Holds := by
  w_on; o_law
  refine HandSHeadRun.head_any (r := OpenLaw.row PySem.Challenge.rw_twoworlds_k88_texts_refused) (q := K88.qv) (H := K88.hk) (ob := K88.ob) (M := 60000) (loose := K88.loose) (d := HandSHeadRun.topDef (OpenLaw.row PySem.Challenge.rw_twoworlds_k88_texts_refused).prog 68) (kwd := []) K88.ob_eq
    (by kernel_rfl) (fun s => by kernel_rfl) K88.run (by kernel_rfl) (by kernel_rfl) (by kernel_rfl) (by rfl) (by first | assumption | decide +kernel) (by decide +kernel) ⟨rfl, rfl, rfl, rfl, rfl, by decide +kernel⟩ ?hw ?hc
  case hw => w_witness2
  case hc =>
    refine Att.attach_call (n := 63) rfl (by kernel_rfl) fun w s₀ s₁ mg mb fa o pm cd doc a vs ns G Y ho hd hcd hmg0 hobj hints hlen hg => ?_
    obtain ⟨K, KX, c⟩ := Y
    have hmg : mg ("law" : PySem.Str) = some (.ref fa) := by
      have en : (HandSHeadRun.topDef (OpenLaw.row PySem.Challenge.rw_twoworlds_k88_texts_refused).prog 68).name = ("law" : PySem.Str) := by kernel_rfl
      exact en ▸ hmg0
    obtain ⟨fd, hb, hF⟩ := K88.facts (w := w) KX G.T.g hmg c
    exact L2.law_call (CX := L2.CX K88.R.prog w) KX G.T.g G.T.b G.T.builtins G.T.nolimit hg hobj hints (Nat.le_trans hlen (by decide)) ⟨rfl, by decide, by decide⟩ hF hb (fun H _ hS => ⟨a, ns, rfl, hS, hlen, fun _ => rfl⟩) fun H e s' ⟨_, _, _, _, _, _, _, _, _, _, _, _, z⟩ => z

